import PyProof.Rows.All
import Wide.All
import OpenK.AllK
import Wide.FinOn
import Lean
import PySem.Challenge.RW_sm0006_01
set_option Elab.async false
set_option maxRecDepth 100000
set_option maxHeartbeats 8000000
section
open PySem PySem.W PySem.Calls PyProof.Rows
namespace Mine
def rflT : Lean.Syntax := .node .none ``Lean.Parser.Tactic.tacticSeq #[.node .none ``Lean.Parser.Tactic.tacticSeq1Indented #[.node .none `null #[.node .none ``Lean.Parser.Tactic.tacticRfl #[.atom .none "rfl"]]]]
def decT : Lean.Syntax := .node .none ``Lean.Parser.Tactic.tacticSeq #[.node .none ``Lean.Parser.Tactic.tacticSeq1Indented #[.node .none `null #[.node .none ``Lean.Parser.Tactic.decide #[.atom .none "decide", .node .none ``Lean.Parser.Tactic.optConfig #[.node .none `null #[]]]]]]
def irflT : Lean.Syntax := .node .none ``Lean.Parser.Tactic.tacticSeq #[.node .none ``Lean.Parser.Tactic.tacticSeq1Indented #[.node .none `null #[.node .none ``Lean.Parser.Tactic.intros #[.atom .none "intros", .node .none `null #[]], .atom .none ";", .node .none ``Lean.Parser.Tactic.tacticRfl #[.atom .none "rfl"]]]]
def nthS : List Stmt → Nat → Stmt
  | [], _ => .Pass ⟨0, 0, 0, 0⟩
  | x :: _, 0 => x
  | _ :: r, n + 1 => nthS r n
noncomputable def dS (n : Nat) : Stmt := nthS PySem.Challenge.pw_sm0006_01.main.body n
noncomputable def fB : Stmt → List Stmt
  | .FunctionDef _ _ b .. => b
  | .ClassDef _ _ _ b .. => b
  | _ => []
noncomputable def fP : Stmt → Arguments
  | .FunctionDef _ a .. => a
  | _ => default
noncomputable def fS : Stmt → Scope
  | .FunctionDef _ _ _ _ _ _ s .. => s
  | _ => default
noncomputable def dM (n : Nat) : Stmt := nthS (fB (dS n)) 0
noncomputable def KO (P : Params) : Frag :=
  (nat_lit 2, { cls := Value.none, data := Data.dict #[{ hash := PyData.keyHash P (Str.ofString "type.__subclasses__.Exception.0"), key := Value.str (Str.ofString "type.__subclasses__.Exception.0") 221, val := Value.int 34 0 }, { hash := PyData.keyHash P (Str.ofString "type.__subclasses__.Exception.n"), key := Value.str (Str.ofString "type.__subclasses__.Exception.n") 222, val := Value.int 1 0 }] 2 }) ::
  (nat_lit 3, { cls := Value.type "dict", data := Data.dict #[{ hash := PyData.keyHash P (Str.ofString "__name__"), key := Value.str (Str.ofString "__name__") 165, val := Value.str (Str.ofString "law_sm0006_01") 731 }, { hash := PyData.keyHash P (Str.ofString "__doc__"), key := Value.str (Str.ofString "__doc__") 166, val := Value.none }, { hash := PyData.keyHash P (Str.ofString "__package__"), key := Value.str (Str.ofString "__package__") 167, val := Value.none }, { hash := PyData.keyHash P (Str.ofString "__loader__"), key := Value.str (Str.ofString "__loader__") 168, val := Value.builtin "__main__.__loader__#opaque" }, { hash := PyData.keyHash P (Str.ofString "__spec__"), key := Value.str (Str.ofString "__spec__") 169, val := Value.none }, { hash := PyData.keyHash P (Str.ofString "__annotations__"), key := Value.str (Str.ofString "__annotations__") 170, val := Value.ref 6 }, { hash := PyData.keyHash P (Str.ofString "__builtins__"), key := Value.str (Str.ofString "__builtins__") 171, val := Value.ref 4 }, { hash := PyData.keyHash P (Str.ofString "__file__"), key := Value.str (Str.ofString "__file__") 173, val := Value.str (Str.ofString "/claim/cut.py") 172 }, { hash := PyData.keyHash P (Str.ofString "__cached__"), key := Value.str (Str.ofString "__cached__") 174, val := Value.none }, { hash := PyData.keyHash P (Str.ofString "MOST_EXPONENT"), key := Value.str (Str.ofString "MOST_EXPONENT") 190, val := Value.int 99 189 }, { hash := PyData.keyHash P (Str.ofString "BasicError"), key := Value.str (Str.ofString "BasicError") 224, val := Value.ref 34 }, { hash := PyData.keyHash P (Str.ofString "figures_of"), key := Value.str (Str.ofString "figures_of") 233, val := Value.ref 44 }, { hash := PyData.keyHash P (Str.ofString "rounded_by"), key := Value.str (Str.ofString "rounded_by") 244, val := Value.ref 51 }, { hash := PyData.keyHash P (Str.ofString "made"), key := Value.str (Str.ofString "made") 256, val := Value.ref 58 }, { hash := PyData.keyHash P (Str.ofString "whole_near"), key := Value.str (Str.ofString "whole_near") 266, val := Value.ref 65 }, { hash := PyData.keyHash P (Str.ofString "fits"), key := Value.str (Str.ofString "fits") 274, val := Value.ref 72 }, { hash := PyData.keyHash P (Str.ofString "whole_of"), key := Value.str (Str.ofString "whole_of") 283, val := Value.ref 79 }, { hash := PyData.keyHash P (Str.ofString "decimal_of"), key := Value.str (Str.ofString "decimal_of") 291, val := Value.ref 86 }, { hash := PyData.keyHash P (Str.ofString "text_of"), key := Value.str (Str.ofString "text_of") 298, val := Value.ref 93 }, { hash := PyData.keyHash P (Str.ofString "MOST_CHANNEL"), key := Value.str (Str.ofString "MOST_CHANNEL") 302, val := Value.int 15 301 }, { hash := PyData.keyHash P (Str.ofString "MOST_NAME"), key := Value.str (Str.ofString "MOST_NAME") 304, val := Value.int 30 303 }, { hash := PyData.keyHash P (Str.ofString "MOST_SIZE"), key := Value.str (Str.ofString "MOST_SIZE") 306, val := Value.int 255 305 }, { hash := PyData.keyHash P (Str.ofString "check_name"), key := Value.str (Str.ofString "check_name") 312, val := Value.ref 98 }, { hash := PyData.keyHash P (Str.ofString "open_file"), key := Value.str (Str.ofString "open_file") 325, val := Value.ref 105 }, { hash := PyData.keyHash P (Str.ofString "is_written_elsewhere"), key := Value.str (Str.ofString "is_written_elsewhere") 336, val := Value.ref 112 }, { hash := PyData.keyHash P (Str.ofString "channel_of"), key := Value.str (Str.ofString "channel_of") 346, val := Value.ref 119 }, { hash := PyData.keyHash P (Str.ofString "place_of"), key := Value.str (Str.ofString "place_of") 355, val := Value.ref 126 }, { hash := PyData.keyHash P (Str.ofString "set_fields"), key := Value.str (Str.ofString "set_fields") 361, val := Value.ref 131 }, { hash := PyData.keyHash P (Str.ofString "field_text"), key := Value.str (Str.ofString "field_text") 372, val := Value.ref 138 }, { hash := PyData.keyHash P (Str.ofString "placed"), key := Value.str (Str.ofString "placed") 382, val := Value.ref 145 }, { hash := PyData.keyHash P (Str.ofString "set_placed"), key := Value.str (Str.ofString "set_placed") 396, val := Value.ref 152 }, { hash := PyData.keyHash P (Str.ofString "record_told"), key := Value.str (Str.ofString "record_told") 404, val := Value.ref 159 }, { hash := PyData.keyHash P (Str.ofString "get_record"), key := Value.str (Str.ofString "get_record") 417, val := Value.ref 166 }, { hash := PyData.keyHash P (Str.ofString "put_record"), key := Value.str (Str.ofString "put_record") 431, val := Value.ref 173 }, { hash := PyData.keyHash P (Str.ofString "ONE"), key := Value.str (Str.ofString "ONE") 436, val := Value.ref 174 }, { hash := PyData.keyHash P (Str.ofString "MOST_POWER"), key := Value.str (Str.ofString "MOST_POWER") 438, val := Value.int 9999 437 }, { hash := PyData.keyHash P (Str.ofString "d_negated"), key := Value.str (Str.ofString "d_negated") 445, val := Value.ref 181 }, { hash := PyData.keyHash P (Str.ofString "alike"), key := Value.str (Str.ofString "alike") 454, val := Value.ref 188 }, { hash := PyData.keyHash P (Str.ofString "d_add"), key := Value.str (Str.ofString "d_add") 466, val := Value.ref 195 }, { hash := PyData.keyHash P (Str.ofString "d_sub"), key := Value.str (Str.ofString "d_sub") 475, val := Value.ref 202 }, { hash := PyData.keyHash P (Str.ofString "d_mul"), key := Value.str (Str.ofString "d_mul") 484, val := Value.ref 209 }, { hash := PyData.keyHash P (Str.ofString "with_rest"), key := Value.str (Str.ofString "with_rest") 493, val := Value.ref 216 }, { hash := PyData.keyHash P (Str.ofString "d_div"), key := Value.str (Str.ofString "d_div") 507, val := Value.ref 223 }, { hash := PyData.keyHash P (Str.ofString "d_power"), key := Value.str (Str.ofString "d_power") 519, val := Value.ref 230 }, { hash := PyData.keyHash P (Str.ofString "square_or_end"), key := Value.str (Str.ofString "square_or_end") 527, val := Value.ref 237 }, { hash := PyData.keyHash P (Str.ofString "is_whole"), key := Value.str (Str.ofString "is_whole") 536, val := Value.ref 244 }, { hash := PyData.keyHash P (Str.ofString "settled"), key := Value.str (Str.ofString "settled") 545, val := Value.ref 251 }, { hash := PyData.keyHash P (Str.ofString "whole_reckoned"), key := Value.str (Str.ofString "whole_reckoned") 556, val := Value.ref 258 }, { hash := PyData.keyHash P (Str.ofString "cut_quotient"), key := Value.str (Str.ofString "cut_quotient") 565, val := Value.ref 265 }, { hash := PyData.keyHash P (Str.ofString "cut_rest"), key := Value.str (Str.ofString "cut_rest") 573, val := Value.ref 272 }, { hash := PyData.keyHash P (Str.ofString "exponent_of"), key := Value.str (Str.ofString "exponent_of") 580, val := Value.ref 279 }, { hash := PyData.keyHash P (Str.ofString "whole_power"), key := Value.str (Str.ofString "whole_power") 590, val := Value.ref 286 }, { hash := PyData.keyHash P (Str.ofString "raised"), key := Value.str (Str.ofString "raised") 601, val := Value.ref 293 }, { hash := PyData.keyHash P (Str.ofString "reckoned"), key := Value.str (Str.ofString "reckoned") 617, val := Value.ref 300 }, { hash := PyData.keyHash P (Str.ofString "octets_for_bits"), key := Value.str (Str.ofString "octets_for_bits") 626, val := Value.ref 307 }, { hash := PyData.keyHash P (Str.ofString "to_octets"), key := Value.str (Str.ofString "to_octets") 636, val := Value.ref 314 }, { hash := PyData.keyHash P (Str.ofString "from_octets"), key := Value.str (Str.ofString "from_octets") 645, val := Value.ref 321 }, { hash := PyData.keyHash P (Str.ofString "bytes_mki"), key := Value.str (Str.ofString "bytes_mki") 653, val := Value.ref 328 }, { hash := PyData.keyHash P (Str.ofString "bytes_cvi"), key := Value.str (Str.ofString "bytes_cvi") 663, val := Value.ref 335 }, { hash := PyData.keyHash P (Str.ofString "World"), key := Value.str (Str.ofString "World") 730, val := Value.ref 353 }, { hash := PyData.keyHash P (Str.ofString "_law_pulled"), key := Value.str (Str.ofString "_law_pulled") 741, val := Value.ref 364 }, { hash := PyData.keyHash P (Str.ofString "_law_record"), key := Value.str (Str.ofString "_law_record") 747, val := Value.ref 369 }, { hash := PyData.keyHash P (Str.ofString "_law_text"), key := Value.str (Str.ofString "_law_text") 753, val := Value.ref 374 }, { hash := PyData.keyHash P (Str.ofString "_law_total"), key := Value.str (Str.ofString "_law_total") 759, val := Value.ref 379 }, { hash := PyData.keyHash P (Str.ofString "_law_code"), key := Value.str (Str.ofString "_law_code") 767, val := Value.ref 386 }, { hash := PyData.keyHash P (Str.ofString "_law_fits"), key := Value.str (Str.ofString "_law_fits") 775, val := Value.ref 393 }, { hash := PyData.keyHash P (Str.ofString "_law_sum"), key := Value.str (Str.ofString "_law_sum") 786, val := Value.ref 400 }, { hash := PyData.keyHash P (Str.ofString "_law_kept"), key := Value.str (Str.ofString "_law_kept") 797, val := Value.ref 407 }, { hash := PyData.keyHash P (Str.ofString "_law_half"), key := Value.str (Str.ofString "_law_half") 816, val := Value.ref 414 }, { hash := PyData.keyHash P (Str.ofString "_law_stands"), key := Value.str (Str.ofString "_law_stands") 831, val := Value.ref 421 }, { hash := PyData.keyHash P (Str.ofString "_law_transfer"), key := Value.str (Str.ofString "_law_transfer") 845, val := Value.ref 428 }, { hash := PyData.keyHash P (Str.ofString "law"), key := Value.str (Str.ofString "law") 851, val := Value.ref 433 }] 72 }) ::
  (nat_lit 15, { cls := Value.type "tuple", data := Data.seq #[Value.type "Exception"] }) ::
  (nat_lit 18, { cls := Value.type "cell", data := Data.cell (some (Value.ref 34)) }) ::
  (nat_lit 23, { cls := Value.type "tuple", data := Data.seq #[Value.str (Str.ofString "") 203] }) ::
  (nat_lit 24, { cls := Value.type "tuple", data := Data.seq #[Value.ref 18] }) ::
  (nat_lit 30, { cls := Value.type "code", data := Data.fields #[Value.str (Str.ofString "__init__") 204, Value.str (Str.ofString "BasicError.__init__") 205, Value.str (Str.ofString "/claim/cut.py") 206, Value.int 5 0, Value.int 3 0, Value.int 0 0, Value.int 0 0, Value.int 3 0, Value.ref 25, Value.bool true, Value.int 181 0, Value.ref 26, Value.none, Value.ref 27, Value.ref 28, Value.ref 29, Value.int 211 0, Value.int 5 0, Value.str (Str.ofString "/claim/cut.py") 212] }) ::
  (nat_lit 31, { cls := Value.type "function", data := Data.func { name := Str.ofString "__init__", qualname := Str.ofString "BasicError.__init__", params := fP (dM 2), body := FuncBody.stmts (fB (dM 2)), scope := fS (dM 2), globals := 3, closure := [(Str.ofString "__class__", 18)], defaults := Value.ref 23, kwdefaults := Value.none, pyModule := Value.str (Str.ofString "basicplus.values") 187, code := Value.ref 30, closureTuple := Value.ref 24 } }) ::
  (nat_lit 33, { cls := Value.type "dict", data := Data.dict #[{ hash := PyData.keyHash P (Str.ofString "__module__"), key := Value.str (Str.ofString "__module__") 198, val := Value.str (Str.ofString "basicplus.values") 187 }, { hash := PyData.keyHash P (Str.ofString "__firstlineno__"), key := Value.str (Str.ofString "__firstlineno__") 202, val := Value.int 3 201 }, { hash := PyData.keyHash P (Str.ofString "__init__"), key := Value.str (Str.ofString "__init__") 213, val := Value.ref 31 }, { hash := PyData.keyHash P (Str.ofString "__static_attributes__"), key := Value.str (Str.ofString "__static_attributes__") 216, val := Value.ref 32 }, { hash := PyData.keyHash P (Str.ofString "__weakref__"), key := Value.str (Str.ofString "__weakref__") 219, val := Value.ref 35 }, { hash := PyData.keyHash P (Str.ofString "__doc__"), key := Value.str (Str.ofString "__doc__") 220, val := Value.none }] 4 }) ::
  (nat_lit 34, { cls := Value.type "type", data := Data.cls { name := Str.ofString "BasicError", bases := [Value.type "Exception"], mro := [Value.ref 34, Value.type "Exception", Value.type "BaseException", Value.type "object"], ns := 33, qualname := Str.ofString "BasicError" }, slots := #[some (Value.ref 15), none, some (Value.str (Str.ofString "BasicError") 191), some (Value.str (Str.ofString "BasicError") 199), some (Value.builtin "Exception.__new__"), some (Value.bool true)] }) ::
  (nat_lit 35, { cls := Value.type "getset_descriptor", data := Data.fields #[Value.str (Str.ofString "__weakref__") 218, Value.ref 34, Value.builtin "ExceptionGroup.__weakref__", Value.none] }) ::
  (nat_lit 43, { cls := Value.type "code", data := Data.fields #[Value.str (Str.ofString "figures_of") 225, Value.str (Str.ofString "figures_of") 226, Value.str (Str.ofString "/claim/cut.py") 227, Value.int 9 0, Value.int 1 0, Value.int 0 0, Value.int 0 0, Value.int 3 0, Value.ref 38, Value.bool true, Value.int 181 0, Value.ref 39, Value.none, Value.ref 40, Value.ref 41, Value.ref 42, Value.int 231 0, Value.int 9 0, Value.str (Str.ofString "/claim/cut.py") 232] }) ::
  (nat_lit 44, { cls := Value.type "function", data := Data.func { name := Str.ofString "figures_of", qualname := Str.ofString "figures_of", params := fP (dS 3), body := FuncBody.stmts (fB (dS 3)), scope := fS (dS 3), globals := 3, closure := [], defaults := Value.none, kwdefaults := Value.none, pyModule := Value.str (Str.ofString "basicplus.values") 187, code := Value.ref 43 } }) ::
  (nat_lit 57, { cls := Value.type "code", data := Data.fields #[Value.str (Str.ofString "made") 245, Value.str (Str.ofString "made") 246, Value.str (Str.ofString "/claim/cut.py") 247, Value.int 25 0, Value.int 3 0, Value.int 0 0, Value.int 0 0, Value.int 3 0, Value.ref 52, Value.bool true, Value.int 181 0, Value.ref 53, Value.none, Value.ref 54, Value.ref 55, Value.ref 56, Value.int 254 0, Value.int 25 0, Value.str (Str.ofString "/claim/cut.py") 255] }) ::
  (nat_lit 58, { cls := Value.type "function", data := Data.func { name := Str.ofString "made", qualname := Str.ofString "made", params := fP (dS 5), body := FuncBody.stmts (fB (dS 5)), scope := fS (dS 5), globals := 3, closure := [], defaults := Value.none, kwdefaults := Value.none, pyModule := Value.str (Str.ofString "basicplus.values") 187, code := Value.ref 57 } }) ::
  (nat_lit 64, { cls := Value.type "code", data := Data.fields #[Value.str (Str.ofString "whole_near") 257, Value.str (Str.ofString "whole_near") 258, Value.str (Str.ofString "/claim/cut.py") 259, Value.int 40 0, Value.int 1 0, Value.int 0 0, Value.int 0 0, Value.int 3 0, Value.ref 59, Value.bool true, Value.int 181 0, Value.ref 60, Value.none, Value.ref 61, Value.ref 62, Value.ref 63, Value.int 264 0, Value.int 40 0, Value.str (Str.ofString "/claim/cut.py") 265] }) ::
  (nat_lit 65, { cls := Value.type "function", data := Data.func { name := Str.ofString "whole_near", qualname := Str.ofString "whole_near", params := fP (dS 6), body := FuncBody.stmts (fB (dS 6)), scope := fS (dS 6), globals := 3, closure := [], defaults := Value.none, kwdefaults := Value.none, pyModule := Value.str (Str.ofString "basicplus.values") 187, code := Value.ref 64 } }) ::
  (nat_lit 71, { cls := Value.type "code", data := Data.fields #[Value.str (Str.ofString "fits") 267, Value.str (Str.ofString "fits") 268, Value.str (Str.ofString "/claim/cut.py") 269, Value.int 46 0, Value.int 2 0, Value.int 0 0, Value.int 0 0, Value.int 3 0, Value.ref 66, Value.bool true, Value.int 181 0, Value.ref 67, Value.none, Value.ref 68, Value.ref 69, Value.ref 70, Value.int 272 0, Value.int 46 0, Value.str (Str.ofString "/claim/cut.py") 273] }) ::
  (nat_lit 72, { cls := Value.type "function", data := Data.func { name := Str.ofString "fits", qualname := Str.ofString "fits", params := fP (dS 7), body := FuncBody.stmts (fB (dS 7)), scope := fS (dS 7), globals := 3, closure := [], defaults := Value.none, kwdefaults := Value.none, pyModule := Value.str (Str.ofString "basicplus.values") 187, code := Value.ref 71 } }) ::
  (nat_lit 78, { cls := Value.type "code", data := Data.fields #[Value.str (Str.ofString "whole_of") 275, Value.str (Str.ofString "whole_of") 276, Value.str (Str.ofString "/claim/cut.py") 277, Value.int 48 0, Value.int 2 0, Value.int 0 0, Value.int 0 0, Value.int 3 0, Value.ref 73, Value.bool true, Value.int 181 0, Value.ref 74, Value.none, Value.ref 75, Value.ref 76, Value.ref 77, Value.int 281 0, Value.int 48 0, Value.str (Str.ofString "/claim/cut.py") 282] }) ::
  (nat_lit 79, { cls := Value.type "function", data := Data.func { name := Str.ofString "whole_of", qualname := Str.ofString "whole_of", params := fP (dS 8), body := FuncBody.stmts (fB (dS 8)), scope := fS (dS 8), globals := 3, closure := [], defaults := Value.none, kwdefaults := Value.none, pyModule := Value.str (Str.ofString "basicplus.values") 187, code := Value.ref 78 } }) ::
  (nat_lit 92, { cls := Value.type "code", data := Data.fields #[Value.str (Str.ofString "text_of") 292, Value.str (Str.ofString "text_of") 293, Value.str (Str.ofString "/claim/cut.py") 294, Value.int 59 0, Value.int 1 0, Value.int 0 0, Value.int 0 0, Value.int 3 0, Value.ref 87, Value.bool true, Value.int 181 0, Value.ref 88, Value.none, Value.ref 89, Value.ref 90, Value.ref 91, Value.int 296 0, Value.int 59 0, Value.str (Str.ofString "/claim/cut.py") 297] }) ::
  (nat_lit 93, { cls := Value.type "function", data := Data.func { name := Str.ofString "text_of", qualname := Str.ofString "text_of", params := fP (dS 10), body := FuncBody.stmts (fB (dS 10)), scope := fS (dS 10), globals := 3, closure := [], defaults := Value.none, kwdefaults := Value.none, pyModule := Value.str (Str.ofString "basicplus.values") 187, code := Value.ref 92 } }) ::
  (nat_lit 97, { cls := Value.type "code", data := Data.fields #[Value.str (Str.ofString "check_name") 307, Value.str (Str.ofString "check_name") 308, Value.str (Str.ofString "/claim/cut.py") 309, Value.int 67 0, Value.int 1 0, Value.int 0 0, Value.int 0 0, Value.int 3 0, Value.ref 94, Value.bool true, Value.int 181 0, Value.ref 95, Value.none, Value.none, Value.none, Value.ref 96, Value.int 310 0, Value.int 67 0, Value.str (Str.ofString "/claim/cut.py") 311] }) ::
  (nat_lit 98, { cls := Value.type "function", data := Data.func { name := Str.ofString "check_name", qualname := Str.ofString "check_name", params := fP (dS 15), body := FuncBody.stmts (fB (dS 15)), scope := fS (dS 15), globals := 3, closure := [], defaults := Value.none, kwdefaults := Value.none, pyModule := Value.str (Str.ofString "basicplus.files") 299, code := Value.ref 97 } }) ::
  (nat_lit 104, { cls := Value.type "code", data := Data.fields #[Value.str (Str.ofString "open_file") 313, Value.str (Str.ofString "open_file") 314, Value.str (Str.ofString "/claim/cut.py") 315, Value.int 71 0, Value.int 5 0, Value.int 0 0, Value.int 0 0, Value.int 3 0, Value.ref 99, Value.bool true, Value.int 181 0, Value.ref 100, Value.none, Value.ref 101, Value.ref 102, Value.ref 103, Value.int 323 0, Value.int 71 0, Value.str (Str.ofString "/claim/cut.py") 324] }) ::
  (nat_lit 105, { cls := Value.type "function", data := Data.func { name := Str.ofString "open_file", qualname := Str.ofString "open_file", params := fP (dS 16), body := FuncBody.stmts (fB (dS 16)), scope := fS (dS 16), globals := 3, closure := [], defaults := Value.none, kwdefaults := Value.none, pyModule := Value.str (Str.ofString "basicplus.files") 299, code := Value.ref 104 } }) ::
  (nat_lit 111, { cls := Value.type "code", data := Data.fields #[Value.str (Str.ofString "is_written_elsewhere") 326, Value.str (Str.ofString "is_written_elsewhere") 327, Value.str (Str.ofString "/claim/cut.py") 328, Value.int 88 0, Value.int 3 0, Value.int 0 0, Value.int 0 0, Value.int 3 0, Value.ref 106, Value.bool true, Value.int 181 0, Value.ref 107, Value.none, Value.ref 108, Value.ref 109, Value.ref 110, Value.int 334 0, Value.int 88 0, Value.str (Str.ofString "/claim/cut.py") 335] }) ::
  (nat_lit 112, { cls := Value.type "function", data := Data.func { name := Str.ofString "is_written_elsewhere", qualname := Str.ofString "is_written_elsewhere", params := fP (dS 17), body := FuncBody.stmts (fB (dS 17)), scope := fS (dS 17), globals := 3, closure := [], defaults := Value.none, kwdefaults := Value.none, pyModule := Value.str (Str.ofString "basicplus.files") 299, code := Value.ref 111 } }) ::
  (nat_lit 118, { cls := Value.type "code", data := Data.fields #[Value.str (Str.ofString "channel_of") 337, Value.str (Str.ofString "channel_of") 338, Value.str (Str.ofString "/claim/cut.py") 339, Value.int 94 0, Value.int 3 0, Value.int 0 0, Value.int 0 0, Value.int 3 0, Value.ref 113, Value.bool true, Value.int 181 0, Value.ref 114, Value.none, Value.ref 115, Value.ref 116, Value.ref 117, Value.int 344 0, Value.int 94 0, Value.str (Str.ofString "/claim/cut.py") 345] }) ::
  (nat_lit 119, { cls := Value.type "function", data := Data.func { name := Str.ofString "channel_of", qualname := Str.ofString "channel_of", params := fP (dS 18), body := FuncBody.stmts (fB (dS 18)), scope := fS (dS 18), globals := 3, closure := [], defaults := Value.none, kwdefaults := Value.none, pyModule := Value.str (Str.ofString "basicplus.files") 299, code := Value.ref 118 } }) ::
  (nat_lit 125, { cls := Value.type "code", data := Data.fields #[Value.str (Str.ofString "place_of") 347, Value.str (Str.ofString "place_of") 348, Value.str (Str.ofString "/claim/cut.py") 349, Value.int 101 0, Value.int 2 0, Value.int 0 0, Value.int 0 0, Value.int 3 0, Value.ref 120, Value.bool true, Value.int 181 0, Value.ref 121, Value.none, Value.ref 122, Value.ref 123, Value.ref 124, Value.int 353 0, Value.int 101 0, Value.str (Str.ofString "/claim/cut.py") 354] }) ::
  (nat_lit 126, { cls := Value.type "function", data := Data.func { name := Str.ofString "place_of", qualname := Str.ofString "place_of", params := fP (dS 19), body := FuncBody.stmts (fB (dS 19)), scope := fS (dS 19), globals := 3, closure := [], defaults := Value.none, kwdefaults := Value.none, pyModule := Value.str (Str.ofString "basicplus.files") 299, code := Value.ref 125 } }) ::
  (nat_lit 130, { cls := Value.type "code", data := Data.fields #[Value.str (Str.ofString "set_fields") 356, Value.str (Str.ofString "set_fields") 357, Value.str (Str.ofString "/claim/cut.py") 358, Value.int 104 0, Value.int 3 0, Value.int 0 0, Value.int 0 0, Value.int 3 0, Value.ref 127, Value.bool true, Value.int 181 0, Value.ref 128, Value.none, Value.none, Value.none, Value.ref 129, Value.int 359 0, Value.int 104 0, Value.str (Str.ofString "/claim/cut.py") 360] }) ::
  (nat_lit 131, { cls := Value.type "function", data := Data.func { name := Str.ofString "set_fields", qualname := Str.ofString "set_fields", params := fP (dS 20), body := FuncBody.stmts (fB (dS 20)), scope := fS (dS 20), globals := 3, closure := [], defaults := Value.none, kwdefaults := Value.none, pyModule := Value.str (Str.ofString "basicplus.files") 299, code := Value.ref 130 } }) ::
  (nat_lit 137, { cls := Value.type "code", data := Data.fields #[Value.str (Str.ofString "field_text") 362, Value.str (Str.ofString "field_text") 363, Value.str (Str.ofString "/claim/cut.py") 364, Value.int 114 0, Value.int 2 0, Value.int 0 0, Value.int 0 0, Value.int 3 0, Value.ref 132, Value.bool true, Value.int 181 0, Value.ref 133, Value.none, Value.ref 134, Value.ref 135, Value.ref 136, Value.int 370 0, Value.int 114 0, Value.str (Str.ofString "/claim/cut.py") 371] }) ::
  (nat_lit 138, { cls := Value.type "function", data := Data.func { name := Str.ofString "field_text", qualname := Str.ofString "field_text", params := fP (dS 21), body := FuncBody.stmts (fB (dS 21)), scope := fS (dS 21), globals := 3, closure := [], defaults := Value.none, kwdefaults := Value.none, pyModule := Value.str (Str.ofString "basicplus.files") 299, code := Value.ref 137 } }) ::
  (nat_lit 144, { cls := Value.type "code", data := Data.fields #[Value.str (Str.ofString "placed") 373, Value.str (Str.ofString "placed") 374, Value.str (Str.ofString "/claim/cut.py") 375, Value.int 119 0, Value.int 3 0, Value.int 0 0, Value.int 0 0, Value.int 3 0, Value.ref 139, Value.bool true, Value.int 181 0, Value.ref 140, Value.none, Value.ref 141, Value.ref 142, Value.ref 143, Value.int 380 0, Value.int 119 0, Value.str (Str.ofString "/claim/cut.py") 381] }) ::
  (nat_lit 145, { cls := Value.type "function", data := Data.func { name := Str.ofString "placed", qualname := Str.ofString "placed", params := fP (dS 22), body := FuncBody.stmts (fB (dS 22)), scope := fS (dS 22), globals := 3, closure := [], defaults := Value.none, kwdefaults := Value.none, pyModule := Value.str (Str.ofString "basicplus.files") 299, code := Value.ref 144 } }) ::
  (nat_lit 151, { cls := Value.type "code", data := Data.fields #[Value.str (Str.ofString "set_placed") 383, Value.str (Str.ofString "set_placed") 384, Value.str (Str.ofString "/claim/cut.py") 385, Value.int 123 0, Value.int 4 0, Value.int 0 0, Value.int 0 0, Value.int 3 0, Value.ref 146, Value.bool true, Value.int 181 0, Value.ref 147, Value.none, Value.ref 148, Value.ref 149, Value.ref 150, Value.int 394 0, Value.int 123 0, Value.str (Str.ofString "/claim/cut.py") 395] }) ::
  (nat_lit 152, { cls := Value.type "function", data := Data.func { name := Str.ofString "set_placed", qualname := Str.ofString "set_placed", params := fP (dS 23), body := FuncBody.stmts (fB (dS 23)), scope := fS (dS 23), globals := 3, closure := [], defaults := Value.none, kwdefaults := Value.none, pyModule := Value.str (Str.ofString "basicplus.files") 299, code := Value.ref 151 } }) ::
  (nat_lit 158, { cls := Value.type "code", data := Data.fields #[Value.str (Str.ofString "record_told") 397, Value.str (Str.ofString "record_told") 398, Value.str (Str.ofString "/claim/cut.py") 399, Value.int 127 0, Value.int 2 0, Value.int 0 0, Value.int 0 0, Value.int 3 0, Value.ref 153, Value.bool true, Value.int 181 0, Value.ref 154, Value.none, Value.ref 155, Value.ref 156, Value.ref 157, Value.int 402 0, Value.int 127 0, Value.str (Str.ofString "/claim/cut.py") 403] }) ::
  (nat_lit 159, { cls := Value.type "function", data := Data.func { name := Str.ofString "record_told", qualname := Str.ofString "record_told", params := fP (dS 24), body := FuncBody.stmts (fB (dS 24)), scope := fS (dS 24), globals := 3, closure := [], defaults := Value.none, kwdefaults := Value.none, pyModule := Value.str (Str.ofString "basicplus.files") 299, code := Value.ref 158 } }) ::
  (nat_lit 165, { cls := Value.type "code", data := Data.fields #[Value.str (Str.ofString "get_record") 405, Value.str (Str.ofString "get_record") 406, Value.str (Str.ofString "/claim/cut.py") 407, Value.int 132 0, Value.int 3 0, Value.int 0 0, Value.int 0 0, Value.int 3 0, Value.ref 160, Value.bool true, Value.int 181 0, Value.ref 161, Value.none, Value.ref 162, Value.ref 163, Value.ref 164, Value.int 415 0, Value.int 132 0, Value.str (Str.ofString "/claim/cut.py") 416] }) ::
  (nat_lit 166, { cls := Value.type "function", data := Data.func { name := Str.ofString "get_record", qualname := Str.ofString "get_record", params := fP (dS 25), body := FuncBody.stmts (fB (dS 25)), scope := fS (dS 25), globals := 3, closure := [], defaults := Value.none, kwdefaults := Value.none, pyModule := Value.str (Str.ofString "basicplus.files") 299, code := Value.ref 165 } }) ::
  (nat_lit 172, { cls := Value.type "code", data := Data.fields #[Value.str (Str.ofString "put_record") 418, Value.str (Str.ofString "put_record") 419, Value.str (Str.ofString "/claim/cut.py") 420, Value.int 140 0, Value.int 4 0, Value.int 0 0, Value.int 0 0, Value.int 3 0, Value.ref 167, Value.bool true, Value.int 181 0, Value.ref 168, Value.none, Value.ref 169, Value.ref 170, Value.ref 171, Value.int 429 0, Value.int 140 0, Value.str (Str.ofString "/claim/cut.py") 430] }) ::
  (nat_lit 173, { cls := Value.type "function", data := Data.func { name := Str.ofString "put_record", qualname := Str.ofString "put_record", params := fP (dS 26), body := FuncBody.stmts (fB (dS 26)), scope := fS (dS 26), globals := 3, closure := [], defaults := Value.none, kwdefaults := Value.none, pyModule := Value.str (Str.ofString "basicplus.files") 299, code := Value.ref 172 } }) ::
  (nat_lit 243, { cls := Value.type "code", data := Data.fields #[Value.str (Str.ofString "is_whole") 530, Value.str (Str.ofString "is_whole") 531, Value.str (Str.ofString "/claim/cut.py") 532, Value.int 191 0, Value.int 1 0, Value.int 0 0, Value.int 0 0, Value.int 3 0, Value.ref 238, Value.bool true, Value.int 181 0, Value.ref 239, Value.none, Value.ref 240, Value.ref 241, Value.ref 242, Value.int 534 0, Value.int 191 0, Value.str (Str.ofString "/claim/cut.py") 535] }) ::
  (nat_lit 244, { cls := Value.type "function", data := Data.func { name := Str.ofString "is_whole", qualname := Str.ofString "is_whole", params := fP (dS 40), body := FuncBody.stmts (fB (dS 40)), scope := fS (dS 40), globals := 3, closure := [], defaults := Value.none, kwdefaults := Value.none, pyModule := Value.str (Str.ofString "basicplus.arith") 528, code := Value.ref 243 } }) ::
  (nat_lit 250, { cls := Value.type "code", data := Data.fields #[Value.str (Str.ofString "settled") 537, Value.str (Str.ofString "settled") 538, Value.str (Str.ofString "/claim/cut.py") 539, Value.int 195 0, Value.int 3 0, Value.int 0 0, Value.int 0 0, Value.int 3 0, Value.ref 245, Value.bool true, Value.int 181 0, Value.ref 246, Value.none, Value.ref 247, Value.ref 248, Value.ref 249, Value.int 543 0, Value.int 195 0, Value.str (Str.ofString "/claim/cut.py") 544] }) ::
  (nat_lit 251, { cls := Value.type "function", data := Data.func { name := Str.ofString "settled", qualname := Str.ofString "settled", params := fP (dS 41), body := FuncBody.stmts (fB (dS 41)), scope := fS (dS 41), globals := 3, closure := [], defaults := Value.none, kwdefaults := Value.none, pyModule := Value.str (Str.ofString "basicplus.arith") 528, code := Value.ref 250 } }) ::
  (nat_lit 257, { cls := Value.type "code", data := Data.fields #[Value.str (Str.ofString "whole_reckoned") 546, Value.str (Str.ofString "whole_reckoned") 547, Value.str (Str.ofString "/claim/cut.py") 548, Value.int 197 0, Value.int 5 0, Value.int 0 0, Value.int 0 0, Value.int 3 0, Value.ref 252, Value.bool true, Value.int 181 0, Value.ref 253, Value.none, Value.ref 254, Value.ref 255, Value.ref 256, Value.int 554 0, Value.int 197 0, Value.str (Str.ofString "/claim/cut.py") 555] }) ::
  (nat_lit 258, { cls := Value.type "function", data := Data.func { name := Str.ofString "whole_reckoned", qualname := Str.ofString "whole_reckoned", params := fP (dS 42), body := FuncBody.stmts (fB (dS 42)), scope := fS (dS 42), globals := 3, closure := [], defaults := Value.none, kwdefaults := Value.none, pyModule := Value.str (Str.ofString "basicplus.arith") 528, code := Value.ref 257 } }) ::
  (nat_lit 299, { cls := Value.type "code", data := Data.fields #[Value.str (Str.ofString "reckoned") 602, Value.str (Str.ofString "reckoned") 603, Value.str (Str.ofString "/claim/cut.py") 604, Value.int 225 0, Value.int 5 0, Value.int 0 0, Value.int 0 0, Value.int 3 0, Value.ref 294, Value.bool true, Value.int 181 0, Value.ref 295, Value.none, Value.ref 296, Value.ref 297, Value.ref 298, Value.int 615 0, Value.int 225 0, Value.str (Str.ofString "/claim/cut.py") 616] }) ::
  (nat_lit 300, { cls := Value.type "function", data := Data.func { name := Str.ofString "reckoned", qualname := Str.ofString "reckoned", params := fP (dS 48), body := FuncBody.stmts (fB (dS 48)), scope := fS (dS 48), globals := 3, closure := [], defaults := Value.none, kwdefaults := Value.none, pyModule := Value.str (Str.ofString "basicplus.arith") 528, code := Value.ref 299 } }) ::
  (nat_lit 306, { cls := Value.type "code", data := Data.fields #[Value.str (Str.ofString "octets_for_bits") 620, Value.str (Str.ofString "octets_for_bits") 621, Value.str (Str.ofString "/claim/cut.py") 622, Value.int 241 0, Value.int 1 0, Value.int 0 0, Value.int 0 0, Value.int 3 0, Value.ref 301, Value.bool true, Value.int 181 0, Value.ref 302, Value.none, Value.ref 303, Value.ref 304, Value.ref 305, Value.int 624 0, Value.int 241 0, Value.str (Str.ofString "/claim/cut.py") 625] }) ::
  (nat_lit 307, { cls := Value.type "function", data := Data.func { name := Str.ofString "octets_for_bits", qualname := Str.ofString "octets_for_bits", params := fP (dS 50), body := FuncBody.stmts (fB (dS 50)), scope := fS (dS 50), globals := 3, closure := [], defaults := Value.none, kwdefaults := Value.none, pyModule := Value.str (Str.ofString "basicplus.bytesfns") 618, code := Value.ref 306 } }) ::
  (nat_lit 313, { cls := Value.type "code", data := Data.fields #[Value.str (Str.ofString "to_octets") 627, Value.str (Str.ofString "to_octets") 628, Value.str (Str.ofString "/claim/cut.py") 629, Value.int 243 0, Value.int 2 0, Value.int 0 0, Value.int 0 0, Value.int 3 0, Value.ref 308, Value.bool true, Value.int 181 0, Value.ref 309, Value.none, Value.ref 310, Value.ref 311, Value.ref 312, Value.int 634 0, Value.int 243 0, Value.str (Str.ofString "/claim/cut.py") 635] }) ::
  (nat_lit 314, { cls := Value.type "function", data := Data.func { name := Str.ofString "to_octets", qualname := Str.ofString "to_octets", params := fP (dS 51), body := FuncBody.stmts (fB (dS 51)), scope := fS (dS 51), globals := 3, closure := [], defaults := Value.none, kwdefaults := Value.none, pyModule := Value.str (Str.ofString "basicplus.bytesfns") 618, code := Value.ref 313 } }) ::
  (nat_lit 320, { cls := Value.type "code", data := Data.fields #[Value.str (Str.ofString "from_octets") 637, Value.str (Str.ofString "from_octets") 638, Value.str (Str.ofString "/claim/cut.py") 639, Value.int 249 0, Value.int 1 0, Value.int 0 0, Value.int 0 0, Value.int 3 0, Value.ref 315, Value.bool true, Value.int 181 0, Value.ref 316, Value.none, Value.ref 317, Value.ref 318, Value.ref 319, Value.int 643 0, Value.int 249 0, Value.str (Str.ofString "/claim/cut.py") 644] }) ::
  (nat_lit 321, { cls := Value.type "function", data := Data.func { name := Str.ofString "from_octets", qualname := Str.ofString "from_octets", params := fP (dS 52), body := FuncBody.stmts (fB (dS 52)), scope := fS (dS 52), globals := 3, closure := [], defaults := Value.none, kwdefaults := Value.none, pyModule := Value.str (Str.ofString "basicplus.bytesfns") 618, code := Value.ref 320 } }) ::
  (nat_lit 327, { cls := Value.type "code", data := Data.fields #[Value.str (Str.ofString "bytes_mki") 646, Value.str (Str.ofString "bytes_mki") 647, Value.str (Str.ofString "/claim/cut.py") 648, Value.int 254 0, Value.int 2 0, Value.int 0 0, Value.int 0 0, Value.int 3 0, Value.ref 322, Value.bool true, Value.int 181 0, Value.ref 323, Value.none, Value.ref 324, Value.ref 325, Value.ref 326, Value.int 651 0, Value.int 254 0, Value.str (Str.ofString "/claim/cut.py") 652] }) ::
  (nat_lit 328, { cls := Value.type "function", data := Data.func { name := Str.ofString "bytes_mki", qualname := Str.ofString "bytes_mki", params := fP (dS 53), body := FuncBody.stmts (fB (dS 53)), scope := fS (dS 53), globals := 3, closure := [], defaults := Value.none, kwdefaults := Value.none, pyModule := Value.str (Str.ofString "basicplus.bytesfns") 618, code := Value.ref 327 } }) ::
  (nat_lit 334, { cls := Value.type "code", data := Data.fields #[Value.str (Str.ofString "bytes_cvi") 654, Value.str (Str.ofString "bytes_cvi") 655, Value.str (Str.ofString "/claim/cut.py") 656, Value.int 256 0, Value.int 2 0, Value.int 0 0, Value.int 0 0, Value.int 3 0, Value.ref 329, Value.bool true, Value.int 181 0, Value.ref 330, Value.none, Value.ref 331, Value.ref 332, Value.ref 333, Value.int 661 0, Value.int 256 0, Value.str (Str.ofString "/claim/cut.py") 662] }) ::
  (nat_lit 335, { cls := Value.type "function", data := Data.func { name := Str.ofString "bytes_cvi", qualname := Str.ofString "bytes_cvi", params := fP (dS 54), body := FuncBody.stmts (fB (dS 54)), scope := fS (dS 54), globals := 3, closure := [], defaults := Value.none, kwdefaults := Value.none, pyModule := Value.str (Str.ofString "basicplus.bytesfns") 618, code := Value.ref 334 } }) ::
  (nat_lit 343, { cls := Value.type "tuple", data := Data.seq #[Value.int 16 678, Value.int 9 679, Value.int 2000 680, Value.int 20 681, Value.int 2000 682] }) ::
  (nat_lit 349, { cls := Value.type "code", data := Data.fields #[Value.str (Str.ofString "__init__") 683, Value.str (Str.ofString "World.__init__") 684, Value.str (Str.ofString "/claim/cut.py") 685, Value.int 264 0, Value.int 6 0, Value.int 0 0, Value.int 0 0, Value.int 3 0, Value.ref 344, Value.bool true, Value.int 181 0, Value.ref 345, Value.none, Value.ref 346, Value.ref 347, Value.ref 348, Value.int 692 0, Value.int 264 0, Value.str (Str.ofString "/claim/cut.py") 693] }) ::
  (nat_lit 350, { cls := Value.type "function", data := Data.func { name := Str.ofString "__init__", qualname := Str.ofString "World.__init__", params := fP (dM 56), body := FuncBody.stmts (fB (dM 56)), scope := fS (dM 56), globals := 3, closure := [], defaults := Value.ref 343, kwdefaults := Value.none, pyModule := Value.str (Str.ofString "basicplus.world") 664, code := Value.ref 349 } }) ::
  (nat_lit 352, { cls := Value.type "dict", data := Data.dict #[{ hash := PyData.keyHash P (Str.ofString "__module__"), key := Value.str (Str.ofString "__module__") 673, val := Value.str (Str.ofString "basicplus.world") 664 }, { hash := PyData.keyHash P (Str.ofString "__firstlineno__"), key := Value.str (Str.ofString "__firstlineno__") 677, val := Value.int 262 676 }, { hash := PyData.keyHash P (Str.ofString "__init__"), key := Value.str (Str.ofString "__init__") 694, val := Value.ref 350 }, { hash := PyData.keyHash P (Str.ofString "__static_attributes__"), key := Value.str (Str.ofString "__static_attributes__") 723, val := Value.ref 351 }, { hash := PyData.keyHash P (Str.ofString "__dict__"), key := Value.str (Str.ofString "__dict__") 725, val := Value.ref 354 }, { hash := PyData.keyHash P (Str.ofString "__weakref__"), key := Value.str (Str.ofString "__weakref__") 727, val := Value.ref 355 }, { hash := PyData.keyHash P (Str.ofString "__doc__"), key := Value.str (Str.ofString "__doc__") 728, val := Value.none }] 4 }) ::
  (nat_lit 353, { cls := Value.type "type", data := Data.cls { name := Str.ofString "World", bases := [Value.type "object"], mro := [Value.ref 353, Value.type "object"], ns := 352, qualname := Str.ofString "World" }, slots := #[none, none, some (Value.str (Str.ofString "World") 666), some (Value.str (Str.ofString "World") 674), some (Value.builtin "object.__new__"), some (Value.bool true)] }) ::
  (nat_lit 354, { cls := Value.type "getset_descriptor", data := Data.fields #[Value.str (Str.ofString "__dict__") 724, Value.ref 353, Value.builtin "function.__dict__", Value.builtin "function.__dict__#set"] }) ::
  (nat_lit 355, { cls := Value.type "getset_descriptor", data := Data.fields #[Value.str (Str.ofString "__weakref__") 726, Value.ref 353, Value.builtin "ExceptionGroup.__weakref__", Value.none] }) ::
  (nat_lit 363, { cls := Value.type "code", data := Data.fields #[Value.str (Str.ofString "_law_pulled") 733, Value.str (Str.ofString "_law_pulled") 734, Value.str (Str.ofString "/claim/cut.py") 735, Value.int 294 0, Value.int 2 0, Value.int 0 0, Value.int 0 0, Value.int 3 0, Value.ref 358, Value.bool true, Value.int 181 0, Value.ref 359, Value.none, Value.ref 360, Value.ref 361, Value.ref 362, Value.int 739 0, Value.int 294 0, Value.str (Str.ofString "/claim/cut.py") 740] }) ::
  (nat_lit 364, { cls := Value.type "function", data := Data.func { name := Str.ofString "_law_pulled", qualname := Str.ofString "_law_pulled", params := fP (dS 58), body := FuncBody.stmts (fB (dS 58)), scope := fS (dS 58), globals := 3, closure := [], defaults := Value.none, kwdefaults := Value.none, pyModule := Value.str (Str.ofString "law_sm0006_01") 731, code := Value.ref 363 } }) ::
  (nat_lit 368, { cls := Value.type "code", data := Data.fields #[Value.str (Str.ofString "_law_record") 742, Value.str (Str.ofString "_law_record") 743, Value.str (Str.ofString "/claim/cut.py") 744, Value.int 298 0, Value.int 3 0, Value.int 0 0, Value.int 0 0, Value.int 3 0, Value.ref 365, Value.bool true, Value.int 181 0, Value.ref 366, Value.none, Value.none, Value.none, Value.ref 367, Value.int 745 0, Value.int 298 0, Value.str (Str.ofString "/claim/cut.py") 746] }) ::
  (nat_lit 369, { cls := Value.type "function", data := Data.func { name := Str.ofString "_law_record", qualname := Str.ofString "_law_record", params := fP (dS 59), body := FuncBody.stmts (fB (dS 59)), scope := fS (dS 59), globals := 3, closure := [], defaults := Value.none, kwdefaults := Value.none, pyModule := Value.str (Str.ofString "law_sm0006_01") 731, code := Value.ref 368 } }) ::
  (nat_lit 373, { cls := Value.type "code", data := Data.fields #[Value.str (Str.ofString "_law_text") 748, Value.str (Str.ofString "_law_text") 749, Value.str (Str.ofString "/claim/cut.py") 750, Value.int 300 0, Value.int 2 0, Value.int 0 0, Value.int 0 0, Value.int 3 0, Value.ref 370, Value.bool true, Value.int 181 0, Value.ref 371, Value.none, Value.none, Value.none, Value.ref 372, Value.int 751 0, Value.int 300 0, Value.str (Str.ofString "/claim/cut.py") 752] }) ::
  (nat_lit 374, { cls := Value.type "function", data := Data.func { name := Str.ofString "_law_text", qualname := Str.ofString "_law_text", params := fP (dS 60), body := FuncBody.stmts (fB (dS 60)), scope := fS (dS 60), globals := 3, closure := [], defaults := Value.none, kwdefaults := Value.none, pyModule := Value.str (Str.ofString "law_sm0006_01") 731, code := Value.ref 373 } }) ::
  (nat_lit 378, { cls := Value.type "code", data := Data.fields #[Value.str (Str.ofString "_law_total") 754, Value.str (Str.ofString "_law_total") 755, Value.str (Str.ofString "/claim/cut.py") 756, Value.int 302 0, Value.int 2 0, Value.int 0 0, Value.int 0 0, Value.int 3 0, Value.ref 375, Value.bool true, Value.int 181 0, Value.ref 376, Value.none, Value.none, Value.none, Value.ref 377, Value.int 757 0, Value.int 302 0, Value.str (Str.ofString "/claim/cut.py") 758] }) ::
  (nat_lit 379, { cls := Value.type "function", data := Data.func { name := Str.ofString "_law_total", qualname := Str.ofString "_law_total", params := fP (dS 61), body := FuncBody.stmts (fB (dS 61)), scope := fS (dS 61), globals := 3, closure := [], defaults := Value.none, kwdefaults := Value.none, pyModule := Value.str (Str.ofString "law_sm0006_01") 731, code := Value.ref 378 } }) ::
  (nat_lit 385, { cls := Value.type "code", data := Data.fields #[Value.str (Str.ofString "_law_code") 760, Value.str (Str.ofString "_law_code") 761, Value.str (Str.ofString "/claim/cut.py") 762, Value.int 309 0, Value.int 1 0, Value.int 0 0, Value.int 0 0, Value.int 3 0, Value.ref 380, Value.bool true, Value.int 181 0, Value.ref 381, Value.none, Value.ref 382, Value.ref 383, Value.ref 384, Value.int 765 0, Value.int 309 0, Value.str (Str.ofString "/claim/cut.py") 766] }) ::
  (nat_lit 386, { cls := Value.type "function", data := Data.func { name := Str.ofString "_law_code", qualname := Str.ofString "_law_code", params := fP (dS 62), body := FuncBody.stmts (fB (dS 62)), scope := fS (dS 62), globals := 3, closure := [], defaults := Value.none, kwdefaults := Value.none, pyModule := Value.str (Str.ofString "law_sm0006_01") 731, code := Value.ref 385 } }) ::
  (nat_lit 392, { cls := Value.type "code", data := Data.fields #[Value.str (Str.ofString "_law_fits") 768, Value.str (Str.ofString "_law_fits") 769, Value.str (Str.ofString "/claim/cut.py") 770, Value.int 315 0, Value.int 2 0, Value.int 0 0, Value.int 0 0, Value.int 3 0, Value.ref 387, Value.bool true, Value.int 181 0, Value.ref 388, Value.none, Value.ref 389, Value.ref 390, Value.ref 391, Value.int 773 0, Value.int 315 0, Value.str (Str.ofString "/claim/cut.py") 774] }) ::
  (nat_lit 393, { cls := Value.type "function", data := Data.func { name := Str.ofString "_law_fits", qualname := Str.ofString "_law_fits", params := fP (dS 63), body := FuncBody.stmts (fB (dS 63)), scope := fS (dS 63), globals := 3, closure := [], defaults := Value.none, kwdefaults := Value.none, pyModule := Value.str (Str.ofString "law_sm0006_01") 731, code := Value.ref 392 } }) ::
  (nat_lit 399, { cls := Value.type "code", data := Data.fields #[Value.str (Str.ofString "_law_sum") 776, Value.str (Str.ofString "_law_sum") 777, Value.str (Str.ofString "/claim/cut.py") 778, Value.int 317 0, Value.int 4 0, Value.int 0 0, Value.int 0 0, Value.int 3 0, Value.ref 394, Value.bool true, Value.int 181 0, Value.ref 395, Value.none, Value.ref 396, Value.ref 397, Value.ref 398, Value.int 784 0, Value.int 317 0, Value.str (Str.ofString "/claim/cut.py") 785] }) ::
  (nat_lit 400, { cls := Value.type "function", data := Data.func { name := Str.ofString "_law_sum", qualname := Str.ofString "_law_sum", params := fP (dS 64), body := FuncBody.stmts (fB (dS 64)), scope := fS (dS 64), globals := 3, closure := [], defaults := Value.none, kwdefaults := Value.none, pyModule := Value.str (Str.ofString "law_sm0006_01") 731, code := Value.ref 399 } }) ::
  (nat_lit 406, { cls := Value.type "code", data := Data.fields #[Value.str (Str.ofString "_law_kept") 787, Value.str (Str.ofString "_law_kept") 788, Value.str (Str.ofString "/claim/cut.py") 789, Value.int 320 0, Value.int 5 0, Value.int 0 0, Value.int 0 0, Value.int 3 0, Value.ref 401, Value.bool true, Value.int 181 0, Value.ref 402, Value.none, Value.ref 403, Value.ref 404, Value.ref 405, Value.int 795 0, Value.int 320 0, Value.str (Str.ofString "/claim/cut.py") 796] }) ::
  (nat_lit 407, { cls := Value.type "function", data := Data.func { name := Str.ofString "_law_kept", qualname := Str.ofString "_law_kept", params := fP (dS 65), body := FuncBody.stmts (fB (dS 65)), scope := fS (dS 65), globals := 3, closure := [], defaults := Value.none, kwdefaults := Value.none, pyModule := Value.str (Str.ofString "law_sm0006_01") 731, code := Value.ref 406 } }) ::
  (nat_lit 413, { cls := Value.type "code", data := Data.fields #[Value.str (Str.ofString "_law_half") 798, Value.str (Str.ofString "_law_half") 799, Value.str (Str.ofString "/claim/cut.py") 800, Value.int 323 0, Value.int 4 0, Value.int 0 0, Value.int 0 0, Value.int 3 0, Value.ref 408, Value.bool true, Value.int 181 0, Value.ref 409, Value.none, Value.ref 410, Value.ref 411, Value.ref 412, Value.int 814 0, Value.int 323 0, Value.str (Str.ofString "/claim/cut.py") 815] }) ::
  (nat_lit 414, { cls := Value.type "function", data := Data.func { name := Str.ofString "_law_half", qualname := Str.ofString "_law_half", params := fP (dS 66), body := FuncBody.stmts (fB (dS 66)), scope := fS (dS 66), globals := 3, closure := [], defaults := Value.none, kwdefaults := Value.none, pyModule := Value.str (Str.ofString "law_sm0006_01") 731, code := Value.ref 413 } }) ::
  (nat_lit 420, { cls := Value.type "code", data := Data.fields #[Value.str (Str.ofString "_law_stands") 817, Value.str (Str.ofString "_law_stands") 818, Value.str (Str.ofString "/claim/cut.py") 819, Value.int 344 0, Value.int 3 0, Value.int 0 0, Value.int 0 0, Value.int 3 0, Value.ref 415, Value.bool true, Value.int 181 0, Value.ref 416, Value.none, Value.ref 417, Value.ref 418, Value.ref 419, Value.int 829 0, Value.int 344 0, Value.str (Str.ofString "/claim/cut.py") 830] }) ::
  (nat_lit 421, { cls := Value.type "function", data := Data.func { name := Str.ofString "_law_stands", qualname := Str.ofString "_law_stands", params := fP (dS 67), body := FuncBody.stmts (fB (dS 67)), scope := fS (dS 67), globals := 3, closure := [], defaults := Value.none, kwdefaults := Value.none, pyModule := Value.str (Str.ofString "law_sm0006_01") 731, code := Value.ref 420 } }) ::
  (nat_lit 427, { cls := Value.type "code", data := Data.fields #[Value.str (Str.ofString "_law_transfer") 832, Value.str (Str.ofString "_law_transfer") 833, Value.str (Str.ofString "/claim/cut.py") 834, Value.int 354 0, Value.int 5 0, Value.int 0 0, Value.int 0 0, Value.int 3 0, Value.ref 422, Value.bool true, Value.int 181 0, Value.ref 423, Value.none, Value.ref 424, Value.ref 425, Value.ref 426, Value.int 843 0, Value.int 354 0, Value.str (Str.ofString "/claim/cut.py") 844] }) ::
  (nat_lit 428, { cls := Value.type "function", data := Data.func { name := Str.ofString "_law_transfer", qualname := Str.ofString "_law_transfer", params := fP (dS 68), body := FuncBody.stmts (fB (dS 68)), scope := fS (dS 68), globals := 3, closure := [], defaults := Value.none, kwdefaults := Value.none, pyModule := Value.str (Str.ofString "law_sm0006_01") 731, code := Value.ref 427 } }) ::
  (nat_lit 432, { cls := Value.type "code", data := Data.fields #[Value.str (Str.ofString "law") 846, Value.str (Str.ofString "law") 847, Value.str (Str.ofString "/claim/cut.py") 848, Value.int 366 0, Value.int 1 0, Value.int 0 0, Value.int 0 0, Value.int 3 0, Value.ref 429, Value.bool true, Value.int 181 0, Value.ref 430, Value.none, Value.none, Value.none, Value.ref 431, Value.int 849 0, Value.int 366 0, Value.str (Str.ofString "/claim/cut.py") 850] }) ::
  (nat_lit 433, { cls := Value.type "function", data := Data.func { name := Str.ofString "law", qualname := Str.ofString "law", params := fP (dS 69), body := FuncBody.stmts (fB (dS 69)), scope := fS (dS 69), globals := 3, closure := [], defaults := Value.none, kwdefaults := Value.none, pyModule := Value.str (Str.ofString "law_sm0006_01") 731, code := Value.ref 432 } }) :: []
noncomputable def LSE : List Str := [Str.ofString "BasicError", Str.ofString "World", Str.ofString "ONE", Str.ofString "figures_of", Str.ofString "rounded_by", Str.ofString "made", Str.ofString "whole_near", Str.ofString "fits", Str.ofString "whole_of", Str.ofString "decimal_of", Str.ofString "text_of", Str.ofString "check_name", Str.ofString "open_file", Str.ofString "is_written_elsewhere", Str.ofString "channel_of", Str.ofString "place_of", Str.ofString "set_fields", Str.ofString "field_text", Str.ofString "placed", Str.ofString "set_placed", Str.ofString "record_told", Str.ofString "get_record", Str.ofString "put_record", Str.ofString "d_negated", Str.ofString "alike", Str.ofString "d_add", Str.ofString "d_sub", Str.ofString "d_mul", Str.ofString "with_rest", Str.ofString "d_div", Str.ofString "d_power", Str.ofString "square_or_end", Str.ofString "is_whole", Str.ofString "settled", Str.ofString "whole_reckoned", Str.ofString "cut_quotient", Str.ofString "cut_rest", Str.ofString "exponent_of", Str.ofString "whole_power", Str.ofString "raised", Str.ofString "reckoned", Str.ofString "octets_for_bits", Str.ofString "to_octets", Str.ofString "from_octets", Str.ofString "bytes_mki", Str.ofString "bytes_cvi", Str.ofString "_law_pulled", Str.ofString "_law_record", Str.ofString "_law_text", Str.ofString "_law_total", Str.ofString "_law_code", Str.ofString "_law_fits", Str.ofString "_law_sum", Str.ofString "_law_kept", Str.ofString "_law_half", Str.ofString "_law_stands", Str.ofString "_law_transfer", Str.ofString "law", Str.ofString "MOST_EXPONENT", Str.ofString "MOST_CHANNEL", Str.ofString "MOST_NAME", Str.ofString "MOST_SIZE", Str.ofString "MOST_POWER"]
end Mine
end
section
section -- M1
open PySem PySem.W PySem.Calls PyProof.Rows
namespace Mine
noncomputable abbrev top (dp un : Nat) (outer : List Env) : Around := { handled := none, depth := dp, frames := some outer, guards := some [], units := un }
structure At (w : World) (dp un : Nat) (base : Heap) (outer : List Env) (mean : ExcName → Option Value) (mg mb : Str → Option Value) (h : Heap) (n : Nat) : Prop where
  X : (KO w.params).In base
  T : Top topProg LSE mean mg mb base
  B : Below (top dp un outer) base outer h
  dp : dp + n < 900
  un : un + 40 * n < 5000
noncomputable def Own (base : Heap) (outer : List Env) (h : Heap) (cells : List (Addr × Obj)) : Prop :=
  ∀ p ∈ cells, h.get? p.1 = some p.2 ∧ base.get? p.1 = none ∧ p.1 ∉ outer.filterMap (·.frame)
theorem Below.any {A A' : Around} {base h : Heap} {outer : List Env} (B : Below A base outer h) (h' : A'.frames = some outer) : Below A' base outer h := ⟨h', B.stays, B.frames⟩
section
variable {w : World} {dp un : Nat} {s : Shared} {base : Heap} {outer : List Env} {mean : ExcName → Option Value} {mg mb : Str → Option Value} {n : Nat}
  {R : Result → Shared → Prop} {name qual : Str} {params : Arguments} {body : List Stmt} {scope : Scope} {dV kV doc pm cdv ct oc : Value} {an od : Option Addr} {osl : Array (Option Value)} {f : Addr} {args : Args} {binds : List (Str × Value)}
  {cells : List (Addr × Obj)}
theorem ground (C : At w dp un base outer mean mg mb s.heap n) (hc : Own base outer s.heap cells) :
    base.StaysIn (hideAll s.heap (cells.map Prod.fst)) ∧ (hideAll s.heap (cells.map Prod.fst)).FunFrames base outer := by
  have nm : ∀ b o, base.get? b = some o → b ∉ cells.map Prod.fst := fun b o e q => by
    obtain ⟨p, hp, rfl⟩ := List.mem_map.mp q
    rw [(hc p hp).2.1] at e; cases e
  refine ⟨fun b o e => hideAll_get _ (C.B.stays b o e) (nm b o e), funFrames_hideAll C.B.frames fun env he b hb hf => ?_⟩
  obtain ⟨p, hp, rfl⟩ := List.mem_map.mp hb
  exact (hc p hp).2.2 (List.mem_filterMap.mpr ⟨env, he, hf⟩)
theorem enter (C : At w dp un base outer mean mg mb s.heap n) (hc : Own base outer s.heap cells)
    (ho : (KO w.params).lookup f = some ⟨oc, od, .func (fnOf name qual params body scope dV kV doc pm an cdv ct), osl⟩) (hcd : codeIn (KO w.params) cdv qual = true)
    (hbind : BindsTo s (fnOf name qual params body scope dV kV doc pm an cdv ct) args binds) (hloc : ∀ y ∈ binds, scope.names.lookup y.1 = some .local)
    (h : ∀ g L h₁, Fr g L h₁ (fun y => binds.reverse.lookup y) → News g L h₁ cells → Below (top dp un outer) base outer g → (KO w.params).In g → Top topProg LSE mean mg mb g →
      (∀ b o, s.heap.get? b = some o → b ∉ cells.map Prod.fst → g.get? b = some o) → (∀ p ∈ cells, p.1 < L) →
      wpAny (model PySem.Challenge.rw_sm0006_01.row.prog w) ((top dp un outer).deeper (envOf qual scope L f cdv)) (execs body (envOf qual scope L f cdv))
        (fun fl s' => R (.ok (.ret (match fl with | .ret v => v | _ => .none))) s')
        (fun e s' => wpAny (model PySem.Challenge.rw_sm0006_01.row.prog w) ((top dp un outer).deeper (envOf qual scope L f cdv)) (leaving (envOf qual scope L f cdv) e) (fun _ s'' => R (.error e) s'') (fun e' s'' => R (.error e') s'') s')
        { s with heap := h₁, toks := s.toks + binds.length })
    (hco : autoParam (scope.isCoroutine = false) rflT) (hgen : autoParam (scope.isGenerator = false) rflT) (hk : autoParam (scope.kind = .function) rflT)
    (hcell : autoParam (∀ x ∈ scope.names, x.2 ≠ .cell) decT) :
    codeAny (model PySem.Challenge.rw_sm0006_01.row.prog w) (top dp un outer) (.call (.ref f) args) R s := by
  have X := C.X.keeps C.B.stays
  have T := C.T.keeps C.B.stays
  have hroom : dp < recursionLimit := by have := C.dp; unfold recursionLimit; omega
  have gr := ground C hc
  refine codeAny_call_def (fd := fnOf name qual params body scope dV kV doc pm an cdv ct) (body := body) (binds := binds) hroom (X _ _ ho) rfl T.nolimit (codeRec_of X hcd) rfl hbind hcell hloc (fun h₁ hns hk₁ => ?_) hco hgen hk
  exact h (hideAll s.heap (cells.map Prod.fst)) s.heap.objs.size h₁ ⟨hns, fun b o e => hk₁ b o (of_hideAll _ e), Nat.le_of_eq (hideAll_size _ _)⟩
    (fun p hp => ⟨hk₁ _ _ (hc p hp).1, Nat.ne_of_lt (Heap.lt_size (hc p hp).1), hideAll_none _ (List.mem_map_of_mem hp)⟩)
    ⟨rfl, gr.1, gr.2⟩ (C.X.keeps fun b o e => gr.1 b o e) (C.T.keeps fun b o e => gr.1 b o e) (fun b o e n => hideAll_get _ e n) (fun p hp => Heap.lt_size (hc p hp).1)
theorem enterC (C : At w dp un base outer mean mg mb s.heap n) (hc : Own base outer s.heap cells)
    (ho : (KO w.params).lookup f = some ⟨oc, od, .func (fnOf name qual params body scope dV kV doc pm an cdv ct), osl⟩) (hcd : codeIn (KO w.params) cdv qual = true)
    (hbind : BindsTo s (fnOf name qual params body scope dV kV doc pm an cdv ct) args binds)
    (hkind : (binds.all fun y => scope.names.lookup y.1 == some .local || scope.names.lookup y.1 == some .cell) = true)
    (hnd : ((cellsFrom 0 scope.names []).map (·.1)).Nodup)
    (h : ∀ g L h₁ tk cl, Fr g L h₁ (bindL (envOfC qual scope L f cdv).kindOf binds fun _ => none) → News g L h₁ (cl ++ cells) →
      CellsAre (bindC (envOfC qual scope L f cdv).kindOf binds fun _ => none) (cellsFrom (L + 1) scope.names []) cl →
      Below (top dp un outer) base outer g → (KO w.params).In g → Top topProg LSE mean mg mb g →
      (∀ b o, s.heap.get? b = some o → b ∉ cells.map Prod.fst → g.get? b = some o) → (∀ p ∈ cells, p.1 < L) →
      wpAny (model PySem.Challenge.rw_sm0006_01.row.prog w) ((top dp un outer).deeper (envOfC qual scope L f cdv)) (execs body (envOfC qual scope L f cdv))
        (fun fl s' => R (.ok (.ret (match fl with | .ret v => v | _ => .none))) s')
        (fun e s' => wpAny (model PySem.Challenge.rw_sm0006_01.row.prog w) ((top dp un outer).deeper (envOfC qual scope L f cdv)) (leaving (envOfC qual scope L f cdv) e) (fun _ s'' => R (.error e) s'') (fun e' s'' => R (.error e') s'') s')
        { s with heap := h₁, toks := tk })
    (hco : autoParam (scope.isCoroutine = false) rflT) (hgen : autoParam (scope.isGenerator = false) rflT) (hk : autoParam (scope.kind = .function) rflT) :
    codeAny (model PySem.Challenge.rw_sm0006_01.row.prog w) (top dp un outer) (.call (.ref f) args) R s := by
  have X := C.X.keeps C.B.stays
  have T := C.T.keeps C.B.stays
  have hroom : dp < recursionLimit := by have := C.dp; unfold recursionLimit; omega
  have gr := ground C hc
  refine codeAny_call_function hroom (X _ _ ho) rfl hco hgen rfl (codeRec_of X hcd) (hbind _ _ _ _ ?_)
  refine wpAny_newFunctionEnv_cells hk (kindsX hkind _) fun env' he s' x => ?_
  subst he
  refine ⟨T.nolimit.keeps x.toInCall.keep, codeAny_func ?_⟩
  obtain ⟨h₁, tk, rfl, _⟩ := x.done
  have hk₁ := x.toInCall.keep
  obtain ⟨cl, NC, Y⟩ := Cl.news (h₀ := s.heap) (Nat.le_refl _) fun n c hm => ⟨x.cell n c (lookup_of_mem_nodup (cellsFrom_names scope.names 0 (s.heap.objs.size + 1) [] [] rfl ▸ hnd) hm), x.above n c hm⟩
  refine h (hideAll s.heap (cells.map Prod.fst)) s.heap.objs.size h₁ tk cl ⟨x.toInCall.ns, fun b o e => hk₁ b o (of_hideAll _ e), Nat.le_of_eq (hideAll_size _ _)⟩
    (fun p hp => ?_) Y ⟨rfl, gr.1, gr.2⟩ (C.X.keeps fun b o e => gr.1 b o e) (C.T.keeps fun b o e => gr.1 b o e) (fun b o e n => hideAll_get _ e n) (fun p hp => Heap.lt_size (hc p hp).1)
  rcases List.mem_append.mp hp with hp | hp
  · refine ⟨(NC p hp).1, (NC p hp).2.1, ?_⟩
    cases q : (hideAll s.heap (cells.map Prod.fst)).get? p.1 with
    | none => rfl
    | some o => have := of_hideAll _ q; rw [(NC p hp).2.2] at this; cases this
  · exact ⟨hk₁ _ _ (hc p hp).1, Nat.ne_of_lt (Heap.lt_size (hc p hp).1), hideAll_none _ (List.mem_map_of_mem hp)⟩
end
end Mine
end
section -- X1
open PySem PySem.W PySem.Calls PyProof.Rows
namespace Mine
section
variable {prog : Program} {w : World} {M : Model} {A : Around} {E : Value → Shared → Prop} {h : Heap} {g : Array GenState} {d : Drawn} {t : Nat} {os : OsState}
variable {nm qn : Str} {C N : Addr} {hdct : Bool} {sn : List Str} {sub : List Value} {ab : Bool} {col : Option Bool} {dd : Option Addr} {k0 k1 k2 k3 k5 : Option Value}
noncomputable abbrev EXC : List Value := [.type "Exception", .type "BaseException", .type "object"]
noncomputable abbrev clsE (nm qn : Str) (C N : Addr) (hdct : Bool) (sn : List Str) (sub : List Value) (ab : Bool) (col : Option Bool) (dd : Option Addr) (k0 k1 k2 k3 k5 : Option Value) : Obj :=
  excClassObj nm qn C N [.type "Exception"] EXC hdct sn sub ab col dd k0 k1 k2 k3 k5 "Exception.__new__"
theorem f_type_init : typeOf (.builtin "Exception.__init__") = pure (.type "wrapper_descriptor") := by kernel_rfl
theorem f_wd_get : typeLookup (.type "wrapper_descriptor") "__get__" = pure (some (.builtin "wrapper_descriptor.__get__")) := by rw [typeLookup_type, builtinLookup_eq_fast]; kernel_rfl
theorem f_wd_check (e C : Addr) : checkBuiltinCall "wrapper_descriptor.__get__" ⟨[.builtin "Exception.__init__", .ref e, .ref C], []⟩ = pure () := by kernel_rfl
theorem f_wd_plain : plainId "wrapper_descriptor.__get__" = true := by decide +kernel
theorem f_wd_entry : entryFor table "wrapper_descriptor.__get__" = some Builtin.«wrapper_descriptor.__get__» := entryFor_of_tree (by kernel_rfl)
theorem f_owner : ".".intercalate ("Exception.__init__".cutAt '.').dropLast = "Exception" := by decide +kernel
theorem f_along (K : Frag) : alongIn K "__init__" EXC = some (some (.builtin "Exception.__init__")) := by kernel_rfl
theorem x_super_ga {so e : Addr} {l₀ l : List Value} {K : Frag} {tk : Tok} {Q : Fin → Shared → Prop}
    (hso : h.get? so = some (ks_superObj C e C)) (hno : Looks (model prog w) h (opaqueClassAbove (.ref C)) none)
    (hC : Looks (model prog w) h (mroOf (.ref C)) l₀) (hl : (l₀.dropWhile (· != .ref C)).drop 1 = l) (X : K.In h) (hal : alongIn K "__init__" l = some (some (.builtin "Exception.__init__"))) (hne : e ≠ C)
    {oe : Obj} (he : h.get? e = some oe) (hec : oe.cls = .ref C) (hi : Looks (model prog w) h (isSubtype (.ref C) (.type "Exception")) true)
    (hq : Q (.done (.ret (.ref h.objs.size))) ⟨h.push { cls := .type "method-wrapper", data := .fields #[.builtin "Exception.__init__", .ref e] }, g, d, t, os⟩) :
    wpAny (model prog w) A (Builtin.«super.__getattribute__» ⟨[.ref so, .str "__init__" tk], []⟩) Q E ⟨h, g, d, t, os⟩ := by
  have hdt : (ks_superObj C e C).data = .fields #[.ref C, .ref e, .ref C] := rfl
  have f0 : (#[.ref C, .ref e, .ref C] : Array Value)[0]? = some (.ref C) := rfl
  have f1 : (#[.ref C, .ref e, .ref C] : Array Value)[1]? = some (.ref e) := rfl
  have f2 : (#[.ref C, .ref e, .ref C] : Array Value)[2]? = some (.ref C) := rfl
  have o2 := f_type_init
  have o3 := f_wd_get
  have hne' : (Value.ref e == Value.ref C) = false := by simp [hne]
  unfold Builtin.«super.__getattribute__»
  repeat (first
    | (with_reducible refine wpAny_field hso hdt f0 ?_) | (with_reducible refine wpAny_field hso hdt f1 ?_) | (with_reducible refine wpAny_field hso hdt f2 ?_)
    | (with_reducible refine ks_wpAny_notOpaque hno ?_)
    | (with_reducible refine Looks.at hC ?_)
    | (simp only [hne', Bool.false_eq_true, if_false]; done)
    | ((fail_if_success (with_reducible show wpAny _ _ (forIn _ _ _) _ _ _)); wp_step))
  rw [hl]
  refine ks_forIn_along X (fun _ _ => rfl) rfl ?_ hal
  repeat (first
    | (simp only [hne', Bool.false_eq_true, if_false]; done)
    | ((fail_if_success (with_reducible show codeAny _ _ _ _ _)); wp_step))
  simp only [hne', Bool.false_eq_true, if_false]
  refine codeAny_call_builtin f_wd_plain f_wd_entry (wpAny_of_eq (f_wd_check _ _) ?_)
  unfold Builtin.«wrapper_descriptor.__get__»
  repeat (first
    | (with_reducible refine wpAny_loadPart_at he ?_; rw [hec])
    | ((fail_if_success (with_reducible show wpAny _ _ (isSubtype _ _) _ _ _)); wp_step))
  rw [f_owner]
  refine Looks.at hi ?_
  repeat (first | (with_reducible exact hq) | wp_step)
end
end Mine
end
section -- X2
open PySem PySem.W PySem.Calls PyProof.Rows
namespace Mine
section
variable {prog : Program} {w : World} {M : Model} {A : Around} {E : Value → Shared → Prop} {h : Heap} {g : Array GenState} {d : Drawn} {t : Nat} {os : OsState}
variable {C : Addr}
theorem x_super_method {so e : Addr} {l₀ l : List Value} {K : Frag} {pl : Sem Bool} {Q : Value × List Value → Shared → Prop}
    (hso : h.get? so = some (ks_superObj C e C)) (hno : Looks (model prog w) h (opaqueClassAbove (.ref C)) none)
    (hC : Looks (model prog w) h (mroOf (.ref C)) l₀) (hl : (l₀.dropWhile (· != .ref C)).drop 1 = l) (X : K.In h) (hal : alongIn K "__init__" l = some (some (.builtin "Exception.__init__"))) (hne : e ≠ C)
    {oe : Obj} (he : h.get? e = some oe) (hec : oe.cls = .ref C) (hi : Looks (model prog w) h (isSubtype (.ref C) (.type "Exception")) true)
    (hq : Q (.ref h.objs.size, []) ⟨h.push { cls := .type "method-wrapper", data := .fields #[.builtin "Exception.__init__", .ref e] }, g, d, t + 1, os⟩) :
    wpAny (model prog w) A (getMethod (.ref so) "__init__" pl) Q E ⟨h, g, d, t, os⟩ := by
  have hlk := F.ks_slot_super_ga.lookup
  have hT : ∀ t', (⟨h, g, d, t', os⟩ : Shared).TypeIs (.ref so) "super" := fun _ => ⟨_, hso, rfl⟩
  unfold getMethod
  refine wpAny_bind (wpAny_specialOf (hT _) hlk ?_)
  show wpAny _ _ (if (Manifest.canonical "super.__getattribute__" != "object.__getattribute__") = true then _ else _) _ _ _
  rw [if_pos F.ks_canon_super_ga]
  unfold getAttr getAttrBy
  refine wpAny_bind (wpAny_bind (wpAny_mkText (wpAny_holding (wpAny_bind (wpAny_typeOf (hT _) (wpAny_bind (wpAny_of_eq hlk ?_)))))))
  show wpAny _ _ (getAttrByItsOwn (.ref so) (.str "__init__" t) (.type "super") (.builtin "super.__getattribute__") true false) _ _ _
  unfold getAttrByItsOwn hookBefore callGetattribute boundAndCalled
  refine wpAny_bind (wpAny_of_eq (show (if onTheHeap (.type "super") then typeLookup (.type "super") "__getattr__" else pure none) = pure none from rfl) ?_)
  refine wpAny_bind (wpAny_attempt (wpAny_holding ?_))
  show wpAny _ _ (bindSpecial (.builtin "super.__getattribute__") (.ref so) >>= _) _ _ _
  refine wpAny_bind (wpAny_of_eq (F.ks_slot_super_ga.bind _) ?_)
  exact wpAny_call_entry F.ks_slot_super_ga (hT _) F.ks_entry_super_ga (x_super_ga hso hno hC hl X hal hne he hec hi ⟨_, rfl, wpAny_pure (wpAny_pure hq)⟩) (F.ks_gaArgs_super _ _)
theorem x_checkBound {nm qn : Str} {N : Addr} {hdct : Bool} {sn : List Str} {sub : List Value} {ab : Bool} {col : Option Bool} {dd : Option Addr} {k0 k1 k2 k3 k5 : Option Value} {e : Addr} {oe : Obj} {v : Value} {Q : Unit → Shared → Prop}
    (hC : h.get? C = some (clsE nm qn C N hdct sn sub ab col dd k0 k1 k2 k3 k5)) (he : h.get? e = some oe) (hcls : oe.cls = .ref C) (hq : Q () ⟨h, g, d, t, os⟩) : wpAny M A (checkBoundCall "Exception.__init__" ⟨[.ref e, v], []⟩) Q E ⟨h, g, d, t, os⟩ := by
  have F := PySem.F.excBase_Exception
  have hcB : (Value.ref C :: EXC).contains (.type "Exception") = true := by rw [List.contains_cons, F.hasB, Bool.or_true]
  have hshort := F.noStar
  have hk := F.initKind
  have hs := F.initRow
  unfold checkBoundCall
  simp only [hk, hs]
  rw [if_pos (by decide)]
  show wpAny _ _ (Bind.checkArgs _ _ _) _ _ _
  unfold Bind.checkArgs
  repeat (first | (with_reducible refine wpAny_loadPart_at he ?_; rw [hcls]) | with_reducible refine wpAny_loadPart_at hC ?_ | (with_reducible refine wpAny_isSubtype_exc hC ?_; rw [hcB]) | wp_step)
  exact hq
noncomputable abbrev excAt (C t0 : Addr) (od : Option Addr) : Obj := { cls := .ref C, dict := od, data := .fields #[.ref t0, .none, .none, .none, .bool false, .none] }
theorem x_bound_init {nm qn : Str} {N : Addr} {hdct : Bool} {sn : List Str} {sub : List Value} {ab : Bool} {col : Option Bool} {dd : Option Addr} {k0 k1 k2 k3 k5 : Option Value} {q e t0 : Addr} {od : Option Addr} {v : Value} {R : Result → Shared → Prop}
    (hq : h.get? q = some { cls := .type "method-wrapper", data := .fields #[.builtin "Exception.__init__", .ref e] })
    (hC : h.get? C = some (clsE nm qn C N hdct sn sub ab col dd k0 k1 k2 k3 k5)) (he : h.get? e = some (excAt C t0 od))
    (hR : ∀ h' t1, h'.get? e = some (excAt C t1 od) → h'.get? t1 = some { cls := .type "tuple", data := .seq #[v] } → h.get? t1 = none → (∀ b o, b ≠ e → h.get? b = some o → h'.get? b = some o) → R (.ok (.ret .none)) ⟨h', g, d, t, os⟩) :
    codeAny (model prog w) A (.call (.ref q) ⟨[v], []⟩) R ⟨h, g, d, t, os⟩ := by
  refine codeAny_of_tree ?_
  show wpAny _ A.in1 (callAny (.ref q) ⟨[v], []⟩) _ _ _
  unfold callAny
  refine wpAny_bind (wpAny_load hq ?_)
  dsimp only
  rw [if_pos (by decide)]
  show wpAny _ _ (if (Value.type "method-wrapper" != Value.type "method") = true then _ else _) _ _ _
  rw [if_pos (by decide)]
  refine wpAny_bind (x_checkBound hC he rfl ?_)
  have F := PySem.F.excBase_Exception
  refine wpAny_pure ⟨Code.quiet_builtin _ (by decide +kernel), codeAny_builtin F.initEntry ?_⟩
  rw [Around.under_plainId (by decide +kernel) _]
  unfold Builtin.«BaseException.__init__»
  wp_walk
  refine hR _ h.objs.size ?_ ?_ (Heap.get?_none_of_le (Nat.le_refl _)) fun b o hb hbo => ?_
  · exact Heap.get?_update_self _ (Heap.get?_push_of_some _ he) rfl
  · rw [Heap.get?_update_other _ _ (Nat.ne_of_lt (Heap.lt_size he))]
    exact Heap.get?_push_size _ rfl
  · rw [Heap.get?_update_other _ _ (Ne.symm hb)]
    exact Heap.get?_push_of_some _ hbo
end
end Mine
end
section -- M2
open PySem PySem.W PySem.Calls PyProof.Rows
namespace Mine
noncomputable def Kp (S : List Addr) (h h' : Heap) : Prop := ∀ b o, h.get? b = some o → b ∉ S → h'.get? b = some o
theorem Kp.all {h h' : Heap} (k : Kp [] h h') : ∀ b o, h.get? b = some o → h'.get? b = some o := fun b o e => k b o e (by simp)
section
variable {g h h' : Heap} {L : Addr} {m : Str → Option Value} {news news' : List (Addr × Obj)} {S : List Addr}
theorem fr_kp (F : Fr g L h m) (k : Kp S h h') (hS : ∀ a ∈ S, g.get? a = none ∧ a ≠ L) : Fr g L h' m := by
  obtain ⟨oL, es, ep, hL, r⟩ := F.ns
  refine ⟨⟨oL, es, ep, k _ _ hL fun q => (hS L q).2 rfl, r⟩, fun b o e => k b o (F.keep b o e) fun q => ?_, F.above⟩
  rw [(hS b q).1] at e; cases e
theorem fr_all (F : Fr g L h m) (k : Kp [] h h') : Fr g L h' m := fr_kp F k fun _ h => nomatch h
theorem news_kp (F : Fr g L h m) (N : News g L h news) (k : Kp S h h')
    (hn : ∀ p ∈ news', (p ∈ news ∧ p.1 ∉ S) ∨ (h'.get? p.1 = some p.2 ∧ ((∃ o, (p.1, o) ∈ news) ∨ h.get? p.1 = none))) : News g L h' news' := by
  intro p hp
  rcases hn p hp with ⟨h1, h2⟩ | ⟨h1, ⟨o, h2⟩ | h2⟩
  · exact ⟨k _ _ (N p h1).1 h2, (N p h1).2⟩
  · exact ⟨h1, (N _ h2).2⟩
  · obtain ⟨oL, _, _, hL, _⟩ := F.ns
    refine ⟨h1, fun q => ?_, ?_⟩
    · rw [q, hL] at h2; cases h2
    · cases q : g.get? p.1 with
      | none => rfl
      | some o => rw [F.keep _ _ q] at h2; cases h2
theorem news_all (N : News g L h news) (k : Kp [] h h') : News g L h' news := fun p hp => ⟨k.all _ _ (N p hp).1, (N p hp).2⟩
theorem news_in (N : News g L h news) {S : List Addr} (hS : ∀ a ∈ S, ∃ o, (a, o) ∈ news) : ∀ a ∈ S, g.get? a = none ∧ a ≠ L := fun a ha => by
  obtain ⟨o, ho⟩ := hS a ha
  exact ⟨(N _ ho).2.2, (N _ ho).2.1⟩
end
section
variable {w : World} {dp un : Nat} {s : Shared} {base : Heap} {outer : List Env} {mean : ExcName → Option Value} {mg mb : Str → Option Value} {n : Nat} {cells news' : List (Addr × Obj)} {S : List Addr} {g h' : Heap} {L : Addr} {m' : Str → Option Value}
theorem kp_end (hc : Own base outer s.heap cells) (hk : ∀ b o, s.heap.get? b = some o → b ∉ cells.map Prod.fst → g.get? b = some o) (F : Fr g L h' m') (N : News g L h' news')
    (hs : ∀ p ∈ cells, p ∈ news' ∨ p.1 ∈ S) : Kp S s.heap h' := fun b o e n => by
  by_cases q : b ∈ cells.map Prod.fst
  · obtain ⟨p, hp, rfl⟩ := List.mem_map.mp q
    rw [(hc p hp).1] at e; cases e
    exact (N p ((hs p hp).resolve_right n)).1
  · exact F.keep _ _ (hk b o e q)
theorem kp_end0 (hk : ∀ b o, s.heap.get? b = some o → b ∉ ([] : List (Addr × Obj)).map Prod.fst → g.get? b = some o) (F : Fr g L h' m') : Kp S s.heap h' := fun b o e _ => F.keep _ _ (hk b o e (by simp))
theorem At.inner {name : Str} {scope : Scope} {a : Addr} {cd : Value} {g : Heap} {L : Addr} {m : Str → Option Value} {s₀ : Heap} {dp' un' n' : Nat}
    (C : At w dp un base outer mean mg mb s₀ n) (B : Below (top dp un outer) base outer g) (F : Fr g L s.heap m) (hd : dp' + n' ≤ dp + n) (hu : un' + 40 * n' ≤ un + 40 * n) (hk : autoParam (scope.kind = .function) rflT) :
    At w dp' un' base (envOf name scope L a cd :: outer) mean mg mb s.heap n' := by
  have B' := B.push (name := name) (scope := scope) (a := a) (cd := cd) F hk
  exact ⟨C.X, C.T, ⟨rfl, B'.stays, B'.frames⟩, Nat.lt_of_le_of_lt hd C.dp, Nat.lt_of_le_of_lt hu C.un⟩
theorem At.innerC {name : Str} {scope : Scope} {a : Addr} {cd : Value} {cl : List (Str × Addr)} {g : Heap} {L : Addr} {m : Str → Option Value} {s₀ : Heap} {dp' un' n' : Nat}
    (C : At w dp un base outer mean mg mb s₀ n) (B : Below (top dp un outer) base outer g) (F : Fr g L s.heap m) (hd : dp' + n' ≤ dp + n) (hu : un' + 40 * n' ≤ un + 40 * n) (hk : autoParam (scope.kind = .function) rflT) :
    At w dp' un' base (envX name scope L a cd cl :: outer) mean mg mb s.heap n' := by
  have B' := B.push (name := name) (scope := scope) (a := a) (cd := cd) F hk
  exact ⟨C.X, C.T, ⟨rfl, B'.stays, B'.frames⟩, Nat.lt_of_le_of_lt hd C.dp, Nat.lt_of_le_of_lt hu C.un⟩
theorem Own.inner {env : Env} {g : Heap} {L : Addr} {news cells : List (Addr × Obj)} {h : Heap} (B : Below (top dp un outer) base outer g) (N : News g L h news) (hf : env.frame = some L) (hs : ∀ p ∈ cells, p ∈ news) :
    Own base (env :: outer) h cells := fun p hp => by
  have D := N p (hs p hp)
  have hb : base.get? p.1 = none := fresh_of_stays B.stays D.2.2
  refine ⟨D.1, hb, fun q => ?_⟩
  rw [List.filterMap_cons, hf] at q
  rcases List.mem_cons.mp q with e | q
  · exact D.2.1 e
  · obtain ⟨_, o, ho, _⟩ := B.frames.mem q
    rw [D.2.2] at ho; cases ho
end
end Mine
end
section -- X2b
open PySem PySem.W PySem.Calls PyProof.Rows
open Builtin Builtin.ObjectAttr
namespace Mine
section
variable {prog : Program} {w : World} {A : Around} {E : Value → Shared → Prop} {h : Heap} {g : Array GenState} {d : Drawn} {t : Nat} {os : OsState}
variable {nm q : Str} {C N x t1 : Addr} {sn : List Str} {sub : List Value} {ab : Bool} {col : Option Bool} {dd : Option Addr} {k0 k1 k2 k3 k5 : Option Value}
  {bs bm : List Value} {B newId sa owner : String} {mN : Str → Option Value} {name : Str} {v : Value}
theorem x_store_code {o : Obj} {tk : Tok} {R : Result → Shared → Prop}
    (SF : StoreFacts B bm sa owner) (hC : h.get? C = some (excClassObj nm q C N bs bm true sn sub ab col dd k0 k1 k2 k3 k5 newId)) (hn : h.Ns N mN) (hna : mN name = none)
    (hB : typeLookup (.type B) name = pure none) (hx : h.get? x = some o) (hc : o.cls = .ref C) (hdn : o.dict = none) (hnc : ∀ c, o.data ≠ .cls c)
    (hq : ∀ h' tk', h'.get? x = some { o with dict := some h.objs.size } → h'.Ns1 h.objs.size (fun y => if y = name then some v else none) →
      (∀ b o, b ≠ x → h.get? b = some o → h'.get? b = some o) → R (.ok (.ret .none)) ⟨h', g, d, tk', os⟩) :
    codeAny (model prog w) A (.call (.builtin sa) ⟨[.ref x, .str name tk, v], []⟩) R ⟨h, g, d, t, os⟩ := by
  have hpass := SF.passes (.ref x)
  refine codeAny_call_builtin SF.slot.plain SF.entry (wpAny_check_sa SF hC hx hc ?_)
  unfold Builtin.«object.__setattr__»
  repeat (first | rw [refuse_eq] | (rw [refuseLoop_ref, hpass]) | (with_reducible refine wpAny_loadPart_at hx ?_; rw [hc]) | with_reducible refine wpAny_mroOf_exc hC ?_ | (with_reducible refine wpAny_typeLookup_exc hC hn SF.mro hB ?_; rw [hna]) | wp_step)
  rw [hdn, if_neg (by simp [typeHasDict])]
  dsimp only
  split
  · rename_i c hcd
    exact absurd hcd (hnc c)
  · have hx₁ : (h.push { cls := .type "dict", data := .dict #[] }).get? x = some o := Heap.get?_push_of_some _ hx
    have hxs : x ≠ h.objs.size := Nat.ne_of_lt (Heap.lt_size hx)
    refine wpAny_bind (wpAny_alloc' (wpAny_bind (wpAny_update' hx₁ (wpAny_pure ?_))))
    have hgd : ((h.push { cls := .type "dict", data := .dict #[] }).update x fun o => { cls := o.cls, dict := some h.objs.size, data := o.data, slots := o.slots }).get? h.objs.size
        = some { cls := .type "dict", data := .dict #[] } := (Heap.get?_update_ne _ _ _ _ hxs.symm).trans (Heap.get?_push_at rfl rfl)
    have hnd : ((h.push { cls := .type "dict", data := .dict #[] }).update x fun o => { cls := o.cls, dict := some h.objs.size, data := o.data, slots := o.slots }).Ns h.objs.size (fun _ => none) :=
      ⟨_, #[], _, hgd, rfl, fun e he => absurd he (by simp), fun _ => rfl⟩
    show wpAny _ _ (storeInDict h.objs.size (.str name tk) name v) _ _ _
    unfold storeInDict newKeyGuard
    refine wpAny_bind (wpAny_pure (wpAny_bind (wpAny_nsSet1 (Heap.Ns1.of_empty hnd) fun h' hn' hs => ?_)))
    obtain ⟨oD, esD, epD, hoD, hdD, hcD⟩ := hn'.count (Within.cons name v Within.nil)
    refine wpAny_bind (wpAny_lookBehind hoD (by rw [hdD]; exact pastItsLine_dict (Nat.le_trans hcD (by rw [List.length_cons, List.length_nil, sizeLine_eq]; omega))) ?_)
    refine wpAny_pure (hq h' _ ?_ ?_ fun b ob hbx hb => ?_)
    · refine (hs.2 x hxs).trans (Heap.get?_update_self _ hx₁ ?_)
      have hfr := (Heap.get?_some_iff.mp hx).2
      obtain ⟨oc, od, odt, osl⟩ := o
      cases odt <;> first | rfl | exact hfr
    · obtain ⟨o', es, ep, e1, e2, e3, eu, e4⟩ := hn'
      exact ⟨o', es, ep, e1, e2, e3, eu, fun y => by rw [e4 y]⟩
    · exact (hs.2 b (Nat.ne_of_lt (Heap.lt_size hb))).trans ((Heap.get?_update_ne _ _ _ _ hbx).trans (Heap.get?_push_of_some _ hb))
end
theorem ns_of_K {K : Frag} {h : Heap} {N : Addr} {c : Value} {d : Option Addr} {es : Array DictEntry} {n : Nat} {sl : Array (Option Value)} (X : K.In h) (ho : K.lookup N = some ⟨c, d, .dict es n, sl⟩)
    (hk : es.toList.all (fun e => match e.key with | .str _ _ => true | _ => false) = true) : h.Ns N (nsFind es) := by
  refine ⟨_, es, n, X _ _ ho, rfl, fun e he => ?_, fun _ => rfl⟩
  have := List.all_eq_true.mp hk e (Array.mem_toList_iff.mpr he)
  split at this
  · rename_i x t q
    exact ⟨x, t, q⟩
  · exact absurd this (by decide)
section
variable {prog : Program} {w : World} {A : Around} {E : Value → Shared → Prop} {s : Shared} {K : Frag} {g : Heap} {L e C N t1 : Addr} {m : Str → Option Value} {rest : List (Addr × Obj)} {v : Value} {name : Str}
  {nm qn : Str} {sn : List Str} {sub : List Value} {ab : Bool} {col : Option Bool} {dd : Option Addr} {k0 k1 k2 k3 k5 : Option Value} {nc : Value} {nd : Option Addr} {nes : Array DictEntry} {nn : Nat} {nsl : Array (Option Value)}
theorem r_store1 {Q : Unit → Shared → Prop} (F : Fr g L s.heap m) (X₀ : K.In g) (N' : News g L s.heap ((e, excAt C t1 none) :: rest)) (hr : ∀ p ∈ rest, p.1 ≠ e)
    (hC : K.lookup C = some (excClassObj nm qn C N [.type "Exception"] EXC true sn sub ab col dd k0 k1 k2 k3 k5 "Exception.__new__")) (hN : K.lookup N = some ⟨nc, nd, .dict nes nn, nsl⟩)
    (hk : nes.toList.all (fun e => match e.key with | .str _ _ => true | _ => false) = true) (hna : nsFind nes name = none)
    (hB : typeLookup (.type "Exception") name = pure none) (hsa : findIn K (.ref C) "__setattr__" = some (some (.builtin "object.__setattr__")))
    (h : ∀ h' tk' d1, Fr g L h' m → (∀ o1, h'.get? d1 = some o1 → News g L h' ((e, excAt C t1 (some d1)) :: (d1, o1) :: rest)) → (∀ p ∈ rest, p.1 ≠ d1) → d1 ≠ e → h'.Ns1 d1 (fun y => if y = name then some v else none) → Q () { s with heap := h', toks := tk' }) :
    wpAny (model prog w) A (setAttr (.ref e) name v) Q E s := by
  have X : K.In s.heap := X₀.keeps F.keep
  obtain ⟨hh, gg, d, t, os⟩ := s
  have he := (N' _ (.head _)).1
  refine set_plain X (ox := excAt C t1 none) (od := none) ⟨he, rfl, rfl, trivial⟩ hsa ?_
  refine x_store_code PySem.F.store_Exception (X _ _ hC) (ns_of_K X hN hk) hna hB he rfl rfl (fun c q => by cases q) fun h' tk' z1 z2 z3 => ?_
  have k : Kp [e] hh h' := fun b o eb nb => z3 b o (fun q => nb (by simp [q])) eb
  have F' := fr_kp F k (news_in N' fun a ha => ⟨excAt C t1 none, by rw [List.mem_singleton.mp ha]; exact .head _⟩)
  refine h h' tk' _ F' (fun o1 ho1 => news_kp F N' k fun p hp => ?_) (fun p hp => Nat.ne_of_lt (Heap.lt_size (N' p (.tail _ hp)).1)) (Nat.ne_of_gt (Heap.lt_size he)) z2
  rcases List.mem_cons.mp hp with rfl | hp
  · exact .inr ⟨z1, .inl ⟨_, .head _⟩⟩
  rcases List.mem_cons.mp hp with rfl | hp
  · exact .inr ⟨ho1, .inr (Heap.get?_none_of_le (Nat.le_refl _))⟩
  · exact .inl ⟨.tail _ hp, by simpa using hr p hp⟩
theorem r_store2 {Q : Unit → Shared → Prop} {d1 : Addr} {od1 : Obj} {mA : Str → Option Value} {ns : List Str} (F : Fr g L s.heap m) (X₀ : K.In g) (N' : News g L s.heap ((e, excAt C t1 (some d1)) :: (d1, od1) :: rest)) (hr : ∀ p ∈ rest, p.1 ≠ e) (hr2 : ∀ p ∈ rest, p.1 ≠ d1) (hde : d1 ≠ e)
    (hC : K.lookup C = some (excClassObj nm qn C N [.type "Exception"] EXC true sn sub ab col dd k0 k1 k2 k3 k5 "Exception.__new__")) (hN : K.lookup N = some ⟨nc, nd, .dict nes nn, nsl⟩)
    (hk : nes.toList.all (fun e => match e.key with | .str _ _ => true | _ => false) = true) (hna : nsFind nes name = none)
    (hB : typeLookup (.type "Exception") name = pure none) (hsa : findIn K (.ref C) "__setattr__" = some (some (.builtin "object.__setattr__"))) (hA : s.heap.Ns1 d1 mA) (hw : Within mA ns) (hz : ns.length ≤ 1000)
    (h : ∀ h' tk', Fr g L h' m → (∀ o1, h'.get? d1 = some o1 → News g L h' ((e, excAt C t1 (some d1)) :: (d1, o1) :: rest)) → h'.Ns1 d1 (fun y => if y = name then some v else mA y) → Q () { s with heap := h', toks := tk' }) :
    wpAny (model prog w) A (setAttr (.ref e) name v) Q E s := by
  have X : K.In s.heap := X₀.keeps F.keep
  obtain ⟨hh, gg, d, t, os⟩ := s
  have he := (N' _ (.head _)).1
  have hd1 := (N' _ (.tail _ (.head _))).1
  have hxC : e ≠ C := by
    rintro rfl
    have z := X _ _ hC
    rw [he] at z
    cases z
  refine set_plain X (ox := excAt C t1 (some d1)) (od := some od1) ⟨he, rfl, rfl, hd1⟩ hsa ?_
  refine store_call PySem.F.store_Exception (X _ _ hC) (ns_of_K X hN hk) hna hB hxC ⟨_, he, rfl, fun c q => (by cases q), .inr ⟨d1, rfl, hde, hA⟩⟩ (fun h' tk' z1 z2 z3 => ?_) hw (by rw [sizeLine_eq]; omega)
  have k : Kp [e, d1] hh h' := fun b o eb nb => z2 b o (fun q => nb (by simp [q])) (fun o₀ dx h1 h2 q => by
    dsimp only at h1; rw [he] at h1; cases h1; cases h2; exact nb (by simp [q])) eb
  have F' := fr_kp F k (news_in N' fun a ha => by
    rcases List.mem_cons.mp ha with rfl | ha
    · exact ⟨_, .head _⟩
    · rw [List.mem_singleton.mp ha]; exact ⟨_, .tail _ (.head _)⟩)
  obtain ⟨o₁, ho₁, hc1, hd2, hs1, hdx⟩ := z3 _ he
  have hdx1 := hdx d1 rfl
  have ho₁' : h'.get? e = some (excAt C t1 (some d1)) := by
    rw [ho₁]
    obtain ⟨oc, odi, oda, osl⟩ := o₁
    dsimp only at hc1 hd2 hs1 hdx1
    rw [hc1, hd2, hs1, hdx1]
  have hns1 : h'.Ns1 d1 (fun y => if y = name then some v else mA y) := by
    obtain ⟨o₂, ho₂, _, _, hh2⟩ := z1
    rw [ho₁] at ho₂; cases ho₂
    rcases hh2 with ⟨q, _⟩ | ⟨dx, q1, _, q2⟩
    · rw [hdx1] at q; cases q
    · rw [hdx1] at q1; cases q1; exact q2
  refine h h' tk' F' (fun o1 ho1 => news_kp F N' k fun p hp => ?_) hns1
  rcases List.mem_cons.mp hp with rfl | hp
  · exact .inr ⟨ho₁', .inl ⟨_, .head _⟩⟩
  rcases List.mem_cons.mp hp with rfl | hp
  · exact .inr ⟨ho1, .inl ⟨_, .tail _ (.head _)⟩⟩
  · exact .inl ⟨.tail _ (.tail _ hp), by simp [hr p hp, hr2 p hp]⟩
end
end Mine
end
section -- X3
open PySem PySem.W PySem.Calls PyProof.Rows
namespace Mine
section
variable {w : World} {dp un : Nat} {s : Shared} {base : Heap} {outer : List Env} {mean : ExcName → Option Value} {mg mb : Str → Option Value} {n : Nat}
  {R : Result → Shared → Prop} {name qual : Str} {params : Arguments} {body : List Stmt} {scope : Scope} {dV kV doc pm cdv ct oc : Value} {an od : Option Addr} {osl : Array (Option Value)} {f cc : Addr} {args : Args} {binds : List (Str × Value)}
  {cells : List (Addr × Obj)}
theorem enterS (C : At w dp un base outer mean mg mb s.heap n) (hc : Own base outer s.heap cells)
    (ho : (KO w.params).lookup f = some ⟨oc, od, .func (ksFn name qual params body scope dV kV doc pm an cdv ct cc), osl⟩) (hcd : codeIn (KO w.params) cdv qual = true)
    (hbind : BindsTo s (ksFn name qual params body scope dV kV doc pm an cdv ct cc) args binds) (hloc : ∀ y ∈ binds, scope.names.lookup y.1 = some .local)
    (h : ∀ g L h₁, Fr g L h₁ (fun y => binds.reverse.lookup y) → News g L h₁ cells → Below (top dp un outer) base outer g → (KO w.params).In g → Top topProg LSE mean mg mb g →
      (∀ b o, s.heap.get? b = some o → b ∉ cells.map Prod.fst → g.get? b = some o) → (∀ p ∈ cells, p.1 < L) →
      _root_.PySem.wpAt (model PySem.Challenge.rw_sm0006_01.row.prog w) ((top dp un outer).deeper (ksEnv qual scope L f cdv cc)) (.func body (ksEnv qual scope L f cdv cc)) (execs body (ksEnv qual scope L f cdv cc))
        (fun fl s' => R (.ok (.ret (match fl with | .ret v => v | _ => .none))) s')
        (fun e s' => wpAny (model PySem.Challenge.rw_sm0006_01.row.prog w) ((top dp un outer).deeper (ksEnv qual scope L f cdv cc)) (leaving (ksEnv qual scope L f cdv cc) e) (fun _ s'' => R (.error e) s'') (fun e' s'' => R (.error e') s'') s')
        { s with heap := h₁, toks := s.toks + binds.length })
    (hco : autoParam (scope.isCoroutine = false) rflT) (hgen : autoParam (scope.isGenerator = false) rflT) (hk : autoParam (scope.kind = .function) rflT)
    (hcell : autoParam (∀ x ∈ scope.names, x.2 ≠ .cell) decT) :
    codeAny (model PySem.Challenge.rw_sm0006_01.row.prog w) (top dp un outer) (.call (.ref f) args) R s := by
  have X := C.X.keeps C.B.stays
  have T := C.T.keeps C.B.stays
  have hroom : dp < recursionLimit := by have := C.dp; unfold recursionLimit; omega
  have gr := ground C hc
  refine ks_codeAny_call_defAt (fd := ksFn name qual params body scope dV kV doc pm an cdv ct cc) (body := body) (binds := binds) hroom (X _ _ ho) rfl T.nolimit (codeRec_of X hcd) rfl hbind hcell hloc (fun h₁ hns hk₁ => ?_) hco hgen hk
  exact h (hideAll s.heap (cells.map Prod.fst)) s.heap.objs.size h₁ ⟨hns, fun b o e => hk₁ b o (of_hideAll _ e), Nat.le_of_eq (hideAll_size _ _)⟩
    (fun p hp => ⟨hk₁ _ _ (hc p hp).1, Nat.ne_of_lt (Heap.lt_size (hc p hp).1), hideAll_none _ (List.mem_map_of_mem hp)⟩)
    ⟨rfl, gr.1, gr.2⟩ (C.X.keeps fun b o e => gr.1 b o e) (C.T.keeps fun b o e => gr.1 b o e) (fun b o e n => hideAll_get _ e n) (fun p hp => Heap.lt_size (hc p hp).1)
end
section
variable {w : World} {dp un : Nat} {s : Shared} {base : Heap} {outer : List Env} {mean : ExcName → Option Value} {mg mb : Str → Option Value} {n : Nat}
  {R : Result → Shared → Prop}
theorem r_super_method {K : Frag} {prog : Program} {A : Around} {E : Value → Shared → Prop} {g : Heap} {L so e C : Addr} {m : Str → Option Value} {news : List (Addr × Obj)} {oe : Obj} {cd : ClassData} {pl : Sem Bool} {Q : Value × List Value → Shared → Prop}
    (F : Fr g L s.heap m) (X₀ : K.In g) (N : News g L s.heap news) (hso : (so, ks_superObj C e C) ∈ news) (he : (e, oe) ∈ news) (hec : oe.cls = .ref C) (hoc : ∀ c, oe.data ≠ .cls c) (ho : nsIn K cStatics "thirdparty.any" = some none)
    (hc : clsIn K C = some cd) (hmro : cd.mro = .ref C :: EXC) (hi : mroIn K C (.type "Exception") = some true)
    (h : ∀ q h', Fr g L h' m → News g L h' ((q, { cls := .type "method-wrapper", data := .fields #[.builtin "Exception.__init__", .ref e] }) :: news) → (∀ p ∈ news, p.1 < q) → Q (.ref q, []) { s with heap := h', toks := s.toks + 1 }) :
    wpAny (model prog w) A (getMethod (.ref so) "__init__" pl) Q E s := by
  have X : K.In s.heap := X₀.keeps F.keep
  obtain ⟨hh, gg, d, t, os⟩ := s
  have hne : e ≠ C := by
    rintro rfl
    unfold clsIn at hc
    split at hc
    · rename_i c d cd' sl hoo
      have z := X _ _ hoo
      rw [(N _ he).1] at z
      cases z
      exact hoc _ rfl
    · cases hc
  refine x_super_method (N _ hso).1 (looks_opaque X ho) (l₀ := cd.mro) (l := EXC) ?_ (by rw [hmro]; simp) X (f_along K) hne (N _ he).1 hec (looks_mroIn X hi) ?_
  · exact fun A Q E s k q => wpAny_bind ((looks_clsIn X hc) A _ E s k (wpAny_pure q))
  · obtain ⟨F', N', l'⟩ := ks_newsPush (s := ⟨hh, gg, d, t, os⟩) (o := { cls := .type "method-wrapper", data := .fields #[.builtin "Exception.__init__", .ref e] }) F N rfl (Heap.get?_push_at rfl rfl) (fun b o e => Heap.get?_push_of_some _ e)
    exact h _ _ F' N' l'
noncomputable abbrev mwObj (e : Addr) : Obj := { cls := .type "method-wrapper", data := .fields #[.builtin "Exception.__init__", .ref e] }
theorem r_callWith_mw {M : Model} {A : Around} {E : Value → Shared → Prop} {env : Env} {pos : Pos} {q x : Addr} {first : List Value} {e : PySem.Expr} {rest : List PySem.Expr} {Q : Value → Shared → Prop}
    (h : wpAny M A (spliced (backTo pos (starEach (e :: rest) env))) (fun vs s₁ => s₁.heap.get? q = some (mwObj x) ∧ wpAny M A (call (.ref q) (first ++ vs)) Q E s₁) E s)
    (he : autoParam (starEach (e :: rest) env = (false, eval e env) :: starEach rest env) rflT) (hplain : autoParam ((backTo pos (starEach rest env)).any (·.1) = false) rflT) :
    wpAny M A (callWith pos (.ref q) first (backTo pos (starEach (e :: rest) env)) []) Q E s := by
  rw [he] at h ⊢
  exact callWith_of (P := fun h => h.get? q = some (mwObj x)) (by show ((false || (backTo pos (starEach rest env)).any (·.1)) || false) = false; rw [hplain]; rfl)
    (fun h X => ⟨.machine, .inr (.inl rfl), (Looks.ld (part := none) X).andThen .now⟩) (Calls.evalArgs_plain h)
theorem r_call_mw {K : Frag} {prog : Program} {A : Around} {E : Value → Shared → Prop} {g : Heap} {L q e C t0 : Addr} {m : Str → Option Value} {rest : List (Addr × Obj)} {v : Value} {od : Option Addr} {Q : Value → Shared → Prop}
    {nm qn : Str} {N' : Addr} {hdct : Bool} {sn : List Str} {sub : List Value} {ab : Bool} {col : Option Bool} {dd : Option Addr} {k0 k1 k2 k3 k5 : Option Value}
    (F : Fr g L s.heap m) (X₀ : K.In g) (N : News g L s.heap ((q, mwObj e) :: (e, excAt C t0 od) :: rest)) (hC : K.lookup C = some (clsE nm qn C N' hdct sn sub ab col dd k0 k1 k2 k3 k5)) (hr : ∀ p ∈ rest, p.1 ≠ e)
    (h : ∀ h' t1, Fr g L h' m → News g L h' ((e, excAt C t1 od) :: rest) → s.heap.get? t1 = none → h'.get? t1 = some { cls := .type "tuple", data := .seq #[v] } → Q .none { s with heap := h' }) :
    wpAny (model prog w) A (call (.ref q) [v]) Q E s := by
  have X : K.In s.heap := X₀.keeps F.keep
  obtain ⟨hh, gg, d, t, os⟩ := s
  refine wpAny_call (x_bound_init (N _ (.head _)).1 (X _ _ hC) (N _ (.tail _ (.head _))).1 fun h' t1 z1 z2 z3 z4 => ?_)
  have k : Kp [e] hh h' := fun b o eb nb => z4 b o (fun q => nb (by simp [q])) eb
  have F' := fr_kp F k (news_in N fun a ha => ⟨excAt C t0 od, by rw [List.mem_singleton.mp ha]; exact .tail _ (.head _)⟩)
  refine h h' t1 F' (news_kp F N k fun p hp => ?_) z3 z2
  rcases List.mem_cons.mp hp with rfl | hp
  · exact .inr ⟨z1, .inl ⟨_, .tail _ (.head _)⟩⟩
  · exact .inl ⟨.tail _ (.tail _ hp), by simpa using hr p hp⟩
theorem c_exc_init {e t0 : Addr} {u : Str} {tu : Tok} (C : At w dp un base outer mean mg mb s.heap (n + 1)) (hc : Own base outer s.heap [(e, excAt 34 t0 none)])
  (ret : ∀ h' tk' t1 d1 mA, Kp [e] s.heap h' → h'.get? e = some (excAt 34 t1 (some d1)) → h'.Ns1 d1 mA → mA "code" = some (.str u tu) →
    R (.ok (.ret .none)) { s with heap := h', toks := tk' }) :
  codeAny (model PySem.Challenge.rw_sm0006_01.row.prog w) (top dp un outer) (.call (.ref 31) ⟨[.ref e, .str u tu], []⟩) R s := by
  have hX := C.X
  revert hX
  k_fill
  intro hX
  have hXs : (KO w.params).In s.heap := C.X.keeps C.B.stays
  refine' enterS C hc ?ho ?hcd ?hb ?hl ?_ ?c2 ?c3 ?c4 ?c5
  case ho => k_is
  case hcd => k_is
  case hb => first | exact BindsTo.of_eq rfl | exact binds_K hXs rfl (by k_is) rfl rfl rfl
  case hl => exact locs rfl
  case c2 => rfl
  case c3 => rfl
  case c4 => rfl
  case c5 => decide
  intro g L h₁ F N B X T hk hlt
  have IE := N (e, excAt 34 t0 none) (.head _)
  have I : InstAt h₁ e (excAt 34 t0 none) 34 none := ⟨IE.1, rfl, rfl, trivial⟩
  refine ks_wpAt_execs_cons (ks_wpAt_Expr_any (ks_wpAt_MethodCall ?_))
  k_dflt (refine ks_node F X N T (by k_is) (by rfl) (by rfl) I (by k_is) (by rfl) (by first | rfl | decide +kernel) (by k_is) (by k_is) (by k_is) (by k_is) (by decide) (by rfl) (by rfl) (by rfl) (by rfl) (by decide +kernel) (by first | boot_by_name | rfl | kernel_rfl) ?_)
  intro so h2 F2 N2 l2
  k_dflt (refine' r_super_method F2 X N2 (.head _) (.tail _ (.head _)) rfl (fun c q => by cases q) ?k1 ?k2 ?k3 ?k4 ?_; (case k1 => k_is); (case k2 => k_is); (case k3 => rfl); (case k4 => k_is))
  intro q h3 F3 N3 l3
  have N4 : News g L h3 [(q, mwObj e), (e, excAt 34 t0 none)] := fun p hp => N3 p (by
    rcases List.mem_cons.mp hp with rfl | hp
    · exact .head _
    · rcases List.mem_cons.mp hp with rfl | hp
      · exact .tail _ (.tail _ (.head _))
      · exact nomatch hp)
  clear N3 l3 N2 F2 l2 N F
  refine r_callWith_mw (x := e) ?_
  k_steps
  · exact (N4 _ (.head _)).1
  k_dflt (refine' r_call_mw F3 X N4 ?hC (fun _ h => nomatch h) ?_; (case hC => k_is))
  intro h5 t1 F5 N5 ht1 _
  k_steps
  k_dflt (refine' r_store1 (by assumption) (by assumption) (by assumption) ?hr ?hC ?hN ?hk ?hna ?hB ?hsa ?_; (case hr => exact fun _ h => nomatch h); (case hC => k_is); (case hN => k_is); (case hk => kernel_rfl); (case hna => kernel_rfl); (case hB => (rw [typeLookup_type, builtinLookup_eq_fast]; kernel_rfl)); (case hsa => k_is))
  intro h6 tk6 d1 F6 N6 _ hde hA6
  obtain ⟨od1, es1, ep1, ho1, _⟩ := id hA6
  have N7 := N6 _ ho1
  clear N6 N5 F5 F3
  k_steps
  k_dflt (refine' r_store2 (by assumption) (by assumption) (by assumption) ?hr ?hr2 (by assumption) ?hC ?hN ?hk ?hna ?hB ?hsa hA6 (Within.cons _ _ Within.nil) (by decide) ?_; (case hr => exact fun _ h => nomatch h); (case hr2 => exact fun _ h => nomatch h); (case hC => k_is); (case hN => k_is); (case hk => kernel_rfl); (case hna => kernel_rfl); (case hB => (rw [typeLookup_type, builtinLookup_eq_fast]; kernel_rfl)); (case hsa => k_is))
  intro h8 tk8 F8 N8 hA8
  k_steps
  obtain ⟨od8, es8, ep8, ho8, _⟩ := id hA8
  have N9 := N8 _ ho8
  refine ret _ _ t1 d1 _ (kp_end hc hk F8 N9 fun p hp => .inr ?_) (N9 _ (.head _)).1 hA8 ?_
  · rw [List.mem_singleton.mp hp]; exact .head _
  · rw [if_neg (by decide), if_pos rfl]
end
end Mine
end
section -- X4
open PySem PySem.W PySem.Calls PyProof.Rows
namespace Mine
structure KpF (fs : List Addr) (h h' : Heap) : Prop where
  off : ∀ b o, h.get? b = some o → b ∉ fs → h'.get? b = some o
  on : ∀ b o, h.get? b = some o → b ∈ fs → (∀ vs, o.data ≠ .fields vs) → ∃ sl, h'.get? b = some { o with slots := sl }
theorem KpF.of_kp {fs : List Addr} {h h' : Heap} (k : Kp [] h h') : KpF fs h h' := ⟨fun b o e _ => k.all b o e, fun b o e _ _ => ⟨o.slots, k.all b o e⟩⟩
theorem KpF.up {fs : List Addr} {h h' : Heap} (k : KpF fs h h') : h.UpToSlots h' := fun b o e nf => by
  by_cases m : b ∈ fs
  · exact k.on b o e m nf
  · exact ⟨o.slots, k.off b o e m⟩
theorem KpF.frames {fs : List Addr} {base h h' : Heap} {l : List Env} (k : KpF fs h h') (hl : h.FunFrames base l) : h'.FunFrames base l :=
  hl.of_keeps fun b o e nf => let ⟨_, z⟩ := k.up b o e nf; ⟨_, z, rfl⟩
noncomputable def ExcIn (h h' : Heap) (e : Addr) (u : Str) (fl : Option Value) : Prop :=
  h.get? e = none ∧ ∃ oe vs d1 mA tu, h'.get? e = some oe ∧ oe.cls = .ref 34 ∧ oe.dict = some d1 ∧ oe.data = .fields vs ∧ 1 < vs.size ∧ h'.Ns d1 mA ∧ mA "code" = some (.str u tu) ∧
    match fl with
    | none => vs[1]? = some .none
    | some f => ∃ T oT ts, vs[1]? = some (.ref T) ∧ T ≠ e ∧ h.get? T = none ∧ h'.get? T = some oT ∧ oT.data = .fields ts ∧ ts[3]? = some f
section
variable {M : Model} {A : Around} {E : Value → Shared → Prop} {s : Shared} {base h : Heap} {env : Env} {outer : List Env} {L e : Addr} {u : Str}
theorem x_newEntry {oe : Obj} {vs : Array Value} {head : Value} {hadNext : Bool} {Q : Unit → Shared → Prop}
    (hfr : A.frames = some (env :: outer)) (hl : s.heap.FunFrames base (env :: outer)) (hf : env.frame = some L)
    (he : s.heap.get? e = some oe) (hd : oe.data = .fields vs) (hsz : 1 < vs.size)
    (h : ∀ h' T oT ts, (∀ b o, s.heap.get? b = some o → b ∉ (env :: outer).filterMap (·.frame) → b ≠ e → h'.get? b = some o) →
      (∀ b o, s.heap.get? b = some o → b ≠ e → ∃ sl, h'.get? b = some { o with slots := sl }) →
      h'.get? e = some (Obj.mapFields (·.setIfInBounds 1 (.ref T)) oe) → s.heap.get? T = none → T ≠ e → h'.get? T = some oT → oT.data = .fields ts → ts[3]? = some (rawInt L) → Q () { s with heap := h' }) :
    wpAny M A (do let a ← frameOf env; let pl ← entryPlaceOf L hadNext; let b ← EntryCells.newEntry head a .none (rawInt L) .none pl; setField (.ref e) 1 b) Q E s := by
  have hene : e ∉ (env :: outer).filterMap (·.frame) := fun hm => by
    obtain ⟨_, o, ho, hnf⟩ := hl.mem hm
    rw [he] at ho; cases ho; exact hnf vs hd
  refine wpAny_bind (wpAny_frameOf_fun hfr hl hf fun h₁ hs₁ => ?_)
  refine wpAny_bind (wpAny_entryPlaceOf fun pl hpl => ?_)
  unfold EntryCells.newEntry newFields
  refine wpAny_bind (wpAny_newObj_type ?_ (hpl.sizeOk5 _ _ _ _ _))
  have he₁ : h₁.get? e = some oe := (hs₁.2.1 e hene).trans he
  generalize hts : ([head, .ref L, .none, rawInt L, .none] ++ (if pl.isEmpty then List.replicate 6 Value.none else pl)).toArray = ts
  have h3 : ts[3]? = some (rawInt L) := by
    rw [← hts]
    rcases hpl with rfl | ⟨_, _, _, _, _, _, _, rfl⟩ <;> simp
  have he₂ := Heap.get?_push_of_some (h := h₁) { cls := .type "traceback", dict := none, data := .fields ts } he₁
  have hTe : h₁.objs.size ≠ e := Nat.ne_of_gt (Heap.lt_size he₁)
  refine wpAny_setField he₂ hd hsz (h _ h₁.objs.size _ ts (fun b o hb hn hbe => ?_) (fun b o hb hbe => ?_) (Heap.get?_update_self _ he₂ (Obj.isFreed_of_fields (Obj.data_mapFields hd _))) ?_ hTe
    ((Heap.get?_update_other _ _ (Ne.symm hTe)).trans (Heap.get?_push_size _ rfl)) rfl h3)
  · exact (Heap.get?_update_other _ _ (Ne.symm hbe)).trans (Heap.get?_push_of_some _ ((hs₁.2.1 b hn).trans hb))
  · obtain ⟨sl, hs⟩ := hs₁.2.2 b o hb
    exact ⟨sl, (Heap.get?_update_other _ _ (Ne.symm hbe)).trans (Heap.get?_push_of_some _ hs)⟩
  · cases q : s.heap.get? h₁.objs.size with
    | none => rfl
    | some o =>
      obtain ⟨sl, hs⟩ := hs₁.2.2 _ o q
      exact absurd (Heap.lt_size hs) (Nat.lt_irrefl _)
theorem x_noteFrame {fl : Option Value} {h₀ : Heap} {Q : Unit → Shared → Prop} (hfl : fl = none ∨ fl = some .none)
    (hfr : A.frames = some (env :: outer)) (hl : s.heap.FunFrames base (env :: outer)) (hf : env.frame = some L) (X : ExcIn h₀ s.heap e u fl) (k : KpF ((env :: outer).filterMap (·.frame)) h₀ s.heap)
    (hQ : ∀ h', ExcIn h₀ h' e u (some (rawInt L)) → KpF ((env :: outer).filterMap (·.frame)) h₀ h' → h'.FunFrames base (env :: outer) → s.heap.UpToSlots h' → Q () { s with heap := h' }) : wpAny M A (noteFrame (.ref e) env) Q E s := by
  obtain ⟨hn, oe, vs, d1, mA, tu, he, hcls, hdi, hd, hsz, hns, hcode, htb⟩ := X
  have hene : e ∉ (env :: outer).filterMap (·.frame) := fun hm => by
    obtain ⟨_, o, ho, hnf⟩ := hl.mem hm
    rw [he] at ho; cases ho; exact hnf vs hd
  have old : ∀ b o, h₀.get? b = some o → b ≠ e := fun b o hb q => by rw [q, hn] at hb; cases hb
  have base1 : ∀ {h' : Heap} {T : Addr}, (∀ b o, s.heap.get? b = some o → b ≠ e → (∀ vs, o.data ≠ .fields vs) → ∃ sl, h'.get? b = some { o with slots := sl }) → s.heap.UpToSlots h' := fun w b o hb nf =>
    w b o hb (fun q => by rw [q, he] at hb; cases hb; exact nf vs hd) nf
  cases fl with
  | none =>
    unfold noteFrame
    simp only [hf]
    refine wpAny_bind (wpAny_field he hd htb ?_)
    rw [if_neg (by decide)]
    refine x_newEntry hfr hl hf he hd hsz fun h' T oT ts z1 z2 z3 z4 z5 z6 z7 z8 => ?_
    have up : s.heap.UpToSlots h' := base1 (T := T) fun b o hb hbe _ => z2 b o hb hbe
    refine hQ h' ⟨hn, _, _, d1, mA, tu, z3, (Obj.cls_mapFields _ _).trans hcls, ?_, Obj.data_mapFields hd _, by simpa using hsz, up.ns hns, hcode, T, oT, ts, by simp [hsz], z5, ?_, z6, z7, z8⟩ ⟨fun b o hb hb2 => ?_, fun b o hb hm nf => ?_⟩
      (hl.of_keeps fun b o hb nf => let ⟨_, z⟩ := up b o hb nf; ⟨_, z, rfl⟩) up
    · obtain ⟨oc, odi, oda, osl⟩ := oe
      cases hd; exact hdi
    · cases q : h₀.get? T with
      | none => rfl
      | some o =>
        by_cases hm : T ∈ (env :: outer).filterMap (·.frame)
        · obtain ⟨_, o', ho', _⟩ := hl.mem hm
          rw [z4] at ho'; cases ho'
        · have := k.off T o q hm
          rw [z4] at this; cases this
    · exact z1 b o (k.off b o hb hb2) hb2 (old b o hb)
    · obtain ⟨sl, z⟩ := k.on b o hb hm nf
      obtain ⟨sl', z'⟩ := z2 b _ z (old b o hb)
      exact ⟨sl', z'⟩
  | some f =>
    obtain rfl : f = .none := by rcases hfl with q | q; cases q; exact Option.some.inj q
    obtain ⟨T, oT, ts, h1, hTe, hTn, hT, hdT, h3⟩ := htb
    have noRec : ∀ b o, s.heap.get? b = some o → (∀ vs, o.data ≠ .fields vs) → b ≠ T := fun b o hb hnf q => by
      rw [q, hT] at hb; cases hb; exact hnf ts hdT
    have hTf : T ∉ (env :: outer).filterMap (·.frame) := fun hm => by
      obtain ⟨_, o, ho, hnf⟩ := hl.mem hm
      exact noRec T o ho hnf rfl
    have other : ∀ b, b ≠ T → (s.heap.update T (Obj.mapFields (·.setIfInBounds 3 Value.none))).get? b = s.heap.get? b := fun b hb => Heap.get?_update_other _ _ (Ne.symm hb)
    unfold noteFrame
    simp only [hf]
    refine wpAny_bind (wpAny_field he hd h1 ?_)
    rw [if_pos (show (Value.ref T != Value.none) = true from by simp)]
    refine wpAny_bind (wpAny_field hT hdT h3 ?_)
    rw [if_neg (show ¬ ((Value.none == rawInt L) = true) from by simp [rawInt])]
    refine wpAny_bind (wpAny_setField hT hdT (Array.getElem?_eq_some_iff.mp h3).1 ?_)
    refine x_newEntry (s := { s with heap := s.heap.update T (Obj.mapFields (·.setIfInBounds 3 Value.none)) }) hfr (hl.of_keeps fun b o hb hnf => ⟨o, (other b (noRec b o hb hnf)).trans hb, rfl⟩) hf ((other e (Ne.symm hTe)).trans he) hd hsz fun h' T' oT' ts' z1 z2 z3 z4 z5 z6 z7 z8 => ?_
    have up : s.heap.UpToSlots h' := base1 (T := T') fun b o hb hbe nf => z2 b o ((other b (noRec b o hb nf)).trans hb) hbe
    have oldT : ∀ b o, h₀.get? b = some o → b ≠ T := fun b o hb q => by rw [q, hTn] at hb; cases hb
    refine hQ h' ⟨hn, _, _, d1, mA, tu, z3, (Obj.cls_mapFields _ _).trans hcls, ?_, Obj.data_mapFields hd _, by simpa using hsz, up.ns hns, hcode, T', oT', ts', by simp [hsz], z5, ?_, z6, z7, z8⟩ ⟨fun b o hb hb2 => ?_, fun b o hb hm nf => ?_⟩
      (hl.of_keeps fun b o hb nf => let ⟨_, z⟩ := up b o hb nf; ⟨_, z, rfl⟩) up
    · obtain ⟨oc, odi, oda, osl⟩ := oe
      cases hd; exact hdi
    · cases q : h₀.get? T' with
      | none => rfl
      | some o =>
        by_cases hm : T' ∈ (env :: outer).filterMap (·.frame)
        · obtain ⟨_, o', ho', nf⟩ := hl.mem hm
          have := (other T' (noRec T' o' ho' nf)).trans ho'
          dsimp only at z4
          rw [z4] at this; cases this
        · have := (other T' (oldT T' o q)).trans (k.off T' o q hm)
          dsimp only at z4
          rw [z4] at this; cases this
    · exact z1 b o ((other b (oldT b o hb)).trans (k.off b o hb hb2)) hb2 (old b o hb)
    · obtain ⟨sl, z⟩ := k.on b o hb hm nf
      obtain ⟨sl', z'⟩ := z2 b _ ((other b (oldT b o hb)).trans z) (old b o hb)
      exact ⟨sl', z'⟩
theorem x_setFlight {h₀ : Heap} {fl : Value} {fs : List Addr} {Q : Unit → Shared → Prop} (X : ExcIn h₀ s.heap e u (some fl)) (k : KpF fs h₀ s.heap)
    (hQ : ∀ h', ExcIn h₀ h' e u (some .none) → KpF fs h₀ h' → (∀ b o, s.heap.get? b = some o → (∀ vs, o.data ≠ .fields vs) → h'.get? b = some o) → Q () { s with heap := h' }) : wpAny M A (setFlight (.ref e) none) Q E s := by
  obtain ⟨hn, oe, vs, d1, mA, tu, he, hcls, hdi, hd, hsz, hns, hcode, T, oT, ts, h1, hTe, hTn, hT, hdT, h3⟩ := X
  have hsz3 : 3 < ts.size := (Array.getElem?_eq_some_iff.mp h3).1
  have other : ∀ b, b ≠ T → (s.heap.update T (Obj.mapFields (·.setIfInBounds 3 ((none : Option Addr).elim Value.none fun f => rawInt f)))).get? b = s.heap.get? b := fun b hb => Heap.get?_update_other _ _ (Ne.symm hb)
  have noRec : ∀ b o, s.heap.get? b = some o → (∀ vs, o.data ≠ .fields vs) → b ≠ T := fun b o hb hnf q => by
    rw [q, hT] at hb; cases hb; exact hnf ts hdT
  have oldT : ∀ b o, h₀.get? b = some o → b ≠ T := fun b o hb q => by rw [q, hTn] at hb; cases hb
  have nk : ∀ b o, s.heap.get? b = some o → (∀ vs, o.data ≠ .fields vs) → (s.heap.update T (Obj.mapFields (·.setIfInBounds 3 ((none : Option Addr).elim Value.none fun f => rawInt f)))).get? b = some o := fun b o hb nf => (other b (noRec b o hb nf)).trans hb
  unfold setFlight
  refine wpAny_bind (wpAny_field he hd h1 ?_)
  rw [if_pos (show (Value.ref T != Value.none) = true from by simp)]
  refine wpAny_setField hT hdT hsz3 (hQ _ ⟨hn, oe, vs, d1, mA, tu, (other e (Ne.symm hTe)).trans he, hcls, hdi, hd, hsz, ?_, hcode, T, _, _, h1, hTe, hTn, Heap.get?_update_self _ hT (Obj.isFreed_of_fields (Obj.data_mapFields hdT _)), Obj.data_mapFields hdT _, by simp [hsz3]⟩
    ⟨fun b o hb hb2 => (other b (oldT b o hb)).trans (k.off b o hb hb2), fun b o hb hm nf => ?_⟩ nk)
  · exact Heap.UpToSlots.ns (fun b o hb nf => ⟨o.slots, nk b o hb nf⟩) hns
  · obtain ⟨sl, z⟩ := k.on b o hb hm nf
    exact ⟨sl, (other b (oldT b o hb)).trans z⟩
theorem x_leaving {fl : Option Value} {h₀ : Heap} {Q : Unit → Shared → Prop} (hfl : fl = none ∨ fl = some .none)
    (hfr : A.frames = some (env :: outer)) (hl : s.heap.FunFrames base (env :: outer)) (hf : env.frame = some L) (X : ExcIn h₀ s.heap e u fl) (k : KpF ((env :: outer).filterMap (·.frame)) h₀ s.heap)
    (hQ : ∀ h', ExcIn h₀ h' e u (some .none) → KpF ((env :: outer).filterMap (·.frame)) h₀ h' → Q () { s with heap := h' }) : wpAny M A (leaving env (.ref e)) Q E s := by
  unfold leaving
  refine wpAny_bind (x_noteFrame hfl hfr hl hf X k fun h' X' k' _ _ => ?_)
  exact x_setFlight (s := { s with heap := h' }) X' k' fun h'' X'' k'' _ => hQ h'' X'' k''
end
end Mine
end
section -- X5
open PySem PySem.W PySem.Calls PyProof.Rows
namespace Mine
noncomputable def Thrown (fs : List Addr) (h h' : Heap) (e : Addr) (u : Str) : Prop := KpF fs h h' ∧ ExcIn h h' e u (some .none)
theorem ExcIn.from {h₀ h₁ h' : Heap} {e : Addr} {u : Str} {fl : Option Value} (X : ExcIn h₁ h' e u fl) (w : ∀ b, h₁.get? b = none → h₀.get? b = none) : ExcIn h₀ h' e u fl := by
  obtain ⟨hn, oe, vs, d1, mA, tu, he, hcls, hdi, hd, hsz, hns, hcode, tb⟩ := X
  refine ⟨w _ hn, oe, vs, d1, mA, tu, he, hcls, hdi, hd, hsz, hns, hcode, ?_⟩
  cases fl with
  | none => exact tb
  | some f =>
    obtain ⟨T, oT, ts, a, b, c, r⟩ := tb
    exact ⟨T, oT, ts, a, b, w _ c, r⟩
section
variable {w : World} {dp un : Nat} {s : Shared} {base : Heap} {outer : List Env} {mean : ExcName → Option Value} {mg mb : Str → Option Value} {n : Nat} {cells news : List (Addr × Obj)} {g hc h' : Heap} {L e : Addr} {m : Str → Option Value} {env : Env} {u : Str}
theorem thrown_out (O : Own base outer s.heap cells) (hk : ∀ b o, s.heap.get? b = some o → b ∉ cells.map Prod.fst → g.get? b = some o) (F : Fr g L hc m) (N : News g L hc news)
    (hs : ∀ p ∈ cells, p ∈ news) (hf : env.frame = some L) (T : Thrown ((env :: outer).filterMap (·.frame)) hc h' e u) : Thrown (outer.filterMap (·.frame)) s.heap h' e u := by
  have kp : Kp [] s.heap hc := kp_end O hk F N fun p hp => .inl (hs p hp)
  have nL : ∀ b o, s.heap.get? b = some o → b ≠ L := fun b o hb q => by
    by_cases hm : b ∈ cells.map Prod.fst
    · obtain ⟨p, hp, rfl⟩ := List.mem_map.mp hm
      exact (N p (hs p hp)).2.1 q
    · have := Heap.lt_size (hk b o hb hm)
      exact absurd (Nat.lt_of_lt_of_le this F.above) (by rw [q]; exact Nat.lt_irrefl _)
  have hfs : (env :: outer).filterMap (·.frame) = L :: outer.filterMap (·.frame) := by rw [List.filterMap_cons, hf]
  obtain ⟨k, X⟩ := T
  rw [hfs] at k
  refine ⟨⟨fun b o hb hn => k.off b o (kp.all b o hb) fun q => ?_, fun b o hb hm nf => k.on b o (kp.all b o hb) (.tail _ hm) nf⟩, X.from fun b hb => ?_⟩
  · rcases List.mem_cons.mp q with q | q
    · exact nL b o hb q
    · exact hn q
  · cases q : s.heap.get? b with
    | none => rfl
    | some o => rw [kp.all b o q] at hb; cases hb
theorem r_leave {A : Around} {E : Value → Shared → Prop} {M : Model} {fl : Option Value} {s' : Shared} {name : Str} {scope : Scope} {a : Addr} {cd : Value} {Q : Unit → Shared → Prop} (hfl : fl = none ∨ fl = some .none)
    (O : Own base outer s.heap cells) (hk : ∀ b o, s.heap.get? b = some o → b ∉ cells.map Prod.fst → g.get? b = some o) (B : Below (top dp un outer) base outer g) (F : Fr g L hc m) (N : News g L hc news) (hs : ∀ p ∈ cells, p ∈ news)
    (hA : A.frames = some (envOf name scope L a cd :: outer)) (k : KpF ((envOf name scope L a cd :: outer).filterMap (·.frame)) hc s'.heap) (X : ExcIn hc s'.heap e u fl)
    (hQ : ∀ h', Thrown (outer.filterMap (·.frame)) s.heap h' e u → Q () { s' with heap := h' }) (hkd : autoParam (scope.kind = .function) rflT) :
    wpAny M A (leaving (envOf name scope L a cd) (.ref e)) Q E s' := by
  have B' := B.push (name := name) (scope := scope) (a := a) (cd := cd) F hkd
  exact x_leaving hfl hA (k.frames B'.frames) rfl X k fun h' X' k' => hQ h' (thrown_out O hk F N hs (env := envOf name scope L a cd) rfl ⟨k', X'⟩)
end
section
variable {M : Model} {A : Around} {E : Value → Shared → Prop} {s : Shared} {env : Env}
variable {nm q : Str} {C N : Addr} {bs bm : List Value} {hdct : Bool} {sn : List Str} {sub : List Value} {ab : Bool} {col : Option Bool} {dd : Option Addr} {k0 k1 k2 k3 k5 : Option Value} {newId : String}
theorem x_raiseStmt {x : Sem Value} {Q : Flow → Shared → Prop} (hh : A.handled = none) (hbase : bm.contains (.type "BaseException") = true)
    (h : wpAny M A x (fun v s₁ => ∃ e oe vs, v = .ref e ∧ s₁.heap.get? C = some (excClassObj nm q C N bs bm hdct sn sub ab col dd k0 k1 k2 k3 k5 newId) ∧
      s₁.heap.get? e = some oe ∧ oe.cls = .ref C ∧ oe.data = .fields vs ∧ vs[1]? = some .none ∧ E (.ref e) s₁) E s) :
    wpAny M A (raiseStmt env (some x) none) Q E s := by
  have hcB : (Value.ref C :: bm).contains (.type "BaseException") = true := by rw [List.contains_cons, hbase, Bool.or_true]
  unfold raiseStmt
  refine wpAny_bind (wpAny_mono h (fun v s₁ h₁ => ?_) fun _ _ x => x)
  obtain ⟨e, oe, vs, rfl, hC, he, hcls, hd, h1, hE⟩ := h₁
  obtain ⟨hp, g, d, tk, os⟩ := s₁
  repeat (first | (with_reducible refine wpAny_loadPart_at he ?_; rw [hcls]) | with_reducible refine wpAny_loadPart_at hC ?_ | (with_reducible refine wpAny_isSubtype_exc hC ?_; rw [hcB]) | (with_reducible refine wpAny_field he hd h1 ?_) | wp_step)
  exact wpAny_raiseNew_none hh hE
end
theorem under_make (dp un : Nat) (o : List Env) (C : Addr) (pos : List Value) (kw : List (Str × Value)) : (top dp un o).under (.builtin "type.__call__" ⟨.ref C :: pos, kw⟩) = top (dp + 1) (un + (Code.builtin "type.__call__" ⟨.ref C :: pos, kw⟩).cUnits) o := by
  unfold Around.under
  have h1 : (Code.builtin "type.__call__" ⟨.ref C :: pos, kw⟩).weight = 1 := by with_unfolding_all rfl
  have h2 : (Code.builtin "type.__call__" ⟨.ref C :: pos, kw⟩).envs = [] := by with_unfolding_all rfl
  have h3 : (Code.builtin "type.__call__" ⟨.ref C :: pos, kw⟩).guards = [] := by with_unfolding_all rfl
  rw [h1, h2, h3]
  rfl
theorem units_make (C : Addr) (pos : List Value) (kw : List (Str × Value)) : (Code.builtin "type.__call__" ⟨.ref C :: pos, kw⟩).cUnits ≤ 3 := by
  have h1 : (Code.builtin "type.__call__" ⟨.ref C :: pos, kw⟩).cUnits = 1 := by with_unfolding_all rfl
  omega
section
variable {w : World} {dp un : Nat} {s : Shared} {base : Heap} {outer : List Env} {mean : ExcName → Option Value} {mg mb : Str → Option Value} {n : Nat}
theorem c_exc_call {u : Str} {tu : Tok} {Q E : Value → Shared → Prop} (C : At w dp un base outer mean mg mb s.heap (n + 3))
  (ret : ∀ e h' tk' t1 d1, Kp [] s.heap h' → h'.get? e = some (excAt 34 t1 (some d1)) → ExcIn s.heap h' e u none → Q (.ref e) { s with heap := h', toks := tk' }) :
  wpAny (model PySem.Challenge.rw_sm0006_01.row.prog w) (top dp un outer) (call (.ref 34) [.str u tu]) Q E s := by
  have hX := C.X
  revert hX
  k_fill
  intro hX
  have X : (KO w.params).In s.heap := C.X.keeps C.B.stays
  obtain ⟨hh, gg, d, t, os⟩ := s
  have hc : ∃ nm qn hdct sn sub ab col dd k0 k1 k2 k3 k5, (KO w.params).lookup 34 = some (clsE nm qn 34 33 hdct sn sub ab col dd k0 k1 k2 k3 k5) := ⟨_, _, _, _, _, _, _, _, _, _, _, _, _, by k_is⟩
  have hN : ∃ c d es n sl, (KO w.params).lookup 33 = some ⟨c, d, .dict es n, sl⟩ ∧ es.toList.all (fun e => match e.key with | .str _ _ => true | _ => false) = true ∧ nsFind es "__init__" = some (.ref 31) := ⟨_, _, _, _, _, by k_is, by kernel_rfl, by kernel_rfl⟩
  have hF : ∃ o, (KO w.params).lookup 31 = some o ∧ o.cls = .type "function" := ⟨_, by k_is, rfl⟩
  obtain ⟨nm, qn, hdct, sn, sub, ab, col, dd, k0, k1, k2, k3, k5, hc⟩ := hc
  obtain ⟨nc, nd, es, nn, sl, hN, hk, hi⟩ := hN
  obtain ⟨oF, hF, hFc⟩ := hF
  refine wpAny_call_exc_init PySem.F.excBase_Exception (X _ _ hc) (ns_of_K X hN hk) hi (X _ _ hF) hFc fun h' e hm => ?_
  rw [under_make]
  obtain ⟨t0, he, ht0, _⟩ := hm.there
  have C' : At w (dp + 1) (un + (Code.builtin "type.__call__" ⟨[.ref 34, .str u tu], []⟩).cUnits) base outer mean mg mb h' (n + 1) :=
    ⟨C.X, C.T, ⟨rfl, fun b o z => hm.keeps _ _ (C.B.stays b o z), C.B.frames.of_keeps fun b o z _ => ⟨o, hm.keeps _ _ z, rfl⟩⟩, by have := C.dp; omega, by have := C.un; have := units_make 34 [.str u tu] []; omega⟩
  have O : Own base outer h' [(e, excAt 34 t0 none)] := fun p hp => by
    obtain rfl := List.mem_singleton.mp hp
    refine ⟨he, fresh_of_stays C.B.stays hm.new, fun q => ?_⟩
    obtain ⟨_, o, ho, _⟩ := C.B.frames.mem q
    have z := hm.new
    dsimp only at ho
    rw [ho] at z; cases z
  refine wpAny_call (c_exc_init (s := ⟨h', gg, d, t, os⟩) C' O fun h2 tk2 t1 d1 mA z1 z2 z3 z4 => ⟨rfl, ?_⟩)
  have kp : Kp [] hh h2 := fun b o z _ => z1 b o (hm.keeps _ _ z) fun q => by
    rw [List.mem_singleton.mp q] at z
    have := hm.new
    rw [z] at this; cases this
  refine ret e h2 tk2 t1 d1 kp z2 ⟨hm.new, _, _, d1, mA, tu, z2, rfl, rfl, rfl, by simp, z3.ns, z4, rfl⟩
end
end Mine
end
section -- MT
open PySem PySem.W PySem.Calls PyProof.Rows
namespace Mine
section
variable {M : Model} {A : Around} {E : Value → Shared → Prop} {s : Shared} {env : Env} {K : Frag} {g : Heap} {L : Addr} {m : Str → Option Value}
variable {nm q : Str} {C N : Addr} {hdct : Bool} {sn : List Str} {sub : List Value} {ab : Bool} {col : Option Bool} {dd : Option Addr} {k0 k1 k2 k3 k5 : Option Value}
theorem r_raise {x : PySem.Expr} {pos : Pos} {Q : Flow → Shared → Prop} (hh : A.handled = none) (X₀ : K.In g) (hC : K.lookup C = some (clsE nm q C N hdct sn sub ab col dd k0 k1 k2 k3 k5))
    (h : wpAny M A (eval x env) (fun v s₁ => ∃ e t1 d1, v = .ref e ∧ (∀ b o, g.get? b = some o → s₁.heap.get? b = some o) ∧ s₁.heap.get? e = some (excAt C t1 (some d1)) ∧ E (.ref e) s₁) E s) :
    wpAny M A (exec (.Raise (some x) none pos) env) Q E s := by
  rw [arm_exec_Raise]
  refine wpAny_bind (wpAny_standAt ?_)
  show wpAny M A (raiseStmt env (some (do let v ← eval x env; standAt pos; pure v)) none) Q E s
  refine x_raiseStmt (C := C) (nm := nm) (q := q) (N := N) (bs := [.type "Exception"]) (bm := EXC) (hdct := hdct) (sn := sn) (sub := sub) (ab := ab) (col := col) (dd := dd) (k0 := k0) (k1 := k1) (k2 := k2) (k3 := k3) (k5 := k5) (newId := "Exception.__new__") hh (by decide)
    (wpAny_bind (wpAny_mono h (fun v s₁ h₁ => wpAny_bind (wpAny_standAt (wpAny_pure ?_))) fun _ _ x => x))
  obtain ⟨e, t1, d1, rfl, hk, he, hE⟩ := h₁
  exact ⟨e, _, _, rfl, hk _ _ (X₀ _ _ hC), he, rfl, rfl, rfl, hE⟩
end
end Mine
end
section -- M3
open PySem PySem.W PySem.Calls PyProof.Rows
namespace Mine
noncomputable abbrev S (l : List Nat) : Str := ⟨l.toArray⟩
theorem S_len (l : List Nat) : (S l).length = l.length := by simp [Str.length]
theorem S_app (a b : List Nat) : S a ++ S b = S (a ++ b) := by
  show Str.append (S a) (S b) = _
  simp [Str.append]
theorem S_of (u : Str) : u = S u.cps.toList := by cases u; simp
theorem slice_SS {l : List Nat} {i j : Int} (h0 : 0 ≤ i) (h1 : i ≤ j) (h2 : j ≤ l.length) : Txt.slice (S l) (some i) (some j) = S ((l.drop i.toNat).take (j - i).toNat) := by
  have := slice_closesL (x := S l) h0 h1 (by rw [S_len]; exact h2)
  exact (beq_iff_eq.mp this)
theorem slice_NS {l : List Nat} {j : Int} (h1 : 0 ≤ j) (h2 : j ≤ l.length) : Txt.slice (S l) none (some j) = S (l.take j.toNat) := by
  have := slice_closes_toL (x := S l) h1 (by rw [S_len]; exact h2)
  rw [beq_iff_eq.mp this]
  simp
theorem slice_SN {l : List Nat} {i : Int} (h1 : 0 ≤ i) (h2 : i ≤ l.length) : Txt.slice (S l) (some i) none = S (l.drop i.toNat) := by
  have := slice_closes_fromL (x := S l) (b := l.length) h1 (by rw [S_len]; exact h2) (by rw [S_len])
  rw [beq_iff_eq.mp this]
  have e : List.take ((l.length : Int) - i).toNat (List.drop i.toNat l) = List.drop i.toNat l := List.take_of_length_le (by rw [List.length_drop]; omega)
  simp [e]
theorem foldl_app (n : Nat) (a : Array Nat) (acc : Array Nat) : (List.replicate n a).foldl (· ++ ·) acc = acc ++ (List.replicate n a.toList).flatten.toArray := by
  induction n generalizing acc with
  | zero => simp
  | succ n ih => rw [List.replicate_succ, List.foldl_cons, ih]; rw [Array.append_assoc]; congr 1; apply Array.ext'; simp [List.replicate_succ]
theorem mul_S {c : Nat} {n : Int} : Txt.mul (S [c]) n = S (List.replicate n.toNat c) := by
  unfold Txt.mul
  by_cases h : n < 1
  · rw [if_pos h]
    have : n.toNat = 0 := by omega
    rw [this]; rfl
  · rw [if_neg h]
    by_cases h1 : n = 1
    · subst h1; simp [S_len]
    · rw [if_neg (by simp [h1, Str.length]), foldl_app]
      congr 1
      apply Array.ext'
      simp only [Array.toList_append]
      generalize n.toNat = k
      induction k with
      | zero => rfl
      | succ k ih => simp only [List.replicate_succ, List.flatten_cons]; simp
end Mine
end
section -- MU
open PySem PySem.W PySem.Calls PyProof.Rows
namespace Mine
theorem fin_str {R : Result → Shared → Prop} {x y : Str} {t : Tok} {s : Shared} (h : R (.ok (.ret (.str x t))) s) (e : x = y) : R (.ok (.ret (.str y t))) s := e ▸ h
theorem own_nil {base h : Heap} {outer : List Env} : Own base outer h [] := fun _ h => nomatch h
noncomputable def fitsB (b x : Int) : Bool := decide (-(2 ^ (b.toNat - 1)) ≤ x ∧ x < 2 ^ (b.toNat - 1))
noncomputable def octs (b : Int) : Int := if b = 8 then 1 else 2
noncomputable def BITS (b : Int) : Prop := b = 8 ∨ b = 12 ∨ b = 16
end Mine
end
section -- CB
open PySem PySem.W PySem.Calls PyProof.Rows
namespace Mine
section
variable {w : World} {dp un : Nat} {s : Shared} {base : Heap} {outer : List Env} {mean : ExcName → Option Value} {mg mb : Str → Option Value} {n : Nat}
  {R : Result → Shared → Prop}
theorem div10 {X sz e : Int} (hX : X < 300000) (h : 0 < sz ∧ sz < 300000 ∧ 0 ≤ e ∧ e ≤ 5 ∧ sz * 10 ^ e.toNat = X) (h0 : sz.fmod 10 = 0) : 0 < sz.fdiv 10 ∧ sz.fdiv 10 < 300000 ∧ 0 ≤ e + 1 ∧ e + 1 ≤ 5 ∧ sz.fdiv 10 * 10 ^ (e + 1).toNat = X := by
  obtain ⟨a, a2, b, c, d⟩ := h
  rw [Int.fmod_eq_emod_of_nonneg _ (by decide)] at h0
  rw [Int.fdiv_eq_ediv_of_nonneg _ (by decide)]
  have q : sz = 10 * (sz / 10) := by omega
  have e1 : (e + 1).toNat = e.toNat + 1 := by omega
  have p : sz / 10 * 10 ^ (e + 1).toNat = X := by
    rw [e1, Int.pow_succ, ← d]
    conv => rhs; rw [q]
    rw [Int.mul_comm 10 (sz / 10), Int.mul_assoc, Int.mul_comm 10]
  refine ⟨by omega, by omega, by omega, ?_, p⟩
  refine Int.not_lt.mp fun w => ?_
  obtain rfl : e = 5 := by omega
  have z : sz / 10 * 1000000 = X := p
  omega
theorem div10m {sz : Int} (h : 0 < sz) : (sz.fdiv 10).toNat < sz.toNat := by
  rw [Int.fdiv_eq_ediv_of_nonneg _ (by decide)]
  omega
end
end Mine
end
section -- MW
open PySem PySem.W PySem.Calls PyProof.Rows
namespace Mine
structure WAddr where
  w : Addr
  d : Addr
  fl : Addr
  op : Addr
  fd : Addr
  c : Bool → Addr
  p : Bool → Addr
  q : Bool → Addr
noncomputable def chn (i : Bool) : Int := if i then 2 else 1
noncomputable def WAddr.all (a : WAddr) : List Addr := [a.w, a.d, a.fl, a.op, a.fd, a.c false, a.c true, a.p false, a.q false, a.p true, a.q true]
noncomputable abbrev tupO (vs : List Value) (k : Nat) : Obj := { cls := .type "tuple", data := .seq vs.toArray k }
structure WRO (w : World) (a : WAddr) (b room : Int) (h : Heap) : Prop where
  nd : a.all.Nodup
  lop : (a.op == sysModules) = false
  lfd : (a.fd == sysModules) = false
  lfl : (a.fl == sysModules) = false
  inst : h.get? a.w = some (instObj 353 a.d)
  dict : ∃ es n, h.get? a.d = some (dictOf es n) ∧ (∃ t, getL "bits" es = some (some (.int b t))) ∧ (∃ t, getL "digits" es = some (some (.int 9 t))) ∧ (∃ t, getL "room" es = some (some (.int room t))) ∧
    getL "files" es = some (some (.ref a.fl)) ∧ getL "open" es = some (some (.ref a.op)) ∧ getL "fields" es = some (some (.ref a.fd))
  opn : h.DictOf (PySem.intKind PySem.Challenge.rw_sm0006_01.row.prog w) a.op [(1, .ref (a.c false)), (2, .ref (a.c true))]
  fds : h.DictOf (PySem.strKind PySem.Challenge.rw_sm0006_01.row.prog w) a.fd [("N1$", .ref (a.p false)), ("M1$", .ref (a.q false)), ("N2$", .ref (a.p true)), ("M2$", .ref (a.q true))]
  tp : ∀ i, ∃ t1 t2 t3 k, h.get? (a.p i) = some (tupO [.int (chn i) t1, .int 0 t2, .int 1 t3] k)
  tq : ∀ i, ∃ t1 t2 t3 k, h.get? (a.q i) = some (tupO [.int (chn i) t1, .int 1 t2, .int (octs b) t3] k)
theorem WRO.move {w : World} {a : WAddr} {b room : Int} {h h' : Heap} {S : List Addr} (W : WRO w a b room h) (k : ∀ x o, h.get? x = some o → x ∉ S → h'.get? x = some o) (hs : ∀ x ∈ S, x ∉ [a.w, a.d, a.op, a.fd, a.p false, a.q false, a.p true, a.q true]) : WRO w a b room h' := by
  have kk : ∀ x ∈ [a.w, a.d, a.op, a.fd, a.p false, a.q false, a.p true, a.q true], ∀ o, h.get? x = some o → h'.get? x = some o := fun x hx o e => k x o e fun q => hs x q hx
  obtain ⟨es, n, e1, e2⟩ := W.dict
  obtain ⟨o1, x1, y1⟩ := Heap.dictOf_iff.mp W.opn
  obtain ⟨o2, x2, y2⟩ := Heap.dictOf_iff.mp W.fds
  refine ⟨W.nd, W.lop, W.lfd, W.lfl, kk _ (by simp) _ W.inst, ⟨es, n, kk _ (by simp) _ e1, e2⟩, Heap.dictOf_iff.mpr ⟨o1, kk _ (by simp) _ x1, y1⟩, Heap.dictOf_iff.mpr ⟨o2, kk _ (by simp) _ x2, y2⟩, fun i => ?_, fun i => ?_⟩
  · obtain ⟨t1, t2, t3, n, e⟩ := W.tp i
    exact ⟨t1, t2, t3, n, kk _ (by cases i <;> simp) _ e⟩
  · obtain ⟨t1, t2, t3, n, e⟩ := W.tq i
    exact ⟨t1, t2, t3, n, kk _ (by cases i <;> simp) _ e⟩
theorem WRO.keeps {w : World} {a : WAddr} {b room : Int} {h h' : Heap} (W : WRO w a b room h) (k : ∀ x o, h.get? x = some o → h'.get? x = some o) : WRO w a b room h' :=
  W.move (S := []) (fun x o e _ => k x o e) fun _ q => nomatch q
section
variable {prog : Program} {w : World} {A : Around} {E : Value → Shared → Prop} {s : Shared} {K : Frag} {g : Heap} {L : Addr} {m : Str → Option Value} {a : WAddr} {b room : Int} {expr : Bool}
theorem r_attr {name : Str} {v : Value} {es : List DictEntry} {n : Nat} {Q : Value → Shared → Prop} (F : Fr g L s.heap m) (X : K.In g) (hw : g.get? a.w = some (instObj 353 a.d)) (hd : g.get? a.d = some (dictOf es n)) (hl : getL name es = some (some v))
    (hp : plainGet K 353 name = true) (hh : hasDictIn K 353 = true) (hf : findIn K (.ref 353) name = some none) (hv : handedIn v = true) (h : Q v { s with toks := s.toks + 1 }) :
    wpAny (model prog w) A (getAttr (.ref a.w) name expr) Q E s :=
  get_own F X (ox := instObj 353 a.d) (C := 353) ⟨F.keep _ _ hw, rfl, rfl, F.keep _ _ hd⟩ hp hh hf rfl hl hv h
theorem r_bits {Q : Value → Shared → Prop} (F : Fr g L s.heap m) (X : K.In g) (W : WRO w a b room g) (hp : plainGet K 353 "bits" = true) (hh : hasDictIn K 353 = true) (hf : findIn K (.ref 353) "bits" = some none)
    (h : ∀ t, Q (.int b t) { s with toks := s.toks + 1 }) : wpAny (model prog w) A (getAttr (.ref a.w) "bits" expr) Q E s := by
  obtain ⟨es, n, e, ⟨t, e1⟩, _⟩ := W.dict
  exact r_attr F X W.inst e e1 hp hh hf rfl (h t)
theorem r_digits {Q : Value → Shared → Prop} (F : Fr g L s.heap m) (X : K.In g) (W : WRO w a b room g) (hp : plainGet K 353 "digits" = true) (hh : hasDictIn K 353 = true) (hf : findIn K (.ref 353) "digits" = some none)
    (h : ∀ t, Q (.int 9 t) { s with toks := s.toks + 1 }) : wpAny (model prog w) A (getAttr (.ref a.w) "digits" expr) Q E s := by
  obtain ⟨es, n, e, _, ⟨t, e1⟩, _⟩ := W.dict
  exact r_attr F X W.inst e e1 hp hh hf rfl (h t)
theorem r_room {Q : Value → Shared → Prop} (F : Fr g L s.heap m) (X : K.In g) (W : WRO w a b room g) (hp : plainGet K 353 "room" = true) (hh : hasDictIn K 353 = true) (hf : findIn K (.ref 353) "room" = some none)
    (h : ∀ t, Q (.int room t) { s with toks := s.toks + 1 }) : wpAny (model prog w) A (getAttr (.ref a.w) "room" expr) Q E s := by
  obtain ⟨es, n, e, _, _, ⟨t, e1⟩, _⟩ := W.dict
  exact r_attr F X W.inst e e1 hp hh hf rfl (h t)
theorem r_files {Q : Value → Shared → Prop} (F : Fr g L s.heap m) (X : K.In g) (W : WRO w a b room g) (hp : plainGet K 353 "files" = true) (hh : hasDictIn K 353 = true) (hf : findIn K (.ref 353) "files" = some none)
    (h : Q (.ref a.fl) { s with toks := s.toks + 1 }) : wpAny (model prog w) A (getAttr (.ref a.w) "files" expr) Q E s := by
  obtain ⟨es, n, e, _, _, _, e1, _⟩ := W.dict
  exact r_attr F X W.inst e e1 hp hh hf rfl h
theorem r_open {Q : Value → Shared → Prop} (F : Fr g L s.heap m) (X : K.In g) (W : WRO w a b room g) (hp : plainGet K 353 "open" = true) (hh : hasDictIn K 353 = true) (hf : findIn K (.ref 353) "open" = some none)
    (h : Q (.ref a.op) { s with toks := s.toks + 1 }) : wpAny (model prog w) A (getAttr (.ref a.w) "open" expr) Q E s := by
  obtain ⟨es, n, e, _, _, _, _, e1, _⟩ := W.dict
  exact r_attr F X W.inst e e1 hp hh hf rfl h
theorem r_fields {Q : Value → Shared → Prop} (F : Fr g L s.heap m) (X : K.In g) (W : WRO w a b room g) (hp : plainGet K 353 "fields" = true) (hh : hasDictIn K 353 = true) (hf : findIn K (.ref 353) "fields" = some none)
    (h : Q (.ref a.fd) { s with toks := s.toks + 1 }) : wpAny (model prog w) A (getAttr (.ref a.w) "fields" expr) Q E s := by
  obtain ⟨es, n, e, _, _, _, _, _, e1⟩ := W.dict
  exact r_attr F X W.inst e e1 hp hh hf rfl h
end
section
variable {prog : Program} {w : World} {K : Type} [DecidableEq K] {knd : KeyKind prog w K} {A : Around} {E : Value → Shared → Prop} {s : Shared} {g : Heap} {L d : Addr} {m : Str → Option Value} {kvs : List (K × Value)} {k : K} {key v : Value}
theorem r_notin {Q : Value → Shared → Prop} (F : Fr g L s.heap m) (hd : g.DictOf knd d kvs) (lo : (d == sysModules) = false) (hkey : knd.is k key = true) (c : Bool) (hb : (valueAt kvs k).isSome = c) (h : Q (.bool (!c)) { s with toks := s.toks + 1 }) :
    wpAny (model prog w) A (compareOp .NotIn key (.ref d)) Q E s := wpAny_notIn_of hkey lo (hd.keep F.keep).mapOf (by rw [hb]; exact h)
end
end Mine
end
section -- MC2
open PySem PySem.W PySem.Calls PyProof.Rows
namespace Mine
theorem band255 (x : Int) : Builtin.bitAnd x 255 = x % 256 := bitAnd_m8 x
section
variable {prog : Program} {w : World} {A : Around} {E : Value → Shared → Prop} {s : Shared}
theorem r_and255 {a : Int} {t u : Tok} {Q : Value → Shared → Prop} (h : Q (.int (a % 256) s.toks) { s with toks := s.toks + 1 }) : wpAny (model prog w) A (binaryOp .BitAnd (.int a t) (.int 255 u)) Q E s :=
  and_int (by rw [band255]; exact h)
end
theorem band0 : ∀ (n : Nat) {k a : Int}, 0 ≤ a → a < 2 ^ n → Builtin.bitAnd (k * 2 ^ n) a = 0
  | 0, k, a, h0, h1 => by
    rw [show a = 0 from Int.le_antisymm (Int.lt_add_one_iff.mp h1) h0, bitAnd_zero]
  | n + 1, k, a, h0, h1 => by
    rw [Int.pow_succ] at h1
    rw [Int.pow_succ, ← Int.mul_assoc, kbt_halves, Int.mul_ediv_cancel _ (by decide), if_neg (fun q => by rw [Int.mul_emod_left] at q; exact absurd q.1 (by decide)), band0 n (Int.ediv_nonneg h0 (by decide)) (Int.ediv_lt_of_lt_mul (by decide) h1)]
    rfl
theorem bor256 {k a : Int} (h0 : 0 ≤ a) (h1 : a < 256) : Builtin.bitOr (k * 2 ^ 8) a = k * 256 + a := by
  rw [bitOr_and, band0 8 h0 h1]
  exact Int.sub_zero _
end Mine
end
section -- MC3
open PySem PySem.W PySem.Calls PyProof.Rows
namespace Mine
noncomputable def octL (b v : Int) : List Nat := if b = 8 then [(v % 256).toNat] else [(v % 256).toNat, (v / 256 % 256).toNat]
end Mine
end
section -- CD2
open PySem PySem.W PySem.Calls PyProof.Rows
namespace Mine
section
variable {w : World} {dp un : Nat} {s : Shared} {base : Heap} {outer : List Env} {mean : ExcName → Option Value} {mg mb : Str → Option Value} {n : Nat}
  {R : Result → Shared → Prop}
theorem fits8 {v : Int} (h : fitsB 8 v = true) : -128 ≤ v ∧ v < 128 := of_decide_eq_true h
theorem fits12 {v : Int} (h : fitsB 12 v = true) : -2048 ≤ v ∧ v < 2048 := of_decide_eq_true h
theorem fits16 {v : Int} (h : fitsB 16 v = true) : -32768 ≤ v ∧ v < 32768 := of_decide_eq_true h
end
end Mine
end
section -- KQ
open PySem PySem.W PySem.Calls PyProof.Rows PySem.Spec
namespace Mine
open LCg
section
variable {prog : Program} {w : World} {A : Around} {E : Value → Shared → Prop} {s : Shared} {h₀ : Heap} {L : Addr} {m : Str → Option Value} {env : Env}
theorem Draws.str {x : Str} {t : Tok} {it : Addr} (hh : A.handled = none) : Draws prog w A it [it] x.cps.size (fun i v => ∃ c u, x.cps[i]? = some c ∧ v = .str ⟨#[c]⟩ u) (fun i h => h.IsStrIter it (strIterType x) x t i) := by
  unfold strIterType
  split
  · exact Draws.strAscii hh it x t
  · exact Draws.strWide hh it x t
end
end Mine
end
section -- KF
open PySem PySem.W PySem.Calls PyProof.Rows PySem.Spec
namespace Mine
section
variable {prog : Program} {w : World} {A : Around} {E : Value → Shared → Prop} {s : Shared} {h₀ : Heap} {m : Str → Option Value} {env : Env} {body : List Stmt} {Q : Flow → Shared → Prop} {x : Str} {px : Pos}
theorem letGo_name {it v : Value} {Q' : Unit → Shared → Prop} (h : Q' () s) : wpAny (model prog w) A (letOwnedTupleGo (.Name x px) it v) Q' E s := by
  unfold letOwnedTupleGo
  exact wpAny_pure h
end
end Mine
end
section -- MC5
open PySem PySem.W PySem.Calls PyProof.Rows
namespace Mine
theorem octL_len {b v : Int} (hb : BITS b) : ((octL b v).length : Int) = octs b := by
  rcases hb with rfl | rfl | rfl <;> rfl
theorem octs_pos {b : Int} (hb : BITS b) : 1 ≤ octs b ∧ octs b ≤ 2 := by
  rcases hb with rfl | rfl | rfl <;> decide
end Mine
end
section -- MC6
open PySem PySem.W PySem.Calls PyProof.Rows
namespace Mine
noncomputable def Chan (w : World) (o : Obj) (b : Int) (ub : Str) (r : Int) : Prop := ∃ m1 m2 m3 m4 m5 m6, o.IsDictOf (PySem.strKind PySem.Challenge.rw_sm0006_01.row.prog w) [("mode", .str (Str.ofString "R") m1), ("name", .str (Str.ofString "BANK") m2), ("at", .int 0 m3), ("size", .int (octs b + 1) m4), ("buffer", .str ub m5), ("record", .int r m6)]
noncomputable def Bank (w : World) (o : Obj) (u : Str) : Prop := ∃ t, o.IsDictOf (PySem.strKind PySem.Challenge.rw_sm0006_01.row.prog w) [("BANK", .str u t)]
end Mine
end
section -- MC7
open PySem PySem.W PySem.Calls PyProof.Rows
namespace Mine
noncomputable def nmM (i : Bool) : Str := if i then Str.ofString "M2$" else Str.ofString "M1$"
noncomputable def nmN (i : Bool) : Str := if i then Str.ofString "N2$" else Str.ofString "N1$"
theorem placed_eq {u : Str} {k : Int} (hu : (u.length : Int) = k) : Txt.slice u none (some k) ++ Txt.mul (Str.ofString " ") (k - ↑(Txt.slice u none (some k)).length) = u := by
  have e : Txt.slice u none (some k) = u := by
    rw [S_of u] at hu ⊢
    rw [S_len] at hu
    rw [slice_NS (by omega) (by omega), List.take_of_length_le (by omega)]
  rw [e, hu, Int.sub_self, show Str.ofString " " = S [32] from rfl, mul_S]
  rw [S_of u, show (0 : Int).toNat = 0 from rfl, List.replicate_zero, S_app, List.append_nil]
end Mine
end
section -- MC8
open PySem PySem.W PySem.Calls PyProof.Rows
namespace Mine
theorem get_eq {tx : Str} {txt : List Nat} {B z : Int} (htx : tx = S txt) (h0 : 0 ≤ B) (hz : 0 ≤ z) (h1 : B + z ≤ txt.length) : Txt.slice (Txt.slice tx (some B) (some (B + z)) ++ Txt.mul ⟨#[0]⟩ z) none (some z) = S ((txt.drop B.toNat).take z.toNat) := by
  subst htx
  have e : (B + z - B).toNat = z.toNat := by omega
  have l : ((txt.drop B.toNat).take z.toNat).length = z.toNat := by rw [List.length_take, List.length_drop]; omega
  rw [slice_SS h0 (by omega) h1, e, show (⟨#[0]⟩ : Str) = S [0] from rfl, mul_S, S_app]
  rw [slice_NS hz (by rw [List.length_append, l, List.length_replicate]; omega), List.take_append_of_le_length (by omega), List.take_of_length_le (by omega)]
theorem WRO.cf {w : World} {a : WAddr} {b room : Int} {h : Heap} (W : WRO w a b room h) : (a.c false ≠ a.fl ∧ a.fl ≠ a.c false) ∧ (a.c true ≠ a.fl ∧ a.fl ≠ a.c true) := by
  have := W.nd
  simp only [WAddr.all, List.nodup_cons, List.mem_cons, List.not_mem_nil, or_false, not_or] at this
  obtain ⟨_, _, ⟨_, _, h1, h2, _⟩, _⟩ := this
  exact ⟨⟨fun e => h1 e.symm, h1⟩, ⟨fun e => h2 e.symm, h2⟩⟩
end Mine
end
section -- KL
open PySem PySem.W PySem.Calls PyProof.Rows PySem.Spec
namespace Mine
section
variable {prog : Program} {w : World} {A : Around} {E : Value → Shared → Prop} {s : Shared} {h₀ : Heap} {m : Str → Option Value} {env : Env} {body : List Stmt} {Q : Flow → Shared → Prop}
theorem ints_set {vs : List Value} {ns : List Int} {v : Int} {t : Tok} (h : IntsAre vs ns) : ∀ {k : Nat}, IntsAre (vs.set k (.int v t)) (ns.set k v) := by
  induction h with
  | nil => intro k; exact .nil
  | cons m u r ih =>
    intro k
    cases k with
    | zero => exact .cons v t r
    | succ k => exact .cons m u ih
theorem ints_get {vs : List Value} {ns : List Int} (h : IntsAre vs ns) {k : Nat} (hk : k < ns.length) : ∃ t, vs[k]? = some (.int (ns.getD k 0) t) := by
  have hl := h.length
  have : vs[k]? = some vs[k] := List.getElem?_eq_getElem (by omega)
  obtain ⟨n, t, e, e2⟩ := IntsAre.at h k _ this
  refine ⟨t, ?_⟩
  rw [this, e, List.getD_eq_getElem?_getD, e2]; rfl
end
end Mine
end
section -- MP1
open PySem
namespace Mine
noncomputable def recL (b : Int) (k : Nat) (v : Int) : List Nat := (65 + k) :: octL b v
noncomputable def txtF (b : Int) : Nat → List Int → List Nat
  | _, [] => []
  | k, v :: r => recL b k v ++ txtF b (k + 1) r
noncomputable abbrev zN (b : Int) : Nat := (octs b).toNat + 1
theorem recL_len {b v : Int} {k : Nat} (hb : BITS b) : (recL b k v).length = zN b := by
  have := octL_len (v := v) hb
  have := octs_pos hb
  unfold recL
  rw [List.length_cons]
  show _ = (octs b).toNat + 1
  omega
theorem txtF_len {b : Int} (hb : BITS b) : ∀ {k : Nat} {l : List Int}, (txtF b k l).length = l.length * zN b
  | _, [] => by simp [txtF]
  | k, v :: r => by
    rw [txtF, List.length_append, recL_len hb, txtF_len hb, List.length_cons, Nat.add_mul]
    omega
theorem txtF_get {b : Int} (hb : BITS b) : ∀ {k i : Nat} {l : List Int} (h : i < l.length), ((txtF b k l).drop (i * zN b)).take (zN b) = recL b (k + i) l[i]
  | k, 0, v :: r, _ => by
    rw [Nat.zero_mul, List.drop_zero, txtF]
    exact List.take_left' (recL_len hb)
  | k, i + 1, v :: r, h => by
    rw [txtF, Nat.add_mul, Nat.one_mul, Nat.add_comm, ← List.drop_drop, List.drop_left' (recL_len hb), txtF_get hb (by simpa using h)]
    rw [show k + 1 + i = k + (i + 1) by omega]
    rfl
theorem txtF_set {b w : Int} (hb : BITS b) : ∀ {k i : Nat} {l : List Int} (_ : i < l.length), (txtF b k l).take (i * zN b) ++ recL b (k + i) w ++ (txtF b k l).drop (i * zN b + zN b) = txtF b k (l.set i w)
  | k, 0, v :: r, _ => by
    rw [Nat.zero_mul, List.take_zero, Nat.zero_add, txtF, List.drop_left' (recL_len hb)]
    rfl
  | k, i + 1, v :: r, h => by
    have ih := txtF_set (w := w) hb (k := k + 1) (i := i) (l := r) (by simpa using h)
    rw [List.set_cons_succ, txtF, txtF, ← ih]
    have e1 : (i + 1) * zN b = (recL b k v).length + i * zN b := by rw [recL_len hb, Nat.add_mul]; omega
    rw [e1, List.take_append, Nat.add_sub_cancel_left, List.take_of_length_le (Nat.le_add_right _ _)]
    rw [show (recL b k v).length + i * zN b + zN b = (recL b k v).length + (i * zN b + zN b) by omega, List.drop_append, Nat.add_sub_cancel_left, List.drop_of_length_le (Nat.le_add_right _ _), List.nil_append]
    rw [show k + (i + 1) = k + 1 + i by omega]
    simp only [List.append_assoc]
end Mine
end
section -- MP2
open PySem
namespace Mine
section
variable {b x w : Int} {led : List Int}
theorem z_nat (hb : BITS b) : (octs b + 1).toNat = zN b := by
  have := octs_pos hb
  show _ = (octs b).toNat + 1
  omega
theorem pos_eq (hb : BITS b) (hx : 0 ≤ x) : (x + 1 - 1) * (octs b + 1) = ((x.toNat * zN b : Nat) : Int) := by
  have := octs_pos hb
  have e1 : x + 1 - 1 = (x.toNat : Int) := by omega
  have e2 : octs b + 1 = (zN b : Int) := by show _ = (((octs b).toNat + 1 : Nat) : Int); omega
  rw [e1, e2, Int.natCast_mul]
theorem z_eq (hb : BITS b) : octs b + 1 = (zN b : Int) := by
  have := octs_pos hb
  show _ = (((octs b).toNat + 1 : Nat) : Int)
  omega
theorem pos_nat (hb : BITS b) (hx : 0 ≤ x) : ((x + 1 - 1) * (octs b + 1)).toNat = x.toNat * zN b := by rw [pos_eq hb hx, Int.toNat_natCast]
theorem pos_nat2 (hb : BITS b) (hx : 0 ≤ x) : ((x + 1 - 1) * (octs b + 1) + (octs b + 1)).toNat = x.toNat * zN b + zN b := by
  rw [pos_eq hb hx, z_eq hb]
  omega
theorem text_get (hb : BITS b) (h0 : 0 ≤ x) (h1 : x < led.length) :
    ((txtF b 0 led).drop ((x + 1 - 1) * (octs b + 1)).toNat).take (octs b + 1).toNat = (65 + x.toNat) :: octL b (led.getD x.toNat 0) := by
  have hl : x.toNat < led.length := by omega
  rw [pos_nat hb h0, z_nat hb, txtF_get hb hl, Nat.zero_add, List.getD_eq_getElem?_getD, List.getElem?_eq_getElem hl]
  rfl
theorem text_put (hb : BITS b) (h0 : 0 ≤ x) (h1 : x < led.length) :
    (txtF b 0 led).take ((x + 1 - 1) * (octs b + 1)).toNat ++ ((65 + x.toNat) :: octL b w) ++ (txtF b 0 led).drop ((x + 1 - 1) * (octs b + 1) + (octs b + 1)).toNat = txtF b 0 (led.set x.toNat w) := by
  have hl : x.toNat < led.length := by omega
  rw [pos_nat hb h0, pos_nat2 hb h0]
  have := txtF_set (w := w) hb (k := 0) hl
  rw [Nat.zero_add] at this
  exact this
theorem text_fit (hb : BITS b) (h0 : 0 ≤ x) (h1 : x < led.length) : (x + 1 - 1) * (octs b + 1) + (octs b + 1) ≤ ((txtF b 0 led).length : Int) := by
  rw [pos_eq hb h0, z_eq hb, txtF_len hb]
  have : (x.toNat + 1) * zN b ≤ led.length * zN b := Nat.mul_le_mul_right _ (by omega)
  rw [Nat.add_mul] at this
  omega
theorem text_end (hb : BITS b) : ((txtF b 0 led).length : Int) = ((led.length : Int) + 1 - 1) * (octs b + 1) := by
  rw [pos_eq hb (Int.natCast_nonneg _), txtF_len hb, Int.toNat_natCast]
theorem text_lt (hb : BITS b) (h : led.length < 10) : (txtF b 0 led).length < 100 := by
  have := octs_pos hb
  rw [txtF_len hb]
  have h2 : zN b ≤ 3 := by show (octs b).toNat + 1 ≤ 3; omega
  have := Nat.mul_le_mul (show led.length ≤ 9 by omega) h2
  omega
end
theorem sum_set {w : Int} : ∀ {l : List Int} {i : Nat} (_ : i < l.length), (l.set i w).sum = l.sum - l.getD i 0 + w
  | v :: r, 0, _ => by simp only [List.set_cons_zero, List.sum_cons, List.getD_cons_zero]; omega
  | v :: r, i + 1, h => by
    rw [List.set_cons_succ, List.sum_cons, List.sum_cons, sum_set (by simpa using h), List.getD_cons_succ]
    omega
structure ClOK (b M c0 x1 x2 am hv sp nu : Int) : Prop where
  c : c0 = 0 ∨ c0 = 1 ∨ c0 = 2 ∨ c0 = 3
  x : c0 ≠ 0 → 0 ≤ x1 ∧ x1 ≤ M ∧ 0 ≤ x2 ∧ x2 ≤ M ∧ -30 ≤ am ∧ am < 60
  o1 : c0 = 1 → x1 < M ∧ sp = x1 ∧ nu = hv
  o3 : c0 = 3 → x2 < M ∧ sp = x2 ∧ nu = hv
noncomputable def ChOK (b M sp nu : Int) : Prop := (sp = -1 ∧ nu = 0) ∨ (0 ≤ sp ∧ sp < M ∧ fitsB b nu = true)
noncomputable def yOf (sp : Int) : Nat := if sp < 0 then 0 else 65 + sp.toNat
theorem yOf_pos {sp : Int} (h : 0 ≤ sp) : yOf sp = 65 + sp.toNat := if_neg (by omega)
noncomputable def LedOK (b : Int) (led : List Int) : Prop := 0 < led.length ∧ led.length < 10 ∧ ∀ v ∈ led, fitsB b v = true
theorem LedOK.get {b : Int} {led : List Int} {x : Int} (h : LedOK b led) (h0 : 0 ≤ x) (h1 : x < led.length) : fitsB b (led.getD x.toNat 0) = true := by
  have hl : x.toNat < led.length := by omega
  rw [List.getD_eq_getElem?_getD, List.getElem?_eq_getElem hl]
  exact h.2.2 _ (List.getElem_mem hl)
theorem LedOK.set {b w : Int} {led : List Int} {i : Nat} (h : LedOK b led) (hw : fitsB b w = true) : LedOK b (led.set i w) := by
  refine ⟨by rw [List.length_set]; exact h.1, by rw [List.length_set]; exact h.2.1, fun v hv => ?_⟩
  rcases List.mem_or_eq_of_mem_set hv with hv | rfl
  · exact h.2.2 v hv
  · exact hw
end Mine
end
section -- MP4
open PySem PySem.W PySem.Calls PyProof.Rows
namespace Mine
theorem glue_fold (r : List (List Nat)) : ∀ acc : Array Nat, (r.map S).foldl (fun acc p => acc ++ (Str.ofString "").cps ++ p.cps) acc = acc ++ r.flatten.toArray := by
  induction r with
  | nil => intro acc; simp
  | cons a r ih =>
    intro acc
    rw [List.map_cons, List.foldl_cons, ih]
    have : (Str.ofString "").cps = #[] := by decide
    rw [this]
    apply Array.ext'
    simp
theorem join_S (ls : List (List Nat)) : Txt.join (Str.ofString "") (ls.map S) = S ls.flatten := by
  show Builtin.Str.glued (Str.ofString "") (ls.map S) = _
  unfold Builtin.Str.glued
  cases ls with
  | nil => rfl
  | cons a r =>
    rw [List.map_cons, List.drop_one, List.tail_cons, glue_fold]
    apply congrArg Str.mk
    apply Array.ext'
    simp
noncomputable def recs (b : Int) : Nat → List Int → List (List Nat)
  | _, [] => []
  | k, v :: r => recL b k v :: recs b (k + 1) r
theorem recs_flat {b : Int} : ∀ {k : Nat} {l : List Int}, (recs b k l).flatten = txtF b k l
  | _, [] => rfl
  | k, v :: r => by rw [recs, txtF, List.flatten_cons, recs_flat]
end Mine
end
section -- X6
open PySem PySem.W PySem.Calls PyProof.Rows
open Builtin Builtin.ObjectAttr
namespace Mine
theorem slot_bexc_ga : Slot "Exception" "__getattribute__" "BaseException.__getattribute__" := F.attrBase_Exception.ga
section
variable {prog : Program} {w : World} {A : Around} {E : Value → Shared → Prop} {s : Shared} {K : Frag} {a d1 C : Addr} {o : Obj} {mA : Str → Option Value} {name : Str} {v : Value}
theorem x_inst {h : Heap} (hx : h.get? a = some o) (hc : o.cls = .ref C) (hn : notCls o = true) (hdi : o.dict = some d1) (hA : h.Ns d1 mA) (hv : mA name = some v) :
    ∃ od, InstAt h a o C (some od) ∧ lookIn name od = some (some v) := by
  obtain ⟨od, es, ep, ho, hd, _, hf⟩ := hA
  refine ⟨od, ⟨hx, hc, hn, ?_⟩, ?_⟩
  · rw [hdi]; exact ho
  · unfold lookIn
    rw [hd]
    dsimp only
    rw [← hf, nsFind, findBy] at hv
    rw [Array.find?_toList]
    cases q : es.find? (fun e => e.key.isStr name) with
    | none => rw [q] at hv; cases hv
    | some e => rw [q] at hv; cases hv; rfl
theorem x_get_code {expr : Bool} {Q : Value → Shared → Prop} (X : K.In s.heap) (hx : s.heap.get? a = some o) (hc : o.cls = .ref C) (hn : notCls o = true) (hdi : o.dict = some d1) (hA : s.heap.Ns d1 mA) (hv : mA name = some v) (hh : handedIn v = true)
    (hga : findIn K (.ref C) "__getattribute__" = some (some (.builtin "BaseException.__getattribute__"))) (hgr : findIn K (.ref C) "__getattr__" = some none) (hfn : findIn K (.ref C) name = some none) (hd : hasDictIn K C = true)
    (hb : mroIn K C (.type "BaseException") = some true)
    (h : ∀ t, Q v { s with toks := t }) : wpAny (model prog w) A (getAttr (.ref a) name expr) Q E s := by
  obtain ⟨od, I, hl⟩ := x_inst hx hc hn hdi hA hv
  obtain ⟨hp, g, d, t, os⟩ := s
  have L0 := I.type (M := model prog w)
  have L1 := looks_findIn (M := model prog w) X hga
  have L2 := looks_findIn (M := model prog w) X hgr
  have L3 := looks_find (M := model prog w) X I (findObj_own hd hfn rfl hl)
  have L4 := looks_mroIn (M := model prog w) X hb
  unfold getAttr getAttrBy
  refine wpAny_bind (wpAny_mkText (wpAny_holding (wpAny_bind (L0.at (wpAny_bind (L1.at ?_))))))
  show wpAny _ _ (getAttrByItsOwn (.ref a) (.str name t) (.ref C) (.builtin "BaseException.__getattribute__") _ _) _ _ _
  have hx0 : (expr && onTheHeap (Value.builtin "BaseException.__getattribute__")) = false := by cases expr <;> rfl
  unfold getAttrByItsOwn hookBefore callGetattribute boundAndCalled
  rw [if_pos (show onTheHeap (.ref C) = true from rfl)]
  refine wpAny_bind (L2.at ?_)
  refine wpAny_bind (wpAny_attempt (wpAny_holding ?_))
  rw [if_neg (by rw [hx0]; decide)]
  refine wpAny_bind (wpAny_of_eq (slot_bexc_ga.bind _) ?_)
  refine wpAny_call (codeAny_call_builtin slot_bexc_ga.plain F.entry_bexc_ga ?_)
  have hk : builtinKind "BaseException.__getattribute__" = some .slot := by decide +kernel
  have hsplit : splitId "BaseException.__getattribute__" = some ("BaseException", "__getattribute__") := by decide +kernel
  have ha := F.args_bexc_ga (.ref a) (.str name t)
  have hkk : wpAny (model prog w) A.in1 (checkBuiltinCall "BaseException.__getattribute__" ⟨[.ref a, .str name t], []⟩) (fun _ s₁ => s₁ = ⟨hp, g, d, t + 1, os⟩) (fun _ _ => False) ⟨hp, g, d, t + 1, os⟩ := by
    simp only [checkBuiltinCall, hk, hsplit]
    refine wpAny_bind ?_
    unfold isInstance
    refine wpAny_bind (L0.at (L4.at ?_))
    repeat (first | exact rfl | wp_step)
  refine wpAny_mono hkk (fun _ s₁ q => ?_) (fun _ _ q => q.elim)
  subst q
  unfold Builtin.«object.__getattribute__»
  repeat (first | (with_reducible refine L0.at ?_) | (with_reducible refine L3.at ?_) | (with_reducible refine wpAny_of_eq (handedOut_of hh) ?_) | wp_step)
  exact h _
end
end Mine
end
section -- X7
open PySem PySem.W PySem.Calls PyProof.Rows PySem.Spec
namespace Mine
section
variable {w : World} {dp un n : Nat} {s₀ s' : Shared} {base g hc h' : Heap} {outer : List Env} {mean : ExcName → Option Value} {mg mb : Str → Option Value} {L a e : Addr} {m : Str → Option Value} {name : Str} {scope : Scope} {cd : Value} {news : List (Addr × Obj)} {u x nn : Str}
  {b₀ : Stmt} {suite : List Stmt} {pos np : Pos} {rest : List ExceptHandler} {Q : Flow → Shared → Prop} {E : Value → Shared → Prop}
theorem turned (B : Below (top dp un outer) base outer g) (F : Fr g L hc m) (N : News g L hc news) (k : KpF ((envOf name scope L a cd :: outer).filterMap (·.frame)) hc h') :
    ∃ g', KtsTurn (outer.filterMap (·.frame)) g g' ∧ Fr g' L h' m ∧ Below (top dp un outer) base outer g' ∧ News g' L h' news := by
  obtain ⟨g', T, F', B'⟩ := kts_ground (name := name) (scope := scope) (a := a) (cd := cd) (B := hideAll h' ((envOf name scope L a cd :: outer).filterMap (·.frame))) B F (fun b o e hn => hideAll_get _ (k.off b o e hn) hn) (fun b o e => of_hideAll _ e) k.up
  refine ⟨g', T, F', B', fun p hp => ⟨k.off _ _ (N p hp).1 fun hm => ?_, (N p hp).2.1, T.none_ _ (N p hp).2.2⟩⟩
  rcases kts_mem hm with z | z
  · exact (N p hp).2.1 z
  · obtain ⟨_, o, ho, _⟩ := B.frames.mem z
    rw [(N p hp).2.2] at ho; cases ho
end
end Mine
end
section -- X8
open PySem PySem.W PySem.Calls PyProof.Rows PySem.Spec
namespace Mine
section
variable {w : World} {dp un n : Nat} {s₀ s' : Shared} {base g hc h' : Heap} {outer : List Env} {mean : ExcName → Option Value} {mg mb : Str → Option Value} {L a e : Addr} {m : Str → Option Value} {name : Str} {scope : Scope} {cd : Value} {news : List (Addr × Obj)} {u nn : Str}
  {b₀ : Stmt} {suite : List Stmt} {pos np : Pos} {rest : List ExceptHandler} {Q : Flow → Shared → Prop} {E : Value → Shared → Prop}
theorem ExcIn.keepK {h₀ h : Heap} {fl : Option Value} (X : ExcIn h₀ h e u fl) : ∃ oe, h.get? e = some oe ∧ oe.cls = .ref 34 := by
  obtain ⟨_, oe, _, _, _, _, he, hcls, _⟩ := X
  exact ⟨oe, he, hcls⟩
theorem r_caught_as (C : At w dp un base outer mean mg mb s₀.heap n) (B : Below (top dp un outer) base outer g) (F : Fr g L hc m) (N : News g L hc news) (T : Thrown ((envOf name scope L a cd :: outer).filterMap (·.frame)) hc s'.heap e u)
    (ex : nsIn (KO w.params) mainGlobals (Str.ofString "BasicError") = some (some (.ref 34))) (q : ktsIn (KO w.params) 34 "BaseException" = true)
    (hmc : m (Str.ofString "code") = none)
    (k : ∀ h' g' tk oe d1 mA tu, h'.get? e = some oe → oe.cls = .ref 34 → notCls oe = true → oe.dict = some d1 → h'.Ns d1 mA → mA (Str.ofString "code") = some (.str u tu) → KtsTurn (outer.filterMap (·.frame)) g g' → Fr g' L h' (fun y => if y = nn then some (.ref e) else m y) → News g' L h' news → Below (top dp un outer) base outer g' →
      wpAny (model PySem.Challenge.rw_sm0006_01.row.prog w) (((top dp un outer).deeper (envOf name scope L a cd)).mark (some (.ref e))) (execs (b₀ :: suite) (envOf name scope L a cd))
        (fun f s₄ => wpAny (model PySem.Challenge.rw_sm0006_01.row.prog w) ((top dp un outer).deeper (envOf name scope L a cd)) (do bindName (envOf name scope L a cd) nn .none; unbindBehindTheSuite (envOf name scope L a cd) nn pos) (fun _ s₅ => Q f s₅) E s₄)
        (AsSuiteRaised (model PySem.Challenge.rw_sm0006_01.row.prog w) (((top dp un outer).deeper (envOf name scope L a cd)).mark (some (.ref e))) (envOf name scope L a cd) nn pos (notedBy (model PySem.Challenge.rw_sm0006_01.row.prog w) (((top dp un outer).deeper (envOf name scope L a cd)).mark (some (.ref e))) (envOf name scope L a cd) (cameBackBy (model PySem.Challenge.rw_sm0006_01.row.prog w) ((top dp un outer).deeper (envOf name scope L a cd)) (envOf name scope L a cd) E)))
        { s' with heap := h', toks := tk })
    (hk : autoParam (scope.kind = .function) rflT) (hlo : autoParam ((envOf name scope L a cd).kindOf nn = some .local) rflT) (hx : autoParam ((envOf name scope L a cd).kindOf (Str.ofString "BasicError") = some .globalImplicit) rflT) :
    wpAny (model PySem.Challenge.rw_sm0006_01.row.prog w) ((top dp un outer).deeper (envOf name scope L a cd)) (noteFrame (.ref e) (envOf name scope L a cd))
      (fun _ s₂ => wpAny (model PySem.Challenge.rw_sm0006_01.row.prog w) ((top dp un outer).deeper (envOf name scope L a cd)) (setFlight (.ref e) none) (fun _ s₃ =>
        wpAny (model PySem.Challenge.rw_sm0006_01.row.prog w) ((top dp un outer).deeper (envOf name scope L a cd)) (handleBy (.ref e) (envOf name scope L a cd) (.ExceptHandler (some (.Name (Str.ofString "BasicError") np)) (some nn) (b₀ :: suite) pos :: rest)) Q E s₃) E s₂) E s' := by
  have B' := B.push (name := name) (scope := scope) (a := a) (cd := cd) F hk
  refine x_noteFrame (.inr rfl) (Around.frames_deeper B.stack) (T.1.frames B'.frames) rfl T.2 T.1 fun h₄ X₄ k₄ f₄ _ => ?_
  refine x_setFlight (s := { s' with heap := h₄ }) X₄ k₄ fun h₅ X₅ k₅ _ => ?_
  obtain ⟨g₅, T₅, F₅, B₅, N₅⟩ := turned (name := name) (scope := scope) (a := a) (cd := cd) B F N k₅
  have XK₅ := C.X.keeps B₅.stays
  have TT₅ := C.T.keeps B₅.stays
  obtain ⟨oe, hoe, hoec⟩ := X₅.keepK
  obtain ⟨nm, q', N', bs, bm, hdct, sn, sub, ab, col, dd, k0, k1, k2, k3, k5, newId, hC, hbase, hbT⟩ := kts_cls XK₅ q
  refine wpAny_handleBy_cons (codeAny_handlers_test (name_K F₅ XK₅ (topRead_of TT₅) ex ?_ hk hx (by decide))) (by intro q; cases q)
  refine wpAny_excMatches_sub_self (F₅.keep _ _ hC) hoe hoec hbase (codeAny_handlers_suite_as ?_)
  refine x_setFlight (s := { s' with heap := h₅ }) X₅ k₅ fun h₆ X₆ k₆ _ => ?_
  obtain ⟨g₆, T₆, F₆, B₆, N₆⟩ := turned (name := name) (scope := scope) (a := a) (cd := cd) B F N k₆
  obtain ⟨hn, oe6, vs, d1, mA, tu, he, hcls, hdi, hd, hsz, hns, hcode, _⟩ := X₆
  have hLc : ∃ o, hc.get? L = some o := by
    obtain ⟨o, _, _, ho, _⟩ := F.ns
    exact ⟨o, ho⟩
  have heL : e ≠ L := fun q => by
    obtain ⟨o, ho⟩ := hLc
    rw [q, ho] at hn; cases hn
  have hdL : d1 ≠ L := fun q => by
    rw [q] at hns
    obtain ⟨o1, es1, ep1, a1, b1, _, c1⟩ := hns
    obtain ⟨o2, es2, ep2, a2, b2, _, c2⟩ := F₆.ns
    rw [a1] at a2; cases a2
    rw [b1] at b2; cases b2
    have := (c1 (Str.ofString "code")).symm.trans (c2 _)
    rw [hmc] at this
    rw [show mA (Str.ofString "code") = some (.str u tu) from hcode] at this; cases this
  refine wpAny_storeName_local hlo F₆.ns (fun h₇ hn₇ hs₇ => ?_) (by show (scope.kind == .class || (scope.kind == .module && L != mainGlobals)) = false; rw [hk]; rfl)
  have st : ∀ b o, b ≠ L → h₆.get? b = some o → h₇.get? b = some o := fun b o hb e => (hs₇.2 b hb).trans e
  refine k h₇ g₆ _ oe6 d1 mA tu (st _ _ heL he) hcls (by unfold notCls; rw [hd]) hdi ?_ hcode T₆ (F₆.set hn₇ hs₇) (N₆.set hs₇) B₆
  obtain ⟨o1, es1, ep1, a1, r1⟩ := hns
  exact ⟨o1, es1, ep1, st _ _ hdL a1, r1⟩
end
end Mine
end
section -- MC9
open PySem PySem.W PySem.Calls PyProof.Rows
namespace Mine
theorem put_eq {tx ub : Str} {txt bl : List Nat} {B z : Int} (htx : tx = S txt) (hub : ub = S bl) (h0 : 0 ≤ B) (hz : 0 ≤ z) (h1 : B + z ≤ txt.length) :
    Txt.slice tx none (some B) ++ ub ++ Txt.slice tx (some (B + z)) none = S (txt.take B.toNat ++ bl ++ txt.drop (B + z).toNat) := by
  subst htx hub
  rw [slice_NS h0 (by omega), slice_SN (by omega) h1, S_app, S_app]
theorem pad_nil {tx : Str} {B : Int} (hB : B ≤ tx.length) : tx ++ Txt.mul (Str.ofString "\x00") (B - tx.length) = tx := by
  rw [show Str.ofString "\x00" = S [0] from rfl, mul_S]
  have e : (B - (tx.length : Int)).toNat = 0 := by omega
  rw [e, List.replicate_zero]
  have := S_of tx
  rw [this, S_app, List.append_nil]
end Mine
end
section -- CK2
open PySem PySem.W PySem.Calls PyProof.Rows
namespace Mine
theorem ind_beyond {i : Int} {n : Nat} (h : n ≤ i) : PySem.Builtin.Str.strSliceIndices (some i) none 1 n = [] := by
  unfold PySem.Builtin.Str.strSliceIndices sliceRange
  have h0 : ¬ i < 0 := by omega
  have e : max 0 (min i (n : Int)) = n := by omega
  simp only [show (1 : Int) > 0 by decide, if_true, if_neg h0, e, Int.lt_irrefl, if_false]
  rfl
theorem slice_beyond {l : List Nat} {i : Int} (h : l.length ≤ i) : Txt.slice (S l) (some i) none = S [] := by
  unfold Txt.slice
  rw [S_len, ind_beyond h]
  split
  · rename_i q
    cases l with
    | nil => rfl
    | cons x l => simp at q
  · rfl
theorem app_eq {tx ub : Str} {txt bl : List Nat} {B z : Int} (htx : tx = S txt) (hub : ub = S bl) (hz : 0 ≤ z) (h1 : B = txt.length) :
    Txt.slice tx none (some B) ++ ub ++ Txt.slice tx (some (B + z)) none = S (txt ++ bl) := by
  subst htx hub
  rw [slice_NS (by omega) (by omega), slice_beyond (by omega), S_app, S_app, List.append_nil, List.take_of_length_le (by omega)]
end Mine
end
section -- MCB
open PySem PySem.W PySem.Calls PyProof.Rows
namespace Mine
theorem fieldM_eq {b v : Int} {ub : Str} {y : Nat} (hb : BITS b) (hub : ub = S (y :: octL b v)) : Txt.slice ub (some 1) (some (1 + octs b)) = S (octL b v) := by
  subst hub
  have e := octL_len (v := v) hb
  have := octs_pos hb
  rw [slice_SS (by omega) (by omega) (by rw [List.length_cons]; omega)]
  have e2 : (1 + octs b - 1).toNat = (octL b v).length := by omega
  rw [e2]
  show S (List.take _ (octL b v)) = _
  rw [List.take_length]
end Mine
end
section -- X9
open PySem PySem.W PySem.Calls PyProof.Rows
namespace Mine
structure KpG (S fs : List Addr) (h h' : Heap) : Prop where
  off : ∀ b o, h.get? b = some o → b ∉ fs → b ∉ S → h'.get? b = some o
  on : ∀ b o, h.get? b = some o → b ∈ fs → b ∉ S → ∃ sl, h'.get? b = some { o with slots := sl }
theorem kpG_end {base g h h' : Heap} {L : Addr} {outer : List Env} {m' : Str → Option Value} {cells news' : List (Addr × Obj)} {S fs : List Addr} {g' : Heap} (hc : Own base outer h cells) (hk : ∀ b o, h.get? b = some o → b ∉ cells.map Prod.fst → g.get? b = some o) (T : KtsTurn fs g g') (F : Fr g' L h' m') (N : News g' L h' news')
    (hs : ∀ p ∈ cells, p ∈ news' ∨ p.1 ∈ S) (hf : ∀ p ∈ cells, p.1 ∉ fs) : KpG S fs h h' := by
  refine ⟨fun b o e n1 n2 => ?_, fun b o e hm n2 => ?_⟩
  · by_cases q : b ∈ cells.map Prod.fst
    · obtain ⟨p, hp, rfl⟩ := List.mem_map.mp q
      rw [(hc p hp).1] at e; cases e
      exact (N p ((hs p hp).resolve_right n2)).1
    · exact F.keep _ _ (T.other _ _ (hk b o e q) n1)
  · by_cases q : b ∈ cells.map Prod.fst
    · obtain ⟨p, hp, rfl⟩ := List.mem_map.mp q
      exact (hf p hp hm).elim
    · obtain ⟨sl, z⟩ := T.frame _ _ (hk b o e q) hm
      exact ⟨sl, F.keep _ _ z⟩
theorem KpG.toF {fs : List Addr} {h h' : Heap} (k : KpG [] fs h h') : KpF fs h h' := ⟨fun b o e n => k.off b o e n (by simp), fun b o e m _ => k.on b o e m (by simp)⟩
theorem kpF_end {base g h h' : Heap} {L : Addr} {outer : List Env} {m' : Str → Option Value} {cells news' : List (Addr × Obj)} {g' : Heap} (hc : Own base outer h cells) (hk : ∀ b o, h.get? b = some o → b ∉ cells.map Prod.fst → g.get? b = some o) (T : KtsTurn (outer.filterMap (·.frame)) g g') (F : Fr g' L h' m') (N : News g' L h' news')
    (hs : ∀ p ∈ cells, p ∈ news') : KpF (outer.filterMap (·.frame)) h h' := (kpG_end (S := []) hc hk T F N (fun p hp => .inl (hs p hp)) fun p hp => (hc p hp).2.2).toF
section
variable {w : World} {dp un : Nat} {s : Shared} {base : Heap} {outer : List Env} {mean : ExcName → Option Value} {mg mb : Str → Option Value} {n : Nat}
  {R : Result → Shared → Prop}
theorem c_code_ok {lam : Addr} {cells : List (Addr × Obj)} {S : List Addr} {P : Heap → Prop} {k : Nat} (C : At w dp un base outer mean mg mb s.heap (k + 1)) (hp : Own base outer s.heap cells) (hlam : ∃ oc od fd sl, (lam, (⟨oc, od, .func fd, sl⟩ : Obj)) ∈ cells) (HW : ∀ dp' un' outer' s' R', At w dp' un' base outer' mean mg mb s'.heap k → Own base outer' s'.heap cells → Kp [] s.heap s'.heap → (∀ h' tk' v, Kp S s'.heap h' → P h' → R' (.ok (.ret v)) { s' with heap := h', toks := tk' }) → codeAny (model PySem.Challenge.rw_sm0006_01.row.prog w) (top dp' un' outer') (.call (.ref lam) ⟨[],[]⟩) R' s') (hS : ∀ a ∈ S, ∃ o, (a, o) ∈ cells)
  (ret : ∀ h' tk' t, Kp S s.heap h' → P h' → R (.ok (.ret (.str (Str.ofString "") t))) { s with heap := h', toks := tk' }) :
  codeAny (model PySem.Challenge.rw_sm0006_01.row.prog w) (top dp un outer) (.call (.ref 386) ⟨[.ref lam], []⟩) R s := by
  have hX := C.X
  revert hX
  k_fill
  intro hX
  obtain ⟨_, _, _, _, hm⟩ := hlam
  have hc : Own base outer s.heap cells := hp
  refine' enter (binds := [((Str.ofString "work"), .ref lam)]) C hc ?ho ?hcd ?hb ?hl ?_ ?c2 ?c3 ?c4 ?c5
  case ho => k_is
  case hcd => k_is
  case hb => exact BindsTo.of_eq rfl
  case hl => exact locs rfl
  case c2 => rfl
  case c3 => rfl
  case c4 => rfl
  case c5 => decide
  intro g L h₁ F N B X T hk hlt
  with_reducible show wpAny _ _ _ _ _ _
  try dsimp only
  k_fold
  k_steps
  k_dflt (refine' callWith_F0 (FnAt.of N hm) ?_)
  k_dflt (refine' wpAny_call (HW _ _ _ _ _ ?C ?O ?K ?_); (case C => exact At.inner (by assumption) (by assumption) (by assumption) (by first | omega | (simp only [Around.deeper, Around.in1]; omega)) (by first | omega | (simp only [Around.deeper, Around.in1]; omega))); (case O => exact Own.inner B N rfl fun _ h => h); (case K => exact kp_end hc hk F N fun p hp => .inl hp))
  intro h' tk' v kS hP
  have F2 := fr_kp F kS (news_in N hS)
  try dsimp only
  try k_fold
  k_steps
  refine' fin_str (ret _ _ _ (fun b o e nb => kS b o (kp_end (S := []) hc hk F N (fun p hp => .inl hp) b o e (by simp)) nb) hP) ?_
  rfl
theorem c_code_x {lam : Addr} {u : Str} {cells : List (Addr × Obj)} {k : Nat} (C : At w dp un base outer mean mg mb s.heap (k + 1)) (hp : Own base outer s.heap cells) (hlam : ∃ oc od fd sl, (lam, (⟨oc, od, .func fd, sl⟩ : Obj)) ∈ cells) (HW : ∀ dp' un' outer' s' R', At w dp' un' base outer' mean mg mb s'.heap k → Own base outer' s'.heap cells → Kp [] s.heap s'.heap → (∀ e h' tk', Thrown (outer'.filterMap (·.frame)) s'.heap h' e u → R' (.error (.ref e)) { s' with heap := h', toks := tk' }) → codeAny (model PySem.Challenge.rw_sm0006_01.row.prog w) (top dp' un' outer') (.call (.ref lam) ⟨[],[]⟩) R' s')
  (ret : ∀ h' tk' t, KpF (outer.filterMap (·.frame)) s.heap h' → R (.ok (.ret (.str u t))) { s with heap := h', toks := tk' }) :
  codeAny (model PySem.Challenge.rw_sm0006_01.row.prog w) (top dp un outer) (.call (.ref 386) ⟨[.ref lam], []⟩) R s := by
  have hX := C.X
  revert hX
  k_fill
  intro hX
  obtain ⟨_, _, _, _, hm⟩ := hlam
  have hc : Own base outer s.heap cells := hp
  refine' enter (binds := [((Str.ofString "work"), .ref lam)]) C hc ?ho ?hcd ?hb ?hl ?_ ?c2 ?c3 ?c4 ?c5
  case ho => k_is
  case hcd => k_is
  case hb => exact BindsTo.of_eq rfl
  case hl => exact locs rfl
  case c2 => rfl
  case c3 => rfl
  case c4 => rfl
  case c5 => decide
  intro g L h₁ F N B X T hk hlt
  with_reducible show wpAny _ _ _ _ _ _
  try dsimp only
  k_fold
  k_steps
  k_dflt (refine' callWith_F0 (FnAt.of N hm) ?_)
  k_dflt (refine' wpAny_call (HW _ _ _ _ _ ?C ?O ?K ?_); (case C => exact At.inner (by assumption) (by assumption) (by assumption) (by first | omega | (simp only [Around.deeper, Around.in1]; omega)) (by first | omega | (simp only [Around.deeper, Around.in1]; omega))); (case O => exact Own.inner B N rfl fun _ h => h); (case K => exact kp_end hc hk F N fun p hp => .inl hp))
  intro e h' tk' th
  try dsimp only
  k_fold
  k_dflt (refine' r_caught_as (u := u) C B F N th ?ex ?q ?hmc ?_; (case ex => k_is); (case q => kts_isx); (case hmc => rfl))
  intro h2 g2 tk oe d1 mA tu he hcls hnc hdi hns hcode T2 F2 N2 B2
  try dsimp only
  k_steps
  have X2 := C.X.keeps (h' := h2) fun b o e => F2.keep _ _ (B2.stays b o e)
  k_dflt (refine' x_get_code (K := KO w.params) (C := 34) X2 he hcls hnc hdi hns hcode rfl ?ga ?gr ?fn ?hd ?hb ?_; (case ga => k_is); (case gr => k_is); (case fn => k_is); (case hd => k_is); (case hb => k_is))
  intro t3
  k_steps
  refine' fin_str (ret _ _ _ (kpF_end (news' := cells) hc hk T2 (by assumption) (by assumption) fun p hp => hp)) ?_
  rfl
end
end Mine
end
section -- ML
open PySem PySem.W PySem.Calls PyProof.Rows PySem.Spec
namespace Mine
theorem among_snoc {pos : Pos} {a b : Int} {c cv : Value} (l : List Value) (h : TriplesOk l) (e : codeAmong pos (l ++ [rawInt a, rawInt b, c]) = some cv) : codeAmong pos l = some cv ∨ cv = c := by
  fun_induction TriplesOk l with
  | case1 =>
    simp only [List.nil_append, codeAmong, rawInt] at e
    split at e
    · cases e; exact .inr rfl
    · cases e
  | case2 a t b u x rest ih =>
    simp only [List.cons_append, codeAmong] at e ⊢
    split at e
    · rename_i hc; rw [if_pos hc]; exact .inl e
    · rename_i hc; rw [if_neg hc]; exact ih h e
  | case3 l h1 h2 => exact h.elim
noncomputable def QL : Str := (Str.ofString "_law_half" ++ Str.ofString ".<locals>.") ++ Str.ofString "<lambda>"
section
variable {w : World} {dp un : Nat} {s : Shared} {base : Heap} {outer : List Env} {mean : ExcName → Option Value} {mg mb : Str → Option Value} {n : Nat}
  {R : Result → Shared → Prop} {name qual : Str} {params : Arguments} {body : PySem.Expr} {scope : Scope} {cl : List (Str × Addr)} {pm ctv : Value} {c' f : Addr} {args : Args} {binds : List (Str × Value)}
  {cells : List (Addr × Obj)}
theorem enterL (C : At w dp un base outer mean mg mb s.heap n) (hc : Own base outer s.heap cells)
    (ho : (f, kla_obj name qual params body scope cl pm c' ctv) ∈ cells) (hcd : s.heap.CodeRec (.ref c') qual)
    (hbind : bindArgs (kla_fn name qual params body scope cl pm (.ref c') ctv) args = pure binds) (hloc : ∀ y ∈ binds, scope.names.lookup y.1 = some .local)
    (h : ∀ g L h₁, Fr g L h₁ (fun y => binds.reverse.lookup y) → News g L h₁ cells → Below (top dp un outer) base outer g → (KO w.params).In g → Top topProg LSE mean mg mb g →
      (∀ b o, s.heap.get? b = some o → b ∉ cells.map Prod.fst → g.get? b = some o) → (∀ p ∈ cells, p.1 < L) →
      wpAny (model PySem.Challenge.rw_sm0006_01.row.prog w) ((top dp un outer).deeper (envX qual scope L f (.ref c') cl)) (eval body (envX qual scope L f (.ref c') cl))
        (fun v s' => R (.ok (.ret v)) s')
        (fun e s' => wpAny (model PySem.Challenge.rw_sm0006_01.row.prog w) ((top dp un outer).deeper (envX qual scope L f (.ref c') cl)) (leaving (envX qual scope L f (.ref c') cl) e) (fun _ s'' => R (.error e) s'') (fun e' s'' => R (.error e') s'') s')
        { s with heap := h₁, toks := s.toks + binds.length })
    (hco : autoParam (scope.isCoroutine = false) rflT) (hgen : autoParam (scope.isGenerator = false) rflT) (hk : autoParam (scope.kind = .function) rflT)
    (hcell : autoParam (∀ x ∈ scope.names, x.2 ≠ .cell) decT) :
    codeAny (model PySem.Challenge.rw_sm0006_01.row.prog w) (top dp un outer) (.call (.ref f) args) R s := by
  have T := C.T.keeps C.B.stays
  have hroom : dp < recursionLimit := by have := C.dp; unfold recursionLimit; omega
  have gr := ground C hc
  refine kla_callFunE hroom (hc _ ho).1 rfl hco hgen rfl hcd ?_
  rw [hbind]
  refine wpAny_pure (wpAny_newFunctionEnv hcell hloc (fun h₁ hns hsb => ⟨T.nolimit.fresh _ hsb, ?_⟩) hk)
  have hk₁ : ∀ b o, s.heap.get? b = some o → h₁.get? b = some o := fun b o e => hsb.extBut b o (Nat.ne_of_lt (Heap.lt_size e)) (Heap.get?_push_of_some _ e)
  exact kla_codeExpr (h (hideAll s.heap (cells.map Prod.fst)) s.heap.objs.size h₁ ⟨hns, fun b o e => hk₁ b o (of_hideAll _ e), Nat.le_of_eq (hideAll_size _ _)⟩
    (fun p hp => ⟨hk₁ _ _ (hc p hp).1, Nat.ne_of_lt (Heap.lt_size (hc p hp).1), hideAll_none _ (List.mem_map_of_mem hp)⟩)
    ⟨rfl, gr.1, gr.2⟩ (C.X.keeps fun b o e => gr.1 b o e) (C.T.keeps fun b o e => gr.1 b o e) (fun b o e n => hideAll_get _ e n) (fun p hp => Heap.lt_size (hc p hp).1))
end
end Mine
end
section -- KB
open PySem PySem.W PySem.Calls PyProof.Rows PyProof.V PySem.Spec
namespace Mine
theorem kb_canLayAll0 : ∀ ns : List Bool, PyData.canLayAll0 (ns.map PyData.bool) = true
  | [] => rfl
  | _ :: r => by simp [PyData.canLayAll0, PyData.canLay0, kb_canLayAll0 r]
theorem kb_depthAll : ∀ ns : List Bool, PyData.depthAll (ns.map PyData.bool) = 0
  | [] => rfl
  | _ :: r => by simp [PyData.depthAll, PyData.depth, kb_depthAll r]
theorem kb_shaped (ns : List Bool) : SeqAt.shaped (.list (ns.map PyData.bool)) = true := by
  simp [SeqAt.shaped, PyData.canLay0, PyData.depth, kb_canLayAll0, kb_depthAll]
theorem kb_sameAll : ∀ ns : List Bool, PySem.Spec.sameAll (ns.map PyData.bool) (ns.map PyData.bool) = true
  | [] => by simp [PySem.Spec.sameAll]
  | a :: r => by simp [PySem.Spec.sameAll, PySem.Spec.same, kb_sameAll r]
theorem kb_same (ns : List Bool) : PySem.Spec.same (.list (ns.map PyData.bool)) (.list (ns.map PyData.bool)) = true := by
  simp only [PySem.Spec.same]; exact kb_sameAll ns
theorem kb_carried : ∀ {ns : List Bool}, CarriedAll (ns.map Value.bool) (ns.map PyData.bool)
  | [] => .nil
  | _ :: _ => .cons (.bool _) kb_carried
section
variable {prog : Program} {w : World} {A : Around} {E : Value → Shared → Prop} {s : Shared} {a b : Addr} {xs ys : List Value} {bs : List Bool} {Q : Value → Shared → Prop}
theorem eq_bools (ha : s.heap.IsList a xs.toArray) (hb : s.heap.IsList b ys.toArray) (hx : xs = bs.map Value.bool) (hy : ys = bs.map Value.bool) (hu : A.units + 64 < cLine) (h : Q (.bool true) s) :
    wpAny (model prog w) A (compareOp .Eq (.ref a) (.ref b)) Q E s := by
  subst hx hy
  exact eq_dataH_same (reads_newData ha kb_carried) (reads_newData hb kb_carried) (kb_shaped _) (kb_shaped _) hu (SeqAt.noMix_of_shape (.list .bool) rfl _ _ (list_map_has fun _ => rfl) (list_map_has fun _ => rfl)) (by rw [kb_same]; exact h)
theorem ne_bools (ha : s.heap.IsList a xs.toArray) (hb : s.heap.IsList b ys.toArray) (hx : xs = bs.map Value.bool) (hy : ys = bs.map Value.bool) (hu : A.units + 64 < cLine) (h : Q (.bool false) s) :
    wpAny (model prog w) A (compareOp .NotEq (.ref a) (.ref b)) Q E s := by
  subst hx hy
  exact ne_dataH_same (reads_newData ha kb_carried) (reads_newData hb kb_carried) (kb_shaped _) (kb_shaped _) hu (SeqAt.noMix_of_shape (.list .bool) rfl _ _ (list_map_has fun _ => rfl) (list_map_has fun _ => rfl)) (by rw [kb_same]; exact h)
end
end Mine
end
section
namespace Mine
theorem em0 (v : Int) : 0 ≤ v % 256 ∧ v % 256 < 256 := ⟨Int.emod_nonneg v (by decide), Int.emod_lt_of_pos v (by decide)⟩
theorem emN (v : Int) : (((v % 256).toNat : Nat) : Int) = v % 256 := Int.toNat_of_nonneg (em0 v).1
theorem em_lt (v : Int) : (v % 256).toNat < 256 := (Int.toNat_lt (em0 v).1).mpr (em0 v).2
theorem neg_nat {n : Nat} (h : 0 < n) : (-1 + (n : Int)).toNat = n - 1 := by
  cases n with
  | zero => cases h
  | succ k =>
    show (-1 + ((k : Int) + 1)).toNat = k
    rw [Int.add_comm, Int.add_neg_cancel_right]
    rfl
end Mine
end
end
section
open PySem PySem.W PySem.Calls PyProof.Rows
namespace Mine
structure Cx where
  w : World
  A : Around
  env : Env
  g : Heap
  s : Shared
  E : Value → Shared → Prop
section
variable {M : Model} {A : Around} {E : Value → Shared → Prop} {s : Shared} {K : Frag} {h₀ : Heap} {m mg mb : Str → Option Value} {env : Env} {p : Program} {loose : List Str}
  {x : Str} {pos : Pos} {v : Value} {Q : Value → Shared → Prop} {news : List (Addr × Obj)} {L : Addr}
theorem nameG_K (F : Fr h₀ L s.heap m) (X : K.In h₀) (T : TopRead p loose mg mb h₀) (e : nsIn K mainGlobals x = some (some v)) (h : Q v s)
    (hk : env.scope.kind = .function) (hg : env.globals = mainGlobals) (hb : env.builtins = builtinsNs) (hx : env.kindOf x = some .globalImplicit) (hd : (x == ("__debug__" : Str)) = false) :
    wpAny M A (eval (.Name x pos) env) Q E s := by
  obtain ⟨sc, lo, gl, ce, qu, fu, co, fr, bu⟩ := env
  cases hg; cases hb
  exact Name_function_global hk hx (loadGlobal_global (T.g.keeps F.keep) (mg_of X T.g e) h) hd
theorem nameG_B (F : Fr h₀ L s.heap m) (X : K.In h₀) (T : TopRead p loose mg mb h₀) (e : nsIn K mainGlobals x = some none) (hv : bootBuiltins x = some v) (hn : x ≠ "__name__") (h : Q v s)
    (hk : env.scope.kind = .function) (hg : env.globals = mainGlobals) (hb : env.builtins = builtinsNs) (hx : env.kindOf x = some .globalImplicit) (hd : (x == ("__debug__" : Str)) = false) :
    wpAny M A (eval (.Name x pos) env) Q E s := by
  obtain ⟨sc, lo, gl, ce, qu, fu, co, fr, bu⟩ := env
  cases hg; cases hb
  exact Name_function_global hk hx (loadGlobal_builtin (T.g.keeps F.keep) (mg_none_of X T.g e) (T.b.keeps F.keep) ((T.builtins x hn).trans hv) h) hd
theorem nameG_L (F : Fr h₀ env.locals s.heap m) (hv : m x = some v) (h : Q v s)
    (hk : env.scope.kind = .function) (hx : env.kindOf x = some .local) (hd : (x == ("__debug__" : Str)) = false) :
    wpAny M A (eval (.Name x pos) env) Q E s := wpAny_Name (wpAny_loadName_local hk hx F.ns hv h) hd
theorem storeG_L {Q : Unit → Shared → Prop} (F : Fr h₀ env.locals s.heap m) (N : News h₀ env.locals s.heap news)
    (h : ∀ h', Fr h₀ env.locals h' (fun y => if y = x then some v else m y) → News h₀ env.locals h' news → Q () { s with heap := h', toks := s.toks + 1 })
    (hk : env.scope.kind = .function) (hx : env.kindOf x = some .local) : wpAny M A (storeName env x v) Q E s :=
  wpAny_storeName_local hx F.ns (fun h' hn hs => h h' (F.set hn hs) (N.set hs)) (by show (env.scope.kind == .class || (env.scope.kind == .module && env.locals != env.globals)) = false; rw [hk]; rfl)
end
noncomputable abbrev Lo := Str → Option Value
noncomputable abbrev Nw := List (Addr × Obj)
section
variable (c : Cx) (m : Lo) (n : Nw)
noncomputable abbrev Cx.L : Addr := c.env.locals
noncomputable abbrev Cx.sh (h : Heap) (k : Nat) : Shared := { c.s with heap := h, toks := k }
noncomputable abbrev Cx.M : Model := model PySem.Challenge.rw_sm0006_01.row.prog c.w
structure Cx.St (h : Heap) : Prop where
  F : Fr c.g c.L h m
  N : News c.g c.L h n
  D : (n.map Prod.fst).Nodup
noncomputable def EVi (e : PySem.Expr) (v : Int) : Prop := ∀ h k Q, c.St m n h → (∀ t h' k', c.St m n h' → Q (.int v t) (c.sh h' k')) → wpAny c.M c.A (eval e c.env) Q c.E (c.sh h k)
noncomputable def EVs (e : PySem.Expr) (v : Str) : Prop := ∀ h k Q, c.St m n h → (∀ t h' k', c.St m n h' → Q (.str v t) (c.sh h' k')) → wpAny c.M c.A (eval e c.env) Q c.E (c.sh h k)
noncomputable def EVx (e : PySem.Expr) (v : Value) : Prop := ∀ h k Q, c.St m n h → (∀ h' k', c.St m n h' → Q v (c.sh h' k')) → wpAny c.M c.A (eval e c.env) Q c.E (c.sh h k)
noncomputable def CND (e : PySem.Expr) (b : Bool) : Prop := ∀ h k Q, c.St m n h → (∀ h' k', c.St m n h' → Q b (c.sh h' k')) → wpAny c.M c.A (PySem.isTrue e c.env (eval e c.env)) Q c.E (c.sh h k)
noncomputable def ARG (es : List PySem.Expr) (P : List Value → Prop) : Prop := ∀ p h k Q, c.St m n h → (∀ vs h' k', P vs → c.St m n h' → Q vs (c.sh h' k')) → wpAny c.M c.A (spliced (backTo p (starEach es c.env))) Q c.E (c.sh h k)
noncomputable def RUN (st : List Stmt) (Q : Flow → Shared → Prop) : Prop := ∀ h k, c.St m n h → wpAny c.M c.A (execs st c.env) Q c.E (c.sh h k)
noncomputable def CTi (w : World) (r : Nat) (f : Addr) (vs : List Value) (v : Int) : Prop :=
  ∀ dp un base outer mean mg mb (s : Shared) (R : Result → Shared → Prop), At w dp un base outer mean mg mb s.heap r →
    (∀ h' tk' t, Kp [] s.heap h' → R (.ok (.ret (.int v t))) { s with heap := h', toks := tk' }) →
    codeAny (model PySem.Challenge.rw_sm0006_01.row.prog w) (top dp un outer) (.call (.ref f) ⟨vs, []⟩) R s
noncomputable def CTx (w : World) (r : Nat) (f : Addr) (vs : List Value) (v : Value) : Prop :=
  ∀ dp un base outer mean mg mb (s : Shared) (R : Result → Shared → Prop), At w dp un base outer mean mg mb s.heap r →
    (∀ h' tk', Kp [] s.heap h' → R (.ok (.ret v)) { s with heap := h', toks := tk' }) →
    codeAny (model PySem.Challenge.rw_sm0006_01.row.prog w) (top dp un outer) (.call (.ref f) ⟨vs, []⟩) R s
structure Ok (r : Nat) : Prop where
  X : (KO c.w.params).In c.g
  T : ∃ mg mb, TopRead topProg LSE mg mb c.g
  kd : c.env.scope.kind = .function
  gl : c.env.globals = mainGlobals
  bl : c.env.builtins = builtinsNs
  hh : c.A.handled = none
  po : c.env.func.isSome = true → PassesOwn c.M c.A c.env c.E
  stand : ∀ h m, Fr c.g c.L h m → ∀ r', r' < r → ∃ dp un base outer mean mg mb, c.A = top dp un outer ∧ At c.w dp un base outer mean mg mb h r' ∧ ∀ p : Addr × Obj, (h.get? p.1 = some p.2 ∧ p.1 ≠ c.L ∧ c.g.get? p.1 = none) → h.get? p.1 = some p.2 ∧ base.get? p.1 = none ∧ p.1 ∉ outer.filterMap (·.frame)
end
noncomputable def Cx.aft (c : Cx) (rest : List Stmt) (Q : Flow → Shared → Prop) (f : Flow) (s' : Shared) : Prop := match f with
  | .next => wpAny c.M c.A (execs rest c.env) Q c.E s'
  | f => Q f s'
section
variable {c : Cx} {m : Lo} {n : Nw} {r : Nat} {Q : Flow → Shared → Prop}
theorem EVx.name {x : Str} {p : Pos} {v : Value} (H : Ok c r) (hm : m x = some v) (hl : c.env.kindOf x = some .local) (hd : (x == Str.ofString "__debug__") = false) : EVx c m n (.Name x p) v :=
  fun _ _ _ S q => nameG_L S.F hm (q _ _ S) H.kd hl hd
theorem EVx.glob {x : Str} {p : Pos} {v : Value} (H : Ok c r) (e : nsIn (KO c.w.params) mainGlobals x = some (some v)) (hl : c.env.kindOf x = some .globalImplicit) (hd : (x == Str.ofString "__debug__") = false) : EVx c m n (.Name x p) v := by
  intro h k Q S q
  obtain ⟨mg, mb, T⟩ := H.T
  exact nameG_K S.F H.X T e (q _ _ S) H.kd H.gl H.bl hl hd
theorem EVx.built {x : Str} {p : Pos} {v : Value} (H : Ok c r) (e : nsIn (KO c.w.params) mainGlobals x = some none) (hv : bootBuiltins x = some v) (hn : x ≠ Str.ofString "__name__") (hl : c.env.kindOf x = some .globalImplicit) (hd : (x == Str.ofString "__debug__") = false) : EVx c m n (.Name x p) v := by
  intro h k Q S q
  obtain ⟨mg, mb, T⟩ := H.T
  exact nameG_B S.F H.X T e hv hn (q _ _ S) H.kd H.gl H.bl hl hd
theorem EVi.of {e : PySem.Expr} {v : Int} {t : Tok} (h : EVx c m n e (.int v t)) : EVi c m n e v := fun a b Q S q => h a b Q S fun h' k' S' => q t h' k' S'
theorem EVs.of {e : PySem.Expr} {v : Str} {t : Tok} (h : EVx c m n e (.str v t)) : EVs c m n e v := fun a b Q S q => h a b Q S fun h' k' S' => q t h' k' S'
theorem EVi.const {v : Int} {j : Nat} {p : Pos} : EVi c m n (.Constant (.int v) j p) v := fun _ _ _ S q => wpAny_Constant_int (q _ _ _ S)
theorem EVs.const {v : Str} {j : Nat} {p : Pos} : EVs c m n (.Constant (.str v) j p) v := fun _ _ _ S q => Constant_str (q _ _ _ S)
theorem EVi.bin {a b : PySem.Expr} {op : Operator} {p : Pos} {x y z : Int} (ha : EVi c m n a x) (hb : EVi c m n b y)
    (ho : ∀ t u (s : Shared) (Q : Value → Shared → Prop), (∀ t' k', Q (.int z t') { s with toks := k' }) → wpAny c.M c.A (binaryOp op (.int x t) (.int y u)) Q c.E s) : EVi c m n (.BinOp a op b p) z :=
  fun h k Q S q => wpAny_BinOp (ha h k _ S fun t h1 k1 S1 => hb h1 k1 _ S1 fun u h2 k2 S2 => ho t u _ Q fun t' k' => q t' _ k' S2)
theorem EVi.add {a b : PySem.Expr} {p : Pos} {x y : Int} (ha : EVi c m n a x) (hb : EVi c m n b y) : EVi c m n (.BinOp a .Add b p) (x + y) := EVi.bin ha hb fun _ _ _ _ q => add_int (q _ _)
theorem EVi.sub {a b : PySem.Expr} {p : Pos} {x y : Int} (ha : EVi c m n a x) (hb : EVi c m n b y) : EVi c m n (.BinOp a .Sub b p) (x - y) := EVi.bin ha hb fun _ _ _ _ q => sub_int (q _ _)
theorem EVi.fdiv {a b : PySem.Expr} {p : Pos} {x y : Int} (ha : EVi c m n a x) (hb : EVi c m n b y) (h0 : y ≠ 0) (h1 : Builtin.divisionGoesByPylong x y = false) : EVi c m n (.BinOp a .FloorDiv b p) (x.fdiv y) := EVi.bin ha hb fun _ _ _ _ q => floordiv_int h0 (q _ _) (.inl h1)
theorem CND.cmp {a b : PySem.Expr} {op : CmpOp} {p : Pos} {x y : Int} {z : Bool} (ha : EVi c m n a x) (hb : EVi c m n b y)
    (ho : ∀ t u (s : Shared) (Q : Value → Shared → Prop), Q (.bool z) s → wpAny c.M c.A (compareOp op (.int x t) (.int y u)) Q c.E s) (hm : behindInMarks op b = false) : CND c m n (.Compare a [op] [b] p) z :=
  fun h k Q S q => wpAny_isTrue_Compare1 (ha h k _ S fun t h1 k1 S1 => hb h1 k1 _ S1 fun u h2 k2 S2 => ho t u _ _ (wpAny_truthy_bool (q _ _ S2))) hm
theorem CND.cmps {a b : PySem.Expr} {op : CmpOp} {p : Pos} {x y : Str} {z : Bool} (ha : EVs c m n a x) (hb : EVs c m n b y)
    (ho : ∀ t u (s : Shared) (Q : Value → Shared → Prop), Q (.bool z) s → wpAny c.M c.A (compareOp op (.str x t) (.str y u)) Q c.E s) (hm : behindInMarks op b = false) : CND c m n (.Compare a [op] [b] p) z :=
  fun h k Q S q => wpAny_isTrue_Compare1 (ha h k _ S fun t h1 k1 S1 => hb h1 k1 _ S1 fun u h2 k2 S2 => ho t u _ _ (wpAny_truthy_bool (q _ _ S2))) hm
theorem EVi.ife_t {e a b : PySem.Expr} {p : Pos} {x : Int} (hc : CND c m n e true) (ha : EVi c m n a x) : EVi c m n (.IfExp e a b p) x :=
  fun h k Q S q => IfExp_ (hc h k _ S fun h1 k1 S1 => by rw [if_pos rfl]; exact ha h1 k1 Q S1 q)
theorem EVi.ife_f {e a b : PySem.Expr} {p : Pos} {x : Int} (hc : CND c m n e false) (ha : EVi c m n b x) : EVi c m n (.IfExp e a b p) x :=
  fun h k Q S q => IfExp_ (hc h k _ S fun h1 k1 S1 => by rw [if_neg (by decide)]; exact ha h1 k1 Q S1 q)
theorem ARG.nil {P : List Value → Prop} (h : P []) : ARG c m n [] P := fun _ _ _ _ S q => args_nil (q _ _ _ h S)
theorem ARG.i {e : PySem.Expr} {es : List PySem.Expr} {P : List Value → Prop} {v : Int} (he : EVi c m n e v) (hr : ∀ t, ARG c m n es fun vs => P (.int v t :: vs)) (hs : starEach (e :: es) c.env = (false, eval e c.env) :: starEach es c.env) : ARG c m n (e :: es) P :=
  fun p h k Q S q => args_cons (he h k _ S fun t h1 k1 S1 => hr t p h1 k1 _ S1 fun vs h2 k2 hp S2 => q _ h2 k2 hp S2) hs
theorem ARG.x {e : PySem.Expr} {es : List PySem.Expr} {P : List Value → Prop} {v : Value} (he : EVx c m n e v) (hr : ARG c m n es fun vs => P (v :: vs)) (hs : starEach (e :: es) c.env = (false, eval e c.env) :: starEach es c.env) : ARG c m n (e :: es) P :=
  fun p h k Q S q => args_cons (he h k _ S fun h1 k1 S1 => hr p h1 k1 _ S1 fun vs h2 k2 hp S2 => q _ h2 k2 hp S2) hs
theorem RUN.if_f {e : PySem.Expr} {a rest : List Stmt} {p : Pos} (hc : CND c m n e false) (h : RUN c m n rest Q) : RUN c m n (.If e a [] p :: rest) Q :=
  fun h0 k S => wpAny_execs_cons (wpAny_If (hc h0 k _ S fun h1 k1 S1 => by rw [if_neg (by decide)]; exact wpAny_execs_nil (h h1 k1 S1)))
theorem RUN.if_t {e : PySem.Expr} {a b rest : List Stmt} {p : Pos} (hc : CND c m n e true) (h : RUN c m n a (c.aft rest Q)) : RUN c m n (.If e a b p :: rest) Q :=
  fun h0 k S => wpAny_execs_cons (wpAny_If (hc h0 k _ S fun h1 k1 S1 => by rw [if_pos rfl]; exact h h1 k1 S1))
theorem St.kp {h h' : Heap} (S : c.St m n h) (k : Kp [] h h') : c.St m n h' := ⟨fr_all S.F k, news_all S.N k, S.D⟩
theorem EVi.call {f e : PySem.Expr} {es : List PySem.Expr} {p : Pos} {a : Addr} {v : Int} (r' : Nat) (H : Ok c r) (hr : r' < r) (hf : EVx c m n f (.ref a)) (hk : keepIn (KO c.w.params) (.ref a) = true)
    (ha : ARG c m n (e :: es) fun vs => CTi c.w r' a vs v)
    (h0 : autoParam (eval (f.Call (e :: es) [] p) c.env = (eval f c.env >>= fun fv => callWith p fv [] (backTo p (starEach (e :: es) c.env)) (backToKw p (keywordEach [] c.env)))) rflT)
    (hs : autoParam (starEach (e :: es) c.env = (false, eval e c.env) :: starEach es c.env) rflT) (hs2 : autoParam (((backTo p (starEach es c.env)).any fun x => x.1) = false) rflT) : EVi c m n (.Call f (e :: es) [] p) v :=
  fun h k Q S q => Call_ (hf h k _ S fun h1 k1 S1 => callWith_K (H.X.keeps S1.F.keep) hk (ha p h1 k1 _ S1 fun vs h2 k2 hc S2 => ⟨H.X.keeps S2.F.keep, wpAny_call (by
    obtain ⟨dp, un, base, outer, mean, mg, mb, eA, C, _⟩ := H.stand _ _ S2.F r' hr
    rw [eA]
    exact hc dp un base outer mean mg mb _ _ C fun h' k' t kp => q t h' k' (St.kp S2 kp))⟩) hs hs2) h0
noncomputable def Pi (c : Cx) (v : Int) (f : Flow) (s' : Shared) : Prop := ∃ t h k, (∃ m n, c.St m n h) ∧ f = .ret (.int v t) ∧ s' = c.sh h k
theorem RUN.ret_i {e : PySem.Expr} {rest : List Stmt} {p : Pos} {v : Int} (he : EVi c m n e v) : RUN c m n (.Return (some e) p :: rest) (Pi c v) :=
  fun h0 k S => wpAny_execs_cons (wpAny_Return_some (he h0 k _ S fun t h1 k1 S1 => ⟨t, h1, k1, ⟨m, n, S1⟩, rfl, rfl⟩))
theorem RUN.ret_i' {e : PySem.Expr} {rest rest' : List Stmt} {p : Pos} {v : Int} (he : EVi c m n e v) : RUN c m n (.Return (some e) p :: rest) (c.aft rest' (Pi c v)) :=
  fun h0 k S => wpAny_execs_cons (wpAny_Return_some (he h0 k _ S fun t h1 k1 S1 => ⟨t, h1, k1, ⟨m, n, S1⟩, rfl, rfl⟩))
noncomputable def upd (m : Lo) (x : Str) (v : Value) : Lo := fun y => if y = x then some v else m y
theorem RUN.let_i {x : Str} {p p' : Pos} {e : PySem.Expr} {rest : List Stmt} {v : Int} {Q : Flow → Shared → Prop} (H : Ok c r) (he : EVi c m n e v) (hl : c.env.kindOf x = some .local)
    (h : ∀ t, let m' := upd m x (.int v t); RUN c m' n rest Q) (hs : autoParam (swapsWith e (some (.Name x p')) p.line c.env = pure false) rflT) : RUN c m n (.Assign [.Name x p'] e p :: rest) Q :=
  fun h0 k S => wpAny_execs_cons (wpAny_Assign_Name (he h0 k _ S fun t h1 k1 S1 => storeG_L S1.F S1.N (fun h2 F2 N2 => h t h2 _ ⟨F2, N2, S1.D⟩) H.kd hl) hs)
end
section
variable {w : World} {r : Nat} {f : Addr} {vs : List Value} {v : Int} {name qual : Str} {params : Arguments} {body : List Stmt} {scope : Scope} {dV kV doc pm cdv ct oc : Value} {an od : Option Addr} {osl : Array (Option Value)} {binds : List (Str × Value)}
theorem CTi.mk (binds : List (Str × Value)) (ho : (KO w.params).lookup f = some ⟨oc, od, .func (fnOf name qual params body scope dV kV doc pm an cdv ct), osl⟩) (hcd : codeIn (KO w.params) cdv qual = true)
    (hbind : ∀ s, BindsTo s (fnOf name qual params body scope dV kV doc pm an cdv ct) ⟨vs, []⟩ binds) (hloc : (binds.all fun x => decide (scope.names.lookup x.1 = some .local)) = true)
    (h : ∀ A L g s E, let c : Cx := ⟨w, A, envX qual scope L f cdv [], g, s, E⟩; Ok c r → let QQ : Flow → Shared → Prop := (Pi c v); RUN c (fun y => binds.reverse.lookup y) [] body QQ)
    (hco : autoParam (scope.isCoroutine = false) rflT) (hgen : autoParam (scope.isGenerator = false) rflT) (hk : autoParam (scope.kind = .function) rflT)
    (hcell : autoParam (∀ x ∈ scope.names, x.2 ≠ .cell) decT) : CTi w r f vs v := by
  intro dp un base outer mean mg mb s R C ret
  refine enter (binds := binds) C own_nil ho hcd (hbind s) (locs hloc) (fun g L h₁ F N B X T hk1 hlt => ?_) hco hgen hk hcell
  refine wpAny_mono (h ((top dp un outer).deeper (envOf qual scope L f cdv)) L g s _ ⟨X, ⟨mg, mb, topRead_of T⟩, hk, rfl, rfl, rfl, (fun _ => by passes_own), fun h' m' F' r' hr => ⟨dp + 1, un + 3, base, envOf qual scope L f cdv :: outer, mean, mg, mb, rfl, ?_, fun p hp => Own.inner (cells := [p]) (news := [p]) (L := L) (h := h') B (fun q hq => by obtain rfl := List.mem_singleton.mp hq; exact hp) rfl (fun q hq => hq) p (.head _)⟩⟩ h₁ _ ⟨F, N, List.nodup_nil⟩) (fun fl s' P => ?_) (fun _ _ e => e)
  · exact At.inner (s := { s with heap := h' }) C B F' (by omega) (by omega) hk
  · obtain ⟨t, h', k, ⟨m', n', S'⟩, rfl, rfl⟩ := P
    exact ret h' k t (kp_end0 hk1 S'.F)
end
end Mine
end
section
open PySem PySem.W PySem.Calls PyProof.Rows
namespace Mine
section
variable {c : Cx} {m : Lo} {n : Nw} {r : Nat} {Q : Flow → Shared → Prop}
theorem EVi.eq {e : PySem.Expr} {v v' : Int} (h : EVi c m n e v) (q : v = v') : EVi c m n e v' := q ▸ h
theorem EVx.eqb {e : PySem.Expr} {v v' : Bool} (h : EVx c m n e (.bool v)) (q : v = v') : EVx c m n e (.bool v') := q ▸ h
theorem CND.eq {e : PySem.Expr} {v v' : Bool} (h : CND c m n e v) (q : v = v') : CND c m n e v' := q ▸ h
theorem EVi.mul {a b : PySem.Expr} {p : Pos} {x y : Int} (ha : EVi c m n a x) (hb : EVi c m n b y) (h : IntMulOk x y) : EVi c m n (.BinOp a .Mult b p) (x * y) := EVi.bin ha hb fun _ _ _ _ q => mul_int (q _ _) h
theorem EVi.mod {a b : PySem.Expr} {p : Pos} {x y : Int} (ha : EVi c m n a x) (hb : EVi c m n b y) (h : y ≠ 0) : EVi c m n (.BinOp a .Mod b p) (x.fmod y) := EVi.bin ha hb fun _ _ _ _ q => mod_int h (q _ _)
theorem EVi.pow {a b : PySem.Expr} {p : Pos} {x y : Int} (ha : EVi c m n a x) (hb : EVi c m n b y) (h : 0 ≤ y) (h1 : y ≤ 1000000) (h2 : x.natAbs < 2 ^ 64) : EVi c m n (.BinOp a .Pow b p) (x ^ y.toNat) := EVi.bin ha hb fun _ _ _ _ q => pow_int_small h h1 h2 (q _ _)
theorem EVi.shl {a b : PySem.Expr} {p : Pos} {x y : Int} (ha : EVi c m n a x) (hb : EVi c m n b y) (h : 0 ≤ y) (h1 : (Builtin.Int.intBits x : Int) + y ≤ 2 ^ 27) : EVi c m n (.BinOp a .LShift b p) (x * 2 ^ y.toNat) := EVi.bin ha hb fun _ _ _ _ q => lshift_int h h1 (q _ _)
theorem EVi.neg {a : PySem.Expr} {p : Pos} {x : Int} (ha : EVi c m n a x) : EVi c m n (.UnaryOp .USub a p) (-x) := fun h k Q S q => UnaryOp_ (ha h k _ S fun _ h1 _ S1 => neg_int (q _ h1 _ S1))
noncomputable def CI (op : CmpOp) (x y : Int) (z : Bool) : Prop := ∀ (w : World) (A : Around) (E : Value → Shared → Prop) t u (s : Shared) (Q : Value → Shared → Prop), Q (.bool z) s → wpAny (model PySem.Challenge.rw_sm0006_01.row.prog w) A (compareOp op (.int x t) (.int y u)) Q E s
theorem CI.lt {x y : Int} : CI .Lt x y (decide (x < y)) := fun _ _ _ _ _ _ _ q => lt_int q
theorem CI.le {x y : Int} : CI .LtE x y (decide (x ≤ y)) := fun _ _ _ _ _ _ _ q => le_int q
theorem CI.gt {x y : Int} : CI .Gt x y (decide (x > y)) := fun _ _ _ _ _ _ _ q => gt_int q
theorem CI.ge {x y : Int} : CI .GtE x y (decide (x ≥ y)) := fun _ _ _ _ _ _ _ q => ge_int q
theorem CI.eq {x y : Int} : CI .Eq x y (x == y) := fun _ _ _ _ _ _ _ q => eq_int q
theorem CI.ne {x y : Int} : CI .NotEq x y (x != y) := fun _ _ _ _ _ _ _ q => ne_int q
theorem CND.ci {a b : PySem.Expr} {op : CmpOp} {p : Pos} {x y : Int} {z : Bool} (ha : EVi c m n a x) (hb : EVi c m n b y) (ho : CI op x y z) (hm : autoParam (behindInMarks op b = false) rflT) : CND c m n (.Compare a [op] [b] p) z :=
  CND.cmp ha hb (fun t u s Q q => ho _ _ _ t u s Q q) hm
theorem EVx.chain {a b d : PySem.Expr} {op op' : CmpOp} {p : Pos} {x y z : Int} {z1 z2 : Bool} (ha : EVi c m n a x) (hb : EVi c m n b y) (hd : EVi c m n d z) (ho : CI op x y z1) (ho' : CI op' y z z2)
    (hm : autoParam (lastMarks [op, op'] [b, d] = false) rflT) : EVx c m n (.Compare a [op, op'] [b, d] p) (.bool (z1 && z2)) :=
  fun h k Q S q => Compare_chain (ha h k _ S fun t h1 k1 S1 => chain_link (hb h1 k1 _ S1 fun u h2 k2 S2 => ho _ _ _ t u _ _ (wpAny_truthy_bool (by
    cases z1 with
    | true => rw [if_pos rfl]; exact chain_last (hd h2 k2 _ S2 fun u2 h3 k3 S3 => ho' _ _ _ u u2 _ _ (q _ _ S3))
    | false => rw [if_neg (by decide)]; exact q _ _ S2)))) hm
theorem CND.of {e : PySem.Expr} {z : Bool} (h : EVx c m n e (.bool z)) (hp : autoParam (PySem.isTrue e c.env (eval e c.env) = (eval e c.env >>= fun v => standAt e.pos >>= fun _ => holding [v] (truthy v))) rflT) : CND c m n e z :=
  fun h0 k Q S q => isTrue_plain (h h0 k _ S fun h1 k1 S1 => wpAny_truthy_bool (q _ _ S1)) hp
theorem CND.not {e : PySem.Expr} {p : Pos} {z : Bool} (h : CND c m n e z) : CND c m n (.UnaryOp .Not e p) (!z) := fun h0 k Q S q => isTrue_not (h h0 k _ S fun h1 k1 S1 => q _ _ S1)
theorem EVx.not {e : PySem.Expr} {p : Pos} {z : Bool} (h : EVx c m n e (.bool z)) : EVx c m n (.UnaryOp .Not e p) (.bool !z) := fun h0 k Q S q => UnaryOp_ (h h0 k _ S fun h1 k1 S1 => not_of (wpAny_truthy_bool (q _ _ S1)))
theorem EVx.bi {f e : PySem.Expr} {es : List PySem.Expr} {p : Pos} {id : String} {v : Value} (hf : EVx c m n f (.builtin id))
    (ha : ARG c m n (e :: es) fun vs => ∀ (s : Shared) (Q : Value → Shared → Prop), (∀ k, Q v { s with toks := k }) → wpAny c.M c.A (call (.builtin id) vs) Q c.E s)
    (h0 : autoParam (eval (f.Call (e :: es) [] p) c.env = (eval f c.env >>= fun fv => callWith p fv [] (backTo p (starEach (e :: es) c.env)) (backToKw p (keywordEach [] c.env)))) rflT)
    (hs : autoParam (starEach (e :: es) c.env = (false, eval e c.env) :: starEach es c.env) rflT) (hs2 : autoParam (((backTo p (starEach es c.env)).any fun x => x.1) = false) rflT) : EVx c m n (.Call f (e :: es) [] p) v :=
  fun h k Q S q => Call_ (hf h k _ S fun h1 k1 S1 => callWith_builtin1 (ha p h1 k1 _ S1 fun vs h2 k2 hc S2 => hc _ _ fun k' => q h2 k' S2) hs hs2) h0
theorem EVx.call {f e : PySem.Expr} {es : List PySem.Expr} {p : Pos} {a : Addr} {v : Value} (r' : Nat) (H : Ok c r) (hr : r' < r) (hf : EVx c m n f (.ref a)) (hk : keepIn (KO c.w.params) (.ref a) = true)
    (ha : ARG c m n (e :: es) fun vs => CTx c.w r' a vs v)
    (h0 : autoParam (eval (f.Call (e :: es) [] p) c.env = (eval f c.env >>= fun fv => callWith p fv [] (backTo p (starEach (e :: es) c.env)) (backToKw p (keywordEach [] c.env)))) rflT)
    (hs : autoParam (starEach (e :: es) c.env = (false, eval e c.env) :: starEach es c.env) rflT) (hs2 : autoParam (((backTo p (starEach es c.env)).any fun x => x.1) = false) rflT) : EVx c m n (.Call f (e :: es) [] p) v :=
  fun h k Q S q => Call_ (hf h k _ S fun h1 k1 S1 => callWith_K (H.X.keeps S1.F.keep) hk (ha p h1 k1 _ S1 fun vs h2 k2 hc S2 => ⟨H.X.keeps S2.F.keep, wpAny_call (by
    obtain ⟨dp, un, base, outer, mean, mg, mb, eA, C, _⟩ := H.stand _ _ S2.F r' hr
    rw [eA]
    exact hc dp un base outer mean mg mb _ _ C fun h' k' kp => q h' k' (St.kp S2 kp))⟩) hs hs2) h0
noncomputable def Px (c : Cx) (v : Value) (f : Flow) (s' : Shared) : Prop := ∃ h k, (∃ m n, c.St m n h) ∧ f = .ret v ∧ s' = c.sh h k
theorem RUN.ret_x {e : PySem.Expr} {rest : List Stmt} {p : Pos} {v : Value} (he : EVx c m n e v) : RUN c m n (.Return (some e) p :: rest) (Px c v) :=
  fun h0 k S => wpAny_execs_cons (wpAny_Return_some (he h0 k _ S fun h1 k1 S1 => ⟨h1, k1, ⟨m, n, S1⟩, rfl, rfl⟩))
end
section
variable {w : World} {r : Nat} {f : Addr} {vs : List Value} {v : Value} {name qual : Str} {params : Arguments} {body : List Stmt} {scope : Scope} {dV kV doc pm cdv ct oc : Value} {an od : Option Addr} {osl : Array (Option Value)} {binds : List (Str × Value)}
theorem CTx.mk (binds : List (Str × Value)) (ho : (KO w.params).lookup f = some ⟨oc, od, .func (fnOf name qual params body scope dV kV doc pm an cdv ct), osl⟩) (hcd : codeIn (KO w.params) cdv qual = true)
    (hbind : ∀ s, BindsTo s (fnOf name qual params body scope dV kV doc pm an cdv ct) ⟨vs, []⟩ binds) (hloc : (binds.all fun x => decide (scope.names.lookup x.1 = some .local)) = true)
    (h : ∀ A L g s E, let c : Cx := ⟨w, A, envX qual scope L f cdv [], g, s, E⟩; Ok c r → let QQ : Flow → Shared → Prop := (Px c v); RUN c (fun y => binds.reverse.lookup y) [] body QQ)
    (hco : autoParam (scope.isCoroutine = false) rflT) (hgen : autoParam (scope.isGenerator = false) rflT) (hk : autoParam (scope.kind = .function) rflT)
    (hcell : autoParam (∀ x ∈ scope.names, x.2 ≠ .cell) decT) : CTx w r f vs v := by
  intro dp un base outer mean mg mb s R C ret
  refine enter (binds := binds) C own_nil ho hcd (hbind s) (locs hloc) (fun g L h₁ F N B X T hk1 hlt => ?_) hco hgen hk hcell
  refine wpAny_mono (h ((top dp un outer).deeper (envOf qual scope L f cdv)) L g s _ ⟨X, ⟨mg, mb, topRead_of T⟩, hk, rfl, rfl, rfl, (fun _ => by passes_own), fun h' m' F' r' hr => ⟨dp + 1, un + 3, base, envOf qual scope L f cdv :: outer, mean, mg, mb, rfl, ?_, fun p hp => Own.inner (cells := [p]) (news := [p]) (L := L) (h := h') B (fun q hq => by obtain rfl := List.mem_singleton.mp hq; exact hp) rfl (fun q hq => hq) p (.head _)⟩⟩ h₁ _ ⟨F, N, List.nodup_nil⟩) (fun fl s' P => ?_) (fun _ _ e => e)
  · exact At.inner (s := { s with heap := h' }) C B F' (by omega) (by omega) hk
  · obtain ⟨h', k, ⟨m', n', S'⟩, rfl, rfl⟩ := P
    exact ret h' k (kp_end0 hk1 S'.F)
end
end Mine
end
section
open PySem PySem.W PySem.Calls PyProof.Rows
namespace Mine
section
variable {c : Cx} {m : Lo} {n : Nw} {r : Nat} {Q : Flow → Shared → Prop}
theorem ARG.s {e : PySem.Expr} {es : List PySem.Expr} {P : List Value → Prop} {v : Str} (he : EVs c m n e v) (hr : ∀ t, ARG c m n es fun vs => P (.str v t :: vs)) (hs : starEach (e :: es) c.env = (false, eval e c.env) :: starEach es c.env) : ARG c m n (e :: es) P :=
  fun p h k Q S q => args_cons (he h k _ S fun t h1 k1 S1 => hr t p h1 k1 _ S1 fun vs h2 k2 hp S2 => q _ h2 k2 hp S2) hs
noncomputable def CNB (c : Cx) (m : Lo) (n : Nw) (op : BoolOp) (es : List PySem.Expr) (b : Bool) : Prop := ∀ whole p h k Q, c.St m n h → (∀ h' k', c.St m n h' → Q b (c.sh h' k')) → wpAny c.M c.A (PySem.isTrue (.BoolOp op es p) c.env whole) Q c.E (c.sh h k)
theorem CNB.an : CNB c m n .And [] true := fun _ _ _ _ _ S q => isTrue_and_nil (q _ _ S)
theorem CNB.on : CNB c m n .Or [] false := fun _ _ _ _ _ S q => isTrue_or_nil (q _ _ S)
theorem CNB.at {e : PySem.Expr} {es : List PySem.Expr} {b : Bool} (h : CND c m n e true) (hr : CNB c m n .And es b) : CNB c m n .And (e :: es) b := fun whole p h0 k Q S q => isTrue_and (h h0 k _ S fun h1 k1 S1 => by rw [if_pos rfl]; exact hr whole p h1 k1 Q S1 q)
theorem CNB.af {e : PySem.Expr} {es : List PySem.Expr} (h : CND c m n e false) : CNB c m n .And (e :: es) false := fun _ _ h0 k Q S q => isTrue_and (h h0 k _ S fun h1 k1 S1 => by rw [if_neg (by decide)]; exact q _ _ S1)
theorem CNB.ot {e : PySem.Expr} {es : List PySem.Expr} (h : CND c m n e true) : CNB c m n .Or (e :: es) true := fun _ _ h0 k Q S q => isTrue_or (h h0 k _ S fun h1 k1 S1 => by rw [if_pos rfl]; exact q _ _ S1)
theorem CNB.of {e : PySem.Expr} {es : List PySem.Expr} {b : Bool} (h : CND c m n e false) (hr : CNB c m n .Or es b) : CNB c m n .Or (e :: es) b := fun whole p h0 k Q S q => isTrue_or (h h0 k _ S fun h1 k1 S1 => by rw [if_neg (by decide)]; exact hr whole p h1 k1 Q S1 q)
theorem CND.bo {op : BoolOp} {es : List PySem.Expr} {p : Pos} {b : Bool} (h : CNB c m n op es b) : CND c m n (.BoolOp op es p) b := fun h0 k Q S q => h _ p h0 k Q S q
noncomputable def CS (op : CmpOp) (x y : Str) (z : Bool) : Prop := ∀ (w : World) (A : Around) (E : Value → Shared → Prop) t u (s : Shared) (Q : Value → Shared → Prop), Q (.bool z) s → wpAny (model PySem.Challenge.rw_sm0006_01.row.prog w) A (compareOp op (.str x t) (.str y u)) Q E s
theorem CS.eq {x y : Str} {z : Bool} (h : (x == y) = z) : CS .Eq x y z := fun _ _ _ _ _ _ _ q => eq_str (h.symm ▸ q)
theorem CS.ne {x y : Str} {z : Bool} (h : (x != y) = z) : CS .NotEq x y z := fun _ _ _ _ _ _ _ q => ne_str (h.symm ▸ q)
theorem CND.cs {a b : PySem.Expr} {op : CmpOp} {p : Pos} {x y : Str} {z : Bool} (ha : EVs c m n a x) (hb : EVs c m n b y) (ho : CS op x y z) (hm : autoParam (behindInMarks op b = false) rflT) : CND c m n (.Compare a [op] [b] p) z :=
  CND.cmps ha hb (fun t u s Q q => ho _ _ _ t u s Q q) hm
theorem EVx.cs {a b : PySem.Expr} {op : CmpOp} {p : Pos} {x y : Str} {z : Bool} (ha : EVs c m n a x) (hb : EVs c m n b y) (ho : CS op x y z) (hm : autoParam (behindInMarks op b = false) rflT) : EVx c m n (.Compare a [op] [b] p) (.bool z) :=
  fun h k Q S q => wpAny_Compare1 (ha h k _ S fun t h1 k1 S1 => hb h1 k1 _ S1 fun u _ _ S2 => ho _ _ _ t u _ _ (q _ _ S2)) hm
theorem RUN.let2 {x y : Str} {es : List PySem.Expr} {p p1 p2 p3 p4 : Pos} {j j' : Nat} {rest : List Stmt} {P : List Value → Prop} (H : Ok c r) (ha : ARG c m n es P) (hl : c.env.kindOf x = some .local) (hl' : c.env.kindOf y = some .local)
    (h : ∀ vs, P vs → ∃ v1 v2, vs = [v1, v2] ∧ ∀ (m' : Lo), m' = upd (upd m y v2) x v1 → RUN c m' n rest Q)
    (h1 : autoParam (swapsWithSole [.Tuple [.Name x p1, .Name y p2] j p3] (.Tuple es j' p4) p.line c.env = pure false) rflT)
    (h2 : autoParam (swappedStores [.Tuple [.Name x p1, .Name y p2] j p3] (.Tuple es j' p4) c.env = pure (some [x, y])) rflT) :
    RUN c m n (.Assign [.Tuple [.Name x p1, .Name y p2] j p3] (.Tuple es j' p4) p :: rest) Q := by
  intro h0 k S
  refine wpAny_execs_cons (Assign_Tuple_swapped (Tuple_ (ha _ h0 k _ S fun vs h3 k3 hp S3 => ?_)) h1 h2)
  obtain ⟨v1, v2, rfl, hr⟩ := h vs hp
  refine kup_newTuple S3.F S3.N (fun D h4 F4 N4 l4 => ?_) (Nat.le_of_ble_eq_true rfl)
  refine unpackItemsN_ F4 N4 (N4.isTup (.head _)) H.hh rfl fun h5 F5 N5 => ?_
  refine assignInOrder_cons (bindName_ (storeG_L F5 (fun p hp => N5 p (List.mem_cons_of_mem _ hp)) (fun h6 F6 N6 => ?_) H.kd hl'))
  refine assignInOrder_cons (bindName_ (storeG_L F6 N6 (fun h7 F7 N7 => ?_) H.kd hl))
  exact assignInOrder_nil (hr _ rfl h7 _ ⟨F7, N7, S3.D⟩)
end
theorem ii_str {w : World} {A : Around} {E : Value → Shared → Prop} {v : Int} {t : Tok} : ∀ (s : Shared) (Q : Value → Shared → Prop), (∀ k, Q (.bool false) { s with toks := k }) → wpAny (model PySem.Challenge.rw_sm0006_01.row.prog w) A (call (.builtin "isinstance") [.int v t, .type "str"]) Q E s := fun _ _ q => IsiPair.int_str (q _)
theorem ii_tup {w : World} {A : Around} {E : Value → Shared → Prop} {v : Int} {t : Tok} : ∀ (s : Shared) (Q : Value → Shared → Prop), (∀ k, Q (.bool false) { s with toks := k }) → wpAny (model PySem.Challenge.rw_sm0006_01.row.prog w) A (call (.builtin "isinstance") [.int v t, .type "tuple"]) Q E s := fun _ _ q => IsiPair.int_tuple (q _)
end Mine
end
section
open PySem PySem.W PySem.Calls PyProof.Rows
namespace Mine
noncomputable def pick (is : List Nat) : Nat → Nw → Nw
  | _, [] => []
  | k, p :: n => bif is.any (Nat.beq k) then p :: pick is (k + 1) n else pick is (k + 1) n
noncomputable def rest (is : List Nat) : Nat → Nw → Nw
  | _, [] => []
  | k, p :: n => bif is.any (Nat.beq k) then rest is (k + 1) n else p :: rest is (k + 1) n
theorem pick_perm {is : List Nat} : ∀ (k : Nat) (n : Nw), n.Perm (pick is k n ++ rest is k n)
  | _, [] => .nil
  | k, p :: n => by
    unfold pick rest
    cases is.any (Nat.beq k) with
    | true => exact (pick_perm (k + 1) n).cons p
    | false => exact ((pick_perm (k + 1) n).cons p).trans (List.perm_middle.symm)
noncomputable abbrev ks (n : Nw) : List Addr := n.map Prod.fst
noncomputable def CTn (w : World) (r : Nat) (f : Addr) (vs : List Value) (cells : Nw) (G : Heap → Prop) (P : Value → Nw → Prop) : Prop :=
  ∀ dp un base outer mean mg mb (s : Shared) (R : Result → Shared → Prop), At w dp un base outer mean mg mb s.heap r → Own base outer s.heap cells → (ks cells).Nodup → G (hideAll s.heap (ks cells)) →
    (∀ v n' h' tk', P v n' → Kp (ks cells) s.heap h' → (ks n').Nodup → (∀ p ∈ n', h'.get? p.1 = some p.2 ∧ (p.1 ∈ ks cells ∨ s.heap.get? p.1 = none)) → R (.ok (.ret v)) { s with heap := h', toks := tk' }) →
    codeAny (model PySem.Challenge.rw_sm0006_01.row.prog w) (top dp un outer) (.call (.ref f) ⟨vs, []⟩) R s
section
variable {c : Cx} {m : Lo} {n : Nw} {r : Nat} {Q : Flow → Shared → Prop}
noncomputable def EVg (c : Cx) (m : Lo) (n : Nw) (e : PySem.Expr) (P : Value → Nw → Prop) : Prop := ∀ h k Q, c.St m n h → (∀ v n' h' k', P v n' → c.St m n' h' → Q v (c.sh h' k')) → wpAny c.M c.A (eval e c.env) Q c.E (c.sh h k)
theorem EVg.mono {e : PySem.Expr} {P P' : Value → Nw → Prop} (h : EVg c m n e P) (q : ∀ v n', P v n' → P' v n') : EVg c m n e P' := fun h0 k Q S q' => h h0 k Q S fun v n' h' k' p S' => q' v n' h' k' (q v n' p) S'
theorem St.call {is : List Nat} {h h' : Heap} {n' : Nw} (S : c.St m n h) (k : Kp (ks (pick is 0 n)) h h') (d : (ks n').Nodup) (q : ∀ p ∈ n', h'.get? p.1 = some p.2 ∧ (p.1 ∈ ks (pick is 0 n) ∨ h.get? p.1 = none)) : c.St m (n' ++ rest is 0 n) h' := by
  have pm := pick_perm (is := is) 0 n
  have D := (pm.map Prod.fst).nodup_iff.mp S.D
  rw [List.map_append] at D
  obtain ⟨_, D2, D3⟩ := List.nodup_append.mp D
  have kn : ∀ a ∈ ks (pick is 0 n), c.g.get? a = none ∧ a ≠ c.L := fun a ha => by
    obtain ⟨p, hp, rfl⟩ := List.mem_map.mp ha
    have := S.N p (pm.mem_iff.mpr (List.mem_append_left _ hp))
    exact ⟨this.2.2, this.2.1⟩
  have gk : ∀ b o, c.g.get? b = some o → h'.get? b = some o := fun b o e => k b o (S.F.keep b o e) fun hb => by
    rw [(kn b hb).1] at e; cases e
  refine ⟨fr_kp S.F k fun a ha => ?_, fun p hp => ?_, ?_⟩
  · exact kn a ha
  · rcases List.mem_append.mp hp with hp | hp
    · obtain ⟨e, q2⟩ := q p hp
      refine ⟨e, ?_, ?_⟩
      · rcases q2 with q2 | q2
        · exact (kn _ q2).2
        · intro e2
          obtain ⟨o, _, _, ho, _⟩ := S.F.ns
          rw [← e2] at ho
          rw [q2] at ho; cases ho
      · rcases q2 with q2 | q2
        · exact (kn _ q2).1
        · cases e3 : c.g.get? p.1 with
          | none => rfl
          | some o => have := S.F.keep _ _ e3; rw [q2] at this; cases this
    · have z := S.N p (pm.mem_iff.mpr (List.mem_append_right _ hp))
      exact ⟨k _ _ z.1 fun hb => D3 _ hb _ (List.mem_map_of_mem hp) rfl, z.2⟩
  · rw [List.map_append]
    refine List.nodup_append.mpr ⟨d, D2, fun a ha b hb e => ?_⟩
    subst e
    obtain ⟨p, hp, rfl⟩ := List.mem_map.mp ha
    rcases (q p hp).2 with q2 | q2
    · exact D3 _ q2 _ hb rfl
    · obtain ⟨p2, hp2, e2⟩ := List.mem_map.mp hb
      have z := (S.N p2 (pm.mem_iff.mpr (List.mem_append_right _ hp2))).1
      rw [e2, q2] at z; cases z
theorem EVg.call {f e : PySem.Expr} {es : List PySem.Expr} {p : Pos} {a : Addr} {G : Heap → Prop} {P : Value → Nw → Prop} (is : List Nat) (r' : Nat) (H : Ok c r) (hr : r' < r) (hf : EVx c m n f (.ref a)) (hk : keepIn (KO c.w.params) (.ref a) = true)
    (ha : ARG c m n (e :: es) fun vs => CTn c.w r' a vs (pick is 0 n) G P) (hG : G c.g) (hGk : ∀ h h', (∀ b o, h.get? b = some o → h'.get? b = some o) → G h → G h')
    (h0 : autoParam (eval (f.Call (e :: es) [] p) c.env = (eval f c.env >>= fun fv => callWith p fv [] (backTo p (starEach (e :: es) c.env)) (backToKw p (keywordEach [] c.env)))) rflT)
    (hs : autoParam (starEach (e :: es) c.env = (false, eval e c.env) :: starEach es c.env) rflT) (hs2 : autoParam (((backTo p (starEach es c.env)).any fun x => x.1) = false) rflT) :
    EVg c m n (.Call f (e :: es) [] p) (fun v n'' => ∃ n', P v n' ∧ n'' = n' ++ rest is 0 n) :=
  fun h k Q S q => Call_ (hf h k _ S fun h1 k1 S1 => callWith_K (H.X.keeps S1.F.keep) hk (ha p h1 k1 _ S1 fun vs h2 k2 hc S2 => ⟨H.X.keeps S2.F.keep, wpAny_call (by
    obtain ⟨dp, un, base, outer, mean, mg, mb, eA, C, ob⟩ := H.stand _ _ S2.F r' hr
    rw [eA]
    have pm := pick_perm (is := is) 0 n
    have D := (pm.map Prod.fst).nodup_iff.mp S2.D
    rw [List.map_append] at D
    have hm : ∀ p ∈ pick is 0 n, p ∈ n := fun p hp => pm.mem_iff.mpr (List.mem_append_left _ hp)
    have og : ∀ p ∈ pick is 0 n, c.g.get? p.1 = none := fun p hp => (S2.N p (hm p hp)).2.2
    refine hc dp un base outer mean mg mb _ _ C (fun p hp => ob p ((S2.N p (hm p hp)))) (List.nodup_append.mp D).1 (hGk c.g _ (fun b o e => hideAll_get _ (S2.F.keep b o e) fun hb => ?_) hG) fun v n' h' k' hP kp d q2 => q v _ h' k' ⟨n', hP, rfl⟩ (St.call S2 kp d q2)
    obtain ⟨p, hp, rfl⟩ := List.mem_map.mp hb
    rw [og p hp] at e; cases e)⟩) hs hs2) h0
noncomputable def Pn (c : Cx) (P : Value → Nw → Prop) (f : Flow) (s' : Shared) : Prop := ∃ v m' n' h k, P v n' ∧ c.St m' n' h ∧ (match f with | .ret u => u | _ => Value.none) = v ∧ s' = c.sh h k
end
section
variable {w : World} {r : Nat} {f : Addr} {vs : List Value} {cells : Nw} {G : Heap → Prop} {P : Value → Nw → Prop} {name qual : Str} {params : Arguments} {body : List Stmt} {scope : Scope} {dV kV doc pm cdv ct oc : Value} {an od : Option Addr} {osl : Array (Option Value)} {binds : List (Str × Value)}
theorem CTn.mk (binds : List (Str × Value)) (ho : (KO w.params).lookup f = some ⟨oc, od, .func (fnOf name qual params body scope dV kV doc pm an cdv ct), osl⟩) (hcd : codeIn (KO w.params) cdv qual = true)
    (hbind : ∀ s, BindsTo s (fnOf name qual params body scope dV kV doc pm an cdv ct) ⟨vs, []⟩ binds) (hloc : (binds.all fun x => decide (scope.names.lookup x.1 = some .local)) = true) (hGk : ∀ h h', (∀ b o, h.get? b = some o → h'.get? b = some o) → G h → G h')
    (h : ∀ A L g s E, let c : Cx := ⟨w, A, envX qual scope L f cdv [], g, s, E⟩; Ok c r → G g → let QQ : Flow → Shared → Prop := (Pn c P); RUN c (fun y => binds.reverse.lookup y) cells body QQ)
    (hco : autoParam (scope.isCoroutine = false) rflT) (hgen : autoParam (scope.isGenerator = false) rflT) (hk : autoParam (scope.kind = .function) rflT)
    (hcell : autoParam (∀ x ∈ scope.names, x.2 ≠ .cell) decT) : CTn w r f vs cells G P := by
  intro dp un base outer mean mg mb s R C hc hD hG ret
  refine enter (binds := binds) C hc ho hcd (hbind s) (locs hloc) (fun g L h₁ F N B X T hk1 hlt => ?_) hco hgen hk hcell
  have hGg : G g := hGk _ _ (fun b o e => hk1 b o (of_hideAll _ e) fun hb => by rw [hideAll_none _ hb] at e; cases e) hG
  refine wpAny_mono (h ((top dp un outer).deeper (envOf qual scope L f cdv)) L g s _ ⟨X, ⟨mg, mb, topRead_of T⟩, hk, rfl, rfl, rfl, (fun _ => by passes_own), fun h' m' F' r' hr => ⟨dp + 1, un + 3, base, envOf qual scope L f cdv :: outer, mean, mg, mb, rfl, ?_, fun p hp => Own.inner (cells := [p]) (news := [p]) (L := L) (h := h') B (fun q hq => by obtain rfl := List.mem_singleton.mp hq; exact hp) rfl (fun q hq => hq) p (.head _)⟩⟩ hGg h₁ _ ⟨F, N, hD⟩) (fun fl s' P => ?_) (fun _ _ e => e)
  · exact At.inner (s := { s with heap := h' }) C B F' (by omega) (by omega) hk
  · obtain ⟨v, m', n', h', k, hP, S', rfl, rfl⟩ := P
    refine ret _ n' h' k hP (fun b o e hb => S'.F.keep _ _ (hk1 b o e hb)) S'.D fun p hp => ⟨(S'.N p hp).1, ?_⟩
    by_cases q : p.1 ∈ ks cells
    · exact .inl q
    · cases e : s.heap.get? p.1 with
      | none => exact .inr rfl
      | some o => have := hk1 _ _ e q; rw [(S'.N p hp).2.2] at this; cases this
end
end Mine
end
section
open PySem PySem.W PySem.Calls PyProof.Rows
namespace Mine
theorem Upd.at {D : Addr} {o o' : Obj} : ∀ {n : Nw} {i : Nat}, n[i]? = some (D, o) → (ks n).Nodup → Upd D o o' n (n.set i (D, o'))
  | [], _, h, _ => by cases h
  | p :: n, 0, h, d => by
    cases h
    refine .head fun q hq e => (List.nodup_cons.mp d).1 ?_
    have := List.mem_map_of_mem (f := Prod.fst) hq
    rw [e] at this; exact this
  | p :: n, i + 1, h, d => by
    have h' : n[i]? = some (D, o) := by simpa using h
    refine .tail (fun e => (List.nodup_cons.mp d).1 ?_) (Upd.at h' (List.nodup_cons.mp d).2)
    have := List.mem_map_of_mem (f := Prod.fst) (List.mem_of_getElem? h')
    rw [e]; exact this
theorem ks_set {D : Addr} {o o' : Obj} : ∀ {n : Nw} {i : Nat}, n[i]? = some (D, o) → (n.set i (D, o')).map Prod.fst = n.map Prod.fst
  | [], _, h => by cases h
  | p :: n, 0, h => by cases h; rfl
  | p :: n, i + 1, h => by
    have h' : n[i]? = some (D, o) := by simpa using h
    show _ :: _ = _ :: _
    exact congrArg _ (ks_set h')
noncomputable abbrev lstO (vs : List Value) (k : Nat) : Obj := { cls := .type "list", data := .seq vs.toArray k }
section
variable {c : Cx} {m : Lo} {n : Nw} {r : Nat} {Q : Flow → Shared → Prop}
theorem Cx.St.isList {h : Heap} (S : c.St m n h) {i : Nat} {a : Addr} {vs : List Value} {k : Nat} (e : n[i]? = some (a, lstO vs k)) : h.IsList a vs.toArray := ⟨_, (S.N _ (List.mem_of_getElem? e)).1, rfl, _, rfl⟩
theorem Cx.St.get {h : Heap} (S : c.St m n h) {i : Nat} {a : Addr} {o : Obj} (e : n[i]? = some (a, o)) : h.get? a = some o := (S.N _ (List.mem_of_getElem? e)).1
theorem EVx.item {a b : PySem.Expr} {p : Pos} {l : Addr} {vs : List Value} {k i : Nat} {j : Int} {v : Value} (ha : EVx c m n a (.ref l)) (hb : EVi c m n b j) (e : n[i]? = some (l, lstO vs k)) (h0 : 0 ≤ j) (h1 : j < 2 ^ 63) (hv : vs[j.toNat]? = some v)
    (hs : autoParam (∀ u, subscripted b false (Value.ref l) (.int j u) = operate [.ref l, .int j u] (getItem (.ref l) (.int j u))) irflT) : EVx c m n (.Subscript a b p) v :=
  fun h k Q S q => Subscript_ (ha h k _ S fun h1' k1 S1 => hb h1' k1 _ S1 fun u h2 k2 S2 => item_litK (S2.isList e) h0 h1 hv (q _ _ S2) (hs u))
theorem EVi.bi {f e : PySem.Expr} {es : List PySem.Expr} {p : Pos} {id : String} {v : Int} (hf : EVx c m n f (.builtin id))
    (ha : ARG c m n (e :: es) fun vs => ∀ (h : Heap) (k : Nat) (Q : Value → Shared → Prop), c.St m n h → (∀ t k', Q (.int v t) (c.sh h k')) → wpAny c.M c.A (PySem.call (.builtin id) vs) Q c.E (c.sh h k))
    (h0 : autoParam (eval (f.Call (e :: es) [] p) c.env = (eval f c.env >>= fun fv => callWith p fv [] (backTo p (starEach (e :: es) c.env)) (backToKw p (keywordEach [] c.env)))) rflT)
    (hs : autoParam (starEach (e :: es) c.env = (false, eval e c.env) :: starEach es c.env) rflT) (hs2 : autoParam (((backTo p (starEach es c.env)).any fun x => x.1) = false) rflT) : EVi c m n (.Call f (e :: es) [] p) v :=
  fun h k Q S q => Call_ (hf h k _ S fun h1 k1 S1 => callWith_builtin1 (ha p h1 k1 _ S1 fun vs h2 k2 hc S2 => hc h2 k2 _ S2 fun t k' => q t h2 k' S2) hs hs2) h0
theorem b_len {l : Addr} {vs : List Value} {k i : Nat} {v : Int} (e : n[i]? = some (l, lstO vs k)) (hv : (vs.length : Int) = v) (hs : v < 2 ^ 62) : ∀ (h : Heap) (k : Nat) (Q : Value → Shared → Prop), c.St m n h → (∀ t k', Q (.int v t) (c.sh h k')) → wpAny c.M c.A (PySem.call (.builtin "len") [.ref l]) Q c.E (c.sh h k) :=
  fun h k Q S q => by
    subst hv
    refine len_list (S.isList e) ?_ (q _ _)
    simp only [List.size_toArray]; omega
theorem b_abs {v : Int} {t : Tok} : ∀ (h : Heap) (k : Nat) (Q : Value → Shared → Prop), c.St m n h → (∀ t k', Q (.int (if v < 0 then -v else v) t) (c.sh h k')) → wpAny c.M c.A (PySem.call (.builtin "abs") [.int v t]) Q c.E (c.sh h k) := fun _ _ _ _ q => call_abs_int fun u tk => q u tk
theorem RUN.seti {o i e : PySem.Expr} {p p' : Pos} {rest : List Stmt} {l : Addr} {vs : List Value} {k z : Nat} {j v : Int} {q : Tok → List Value} (he : EVi c m n e v) (ho : EVx c m n o (.ref l)) (hi : EVi c m n i j) (hz : n[z]? = some (l, lstO vs k)) (h0 : 0 ≤ j) (h1 : j < 2 ^ 63)
    (hq : ∀ t, ki_setL vs j.toNat (.int v t) = some (q t)) (h : ∀ t, let n' := n.set z (l, lstO (q t) k); RUN c m n' rest Q) (hs : autoParam (swapsWith e (some (o.Subscript i p')) p.line c.env = pure false) rflT) : RUN c m n (.Assign [.Subscript o i p'] e p :: rest) Q :=
  fun h0' k0 S => wpAny_execs_cons (wpAny_Assign_Subscript (he h0' k0 _ S fun t h2 k2 S2 => ho h2 k2 _ S2 fun h3 k3 S3 => hi h3 k3 _ S3 fun u h4 k4 S4 => by
    have up := Upd.at (o' := lstO (q t) k) hz S4.D
    exact ki_set S4.F S4.N h0 h1 (hq t) up fun h5 F5 N5 => h t h5 _ ⟨F5, N5, by rw [ks_set hz]; exact S4.D⟩) hs)
theorem RUN.ret_n {e : PySem.Expr} {rest : List Stmt} {p : Pos} {P : Value → Nw → Prop} {v : Int} (he : EVi c m n e v) (hP : ∀ t, P (.int v t) n) : RUN c m n (.Return (some e) p :: rest) (Pn c P) :=
  fun h0 k S => wpAny_execs_cons (wpAny_Return_some (he h0 k _ S fun t h1 k1 S1 => ⟨_, m, n, h1, k1, hP t, S1, rfl, rfl⟩))
theorem RUN.ret_n' {e : PySem.Expr} {rest : List Stmt} {p : Pos} (P : Value → Nw → Prop) {v : Int} (he : EVi c m n e v) (hP : ∀ t, P (.int v t) n) (hq : ∀ u s', Pn c P (.ret u) s' → Q (.ret u) s') : RUN c m n (.Return (some e) p :: rest) Q :=
  fun h0 k S => wpAny_execs_cons (wpAny_Return_some (he h0 k _ S fun t h1 k1 S1 => hq _ _ ⟨_, m, n, h1, k1, hP t, S1, rfl, rfl⟩))
end
end Mine
end
section
open PySem PySem.W PySem.Calls PyProof.Rows
namespace Mine
section
variable {c : Cx} {m : Lo} {n : Nw} {r : Nat} {Q : Flow → Shared → Prop}
noncomputable def EVr (c : Cx) (m : Lo) (n : Nw) (e : PySem.Expr) (a d : Int) (N : Nat) : Prop := ∀ h k Q, c.St m n h → (∀ r b t u v h' k', c.St m n h' → IsRange h' r a b d t u v → Builtin.Range.small a b d = true → Builtin.Range.rangeSize a b d = ((N : Nat) : Int) → Q (.ref r) (c.sh h' k')) → wpAny c.M c.A (eval e c.env) Q c.E (c.sh h k)
theorem EVr.r1 {f e : PySem.Expr} {p : Pos} {v : Int} {N : Nat} (hf : EVx c m n f (.type "range")) (he : EVi c m n e v) (hsm : Builtin.Range.small 0 v 1 = true) (hN : Builtin.Range.rangeSize 0 v 1 = ((N : Nat) : Int))
    (h0 : autoParam (eval (f.Call [e] [] p) c.env = (eval f c.env >>= fun fv => callWith p fv [] (backTo p (starEach [e] c.env)) (backToKw p (keywordEach [] c.env)))) rflT)
    (hs : autoParam (starEach [e] c.env = (false, eval e c.env) :: starEach [] c.env) rflT) : EVr c m n (.Call f [e] [] p) 0 1 N :=
  fun h k Q S q => Call_ (hf h k _ S fun h1 k1 S1 => callWith_type1 (args_cons (he h1 k1 _ S1 fun t h2 k2 S2 => args_nil (range1_rows S2.F S2.N fun h' tk t1 u1 v1 hr F' N' _ => q _ _ _ _ _ h' tk ⟨F', N', S2.D⟩ hr hsm hN)) hs) hs rfl) h0
end
end Mine
end
section
open PySem PySem.W PySem.Calls PyProof.Rows
namespace Mine
section
variable {c : Cx} {m : Lo} {n : Nw} {r : Nat} {Q : Flow → Shared → Prop} {a : WAddr} {b room : Int}
theorem EVi.wbits {x : Str} {p p' : Pos} (H : Ok c r) (W : WRO c.w a b room c.g) (hx : EVx c m n (.Name x p') (.ref a.w)) : EVi c m n (.Attribute (.Name x p') (Str.ofString "bits") p) b :=
  fun h k Q S q => Attribute_Name_ (hx h k _ S fun _ _ S1 => r_bits S1.F H.X W (by kernel_rfl) (by kernel_rfl) (by kernel_rfl) fun t => q t _ _ S1)
theorem EVi.wdigits {x : Str} {p p' : Pos} (H : Ok c r) (W : WRO c.w a b room c.g) (hx : EVx c m n (.Name x p') (.ref a.w)) : EVi c m n (.Attribute (.Name x p') (Str.ofString "digits") p) 9 :=
  fun h k Q S q => Attribute_Name_ (hx h k _ S fun _ _ S1 => r_digits S1.F H.X W (by kernel_rfl) (by kernel_rfl) (by kernel_rfl) fun t => q t _ _ S1)
theorem EVi.wroom {x : Str} {p p' : Pos} (H : Ok c r) (W : WRO c.w a b room c.g) (hx : EVx c m n (.Name x p') (.ref a.w)) : EVi c m n (.Attribute (.Name x p') (Str.ofString "room") p) room :=
  fun h k Q S q => Attribute_Name_ (hx h k _ S fun _ _ S1 => r_room S1.F H.X W (by kernel_rfl) (by kernel_rfl) (by kernel_rfl) fun t => q t _ _ S1)
theorem EVx.wfiles {x : Str} {p p' : Pos} (H : Ok c r) (W : WRO c.w a b room c.g) (hx : EVx c m n (.Name x p') (.ref a.w)) : EVx c m n (.Attribute (.Name x p') (Str.ofString "files") p) (.ref a.fl) :=
  fun h k Q S q => Attribute_Name_ (hx h k _ S fun _ _ S1 => r_files S1.F H.X W (by kernel_rfl) (by kernel_rfl) (by kernel_rfl) (q _ _ S1))
theorem EVx.wopen {x : Str} {p p' : Pos} (H : Ok c r) (W : WRO c.w a b room c.g) (hx : EVx c m n (.Name x p') (.ref a.w)) : EVx c m n (.Attribute (.Name x p') (Str.ofString "open") p) (.ref a.op) :=
  fun h k Q S q => Attribute_Name_ (hx h k _ S fun _ _ S1 => r_open S1.F H.X W (by kernel_rfl) (by kernel_rfl) (by kernel_rfl) (q _ _ S1))
theorem EVx.wfields {x : Str} {p p' : Pos} (H : Ok c r) (W : WRO c.w a b room c.g) (hx : EVx c m n (.Name x p') (.ref a.w)) : EVx c m n (.Attribute (.Name x p') (Str.ofString "fields") p) (.ref a.fd) :=
  fun h k Q S q => Attribute_Name_ (hx h k _ S fun _ _ S1 => r_fields S1.F H.X W (by kernel_rfl) (by kernel_rfl) (by kernel_rfl) (q _ _ S1))
theorem RUN.ret_nx {e : PySem.Expr} {rest : List Stmt} {p : Pos} {P : Value → Nw → Prop} {v : Value} (he : EVx c m n e v) (hP : P v n) : RUN c m n (.Return (some e) p :: rest) (Pn c P) :=
  fun h0 k S => wpAny_execs_cons (wpAny_Return_some (he h0 k _ S fun h1 k1 S1 => ⟨_, m, n, h1, k1, hP, S1, rfl, rfl⟩))
end
theorem WRO.kp {w : World} {a : WAddr} {b room : Int} : ∀ h h' : Heap, (∀ x o, h.get? x = some o → h'.get? x = some o) → WRO w a b room h → WRO w a b room h' := fun _ _ k W => W.keeps k
end Mine
end
section
open PySem PySem.W PySem.Calls PyProof.Rows
namespace Mine
noncomputable abbrev SKw (w : World) := PySem.strKind PySem.Challenge.rw_sm0006_01.row.prog w
noncomputable abbrev IKw (w : World) := PySem.intKind PySem.Challenge.rw_sm0006_01.row.prog w
section
variable {c : Cx} {m : Lo} {n : Nw} {r : Nat} {Q : Flow → Shared → Prop}
theorem it_dict {K : Type} [DecidableEq K] {knd : KeyKind PySem.Challenge.rw_sm0006_01.row.prog c.w K} {h : Heap} {k0 : Nat} {d : Addr} {kvs : List (K × Value)} {k : K} {key v : Value} {value slice : PySem.Expr} {Q : Value → Shared → Prop} (X : h.DictOf knd d kvs) (hkey : knd.is k key = true) (hl : valueAt kvs k = some v) (q : ∀ k', Q v (c.sh h k'))
    (hs : subscripted slice false (Value.ref d) key = operate [.ref d, key] (getItem (.ref d) key)) : wpAny c.M c.A (subscriptTail value slice (.ref d) key) Q c.E (c.sh h k0) :=
  tail_any (s := c.sh h k0) (Heap.DictOf.typeIs (s := c.sh h k0) X) slot_dict_getitem.lookup (wpAny_getItem_of hkey (Heap.DictOf.mapOf X) hl (q _)) hs
theorem EVx.ditem {a b : PySem.Expr} {p : Pos} {d : Addr} {key : Str} {o : Obj} {kvs : List (Str × Value)} {i : Nat} {v : Value} (ha : EVx c m n a (.ref d)) (hb : EVs c m n b key) (e : n[i]? = some (d, o)) (hd : o.IsDictOf (SKw c.w) kvs) (hv : valueAt kvs key = some v)
    (hs : autoParam (∀ t, subscripted b false (Value.ref d) (.str key t) = operate [.ref d, .str key t] (getItem (.ref d) (.str key t))) irflT) : EVx c m n (.Subscript a b p) v :=
  fun h k Q S q => Subscript_ (ha h k _ S fun h1 k1 S1 => hb h1 k1 _ S1 fun t h2 k2 S2 => it_dict (knd := SKw c.w) (kda_dict (s := c.sh h2 k2) S2.N (List.mem_of_getElem? e) hd) (strKind_is _ _ _ _) hv (fun k' => q _ k' S2) (hs t))
theorem EVx.gitem {a b : PySem.Expr} {p : Pos} {d : Addr} {key : Str} {kvs : List (Str × Value)} {v : Value} (ha : EVx c m n a (.ref d)) (hb : EVs c m n b key) (hd : Heap.DictOf (SKw c.w) c.g d kvs) (hv : valueAt kvs key = some v)
    (hs : autoParam (∀ t, subscripted b false (Value.ref d) (.str key t) = operate [.ref d, .str key t] (getItem (.ref d) (.str key t))) irflT) : EVx c m n (.Subscript a b p) v :=
  fun h k Q S q => Subscript_ (ha h k _ S fun h1 k1 S1 => hb h1 k1 _ S1 fun t h2 k2 S2 => it_dict (knd := SKw c.w) (hd.keep S2.F.keep) (strKind_is _ _ _ _) hv (fun k' => q _ k' S2) (hs t))
theorem EVx.gitemI {a b : PySem.Expr} {p : Pos} {d : Addr} {key : Int} {kvs : List (Int × Value)} {v : Value} (ha : EVx c m n a (.ref d)) (hb : EVi c m n b key) (hd : Heap.DictOf (IKw c.w) c.g d kvs) (hv : valueAt kvs key = some v)
    (hs : autoParam (∀ t, subscripted b false (Value.ref d) (.int key t) = operate [.ref d, .int key t] (getItem (.ref d) (.int key t))) irflT) : EVx c m n (.Subscript a b p) v :=
  fun h k Q S q => Subscript_ (ha h k _ S fun h1 k1 S1 => hb h1 k1 _ S1 fun t h2 k2 S2 => it_dict (knd := IKw c.w) (hd.keep S2.F.keep) (intKind_is _ _ _ _) hv (fun k' => q _ k' S2) (hs t))
theorem CND.nin {a b : PySem.Expr} {p : Pos} {d : Addr} {key : Str} {kvs : List (Str × Value)} {z : Bool} (ha : EVs c m n a key) (hb : EVx c m n b (.ref d)) (hd : Heap.DictOf (SKw c.w) c.g d kvs) (lo : (d == sysModules) = false) (hv : (valueAt kvs key).isSome = z) (hm : autoParam (behindInMarks .NotIn b = false) rflT) : CND c m n (.Compare a [.NotIn] [b] p) (!z) :=
  fun h k Q S q => wpAny_isTrue_Compare1 (ha h k _ S fun t h1 k1 S1 => hb h1 k1 _ S1 fun h2 k2 S2 => r_notin (knd := SKw c.w) S2.F hd lo (strKind_is _ _ _ _) z hv (wpAny_truthy_bool (q _ _ S2))) hm
theorem CND.ninI {a b : PySem.Expr} {p : Pos} {d : Addr} {key : Int} {kvs : List (Int × Value)} {z : Bool} (ha : EVi c m n a key) (hb : EVx c m n b (.ref d)) (hd : Heap.DictOf (IKw c.w) c.g d kvs) (lo : (d == sysModules) = false) (hv : (valueAt kvs key).isSome = z) (hm : autoParam (behindInMarks .NotIn b = false) rflT) : CND c m n (.Compare a [.NotIn] [b] p) (!z) :=
  fun h k Q S q => wpAny_isTrue_Compare1 (ha h k _ S fun t h1 k1 S1 => hb h1 k1 _ S1 fun h2 k2 S2 => r_notin (knd := IKw c.w) S2.F hd lo (intKind_is _ _ _ _) z hv (wpAny_truthy_bool (q _ _ S2))) hm
theorem EVx.none {p : Pos} {j : Nat} : EVx c m n (.Constant .none j p) .none := fun _ _ _ S q => wpAny_Constant_none (q _ _ S)
theorem CND.isn {a : PySem.Expr} {p p' : Pos} {j : Nat} {v : Value} (ha : EVx c m n a v) (hm : autoParam (behindInMarks .Is (.Constant .none j p') = false) rflT) : CND c m n (.Compare a [.Is] [.Constant .none j p'] p) (v == .none) :=
  fun h k Q S q => wpAny_isTrue_Compare1 (ha h k _ S fun h1 k1 S1 => EVx.none h1 k1 _ S1 fun _ _ S2 => is_none (wpAny_truthy_bool (q _ _ S2))) hm
theorem EVx.ife_t {e a b : PySem.Expr} {p : Pos} {x : Value} (hc : CND c m n e true) (ha : EVx c m n a x) : EVx c m n (.IfExp e a b p) x :=
  fun h k Q S q => IfExp_ (hc h k _ S fun h1 k1 S1 => by rw [if_pos rfl]; exact ha h1 k1 Q S1 q)
theorem EVx.ife_f {e a b : PySem.Expr} {p : Pos} {x : Value} (hc : CND c m n e false) (ha : EVx c m n b x) : EVx c m n (.IfExp e a b p) x :=
  fun h k Q S q => IfExp_ (hc h k _ S fun h1 k1 S1 => by rw [if_neg (by decide)]; exact ha h1 k1 Q S1 q)
theorem RUN.let_x {x : Str} {p p' : Pos} {e : PySem.Expr} {rest : List Stmt} {v : Value} (H : Ok c r) (he : EVx c m n e v) (hl : c.env.kindOf x = some .local)
    (h : let m' := upd m x v; RUN c m' n rest Q) (hs : autoParam (swapsWith e (some (.Name x p')) p.line c.env = pure false) rflT) : RUN c m n (.Assign [.Name x p'] e p :: rest) Q :=
  fun h0 k S => wpAny_execs_cons (wpAny_Assign_Name (he h0 k _ S fun h1 k1 S1 => storeG_L S1.F S1.N (fun h2 F2 N2 => h h2 _ ⟨F2, N2, S1.D⟩) H.kd hl) hs)
theorem RUN.let_s {x : Str} {p p' : Pos} {e : PySem.Expr} {rest : List Stmt} {v : Str} (H : Ok c r) (he : EVs c m n e v) (hl : c.env.kindOf x = some .local)
    (h : ∀ t, let m' := upd m x (.str v t); RUN c m' n rest Q) (hs : autoParam (swapsWith e (some (.Name x p')) p.line c.env = pure false) rflT) : RUN c m n (.Assign [.Name x p'] e p :: rest) Q :=
  fun h0 k S => wpAny_execs_cons (wpAny_Assign_Name (he h0 k _ S fun t h1 k1 S1 => storeG_L S1.F S1.N (fun h2 F2 N2 => h t h2 _ ⟨F2, N2, S1.D⟩) H.kd hl) hs)
theorem EVs.add {a b : PySem.Expr} {p : Pos} {x y : Str} (ha : EVs c m n a x) (hb : EVs c m n b y) (hz : x.length + y.length ≤ sizeLine) : EVs c m n (.BinOp a .Add b p) (x ++ y) :=
  fun h k Q S q => wpAny_BinOp (ha h k _ S fun t h1 k1 S1 => hb h1 k1 _ S1 fun u h2 k2 S2 => add_str (fun t' _ => q t' _ _ S2) hz)
theorem EVs.eq {e : PySem.Expr} {v v' : Str} (h : EVs c m n e v) (q : v = v') : EVs c m n e v' := q ▸ h
end
end Mine
end
section
open PySem PySem.W PySem.Calls PyProof.Rows
namespace Mine
section
variable {c : Cx} {m : Lo} {n : Nw} {r : Nat} {Q : Flow → Shared → Prop}
theorem CND.chain {a b d : PySem.Expr} {op op' : CmpOp} {p : Pos} {x y z : Int} {z1 z2 : Bool} (ha : EVi c m n a x) (hb : EVi c m n b y) (hd : EVi c m n d z) (ho : CI op x y z1) (ho' : CI op' y z z2)
    (hm : autoParam (lastMarks [op, op'] [b, d] = false) rflT) : CND c m n (.Compare a [op, op'] [b, d] p) (z1 && z2) :=
  fun h k Q S q => isTrue_chain (ha h k _ S fun t h1 k1 S1 => test_link (hb h1 k1 _ S1 fun u h2 k2 S2 => ho _ _ _ t u _ _ (wpAny_truthy_bool (by
    cases z1 with
    | true => rw [if_pos rfl]; exact test_last (hd h2 k2 _ S2 fun u2 h3 k3 S3 => ho' _ _ _ u u2 _ _ (wpAny_truthy_bool (q _ _ S3)))
    | false => rw [if_neg (by decide)]; exact q _ _ S2)))) hm
theorem EVs.sl_ss {a lo hi : PySem.Expr} {p p' : Pos} {x : Str} {i j : Int} (ha : EVs c m n a x) (hlo : EVi c m n lo i) (hhi : EVi c m n hi j) (hz : x.length ≤ sizeLine)
    (hl : autoParam (∀ (t : Tok) v, letTemporaryGo a (.str x t) v = pure ()) irflT) : EVs c m n (.Subscript a (.Slice (some lo) (some hi) none p') p) (Txt.slice x (some i) (some j)) :=
  fun h k Q S q => Subscript_ (ha h k _ S fun t h1 k1 S1 => wpAny_Slice (evalPart_some_step (hlo h1 k1 _ S1 fun _ h2 k2 S2 => evalPart_some_step (hhi h2 k2 _ S2 fun _ h3 k3 S3 => evalPart_none_step
    (slice_strN_ss_len S3.F S3.N (fun h' t' k' F' N' _ => q t' h' k' ⟨F', N', S3.D⟩) rfl (hl t) hz)))))
theorem EVs.sl_ns {a hi : PySem.Expr} {p p' : Pos} {x : Str} {j : Int} (ha : EVs c m n a x) (hhi : EVi c m n hi j) (hz : x.length ≤ sizeLine)
    (hl : autoParam (∀ (t : Tok) v, letTemporaryGo a (.str x t) v = pure ()) irflT) : EVs c m n (.Subscript a (.Slice none (some hi) none p') p) (Txt.slice x none (some j)) :=
  fun h k Q S q => Subscript_ (ha h k _ S fun t h1 k1 S1 => wpAny_Slice (evalPart_none_step (evalPart_some_step (hhi h1 k1 _ S1 fun _ h3 k3 S3 => evalPart_none_step
    (slice_strN_ns_len S3.F S3.N (fun h' t' k' F' N' _ => q t' h' k' ⟨F', N', S3.D⟩) rfl (hl t) hz)))))
theorem EVs.sl_sn {a lo : PySem.Expr} {p p' : Pos} {x : Str} {i : Int} (ha : EVs c m n a x) (hlo : EVi c m n lo i) (hz : x.length ≤ sizeLine)
    (hl : autoParam (∀ (t : Tok) v, letTemporaryGo a (.str x t) v = pure ()) irflT) : EVs c m n (.Subscript a (.Slice (some lo) none none p') p) (Txt.slice x (some i) none) :=
  fun h k Q S q => Subscript_ (ha h k _ S fun t h1 k1 S1 => wpAny_Slice (evalPart_some_step (hlo h1 k1 _ S1 fun _ h3 k3 S3 => evalPart_none_step (evalPart_none_step
    (slice_strN_sn_len S3.F S3.N (fun h' t' k' F' N' _ => q t' h' k' ⟨F', N', S3.D⟩) rfl (hl t) hz)))))
theorem b_lens {x : Str} {t : Tok} {v : Int} (hv : (x.length : Int) = v) (hs : v < 2 ^ 63) : ∀ (h : Heap) (k : Nat) (Q : Value → Shared → Prop), c.St m n h → (∀ t k', Q (.int v t) (c.sh h k')) → wpAny c.M c.A (PySem.call (.builtin "len") [.str x t]) Q c.E (c.sh h k) :=
  fun _ _ _ _ q => by subst hv; exact len_str (by omega) (q _ _)
theorem EVs.bi {f e : PySem.Expr} {es : List PySem.Expr} {p : Pos} {id : String} {v : Str} (hf : EVx c m n f (.builtin id))
    (ha : ARG c m n (e :: es) fun vs => ∀ (h : Heap) (k : Nat) (Q : Value → Shared → Prop), c.St m n h → (∀ t k', Q (.str v t) (c.sh h k')) → wpAny c.M c.A (PySem.call (.builtin id) vs) Q c.E (c.sh h k))
    (h0 : autoParam (eval (f.Call (e :: es) [] p) c.env = (eval f c.env >>= fun fv => callWith p fv [] (backTo p (starEach (e :: es) c.env)) (backToKw p (keywordEach [] c.env)))) rflT)
    (hs : autoParam (starEach (e :: es) c.env = (false, eval e c.env) :: starEach es c.env) rflT) (hs2 : autoParam (((backTo p (starEach es c.env)).any fun x => x.1) = false) rflT) : EVs c m n (.Call f (e :: es) [] p) v :=
  fun h k Q S q => Call_ (hf h k _ S fun h1 k1 S1 => callWith_builtin1 (ha p h1 k1 _ S1 fun vs h2 k2 hc S2 => hc h2 k2 _ S2 fun t k' => q t h2 k' S2) hs hs2) h0
theorem b_chr {v : Int} {t : Tok} (h0 : 0 ≤ v) (h1 : v ≤ 1114111) : ∀ (h : Heap) (k : Nat) (Q : Value → Shared → Prop), c.St m n h → (∀ t k', Q (.str ⟨#[v.toNat]⟩ t) (c.sh h k')) → wpAny c.M c.A (PySem.call (.builtin "chr") [.int v t]) Q c.E (c.sh h k) := fun _ _ _ _ q => chr_of_range h0 h1 (q _ _)
theorem EVs.mul {a b : PySem.Expr} {p : Pos} {x : Str} {v : Int} (ha : EVs c m n a x) (hb : EVi c m n b v) (h1 : x.length ≤ 16) (h2 : -2 ^ 63 ≤ v) (h3 : v ≤ 1048576) : EVs c m n (.BinOp a .Mult b p) (Txt.mul x v) :=
  fun h k Q S q => wpAny_BinOp (ha h k _ S fun t h1' k1 S1 => hb h1' k1 _ S1 fun u h2' k2 S2 => KXi.mul rfl h1 h2 h3 fun t' _ _ _ => q t' _ _ S2)
theorem EVs.call {f e : PySem.Expr} {es : List PySem.Expr} {p : Pos} {ad : Addr} {G : Heap → Prop} {v : Str} (r' : Nat) (H : Ok c r) (hr : r' < r) (hf : EVx c m n f (.ref ad)) (hk : keepIn (KO c.w.params) (.ref ad) = true)
    (hG : G c.g) (hGk : ∀ h h', (∀ b o, h.get? b = some o → h'.get? b = some o) → G h → G h') (is : List Nat) (ha : ARG c m n (e :: es) fun vs => CTn c.w r' ad vs (pick is 0 n) G fun u n' => (∃ t, u = .str v t) ∧ n' = pick is 0 n)
    (hn : pick is 0 n ++ rest is 0 n = n)
    (h0 : autoParam (eval (f.Call (e :: es) [] p) c.env = (eval f c.env >>= fun fv => callWith p fv [] (backTo p (starEach (e :: es) c.env)) (backToKw p (keywordEach [] c.env)))) rflT)
    (hs : autoParam (starEach (e :: es) c.env = (false, eval e c.env) :: starEach es c.env) rflT) (hs2 : autoParam (((backTo p (starEach es c.env)).any fun x => x.1) = false) rflT) : EVs c m n (.Call f (e :: es) [] p) v :=
  fun h k Q S q => EVg.call (P := fun u n' => (∃ t, u = .str v t) ∧ n' = pick is 0 n) is r' H hr hf hk ha hG hGk h0 hs hs2 h k Q S fun u n'' h' k' ⟨n', ⟨⟨t, e1⟩, e2⟩, e3⟩ S' => by
    subst e1 e2
    rw [hn] at e3
    subst e3
    exact q t h' k' S'
theorem RUN.ret_ns {e : PySem.Expr} {rest : List Stmt} {p : Pos} {P : Value → Nw → Prop} {v : Str} (he : EVs c m n e v) (hP : ∀ t, P (.str v t) n) : RUN c m n (.Return (some e) p :: rest) (Pn c P) :=
  fun h0 k S => wpAny_execs_cons (wpAny_Return_some (he h0 k _ S fun t h1 k1 S1 => ⟨_, m, n, h1, k1, hP t, S1, rfl, rfl⟩))
theorem RUN.unp3 {x y z : Str} {p p1 p2 p3 p4 : Pos} {j : Nat} {e : PySem.Expr} {rest : List Stmt} {t : Addr} {v1 v2 v3 : Value} (H : Ok c r) (he : EVx c m n e (.ref t)) (ht : ∀ h, c.St m n h → IsTup h t #[v1, v2, v3])
    (hx : c.env.kindOf x = some .local) (hy : c.env.kindOf y = some .local) (hz : c.env.kindOf z = some .local) (h : let m' := upd (upd (upd m x v1) y v2) z v3; RUN c m' n rest Q)
    (ha : ∀ (E : Value → Shared → Prop) (s : Shared) (Q : Flow → Shared → Prop), wpAny c.M c.A (eval e c.env) (fun v s₁ => wpAny c.M c.A (assign (.Tuple [.Name x p1, .Name y p2, .Name z p3] j p4) c.env v) (fun _ => Q .next) E s₁) E s → wpAny c.M c.A (exec (.Assign [.Tuple [.Name x p1, .Name y p2, .Name z p3] j p4] e p) c.env) Q E s) :
    RUN c m n (.Assign [.Tuple [.Name x p1, .Name y p2, .Name z p3] j p4] e p :: rest) Q := by
  intro h0 k S
  refine wpAny_execs_cons (ha _ _ _ (he h0 k _ S fun h1 k1 S1 => ?_))
  refine unpackN_ S1.F S1.N (ht _ S1) H.hh rfl rfl fun h2 F2 N2 => ?_
  refine assignInOrder_cons (assign_Name (storeG_L F2 N2 (fun h3 F3 N3 => ?_) H.kd hx))
  refine assignInOrder_cons (assign_Name (storeG_L F3 N3 (fun h4 F4 N4 => ?_) H.kd hy))
  refine assignInOrder_cons (assign_Name (storeG_L F4 N4 (fun h5 F5 N5 => ?_) H.kd hz))
  exact assignInOrder_nil (h h5 _ ⟨F5, N5, S1.D⟩)
theorem EVs.ife_t {e a b : PySem.Expr} {p : Pos} {x : Str} (hc : CND c m n e true) (ha : EVs c m n a x) : EVs c m n (.IfExp e a b p) x :=
  fun h k Q S q => IfExp_ (hc h k _ S fun h1 k1 S1 => by rw [if_pos rfl]; exact ha h1 k1 Q S1 q)
theorem EVs.ife_f {e a b : PySem.Expr} {p : Pos} {x : Str} (hc : CND c m n e false) (ha : EVs c m n b x) : EVs c m n (.IfExp e a b p) x :=
  fun h k Q S q => IfExp_ (hc h k _ S fun h1 k1 S1 => by rw [if_neg (by decide)]; exact ha h1 k1 Q S1 q)
end
end Mine
end
section
open PySem PySem.W PySem.Calls PyProof.Rows
namespace Mine
theorem UpdF.at {D : Addr} {o : Obj} : ∀ {n : Nw} {i : Nat}, n[i]? = some (D, o) → (ks n).Nodup → UpdF D o n (fun o' => n.set i (D, o'))
  | [], _, h, _ => by cases h
  | p :: n, 0, h, d => by
    cases h
    refine .head fun q hq e => (List.nodup_cons.mp d).1 ?_
    have := List.mem_map_of_mem (f := Prod.fst) hq
    rw [e] at this; exact this
  | p :: n, i + 1, h, d => by
    have h' : n[i]? = some (D, o) := by simpa using h
    refine .tail (fun e => (List.nodup_cons.mp d).1 ?_) (UpdF.at h' (List.nodup_cons.mp d).2)
    have := List.mem_map_of_mem (f := Prod.fst) (List.mem_of_getElem? h')
    rw [e]; exact this
section
variable {c : Cx} {m : Lo} {n : Nw} {r : Nat} {Q : Flow → Shared → Prop}
theorem RUN.setd_s {o i e : PySem.Expr} {p p' : Pos} {rest : List Stmt} {d : Addr} {ob : Obj} {kvs : List (Str × Value)} {z : Nat} {key v : Str} (he : EVs c m n e v) (ho : EVx c m n o (.ref d)) (hi : EVs c m n i key) (hz : n[z]? = some (d, ob)) (hd : ob.IsDictOf (SKw c.w) kvs) (hl : kvs.length ≤ sizeLine)
    (h : ∀ t ob', ob'.IsDictOf (SKw c.w) (stored kvs key (.str v t)) → let n' := n.set z (d, ob'); RUN c m n' rest Q) (hs : autoParam (swapsWith e (some (o.Subscript i p')) p.line c.env = pure false) rflT) : RUN c m n (.Assign [.Subscript o i p'] e p :: rest) Q :=
  fun h0' k0 S => wpAny_execs_cons (wpAny_Assign_Subscript (he h0' k0 _ S fun t h2 k2 S2 => ho h2 k2 _ S2 fun h3 k3 S3 => hi h3 k3 _ S3 fun u h4 k4 S4 =>
    kda_set (knd := SKw c.w) S4.F S4.N (UpdF.at hz S4.D) hd (strKind_is _ _ _ _) hl fun h5 o5 F5 N5 d5 => h t o5 d5 h5 _ ⟨F5, N5, by rw [ks_set hz]; exact S4.D⟩) hs)
theorem RUN.setd_x {o i e : PySem.Expr} {p p' : Pos} {rest : List Stmt} {d : Addr} {ob : Obj} {kvs : List (Str × Value)} {z : Nat} {key : Str} {v : Value} (he : EVx c m n e v) (ho : EVx c m n o (.ref d)) (hi : EVs c m n i key) (hz : n[z]? = some (d, ob)) (hd : ob.IsDictOf (SKw c.w) kvs) (hl : kvs.length ≤ sizeLine)
    (h : ∀ ob', ob'.IsDictOf (SKw c.w) (stored kvs key v) → let n' := n.set z (d, ob'); RUN c m n' rest Q) (hs : autoParam (swapsWith e (some (o.Subscript i p')) p.line c.env = pure false) rflT) : RUN c m n (.Assign [.Subscript o i p'] e p :: rest) Q :=
  fun h0' k0 S => wpAny_execs_cons (wpAny_Assign_Subscript (he h0' k0 _ S fun h2 k2 S2 => ho h2 k2 _ S2 fun h3 k3 S3 => hi h3 k3 _ S3 fun u h4 k4 S4 =>
    kda_set (knd := SKw c.w) S4.F S4.N (UpdF.at hz S4.D) hd (strKind_is _ _ _ _) hl fun h5 o5 F5 N5 d5 => h o5 d5 h5 _ ⟨F5, N5, by rw [ks_set hz]; exact S4.D⟩) hs)
noncomputable def ARGg (c : Cx) (m : Lo) (n : Nw) (es : List PySem.Expr) (P : Nw → List Value → Prop) : Prop := ∀ p h k Q, c.St m n h → (∀ vs n' h' k', P n' vs → c.St m n' h' → Q vs (c.sh h' k')) → wpAny c.M c.A (spliced (backTo p (starEach es c.env))) Q c.E (c.sh h k)
theorem ARGg.nil {P : Nw → List Value → Prop} (h : P n []) : ARGg c m n [] P := fun _ _ _ _ S q => args_nil (q _ _ _ _ h S)
theorem ARGg.i {e : PySem.Expr} {es : List PySem.Expr} {P : Nw → List Value → Prop} {v : Int} (he : EVi c m n e v) (hr : ∀ t, ARGg c m n es fun n' vs => P n' (.int v t :: vs)) (hs : starEach (e :: es) c.env = (false, eval e c.env) :: starEach es c.env) : ARGg c m n (e :: es) P :=
  fun p h k Q S q => args_cons (he h k _ S fun t h1 k1 S1 => hr t p h1 k1 _ S1 fun vs n' h2 k2 hp S2 => q _ n' h2 k2 hp S2) hs
theorem ARGg.s {e : PySem.Expr} {es : List PySem.Expr} {P : Nw → List Value → Prop} {v : Str} (he : EVs c m n e v) (hr : ∀ t, ARGg c m n es fun n' vs => P n' (.str v t :: vs)) (hs : starEach (e :: es) c.env = (false, eval e c.env) :: starEach es c.env) : ARGg c m n (e :: es) P :=
  fun p h k Q S q => args_cons (he h k _ S fun t h1 k1 S1 => hr t p h1 k1 _ S1 fun vs n' h2 k2 hp S2 => q _ n' h2 k2 hp S2) hs
theorem ARGg.x {e : PySem.Expr} {es : List PySem.Expr} {P : Nw → List Value → Prop} {v : Value} (he : EVx c m n e v) (hr : ARGg c m n es fun n' vs => P n' (v :: vs)) (hs : starEach (e :: es) c.env = (false, eval e c.env) :: starEach es c.env) : ARGg c m n (e :: es) P :=
  fun p h k Q S q => args_cons (he h k _ S fun h1 k1 S1 => hr p h1 k1 _ S1 fun vs n' h2 k2 hp S2 => q _ n' h2 k2 hp S2) hs
theorem ARGg.g {e : PySem.Expr} {es : List PySem.Expr} {P : Nw → List Value → Prop} {V : Value → Nw → Prop} (he : EVg c m n e V) (hr : ∀ v n1, V v n1 → ARGg c m n1 es fun n' vs => P n' (v :: vs)) (hs : starEach (e :: es) c.env = (false, eval e c.env) :: starEach es c.env) : ARGg c m n (e :: es) P :=
  fun p h k Q S q => args_cons (he h k _ S fun v n1 h1 k1 hv S1 => hr v n1 hv p h1 k1 _ S1 fun vs n' h2 k2 hp S2 => q _ n' h2 k2 hp S2) hs
theorem EVg.tup {es : List PySem.Expr} {p : Pos} {j : Nat} {P : Nw → List Value → Prop} {V : Value → Nw → Prop} (ha : ARGg c m n es P) (hv : ∀ n1 vs, P n1 vs → vs.length ≤ sizeLine ∧ ∀ D, V (.ref D) ((D, { cls := .type "tuple", data := .seq vs.toArray }) :: n1)) : EVg c m n (.Tuple es j p) V :=
  fun h k Q S q => Tuple_ (ha _ h k _ S fun vs n1 h1 k1 hp S1 => kup_newTuple S1.F S1.N (fun D h2 F2 N2 l2 => q _ _ h2 _ ((hv n1 vs hp).2 D) ⟨F2, N2, List.nodup_cons.mpr ⟨fun hm => by
    obtain ⟨p, hp2, e⟩ := List.mem_map.mp hm
    have := l2 p hp2
    rw [e] at this
    exact Nat.lt_irrefl _ this, S1.D⟩⟩) (hv n1 vs hp).1)
theorem EVg.callA {f e : PySem.Expr} {es : List PySem.Expr} {p : Pos} {a : Addr} {G : Heap → Prop} {P : Value → Nw → Prop} (is : List Nat) (r' : Nat) (H : Ok c r) (hr : r' < r) (hf : EVx c m n f (.ref a)) (hk : keepIn (KO c.w.params) (.ref a) = true) (hG : G c.g) (hGk : ∀ h h', (∀ b o, h.get? b = some o → h'.get? b = some o) → G h → G h')
    (ha : ARGg c m n (e :: es) fun n1 vs => CTn c.w r' a vs (pick is 0 n1) G fun v n' => P v (n' ++ rest is 0 n1))
    (h0 : autoParam (eval (f.Call (e :: es) [] p) c.env = (eval f c.env >>= fun fv => callWith p fv [] (backTo p (starEach (e :: es) c.env)) (backToKw p (keywordEach [] c.env)))) rflT)
    (hs : autoParam (starEach (e :: es) c.env = (false, eval e c.env) :: starEach es c.env) rflT) (hs2 : autoParam (((backTo p (starEach es c.env)).any fun x => x.1) = false) rflT) :
    EVg c m n (.Call f (e :: es) [] p) P :=
  fun h k Q S q => Call_ (hf h k _ S fun h1 k1 S1 => callWith_K (H.X.keeps S1.F.keep) hk (ha p h1 k1 _ S1 fun vs n1 h2 k2 hc S2 => ⟨H.X.keeps S2.F.keep, wpAny_call (by
    obtain ⟨dp, un, base, outer, mean, mg, mb, eA, C, ob⟩ := H.stand _ _ S2.F r' hr
    rw [eA]
    have pm := pick_perm (is := is) 0 n1
    have D := (pm.map Prod.fst).nodup_iff.mp S2.D
    rw [List.map_append] at D
    have hm : ∀ p ∈ pick is 0 n1, p ∈ n1 := fun p hp => pm.mem_iff.mpr (List.mem_append_left _ hp)
    have og : ∀ p ∈ pick is 0 n1, c.g.get? p.1 = none := fun p hp => (S2.N p (hm p hp)).2.2
    refine hc dp un base outer mean mg mb _ _ C (fun p hp => ob p ((S2.N p (hm p hp)))) (List.nodup_append.mp D).1 (hGk c.g _ (fun b o e => hideAll_get _ (S2.F.keep b o e) fun hb => ?_) hG) fun v n' h' k' hP kp d q2 => q v _ h' k' hP (St.call S2 kp d q2)
    obtain ⟨p, hp, rfl⟩ := List.mem_map.mp hb
    rw [og p hp] at e; cases e)⟩) hs hs2) h0
theorem RUN.let_g {x : Str} {p p' : Pos} {e : PySem.Expr} {rest : List Stmt} {V : Value → Nw → Prop} (H : Ok c r) (he : EVg c m n e V) (hl : c.env.kindOf x = some .local)
    (h : ∀ v n', V v n' → let m' := upd m x v; RUN c m' n' rest Q) (hs : autoParam (swapsWith e (some (.Name x p')) p.line c.env = pure false) rflT) : RUN c m n (.Assign [.Name x p'] e p :: rest) Q :=
  fun h0 k S => wpAny_execs_cons (wpAny_Assign_Name (he h0 k _ S fun v n' h1 k1 hv S1 => storeG_L S1.F S1.N (fun h2 F2 N2 => h v n' hv h2 _ ⟨F2, N2, S1.D⟩) H.kd hl) hs)
theorem RUN.ret_g {e : PySem.Expr} {rest : List Stmt} {p : Pos} {P : Value → Nw → Prop} (he : EVg c m n e P) : RUN c m n (.Return (some e) p :: rest) (Pn c P) :=
  fun h0 k S => wpAny_execs_cons (wpAny_Return_some (he h0 k _ S fun v n' h1 k1 hv S1 => ⟨v, m, n', h1, k1, hv, S1, rfl, rfl⟩))
theorem RUN.ret_g' {e : PySem.Expr} {rest : List Stmt} {p : Pos} (P : Value → Nw → Prop) (he : EVg c m n e P) (hq : ∀ u s', Pn c P (.ret u) s' → Q (.ret u) s') : RUN c m n (.Return (some e) p :: rest) Q :=
  fun h0 k S => wpAny_execs_cons (wpAny_Return_some (he h0 k _ S fun v n' h1 k1 hv S1 => hq _ _ ⟨v, m, n', h1, k1, hv, S1, rfl, rfl⟩))
theorem RUN.end_n {P : Value → Nw → Prop} (hP : P .none n) : RUN c m n [] (Pn c P) :=
  fun h0 k S => wpAny_execs_nil ⟨_, m, n, h0, k, hP, S, rfl, rfl⟩
theorem CND.nint {a b : PySem.Expr} {p : Pos} {t : Addr} {x : Str} {items : Array Value} {ys : List Str} (ha : EVs c m n a x) (hb : EVx c m n b (.ref t)) (ht : ∀ h, c.St m n h → IsTup h t items) (hy : StrsAre items.toList ys) (hm : autoParam (behindInMarks .NotIn b = false) rflT) : CND c m n (.Compare a [.NotIn] [b] p) (!ys.any fun z => z == x) :=
  fun h k Q S q => wpAny_isTrue_Compare1 (ha h k _ S fun t1 h1 k1 S1 => hb h1 k1 _ S1 fun h2 k2 S2 => notin_tuple_strs (ht _ S2) hy (wpAny_truthy_bool (q _ _ S2))) hm
end
end Mine
end
section
open PySem PySem.W PySem.Calls PyProof.Rows
namespace Mine
theorem fits_eq {b x : Int} (hb : BITS b) : (decide (-(1 * 2 ^ (b - 1).toNat) ≤ x) && decide (x < 1 * 2 ^ (b - 1).toNat)) = fitsB b x := by
  have e : (b - 1).toNat = b.toNat - 1 := by rcases hb with rfl | rfl | rfl <;> rfl
  unfold fitsB
  rw [e, Int.one_mul, Bool.decide_and]
theorem bits_pos {b : Int} (hb : BITS b) : 0 ≤ b - 1 := by rcases hb with rfl | rfl | rfl <;> decide
theorem bits_shl {b : Int} (hb : BITS b) : (Builtin.Int.intBits 1 : Int) + (b - 1) ≤ 2 ^ 27 := by rcases hb with rfl | rfl | rfl <;> decide +kernel
theorem octs_eq {b : Int} (hb : BITS b) : (b + 7).fdiv 8 = octs b := by rcases hb with rfl | rfl | rfl <;> rfl
theorem octs_pl {b : Int} (hb : BITS b) : Builtin.divisionGoesByPylong (b + 7) 8 = false := by rcases hb with rfl | rfl | rfl <;> decide +kernel
theorem t_octb {w : World} {b : Int} {tb : Tok} (hb : BITS b) : CTi w 1 307 [.int b tb] (octs b) := by
  refine' CTi.mk [((Str.ofString "bits"), .int b tb)] ?ho ?hcd ?hb ?hl ?h ?c2 ?c3 ?c4 ?c5
  case ho => with_unfolding_all rfl
  case hcd => kernel_rfl
  case hb => exact fun s => BindsTo.of_eq rfl
  case hl => rfl
  case c2 => rfl
  case c3 => rfl
  case c4 => rfl
  case c5 => decide
  case h =>
    intro A L g s E c H
    intro QQ
    exact RUN.ret_i (EVi.eq (EVi.fdiv (EVi.add (EVi.of (EVx.name H rfl rfl rfl)) EVi.const) EVi.const (by decide) (octs_pl hb)) (octs_eq hb))
theorem t_fits {w : World} {b x : Int} {tb tx : Tok} (hb : BITS b) : CTx w 1 72 [.int x tx, .int b tb] (.bool (fitsB b x)) := by
  refine' CTx.mk [((Str.ofString "number"), .int x tx), ((Str.ofString "bits"), .int b tb)] ?ho ?hcd ?hb ?hl ?h ?c2 ?c3 ?c4 ?c5
  case ho => with_unfolding_all rfl
  case hcd => kernel_rfl
  case hb => exact fun s => BindsTo.of_eq rfl
  case hl => rfl
  case c2 => rfl
  case c3 => rfl
  case c4 => rfl
  case c5 => decide
  case h =>
    intro A L g s E c H
    intro QQ
    exact RUN.ret_x (EVx.eqb (EVx.chain (EVi.neg (EVi.shl EVi.const (EVi.sub (EVi.of (EVx.name H rfl rfl rfl)) EVi.const) (bits_pos hb) (bits_shl hb))) (EVi.of (EVx.name H rfl rfl rfl)) (EVi.shl EVi.const (EVi.sub (EVi.of (EVx.name H rfl rfl rfl)) EVi.const) (bits_pos hb) (bits_shl hb)) CI.le CI.lt) (fits_eq hb))
theorem t_set_i {w : World} {b x d : Int} {tb tx td : Tok} (hb : BITS b) (hf : fitsB b x = true) : CTi w 2 251 [.int x tx, .int b tb, .int d td] (x) := by
  refine' CTi.mk [((Str.ofString "number"), .int x tx), ((Str.ofString "bits"), .int b tb), ((Str.ofString "digits"), .int d td)] ?ho ?hcd ?hb ?hl ?h ?c2 ?c3 ?c4 ?c5
  case ho => with_unfolding_all rfl
  case hcd => kernel_rfl
  case hb => exact fun s => BindsTo.of_eq rfl
  case hl => rfl
  case c2 => rfl
  case c3 => rfl
  case c4 => rfl
  case c5 => decide
  case h =>
    intro A L g s E c H
    intro QQ
    exact RUN.ret_i (EVi.ife_t (CND.of (EVx.call (a := 72) 1 H (by decide) (EVx.glob H (by kernel_rfl) rfl rfl) (by kernel_rfl) (ARG.i (EVi.of (EVx.name H rfl rfl rfl)) (fun t0 => (ARG.i (EVi.of (EVx.name H rfl rfl rfl)) (fun t1 => ARG.nil (hf ▸ t_fits hb)) rfl)) rfl))) (EVi.of (EVx.name H rfl rfl rfl)))
theorem t_wr_add_i {w : World} {b x y d : Int} {to tb tx ty td : Tok} (hb : BITS b) (hf : fitsB b (x + y) = true) : CTi w 3 258 [.str (Str.ofString "+") to, .int x tx, .int y ty, .int b tb, .int d td] (x + y) := by
  refine' CTi.mk [((Str.ofString "op"), .str (Str.ofString "+") to), ((Str.ofString "a"), .int x tx), ((Str.ofString "b"), .int y ty), ((Str.ofString "bits"), .int b tb), ((Str.ofString "digits"), .int d td)] ?ho ?hcd ?hb ?hl ?h ?c2 ?c3 ?c4 ?c5
  case ho => with_unfolding_all rfl
  case hcd => kernel_rfl
  case hb => exact fun s => BindsTo.of_eq rfl
  case hl => rfl
  case c2 => rfl
  case c3 => rfl
  case c4 => rfl
  case c5 => decide
  case h =>
    intro A L g s E c H
    intro QQ
    exact RUN.if_t (CND.cmps (EVs.of (EVx.name H rfl rfl rfl)) EVs.const (fun _ _ _ _ q => eq_str q) rfl) (RUN.ret_i' (EVi.call (a := 251) 2 H (by decide) (EVx.glob H (by kernel_rfl) rfl rfl) (by kernel_rfl) (ARG.i (EVi.add (EVi.of (EVx.name H rfl rfl rfl)) (EVi.of (EVx.name H rfl rfl rfl))) (fun t0 => (ARG.i (EVi.of (EVx.name H rfl rfl rfl)) (fun t1 => (ARG.i (EVi.of (EVx.name H rfl rfl rfl)) (fun t2 => ARG.nil (t_set_i hb hf)) rfl)) rfl)) rfl)))
theorem t_wr_sub_i {w : World} {b x y d : Int} {to tb tx ty td : Tok} (hb : BITS b) (hf : fitsB b (x - y) = true) : CTi w 3 258 [.str (Str.ofString "-") to, .int x tx, .int y ty, .int b tb, .int d td] (x - y) := by
  refine' CTi.mk [((Str.ofString "op"), .str (Str.ofString "-") to), ((Str.ofString "a"), .int x tx), ((Str.ofString "b"), .int y ty), ((Str.ofString "bits"), .int b tb), ((Str.ofString "digits"), .int d td)] ?ho ?hcd ?hb ?hl ?h ?c2 ?c3 ?c4 ?c5
  case ho => with_unfolding_all rfl
  case hcd => kernel_rfl
  case hb => exact fun s => BindsTo.of_eq rfl
  case hl => rfl
  case c2 => rfl
  case c3 => rfl
  case c4 => rfl
  case c5 => decide
  case h =>
    intro A L g s E c H
    intro QQ
    exact RUN.if_f (CND.cmps (EVs.of (EVx.name H rfl rfl rfl)) EVs.const (fun _ _ _ _ q => eq_str q) rfl) (RUN.ret_i (EVi.call (a := 251) 2 H (by decide) (EVx.glob H (by kernel_rfl) rfl rfl) (by kernel_rfl) (ARG.i (EVi.ife_t (CND.cmps (EVs.of (EVx.name H rfl rfl rfl)) EVs.const (fun _ _ _ _ q => eq_str q) rfl) (EVi.sub (EVi.of (EVx.name H rfl rfl rfl)) (EVi.of (EVx.name H rfl rfl rfl)))) (fun t0 => (ARG.i (EVi.of (EVx.name H rfl rfl rfl)) (fun t1 => (ARG.i (EVi.of (EVx.name H rfl rfl rfl)) (fun t2 => ARG.nil (t_set_i hb hf)) rfl)) rfl)) rfl)))
end Mine
end
section
open PySem PySem.W PySem.Calls PyProof.Rows
namespace Mine
theorem t_isw {w : World} {x : Int} {tx : Tok}  : CTx w 1 244 [.int x tx] (.bool true) := by
  refine' CTx.mk [((Str.ofString "value"), .int x tx)] ?ho ?hcd ?hb ?hl ?h ?c2 ?c3 ?c4 ?c5
  case ho => with_unfolding_all rfl
  case hcd => kernel_rfl
  case hb => exact fun s => BindsTo.of_eq rfl
  case hl => rfl
  case c2 => rfl
  case c3 => rfl
  case c4 => rfl
  case c5 => decide
  case h =>
    intro A L g s E c H
    intro QQ
    exact RUN.if_f (CND.of (EVx.bi (EVx.built H (by kernel_rfl) boot_isinstance (by decide) rfl rfl) (ARG.i (EVi.of (EVx.name H rfl rfl rfl)) (fun _ => (ARG.x (EVx.built H (by kernel_rfl) (by decide +kernel) (by decide) rfl rfl) (ARG.nil ii_str) rfl)) rfl))) (RUN.ret_x (EVx.not (EVx.bi (EVx.built H (by kernel_rfl) boot_isinstance (by decide) rfl rfl) (ARG.i (EVi.of (EVx.name H rfl rfl rfl)) (fun _ => (ARG.x (EVx.built H (by kernel_rfl) (by decide +kernel) (by decide) rfl rfl) (ARG.nil ii_tup) rfl)) rfl))))
theorem t_rk_add_i {w : World} {b x y d : Int} {to tb tx ty td : Tok} (hb : BITS b) (hf : fitsB b (x + y) = true) : CTi w 4 300 [.str (Str.ofString "+") to, .int x tx, .int y ty, .int b tb, .int d td] (x + y) := by
  refine' CTi.mk [((Str.ofString "op"), .str (Str.ofString "+") to), ((Str.ofString "a"), .int x tx), ((Str.ofString "b"), .int y ty), ((Str.ofString "bits"), .int b tb), ((Str.ofString "digits"), .int d td)] ?ho ?hcd ?hb ?hl ?h ?c2 ?c3 ?c4 ?c5
  case ho => with_unfolding_all rfl
  case hcd => kernel_rfl
  case hb => exact fun s => BindsTo.of_eq rfl
  case hl => rfl
  case c2 => rfl
  case c3 => rfl
  case c4 => rfl
  case c5 => decide
  case h =>
    intro A L g s E c H
    intro QQ
    exact RUN.let2 H (ARG.x (EVx.call (a := 244) 1 H (by decide) (EVx.glob H (by kernel_rfl) rfl rfl) (by kernel_rfl) (ARG.i (EVi.of (EVx.name H rfl rfl rfl)) (fun t0 => ARG.nil (t_isw)) rfl)) (ARG.x (EVx.call (a := 244) 1 H (by decide) (EVx.glob H (by kernel_rfl) rfl rfl) (by kernel_rfl) (ARG.i (EVi.of (EVx.name H rfl rfl rfl)) (fun t0 => ARG.nil (t_isw)) rfl)) (ARG.nil rfl) rfl) rfl) rfl rfl (fun vs hv => ⟨_, _, hv.symm, fun m' hm => by
      subst hm
      exact RUN.if_f (CND.cs (EVs.of (EVx.name H rfl rfl rfl)) EVs.const (CS.eq rfl)) (RUN.if_f (CND.bo (CNB.of (CND.cs (EVs.of (EVx.name H rfl rfl rfl)) EVs.const (CS.eq rfl)) (CNB.of (CND.cs (EVs.of (EVx.name H rfl rfl rfl)) EVs.const (CS.eq rfl)) CNB.on))) (RUN.if_t (CND.bo (CNB.at (CND.cs (EVs.of (EVx.name H rfl rfl rfl)) EVs.const (CS.ne rfl)) (CNB.at (CND.of (EVx.name H rfl rfl rfl)) (CNB.at (CND.of (EVx.name H rfl rfl rfl)) CNB.an)))) (RUN.ret_i' (EVi.call (a := 258) 3 H (by decide) (EVx.glob H (by kernel_rfl) rfl rfl) (by kernel_rfl) (ARG.s (EVs.of (EVx.name H rfl rfl rfl)) (fun t0 => (ARG.i (EVi.of (EVx.name H rfl rfl rfl)) (fun t1 => (ARG.i (EVi.of (EVx.name H rfl rfl rfl)) (fun t2 => (ARG.i (EVi.of (EVx.name H rfl rfl rfl)) (fun t3 => (ARG.i (EVi.of (EVx.name H rfl rfl rfl)) (fun t4 => ARG.nil (t_wr_add_i hb hf)) rfl)) rfl)) rfl)) rfl)) rfl)))))⟩)
theorem t_rk_sub_i {w : World} {b x y d : Int} {to tb tx ty td : Tok} (hb : BITS b) (hf : fitsB b (x - y) = true) : CTi w 4 300 [.str (Str.ofString "-") to, .int x tx, .int y ty, .int b tb, .int d td] (x - y) := by
  refine' CTi.mk [((Str.ofString "op"), .str (Str.ofString "-") to), ((Str.ofString "a"), .int x tx), ((Str.ofString "b"), .int y ty), ((Str.ofString "bits"), .int b tb), ((Str.ofString "digits"), .int d td)] ?ho ?hcd ?hb ?hl ?h ?c2 ?c3 ?c4 ?c5
  case ho => with_unfolding_all rfl
  case hcd => kernel_rfl
  case hb => exact fun s => BindsTo.of_eq rfl
  case hl => rfl
  case c2 => rfl
  case c3 => rfl
  case c4 => rfl
  case c5 => decide
  case h =>
    intro A L g s E c H
    intro QQ
    exact RUN.let2 H (ARG.x (EVx.call (a := 244) 1 H (by decide) (EVx.glob H (by kernel_rfl) rfl rfl) (by kernel_rfl) (ARG.i (EVi.of (EVx.name H rfl rfl rfl)) (fun t0 => ARG.nil (t_isw)) rfl)) (ARG.x (EVx.call (a := 244) 1 H (by decide) (EVx.glob H (by kernel_rfl) rfl rfl) (by kernel_rfl) (ARG.i (EVi.of (EVx.name H rfl rfl rfl)) (fun t0 => ARG.nil (t_isw)) rfl)) (ARG.nil rfl) rfl) rfl) rfl rfl (fun vs hv => ⟨_, _, hv.symm, fun m' hm => by
      subst hm
      exact RUN.if_f (CND.cs (EVs.of (EVx.name H rfl rfl rfl)) EVs.const (CS.eq rfl)) (RUN.if_f (CND.bo (CNB.of (CND.cs (EVs.of (EVx.name H rfl rfl rfl)) EVs.const (CS.eq rfl)) (CNB.of (CND.cs (EVs.of (EVx.name H rfl rfl rfl)) EVs.const (CS.eq rfl)) CNB.on))) (RUN.if_t (CND.bo (CNB.at (CND.cs (EVs.of (EVx.name H rfl rfl rfl)) EVs.const (CS.ne rfl)) (CNB.at (CND.of (EVx.name H rfl rfl rfl)) (CNB.at (CND.of (EVx.name H rfl rfl rfl)) CNB.an)))) (RUN.ret_i' (EVi.call (a := 258) 3 H (by decide) (EVx.glob H (by kernel_rfl) rfl rfl) (by kernel_rfl) (ARG.s (EVs.of (EVx.name H rfl rfl rfl)) (fun t0 => (ARG.i (EVi.of (EVx.name H rfl rfl rfl)) (fun t1 => (ARG.i (EVi.of (EVx.name H rfl rfl rfl)) (fun t2 => (ARG.i (EVi.of (EVx.name H rfl rfl rfl)) (fun t3 => (ARG.i (EVi.of (EVx.name H rfl rfl rfl)) (fun t4 => ARG.nil (t_wr_sub_i hb hf)) rfl)) rfl)) rfl)) rfl)) rfl)))))⟩)
end Mine
end
section
open PySem PySem.W PySem.Calls PyProof.Rows
namespace Mine
theorem pl_pos {x m : Int} (h : 0 < m) : 0 ≤ x.fmod m ∧ x.fmod m < m := ⟨Int.fmod_nonneg_of_pos _ h, Int.fmod_lt_of_pos _ h⟩
theorem small_log {x : Int} (h0 : 0 ≤ x) (h1 : x < 1000) : Builtin.divisionGoesByPylong x 4 = false := PyProof.noPylong_small (by decide)
theorem mul11 {x : Int} (h0 : 0 ≤ x) (h1 : x < 1000) : IntMulOk 11 x := IntMulOk.of_right (intBits_le_64 (by omega) (by omega))
theorem t_pulled {w : World} {tr sc : Addr} {n m : Int} {tn tm : Tok} {kt ks : Nat} {vs : List Value} {ns : List Int} (hi : IntsAre vs ns) (hl : ns.length < 100) (h0 : 0 ≤ n) (h1 : n < 1000) (hm : 0 < m) : CTn w 2 364 [.ref tr, .int m tm] [(tr, lstO [.ref sc, .int n tn] kt), (sc, lstO vs ks)] (fun _ => True) (fun v n' => ∃ x tx tn', 0 ≤ x ∧ x < m ∧ v = .int x tx ∧ n' = [(tr, lstO [.ref sc, .int (n + 1) tn'] kt), (sc, lstO vs ks)]) := by
  refine' CTn.mk [((Str.ofString "tray"), .ref tr), ((Str.ofString "many"), .int m tm)] ?ho ?hcd ?hb ?hl (fun _ _ _ h => h) ?h ?c2 ?c3 ?c4 ?c5
  case ho => with_unfolding_all rfl
  case hcd => kernel_rfl
  case hb => exact fun s => BindsTo.of_eq rfl
  case hl => rfl
  case c2 => rfl
  case c3 => rfl
  case c4 => rfl
  case c5 => decide
  case h =>
    intro A L g s E c H HG
    intro QQ
    refine RUN.let_i H (EVi.of (EVx.item (i := 0) (j := 1) (EVx.name H rfl rfl rfl) EVi.const rfl (by decide) (by decide) rfl)) rfl fun t1 => ?_
    intro m1
    refine RUN.seti (z := 0) (q := fun t => [.ref sc, .int (n + 1) t]) (EVi.add (EVi.of (EVx.name H rfl rfl rfl)) EVi.const) (EVx.name H rfl rfl rfl) EVi.const rfl (by decide) (by decide) (fun t => rfl) fun t2 => ?_
    intro n2
    have e : ∀ z : Int, ∀ t, ∃ x tx tn', 0 ≤ x ∧ x < m ∧ (Value.int (z.fmod m) t) = .int x tx ∧ n2 = [(tr, lstO [.ref sc, .int (n + 1) tn'] kt), (sc, lstO vs ks)] := fun z t => ⟨_, t, t2, (pl_pos hm).1, (pl_pos hm).2, rfl, rfl⟩
    by_cases q : n < (vs.length : Int)
    · obtain ⟨t3, q3⟩ := ints_get hi (k := n.toNat) (by have := hi.length; omega)
      exact RUN.ret_n (EVi.ife_t (CND.eq (CND.ci (EVi.of (EVx.name H rfl rfl rfl)) (EVi.bi (EVx.built H (by kernel_rfl) boot_len (by decide) rfl rfl) (ARG.x (EVx.item (i := 0) (j := 0) (EVx.name H rfl rfl rfl) EVi.const rfl (by decide) (by decide) rfl) (ARG.nil (b_len (i := 1) rfl rfl (by rw [hi.length]; omega))) rfl)) CI.lt) (decide_eq_true q)) (EVi.mod (EVi.bi (EVx.built H (by kernel_rfl) boot_abs (by decide) rfl rfl) (ARG.i (EVi.of (EVx.item (i := 1) (EVx.item (i := 0) (j := 0) (EVx.name H rfl rfl rfl) EVi.const rfl (by decide) (by decide) rfl) (EVi.of (EVx.name H rfl rfl rfl)) rfl h0 (by omega) q3)) (fun _ => ARG.nil b_abs) rfl)) (EVi.of (EVx.name H rfl rfl rfl)) (by omega))) (e _)
    · exact RUN.ret_n (EVi.ife_f (CND.eq (CND.ci (EVi.of (EVx.name H rfl rfl rfl)) (EVi.bi (EVx.built H (by kernel_rfl) boot_len (by decide) rfl rfl) (ARG.x (EVx.item (i := 0) (j := 0) (EVx.name H rfl rfl rfl) EVi.const rfl (by decide) (by decide) rfl) (ARG.nil (b_len (i := 1) rfl rfl (by rw [hi.length]; omega))) rfl)) CI.lt) (decide_eq_false q)) (EVi.mod (EVi.add (EVi.add (EVi.mul EVi.const (EVi.of (EVx.name H rfl rfl rfl)) (mul11 h0 h1)) (EVi.fdiv (EVi.of (EVx.name H rfl rfl rfl)) EVi.const (by decide) (small_log h0 h1))) EVi.const) (EVi.of (EVx.name H rfl rfl rfl)) (by omega))) (e _)
end Mine
end
section
open PySem PySem.W PySem.Calls PyProof.Rows
namespace Mine
theorem lf_eq {b x : Int} (hb : BITS b) : (decide (0 - 2 ^ (b - 1).toNat ≤ x) && decide (x < 2 ^ (b - 1).toNat)) = fitsB b x := by
  have := fits_eq (x := x) hb
  rw [Int.one_mul] at this
  rw [Int.zero_sub]; exact this
theorem bits_m {b : Int} (hb : BITS b) : b - 1 ≤ 1000000 := by rcases hb with rfl | rfl | rfl <;> decide
theorem t_lfits {w : World} {a : WAddr} {b room x : Int} {tx : Tok} (hb : BITS b) : CTn w 1 393 [.int x tx, .ref a.w] [] (WRO w a b room) (fun v n' => v = .bool (fitsB b x) ∧ n' = []) := by
  refine' CTn.mk [((Str.ofString "number"), .int x tx), ((Str.ofString "world"), .ref a.w)] ?ho ?hcd ?hb ?hl WRO.kp ?h ?c2 ?c3 ?c4 ?c5
  case ho => with_unfolding_all rfl
  case hcd => kernel_rfl
  case hb => exact fun s => BindsTo.of_eq rfl
  case hl => rfl
  case c2 => rfl
  case c3 => rfl
  case c4 => rfl
  case c5 => decide
  case h =>
    intro A L g s E c H HG
    intro QQ
    exact RUN.ret_nx (EVx.eqb (EVx.chain (EVi.sub EVi.const (EVi.pow EVi.const (EVi.sub (EVi.wbits H HG (EVx.name H rfl rfl rfl)) EVi.const) (bits_pos hb) (bits_m hb) (by decide))) (EVi.of (EVx.name H rfl rfl rfl)) (EVi.pow EVi.const (EVi.sub (EVi.wbits H HG (EVx.name H rfl rfl rfl)) EVi.const) (bits_pos hb) (bits_m hb) (by decide)) CI.le CI.lt) (lf_eq hb)) ⟨rfl, rfl⟩
end Mine
end
section
open PySem PySem.W PySem.Calls PyProof.Rows
namespace Mine
theorem t_told_n {w : World} {ch : Addr} {oc : Obj} {n : Int} {tn : Tok} (h1 : 1 ≤ n) (h2 : n ≤ 32767) : CTn w 1 159 [.ref ch, .int n tn] [(ch, oc)] (fun _ => True) (fun v n' => v = .int n tn ∧ n' = [(ch, oc)]) := by
  refine' CTn.mk [((Str.ofString "found"), .ref ch), ((Str.ofString "number"), .int n tn)] ?ho ?hcd ?hb ?hl (fun _ _ _ h => h) ?h ?c2 ?c3 ?c4 ?c5
  case ho => with_unfolding_all rfl
  case hcd => kernel_rfl
  case hb => exact fun s => BindsTo.of_eq rfl
  case hl => rfl
  case c2 => rfl
  case c3 => rfl
  case c4 => rfl
  case c5 => decide
  case h =>
    intro A L g s E c H HG
    intro QQ
    refine RUN.let_x H (EVx.ife_f (CND.eq (CND.isn (EVx.name H rfl rfl rfl)) rfl) (EVx.name H rfl rfl rfl)) rfl ?_
    intro m1
    exact RUN.if_f (CND.eq (CND.not (CND.chain EVi.const (EVi.of (EVx.name H rfl rfl rfl)) EVi.const CI.le CI.le)) (by rw [decide_eq_true h1, decide_eq_true h2]; rfl)) (RUN.ret_nx (EVx.name H rfl rfl rfl) ⟨rfl, rfl⟩)
theorem t_told_0 {w : World} {ch : Addr} {oc : Obj} {b : Int} {ub : Str} {rn : Int} (hcn : Chan w oc b ub rn) (h1 : 0 ≤ rn) (h2 : rn < 32767) : CTn w 1 159 [.ref ch, .none] [(ch, oc)] (fun _ => True) (fun v n' => (∃ t, v = .int (rn + 1) t) ∧ n' = [(ch, oc)]) := by
  refine' CTn.mk [((Str.ofString "found"), .ref ch), ((Str.ofString "number"), .none)] ?ho ?hcd ?hb ?hl (fun _ _ _ h => h) ?h ?c2 ?c3 ?c4 ?c5
  case ho => with_unfolding_all rfl
  case hcd => kernel_rfl
  case hb => exact fun s => BindsTo.of_eq rfl
  case hl => rfl
  case c2 => rfl
  case c3 => rfl
  case c4 => rfl
  case c5 => decide
  case h =>
    intro A L g s E c H HG
    intro QQ
    obtain ⟨x1, x2, x3, x4, x5, x6, hd⟩ := hcn
    refine RUN.let_i H (EVi.ife_t (CND.eq (CND.isn (EVx.name H rfl rfl rfl)) rfl) (EVi.add (EVi.of (EVx.ditem (i := 0) (EVx.name H rfl rfl rfl) EVs.const rfl hd rfl)) EVi.const)) rfl fun t1 => ?_
    intro m1
    exact RUN.if_f (CND.eq (CND.not (CND.chain EVi.const (EVi.of (EVx.name H rfl rfl rfl)) EVi.const CI.le CI.le)) (by rw [decide_eq_true (show (1 : Int) ≤ rn + 1 by omega), decide_eq_true (show rn + 1 ≤ (32767 : Int) by omega)]; rfl)) (RUN.ret_nx (EVx.name H rfl rfl rfl) ⟨⟨_, rfl⟩, rfl⟩)
theorem t_placed {w : World} {u : Str} {k : Int} {tu tk : Tok} (hu : (u.length : Int) = k) (hk9 : k ≤ 10) : CTn w 1 145 [.str u tu, .int k tk, .bool false] [] (fun _ => True) (fun v n' => (∃ t, v = .str u t) ∧ n' = []) := by
  refine' CTn.mk [((Str.ofString "text"), .str u tu), ((Str.ofString "many"), .int k tk), ((Str.ofString "is_right"), .bool false)] ?ho ?hcd ?hb ?hl (fun _ _ _ h => h) ?h ?c2 ?c3 ?c4 ?c5
  case ho => with_unfolding_all rfl
  case hcd => kernel_rfl
  case hb => exact fun s => BindsTo.of_eq rfl
  case hl => rfl
  case c2 => rfl
  case c3 => rfl
  case c4 => rfl
  case c5 => decide
  case h =>
    intro A L g s E c H HG
    intro QQ
    have e1 : Txt.slice u none (some k) = u := by
      have hu2 := hu
      rw [S_of u] at hu2 ⊢
      rw [S_len] at hu2
      rw [slice_NS (by omega) (by omega), List.take_of_length_le (by omega)]
    refine RUN.let_s H (EVs.sl_ns (EVs.of (EVx.name H rfl rfl rfl)) (EVi.of (EVx.name H rfl rfl rfl)) (by unfold sizeLine; omega)) rfl fun t1 => ?_
    intro m1
    refine RUN.let_s H (EVs.mul EVs.const (EVi.sub (EVi.of (EVx.name H rfl rfl rfl)) (EVi.bi (EVx.built H (by kernel_rfl) boot_len (by decide) rfl rfl) (ARG.s (EVs.of (EVx.name H rfl rfl rfl)) (fun _ => ARG.nil (b_lens rfl (by rw [e1]; omega))) rfl))) (by decide +kernel) (by rw [e1]; omega) (by rw [e1]; omega)) rfl fun t2 => ?_
    intro m2
    exact RUN.ret_ns (EVs.eq (EVs.ife_f (CND.of (EVx.name H rfl rfl rfl)) (EVs.add (EVs.of (EVx.name H rfl rfl rfl)) (EVs.of (EVx.name H rfl rfl rfl)) (by rw [e1, hu, Int.sub_self]; unfold sizeLine; show u.length + 0 ≤ _; omega))) (placed_eq hu)) (fun t => ⟨⟨t, rfl⟩, rfl⟩)
theorem t_ft {w : World} {a : WAddr} {b room : Int} {i : Bool} {oc : Obj} {u ub : Str} {rn z y : Int} {tu : Tok} (hcn : Chan w oc b ub rn) (hul : ub.length ≤ 1000) (hF : ∀ g, WRO w a b room g → ∃ p t1 t2 t3 k, valueAt ([(Str.ofString "N1$", .ref (a.p false)), (Str.ofString "M1$", .ref (a.q false)), (Str.ofString "N2$", .ref (a.p true)), (Str.ofString "M2$", .ref (a.q true))] : List (Str × Value)) u = some (.ref p) ∧ g.get? p = some (tupO [.int (chn i) t1, .int z t2, .int y t3] k)) : CTn w 1 138 [.ref a.w, .str u tu] [(a.c i, oc)] (WRO w a b room) (fun v n' => (∃ t, v = .str (Txt.slice ub (some z) (some (z + y))) t) ∧ n' = [(a.c i, oc)]) := by
  refine' CTn.mk [((Str.ofString "world"), .ref a.w), ((Str.ofString "name"), .str u tu)] ?ho ?hcd ?hb ?hl WRO.kp ?h ?c2 ?c3 ?c4 ?c5
  case ho => with_unfolding_all rfl
  case hcd => kernel_rfl
  case hb => exact fun s => BindsTo.of_eq rfl
  case hl => rfl
  case c2 => rfl
  case c3 => rfl
  case c4 => rfl
  case c5 => decide
  case h =>
    intro A L g s E c H HG
    intro QQ
    obtain ⟨x1, x2, x3, x4, x5, x6, hd⟩ := hcn
    obtain ⟨p, t1, t2, t3, k, hv, ht⟩ := hF _ HG
    have ho : valueAt ([(1, .ref (a.c false)), (2, .ref (a.c true))] : List (Int × Value)) (chn i) = some (.ref (a.c i)) := by cases i <;> rfl
    refine RUN.if_f (CND.eq (CND.nin (EVs.of (EVx.name H rfl rfl rfl)) (EVx.wfields H HG (EVx.name H rfl rfl rfl)) HG.fds HG.lfd (z := true) (by rw [hv]; rfl)) rfl) ?_
    refine RUN.unp3 H (EVx.gitem (EVx.wfields H HG (EVx.name H rfl rfl rfl)) (EVs.of (EVx.name H rfl rfl rfl)) HG.fds hv) (fun h S => ⟨_, S.F.keep _ _ ht, rfl, _, rfl⟩) rfl rfl rfl ?_ (fun _ _ _ q => Assign_Tuple q)
    intro m1
    exact RUN.ret_ns (EVs.sl_ss (EVs.of (EVx.ditem (i := 0) (EVx.gitemI (EVx.wopen H HG (EVx.name H rfl rfl rfl)) (EVi.of (EVx.name H rfl rfl rfl)) HG.opn ho) EVs.const rfl hd rfl)) (EVi.of (EVx.name H rfl rfl rfl)) (EVi.add (EVi.of (EVx.name H rfl rfl rfl)) (EVi.of (EVx.name H rfl rfl rfl))) (by unfold sizeLine; omega)) (fun t => ⟨⟨t, rfl⟩, rfl⟩)
end Mine
end
section
open PySem PySem.W PySem.Calls PyProof.Rows
namespace Mine
theorem EVx.bool {c : Cx} {m : Lo} {n : Nw} {j : Nat} {p : Pos} {z : Bool} : EVx c m n (.Constant (.bool z) j p) (.bool z) := fun _ _ _ S q => Constant_bool (q _ _ S)
theorem Chan.buf {w : World} {o : Obj} {b : Int} {x y : Str} {t u1 u2 u3 u4 u5 u6 : Tok} {rn : Int} (h : o.IsDictOf (SKw w) (stored [((Str.ofString "mode"), .str (Str.ofString "R") u1), ((Str.ofString "name"), .str (Str.ofString "BANK") u2), ((Str.ofString "at"), .int 0 u3), ((Str.ofString "size"), .int (octs b + 1) u4), ((Str.ofString "buffer"), .str x u5), ((Str.ofString "record"), .int rn u6)] (Str.ofString "buffer") (.str y t))) : Chan w o b y rn := ⟨_, _, _, _, _, _, h⟩
theorem t_chan {w : World} {a : WAddr} {b room : Int} {i : Bool} {q : Addr} {oc : Obj} {ub : Str} {rn : Int} {tc : Tok} {ms : List Value} {ys : List Str} {kq : Nat} (hcn : Chan w oc b ub rn) (hy : StrsAre ms ys) (hR : (ys.any fun z => z == Str.ofString "R") = true) : CTn w 1 119 [.ref a.w, .int (chn i) tc, .ref q] [(q, tupO ms kq), (a.c i, oc)] (WRO w a b room) (fun v n' => v = .ref (a.c i) ∧ n' = [(q, tupO ms kq), (a.c i, oc)]) := by
  refine' CTn.mk [((Str.ofString "world"), .ref a.w), ((Str.ofString "channel"), .int (chn i) tc), ((Str.ofString "modes"), .ref q)] ?ho ?hcd ?hb ?hl WRO.kp ?h ?c2 ?c3 ?c4 ?c5
  case ho => with_unfolding_all rfl
  case hcd => kernel_rfl
  case hb => exact fun s => BindsTo.of_eq rfl
  case hl => rfl
  case c2 => rfl
  case c3 => rfl
  case c4 => rfl
  case c5 => decide
  case h =>
    intro A L g s E c H HG
    intro QQ
    have ho : valueAt ([(1, .ref (a.c false)), (2, .ref (a.c true))] : List (Int × Value)) (chn i) = some (.ref (a.c i)) := by cases i <;> rfl
    obtain ⟨x1, x2, x3, x4, x5, x6, hd⟩ := hcn
    refine RUN.if_f (CND.eq (CND.ninI (EVi.of (EVx.name H rfl rfl rfl)) (EVx.wopen H HG (EVx.name H rfl rfl rfl)) HG.opn HG.lop (z := true) (by rw [ho]; rfl)) rfl) ?_
    refine RUN.let_x H (EVx.gitemI (EVx.wopen H HG (EVx.name H rfl rfl rfl)) (EVi.of (EVx.name H rfl rfl rfl)) HG.opn ho) rfl ?_
    intro m1
    exact RUN.if_f (CND.eq (CND.nint (items := ms.toArray) (EVs.of (EVx.ditem (i := 1) (EVx.name H rfl rfl rfl) EVs.const rfl hd rfl)) (EVx.name H rfl rfl rfl) (fun h S => ⟨_, (S.N _ (.head _)).1, rfl, _, rfl⟩) (by simpa using hy)) (by rw [hR]; rfl)) (RUN.ret_nx (EVx.name H rfl rfl rfl) ⟨rfl, rfl⟩)
theorem t_sp {w : World} {a : WAddr} {b room : Int} {i : Bool} {oc : Obj} {nm u ub : Str} {rn z y : Int} {tn tu : Tok} (hcn : Chan w oc b ub rn) (hul : ub.length ≤ 1000) (hu : (u.length : Int) = y) (hy9 : y ≤ 10) (hF : ∀ g, WRO w a b room g → ∃ p t1 t2 t3 k, valueAt ([(Str.ofString "N1$", .ref (a.p false)), (Str.ofString "M1$", .ref (a.q false)), (Str.ofString "N2$", .ref (a.p true)), (Str.ofString "M2$", .ref (a.q true))] : List (Str × Value)) nm = some (.ref p) ∧ g.get? p = some (tupO [.int (chn i) t1, .int z t2, .int y t3] k))
  (hl1 : (Txt.slice ub none (some z)).length ≤ 1000) (hl2 : (Txt.slice ub (some (z + y)) none).length ≤ 1000) : CTn w 2 152 [.ref a.w, .str nm tn, .str u tu, .bool false] [(a.c i, oc)] (WRO w a b room) (fun v n' => v = .none ∧ ∃ oc', Chan w oc' b (Txt.slice ub none (some z) ++ u ++ Txt.slice ub (some (z + y)) none) rn ∧ n' = [(a.c i, oc')]) := by
  refine' CTn.mk [((Str.ofString "world"), .ref a.w), ((Str.ofString "name"), .str nm tn), ((Str.ofString "text"), .str u tu), ((Str.ofString "is_right"), .bool false)] ?ho ?hcd ?hb ?hl WRO.kp ?h ?c2 ?c3 ?c4 ?c5
  case ho => with_unfolding_all rfl
  case hcd => kernel_rfl
  case hb => exact fun s => BindsTo.of_eq rfl
  case hl => rfl
  case c2 => rfl
  case c3 => rfl
  case c4 => rfl
  case c5 => decide
  case h =>
    intro A L g s E c H HG
    intro QQ
    have ho : valueAt ([(1, .ref (a.c false)), (2, .ref (a.c true))] : List (Int × Value)) (chn i) = some (.ref (a.c i)) := by cases i <;> rfl
    obtain ⟨x1, x2, x3, x4, x5, x6, hd⟩ := hcn
    obtain ⟨p, t1, t2, t3, k, hv, ht⟩ := hF _ HG
    refine RUN.unp3 H (EVx.gitem (EVx.wfields H HG (EVx.name H rfl rfl rfl)) (EVs.of (EVx.name H rfl rfl rfl)) HG.fds hv) (fun h S => ⟨_, S.F.keep _ _ ht, rfl, _, rfl⟩) rfl rfl rfl ?_ (fun _ _ _ q => Assign_Tuple q)
    intro m1
    refine RUN.let_x H (EVx.gitemI (EVx.wopen H HG (EVx.name H rfl rfl rfl)) (EVi.of (EVx.name H rfl rfl rfl)) HG.opn ho) rfl ?_
    intro m2
    have pl : ∀ tu ty, CTn w 1 145 [.str u tu, .int y ty, .bool false] [] (fun _ => True) (fun v n' => (∃ t, v = .str u t) ∧ n' = []) := fun tu ty => t_placed hu hy9
    refine RUN.setd_s (z := 0) (EVs.add (EVs.add (EVs.sl_ns (EVs.of (EVx.ditem (i := 0) (EVx.name H rfl rfl rfl) EVs.const rfl hd rfl)) (EVi.of (EVx.name H rfl rfl rfl)) (by unfold sizeLine; omega)) (EVs.call (ad := 145) 1 H (by decide) (EVx.glob H (by kernel_rfl) rfl rfl) (by kernel_rfl) trivial (fun _ _ _ h => h) [] (ARG.s (EVs.of (EVx.name H rfl rfl rfl)) (fun _ => ARG.i (EVi.of (EVx.name H rfl rfl rfl)) (fun _ => ARG.x (EVx.name H rfl rfl rfl) (ARG.nil (pl _ _)) rfl) rfl) rfl) rfl) (by unfold sizeLine; omega)) (EVs.sl_sn (EVs.of (EVx.ditem (i := 0) (EVx.name H rfl rfl rfl) EVs.const rfl hd rfl)) (EVi.add (EVi.of (EVx.name H rfl rfl rfl)) (EVi.of (EVx.name H rfl rfl rfl))) (by unfold sizeLine; omega)) (by rw [PySem.Str.length_append]; unfold sizeLine; omega)) (EVx.name H rfl rfl rfl) EVs.const rfl hd (Nat.le_of_ble_eq_true rfl) fun t ob' d' => ?_
    intro n1
    exact RUN.end_n ⟨rfl, _, Chan.buf d', rfl⟩
end Mine
end
section
open PySem PySem.W PySem.Calls PyProof.Rows
namespace Mine
theorem any_ge {is : List Nat} {k : Nat} (h : ∀ i ∈ is, i < k) : is.any (Nat.beq k) = false := by
  rw [List.any_eq_false]
  intro i hi e
  have := Nat.eq_of_beq_eq_true e
  exact absurd (h i hi) (by omega)
theorem pick_ge {is : List Nat} : ∀ {k : Nat} (n : Nw), (∀ i ∈ is, i < k) → pick is k n = []
  | _, [], _ => rfl
  | k, p :: n, h => by
    unfold pick
    rw [any_ge h]
    exact pick_ge n fun i hi => Nat.lt_succ_of_lt (h i hi)
theorem rest_ge {is : List Nat} : ∀ {k : Nat} (n : Nw), (∀ i ∈ is, i < k) → rest is k n = n
  | _, [], _ => rfl
  | k, p :: n, h => by
    unfold rest
    rw [any_ge h]
    exact congrArg (p :: ·) (rest_ge n fun i hi => Nat.lt_succ_of_lt (h i hi))
theorem pick01 {p q : Addr × Obj} {n : Nw} : pick [0, 1] 0 (p :: q :: n) = [p, q] := by
  show p :: q :: pick [0, 1] 2 n = _
  rw [pick_ge n (by decide)]
theorem rest01 {p q : Addr × Obj} {n : Nw} : rest [0, 1] 0 (p :: q :: n) = n := by
  show rest [0, 1] 2 n = _
  exact rest_ge n (by decide)
section
variable {c : Cx} {m : Lo} {n n2 : Nw} {r : Nat} {Q : Flow → Shared → Prop}
theorem Cx.St.perm {h : Heap} (S : c.St m n2 h) (q : n.Perm n2) : c.St m n h := ⟨S.F, fun p hp => S.N p (q.mem_iff.mp hp), (q.map Prod.fst).nodup_iff.mpr S.D⟩
theorem EVg.callR {f e : PySem.Expr} {es : List PySem.Expr} {p : Pos} {ad : Addr} {G : Heap → Prop} {P : Value → Prop} (is : List Nat) (r' : Nat) (H : Ok c r) (hr : r' < r) (hf : EVx c m n f (.ref ad)) (hk : keepIn (KO c.w.params) (.ref ad) = true)
    (hG : G c.g) (hGk : ∀ h h', (∀ b o, h.get? b = some o → h'.get? b = some o) → G h → G h') (ha : ARG c m n (e :: es) fun vs => CTn c.w r' ad vs (pick is 0 n) G fun u n' => P u ∧ n' = pick is 0 n)
    (h0 : autoParam (eval (f.Call (e :: es) [] p) c.env = (eval f c.env >>= fun fv => callWith p fv [] (backTo p (starEach (e :: es) c.env)) (backToKw p (keywordEach [] c.env)))) rflT)
    (hs : autoParam (starEach (e :: es) c.env = (false, eval e c.env) :: starEach es c.env) rflT) (hs2 : autoParam (((backTo p (starEach es c.env)).any fun x => x.1) = false) rflT) : EVg c m n (.Call f (e :: es) [] p) fun u n' => P u ∧ n' = n :=
  fun h k Q S q => EVg.call (P := fun u n' => P u ∧ n' = pick is 0 n) is r' H hr hf hk ha hG hGk h0 hs hs2 h k Q S fun u n'' h' k' ⟨n', ⟨e1, e2⟩, e3⟩ S' => by
    subst e2 e3
    exact q u n h' k' ⟨e1, rfl⟩ (S'.perm (pick_perm 0 n))
theorem EVx.ofg {e : PySem.Expr} {v : Value} (h : EVg c m n e fun u n' => u = v ∧ n' = n) : EVx c m n e v := fun h0 k Q S q => h h0 k Q S fun u n' h' k' ⟨e1, e2⟩ S' => by subst e1 e2; exact q h' k' S'
theorem EVi.ofg {e : PySem.Expr} {v : Int} (h : EVg c m n e fun u n' => (∃ t, u = .int v t) ∧ n' = n) : EVi c m n e v := fun h0 k Q S q => h h0 k Q S fun u n' h' k' ⟨⟨t, e1⟩, e2⟩ S' => by subst e1 e2; exact q t h' k' S'
theorem EVs.ofg {e : PySem.Expr} {v : Str} (h : EVg c m n e fun u n' => (∃ t, u = .str v t) ∧ n' = n) : EVs c m n e v := fun h0 k Q S q => h h0 k Q S fun u n' h' k' ⟨⟨t, e1⟩, e2⟩ S' => by subst e1 e2; exact q t h' k' S'
theorem RUN.let3 {x y z : Str} {es : List PySem.Expr} {p p1 p2 p3 p4 p5 : Pos} {j j' : Nat} {rest : List Stmt} {P : Nw → List Value → Prop} (H : Ok c r) (ha : ARGg c m n es P) (hx : c.env.kindOf x = some .local) (hy : c.env.kindOf y = some .local) (hz : c.env.kindOf z = some .local)
    (h : ∀ n1 vs, P n1 vs → ∃ v1 v2 v3, vs = [v1, v2, v3] ∧ ∀ (m' : Lo), m' = upd (upd (upd m z v3) y v2) x v1 → RUN c m' n1 rest Q)
    (h1 : autoParam (swapsWithSole [.Tuple [.Name x p1, .Name y p2, .Name z p3] j p4] (.Tuple es j' p5) p.line c.env = pure false) rflT)
    (h2 : autoParam (swappedStores [.Tuple [.Name x p1, .Name y p2, .Name z p3] j p4] (.Tuple es j' p5) c.env = pure (some [x, y, z])) rflT) :
    RUN c m n (.Assign [.Tuple [.Name x p1, .Name y p2, .Name z p3] j p4] (.Tuple es j' p5) p :: rest) Q := by
  intro h0 k S
  refine wpAny_execs_cons (Assign_Tuple_swapped (Tuple_ (ha _ h0 k _ S fun vs n1 h3 k3 hp S3 => ?_)) h1 h2)
  obtain ⟨v1, v2, v3, rfl, hr⟩ := h n1 vs hp
  refine kup_newTuple S3.F S3.N (fun D h4 F4 N4 l4 => ?_) (Nat.le_of_ble_eq_true rfl)
  refine unpackItemsN_ F4 N4 (N4.isTup (.head _)) H.hh rfl fun h5 F5 N5 => ?_
  refine assignInOrder_cons (bindName_ (storeG_L F5 (fun p hp => N5 p (List.mem_cons_of_mem _ hp)) (fun h6 F6 N6 => ?_) H.kd hz))
  refine assignInOrder_cons (bindName_ (storeG_L F6 N6 (fun h7 F7 N7 => ?_) H.kd hy))
  refine assignInOrder_cons (bindName_ (storeG_L F7 N7 (fun h8 F8 N8 => ?_) H.kd hx))
  exact assignInOrder_nil (hr _ rfl h8 _ ⟨F8, N8, S3.D⟩)
theorem EVg.chanR {f e1 e2 : PySem.Expr} {p p1 p2 : Pos} {j j' : Nat} {a : WAddr} {b room : Int} {i : Bool} {oc : Obj} {ub : Str} {rn : Int} {tl : Nw} (H : Ok c r) (hr : 1 < r) (HG : WRO c.w a b room c.g) (hcn : Chan c.w oc b ub rn) (hf : EVx c m ((a.c i, oc) :: tl) f (.ref 119)) (h1 : EVx c m ((a.c i, oc) :: tl) e1 (.ref a.w)) (h2 : EVi c m ((a.c i, oc) :: tl) e2 (chn i))
    (h0 : autoParam (eval (f.Call [e1, e2, .Tuple [.Constant (.str (Str.ofString "R")) j p1] j' p2] [] p) c.env = (eval f c.env >>= fun fv => callWith p fv [] (backTo p (starEach [e1, e2, .Tuple [.Constant (.str (Str.ofString "R")) j p1] j' p2] c.env)) (backToKw p (keywordEach [] c.env)))) rflT)
    (hs1 : autoParam (starEach [e1, e2, .Tuple [.Constant (.str (Str.ofString "R")) j p1] j' p2] c.env = (false, eval e1 c.env) :: starEach [e2, .Tuple [.Constant (.str (Str.ofString "R")) j p1] j' p2] c.env) rflT)
    (hs2 : autoParam (starEach [e2, .Tuple [.Constant (.str (Str.ofString "R")) j p1] j' p2] c.env = (false, eval e2 c.env) :: starEach [.Tuple [.Constant (.str (Str.ofString "R")) j p1] j' p2] c.env) rflT)
    (hs3 : autoParam (((backTo p (starEach [e2, .Tuple [.Constant (.str (Str.ofString "R")) j p1] j' p2] c.env)).any fun x => x.1) = false) rflT) :
    EVg c m ((a.c i, oc) :: tl) (f.Call [e1, e2, .Tuple [.Constant (.str (Str.ofString "R")) j p1] j' p2] [] p) fun v n' => v = .ref (a.c i) ∧ ∃ D o, n' = (D, o) :: (a.c i, oc) :: tl := by
  refine EVg.callA [0, 1] 1 H hr hf (by kernel_rfl) HG WRO.kp (ARGg.x h1 (ARGg.i h2 (fun t => ?_) hs2) hs1) h0 hs1 hs3
  refine ARGg.g (V := fun v n1 => ∃ D t, v = .ref D ∧ n1 = (D, tupO [.str (Str.ofString "R") t] 0) :: (a.c i, oc) :: tl) (EVg.tup (P := fun n1 vs => n1 = (a.c i, oc) :: tl ∧ ∃ t, vs = [.str (Str.ofString "R") t]) (ARGg.s EVs.const (fun t => ARGg.nil ⟨rfl, t, rfl⟩) rfl) fun n1 vs hv => ?_) (fun v n1 hv => ARGg.nil ?_) rfl
  · obtain ⟨rfl, t, rfl⟩ := hv
    exact ⟨Nat.le_of_ble_eq_true rfl, fun D => ⟨D, t, rfl, rfl⟩⟩
  · obtain ⟨D, t9, rfl, rfl⟩ := hv
    rw [pick01, rest01]
    intro dp un base outer mean mg mb s R C hc hd hG ret
    exact t_chan (room := room) (ms := [.str (Str.ofString "R") t9]) (kq := 0) (ys := [Str.ofString "R"]) hcn (.cons _ _ .nil) (by decide +kernel) dp un base outer mean mg mb s R C hc hd hG fun v n' h' k' hP kp d q => ret _ _ h' k' (by obtain ⟨rfl, rfl⟩ := hP; exact ⟨rfl, D, _, rfl⟩) kp d q
theorem Cx.St.sub {h : Heap} (S : c.St m n h) (q : List.Sublist n2 n) : c.St m n2 h := ⟨S.F, fun p hp => S.N p (q.subset hp), (q.map Prod.fst).nodup S.D⟩
theorem RUN.end_s {P : Value → Nw → Prop} (q : List.Sublist n2 n) (hP : P .none n2) : RUN c m n [] (Pn c P) :=
  fun h0 k S => wpAny_execs_nil ⟨_, m, n2, h0, k, hP, S.sub q, rfl, rfl⟩
theorem RUN.drop {st : List Stmt} (q : List.Sublist n2 n) (h : RUN c m n2 st Q) : RUN c m n st Q := fun h0 k S => h h0 k (S.sub q)
theorem RUN.perm {st : List Stmt} (q : n2.Perm n) (h : RUN c m n2 st Q) : RUN c m n st Q := fun h0 k S => h h0 k (S.perm q)
end
end Mine
end
section
open PySem PySem.W PySem.Calls PyProof.Rows
namespace Mine
theorem push_lst {vs : List Value} {x : Value} : vs.toArray.push x = (vs ++ [x]).toArray := by simp
section
variable {c : Cx} {m : Lo} {n : Nw} {r : Nat} {Q : Flow → Shared → Prop}
theorem EVi.and255 {a b : PySem.Expr} {p : Pos} {x : Int} (ha : EVi c m n a x) (hb : EVi c m n b 255) : EVi c m n (.BinOp a .BitAnd b p) (x % 256) := EVi.bin ha hb fun _ _ _ _ q => r_and255 (q _ _)
theorem EVi.shr {a b : PySem.Expr} {p : Pos} {x y : Int} (ha : EVi c m n a x) (hb : EVi c m n b y) (h : 0 ≤ y) : EVi c m n (.BinOp a .RShift b p) (x.fdiv (2 ^ y.toNat)) := EVi.bin ha hb fun _ _ _ _ q => rshift_int h (q _ _)
theorem EVg.lst {es : List PySem.Expr} {p : Pos} {P : Nw → List Value → Prop} {V : Value → Nw → Prop} (ha : ARGg c m n es P) (hv : ∀ n1 vs, P n1 vs → vs.length ≤ sizeLine ∧ ∀ D, V (.ref D) ((D, lstO vs 0) :: n1)) : EVg c m n (.List es p) V :=
  fun h k Q S q => List_ (ha _ h k _ S fun vs n1 h1 k1 hp S1 => newList_K S1.F S1.N (fun D h2 F2 N2 l2 => q _ _ h2 _ ((hv n1 vs hp).2 D) ⟨F2, N2, List.nodup_cons.mpr ⟨fun hm => by
    obtain ⟨p, hp2, e⟩ := List.mem_map.mp hm
    have := l2 p hp2
    rw [e] at this
    exact Nat.lt_irrefl _ this, S1.D⟩⟩) (hv n1 vs hp).1)
theorem RUN.append {o e : PySem.Expr} {p p1 p2 : Pos} {rest : List Stmt} {l : Addr} {vs : List Value} {k z : Nat} {u : Str} (ho : EVx c m n o (.ref l)) (he : EVs c m n e u) (hz : n[z]? = some (l, lstO vs k)) (hsz : vs.length ≤ sizeLine)
    (h : ∀ t, let n' := n.set z (l, lstO (vs ++ [.str u t]) (k + 1)); RUN c m n' rest Q)
    (h2 : ∀ (E : Value → Shared → Prop) (s : Shared) (Q : Value → Shared → Prop), wpAny c.M c.A (PySem.eval o c.env) (fun ov s₁ => ∀ pl : Sem Bool, wpAny c.M c.A (getMethod ov (Str.ofString "append") pl) (fun fx s₂ => wpAny c.M c.A (callWith p2 fx.1 fx.2 (backTo p2 (starEach [e] c.env)) []) Q E s₂) E s₁) E s → wpAny c.M c.A (PySem.eval ((o.Attribute (Str.ofString "append") p1).Call [e] [] p2) c.env) Q E s)
    (h3 : interactive c.env = false) (h4 : swapsWith ((o.Attribute (Str.ofString "append") p1).Call [e] [] p2) none p.line c.env = pure false) (hs : starEach [e] c.env = (false, PySem.eval e c.env) :: starEach [] c.env) : RUN c m n (.Expr ((o.Attribute (Str.ofString "append") p1).Call [e] [] p2) p :: rest) Q :=
  fun h0 k0 S => wpAny_execs_cons (wpAny_Expr_any (h2 _ _ _ (ho h0 k0 _ S fun h5 k5 S5 pl => listMethod_K S5.N (List.mem_of_getElem? hz) F.slot_list_append F.type_list_append (callWith_method1 (args_cons (he h5 k5 _ S5 fun t h6 k6 S6 => args_nil
    (append_K S6.F S6.N (by rw [push_lst]; exact Upd.at hz S6.D) (fun h7 F7 N7 => h t h7 _ ⟨F7, N7, by rw [ks_set hz]; exact S6.D⟩) (by simpa using hsz))) hs) hs rfl))) h3 h4)
theorem EVs.join {e : PySem.Expr} {pc p1 p2 : Pos} {j z k : Nat} {x : Str} {l : Addr} {vs : List Value} {ys : List Str} (he : EVx c m n e (.ref l)) (hz : n[z]? = some (l, lstO vs k)) (hy : StrsAre vs ys) (hx : x.length ≤ 16) (hb : (ys.map fun x => x.length).sum + ys.length ≤ 1048576)
    (hM : ∀ (E : Value → Shared → Prop) (s : Shared) (Q : Value → Shared → Prop), wpAny c.M c.A (PySem.eval (.Constant (.str x) j pc) c.env) (fun ov s₁ => ∀ pl : Sem Bool, wpAny c.M c.A (getMethod ov (Str.ofString "join") pl) (fun fx s₂ => wpAny c.M c.A (callWith p2 fx.1 fx.2 (backTo p2 (starEach [e] c.env)) []) Q E s₂) E s₁) E s → wpAny c.M c.A (PySem.eval (.Call (.Attribute (.Constant (.str x) j pc) (Str.ofString "join") p1) [e] [] p2) c.env) Q E s)
    (hs : starEach [e] c.env = (false, PySem.eval e c.env) :: starEach [] c.env) : EVs c m n (.Call (.Attribute (.Constant (.str x) j pc) (Str.ofString "join") p1) [e] [] p2) (Txt.join x ys) :=
  fun h k0 Q S q => hM _ _ _ (EVs.const h k0 _ S fun t h1 k1 S1 pl => GM.join (callWith_method1 (args_cons (he h1 k1 _ S1 fun h2 k2 S2 => args_nil (join_listW (S2.isList hz) (by simpa using hy) hx hb fun t' k' => q t' h2 k' S2)) hs) hs rfl))
theorem RUN.ret_nss {n2 : Nw} {e : PySem.Expr} {rest : List Stmt} {p : Pos} {P : Value → Nw → Prop} {v : Str} (q : List.Sublist n2 n) (he : EVs c m n e v) (hP : ∀ t, P (.str v t) n2) : RUN c m n (.Return (some e) p :: rest) (Pn c P) :=
  fun h0 k S => wpAny_execs_cons (wpAny_Return_some (he h0 k _ S fun t h1 k1 S1 => ⟨_, m, n2, h1, k1, hP t, S1.sub q, rfl, rfl⟩))
theorem RUN.ret_nis {n2 : Nw} {e : PySem.Expr} {rest : List Stmt} {p : Pos} {P : Value → Nw → Prop} {v : Int} (q : List.Sublist n2 n) (he : EVi c m n e v) (hP : ∀ t, P (.int v t) n2) : RUN c m n (.Return (some e) p :: rest) (Pn c P) :=
  fun h0 k S => wpAny_execs_cons (wpAny_Return_some (he h0 k _ S fun t h1 k1 S1 => ⟨_, m, n2, h1, k1, hP t, S1.sub q, rfl, rfl⟩))
theorem RUN.ret_nxs {n2 : Nw} {e : PySem.Expr} {rest : List Stmt} {p : Pos} {P : Value → Nw → Prop} {v : Value} (q : List.Sublist n2 n) (he : EVx c m n e v) (hP : P v n2) : RUN c m n (.Return (some e) p :: rest) (Pn c P) :=
  fun h0 k S => wpAny_execs_cons (wpAny_Return_some (he h0 k _ S fun h1 k1 S1 => ⟨_, m, n2, h1, k1, hP, S1.sub q, rfl, rfl⟩))
end
theorem StrsAre.snoc {vs : List Value} {ys : List Str} (h : StrsAre vs ys) (u : Str) (t : Tok) : StrsAre (vs ++ [.str u t]) (ys ++ [u]) := by
  induction h with
  | nil => exact .cons _ _ .nil
  | cons y t' _ ih => exact .cons _ _ ih
end Mine
end
section
open PySem PySem.W PySem.Calls PyProof.Rows
namespace Mine
noncomputable def Thr (c : Cx) (cells : Nw) (u : Str) : Prop := ∀ m n hc h' k e fl fs, c.St m n hc → (∀ p ∈ cells, p ∈ n) → (fl = none ∨ fl = some .none) → c.A.frames = some fs → KpF (fs.filterMap (·.frame)) hc h' → ExcIn hc h' e u fl → c.E (.ref e) (c.sh h' k)
noncomputable def CTr (w : World) (r : Nat) (f : Addr) (vs : List Value) (cells : Nw) (G : Heap → Prop) (u : Str) : Prop :=
  ∀ dp un base outer mean mg mb (s : Shared) (R : Result → Shared → Prop), At w dp un base outer mean mg mb s.heap r → Own base outer s.heap cells → (ks cells).Nodup → G (hideAll s.heap (ks cells)) →
    (∀ e h' tk', Thrown (outer.filterMap (·.frame)) s.heap h' e u → R (.error (.ref e)) { s with heap := h', toks := tk' }) →
    codeAny (model PySem.Challenge.rw_sm0006_01.row.prog w) (top dp un outer) (.call (.ref f) ⟨vs, []⟩) R s
section
variable {c : Cx} {m : Lo} {n : Nw} {r : Nat} {Q : Flow → Shared → Prop}
noncomputable def EXr (c : Cx) (m : Lo) (n : Nw) (e : PySem.Expr) : Prop := ∀ h k Q, c.St m n h → wpAny c.M c.A (PySem.eval e c.env) Q c.E (c.sh h k)
theorem EXr.call {f e : PySem.Expr} {es : List PySem.Expr} {p : Pos} {a : Addr} {G : Heap → Prop} {cells : Nw} {u : Str} (is : List Nat) (r' : Nat) (H : Ok c r) (hT : Thr c cells u) (hcs : ∀ p ∈ cells, p ∈ n) (hr : r' < r) (hf : EVx c m n f (.ref a)) (hk : keepIn (KO c.w.params) (.ref a) = true)
    (ha : ARG c m n (e :: es) fun vs => CTr c.w r' a vs (pick is 0 n) G u) (hG : G c.g) (hGk : ∀ h h', (∀ b o, h.get? b = some o → h'.get? b = some o) → G h → G h')
    (h0 : autoParam (PySem.eval (f.Call (e :: es) [] p) c.env = (PySem.eval f c.env >>= fun fv => callWith p fv [] (backTo p (starEach (e :: es) c.env)) (backToKw p (keywordEach [] c.env)))) rflT)
    (hs : autoParam (starEach (e :: es) c.env = (false, PySem.eval e c.env) :: starEach es c.env) rflT) (hs2 : autoParam (((backTo p (starEach es c.env)).any fun x => x.1) = false) rflT) : EXr c m n (.Call f (e :: es) [] p) :=
  fun h k Q S => Call_ (hf h k _ S fun h1 k1 S1 => callWith_K (H.X.keeps S1.F.keep) hk (ha p h1 k1 _ S1 fun vs h2 k2 hc S2 => ⟨H.X.keeps S2.F.keep, wpAny_call (by
    obtain ⟨dp, un, base, outer, mean, mg, mb, eA, C, ob⟩ := H.stand _ _ S2.F r' hr
    have pm := pick_perm (is := is) 0 n
    have D := (pm.map Prod.fst).nodup_iff.mp S2.D
    rw [List.map_append] at D
    have hm : ∀ p ∈ pick is 0 n, p ∈ n := fun p hp => pm.mem_iff.mpr (List.mem_append_left _ hp)
    have og : ∀ p ∈ pick is 0 n, c.g.get? p.1 = none := fun p hp => (S2.N p (hm p hp)).2.2
    have hTh : ∀ e h' tk', Thrown (outer.filterMap (·.frame)) h2 h' e u → c.E (.ref e) (c.sh h' tk') := fun e h' tk' th => hT m n h2 h' tk' e _ outer S2 hcs (.inr rfl) (by rw [eA]) th.1 th.2
    rw [eA]
    refine hc dp un base outer mean mg mb _ _ C (fun p hp => ob p ((S2.N p (hm p hp)))) (List.nodup_append.mp D).1 (hGk c.g _ (fun b o e => hideAll_get _ (S2.F.keep b o e) fun hb => ?_) hG) fun e h' k' th => hTh e h' k' th
    obtain ⟨p, hp, rfl⟩ := List.mem_map.mp hb
    rw [og p hp] at e; cases e)⟩) hs hs2) h0
theorem RUN.ret_r {e : PySem.Expr} {rest : List Stmt} {p : Pos} (he : EXr c m n e) : RUN c m n (.Return (some e) p :: rest) Q := fun h0 k S => wpAny_execs_cons (wpAny_Return_some (he h0 k _ S))
theorem RUN.raise {p p1 p2 p3 : Pos} {j : Nat} {u : Str} {cells : Nw} {rest : List Stmt} (H : Ok c r) (hT : Thr c cells u) (hcs : ∀ p ∈ cells, p ∈ n) (hr : 3 < r) (hf : EVx c m n (.Name (Str.ofString "BasicError") p1) (.ref 34))
    (h0 : autoParam (PySem.eval (.Call (.Name (Str.ofString "BasicError") p1) [.Constant (.str u) j p2] [] p3) c.env = (PySem.eval (.Name (Str.ofString "BasicError") p1) c.env >>= fun fv => callWith p3 fv [] (backTo p3 (starEach [.Constant (.str u) j p2] c.env)) (backToKw p3 (keywordEach [] c.env)))) rflT)
    (hs : autoParam (starEach [.Constant (.str u) j p2] c.env = (false, PySem.eval (.Constant (.str u) j p2) c.env) :: starEach [] c.env) rflT) :
    RUN c m n (.Raise (some (.Call (.Name (Str.ofString "BasicError") p1) [.Constant (.str u) j p2] [] p3)) none p :: rest) Q := by
  intro h k S
  have hC : ∃ nm qn N hdct sn sub ab col dd k0 k1 k2 k3 k5, (KO c.w.params).lookup 34 = some (clsE nm qn 34 N hdct sn sub ab col dd k0 k1 k2 k3 k5) := ⟨_, _, _, _, _, _, _, _, _, _, _, _, _, _, by with_unfolding_all rfl⟩
  obtain ⟨nm, qn, N, hdct, sn, sub, ab, col, dd, k0, k1, k2, k3, k5, hC⟩ := hC
  refine wpAny_execs_cons (r_raise (C := 34) H.hh H.X hC (Call_ (hf h k _ S fun h1 k1 S1 => callWith_K (H.X.keeps S1.F.keep) (by kernel_rfl) (args_cons (EVs.const h1 k1 _ S1 fun t h2 k2 S2 => args_nil ⟨H.X.keeps S2.F.keep, ?_⟩) hs) hs rfl) h0))
  obtain ⟨dp, un, base, outer, mean, mg, mb, eA, C, ob⟩ := H.stand _ _ S2.F 3 hr
  have hTh : ∀ e h' tk', Kp [] h2 h' → ExcIn h2 h' e u none → c.E (.ref e) (c.sh h' tk') := fun e h' tk' kp X => hT m n h2 h' tk' e _ outer S2 hcs (.inl rfl) (by rw [eA]) (KpF.of_kp kp) X
  have hg := S2.F.keep
  rw [eA]
  exact c_exc_call (n := 0) C fun e h' tk' t1 d1 kp he X => ⟨e, t1, d1, rfl, fun b o x => kp.all _ _ (hg b o x), he, hTh e h' tk' kp X⟩
end
section
variable {w : World} {r : Nat} {f : Addr} {vs : List Value} {cells : Nw} {G : Heap → Prop} {u : Str} {name qual : Str} {params : Arguments} {body : List Stmt} {scope : Scope} {dV kV doc pm cdv ct oc : Value} {an od : Option Addr} {osl : Array (Option Value)} {binds : List (Str × Value)}
theorem CTr.mk (binds : List (Str × Value)) (ho : (KO w.params).lookup f = some ⟨oc, od, .func (fnOf name qual params body scope dV kV doc pm an cdv ct), osl⟩) (hcd : codeIn (KO w.params) cdv qual = true)
    (hbind : ∀ s, BindsTo s (fnOf name qual params body scope dV kV doc pm an cdv ct) ⟨vs, []⟩ binds) (hloc : (binds.all fun x => decide (scope.names.lookup x.1 = some .local)) = true) (hGk : ∀ h h', (∀ b o, h.get? b = some o → h'.get? b = some o) → G h → G h')
    (h : ∀ A L g s E, let c : Cx := ⟨w, A, envX qual scope L f cdv [], g, s, E⟩; Ok c r → Thr c cells u → G g → let QQ : Flow → Shared → Prop := (fun _ _ => False); RUN c (fun y => binds.reverse.lookup y) cells body QQ)
    (hco : autoParam (scope.isCoroutine = false) rflT) (hgen : autoParam (scope.isGenerator = false) rflT) (hk : autoParam (scope.kind = .function) rflT)
    (hcell : autoParam (∀ x ∈ scope.names, x.2 ≠ .cell) decT) : CTr w r f vs cells G u := by
  intro dp un base outer mean mg mb s R C hc hD hG exc
  refine enter (binds := binds) C hc ho hcd (hbind s) (locs hloc) (fun g L h₁ F N B X T hk1 hlt => ?_) hco hgen hk hcell
  have hGg : G g := hGk _ _ (fun b o e => hk1 b o (of_hideAll _ e) fun hb => by rw [hideAll_none _ hb] at e; cases e) hG
  refine wpAny_mono (h ((top dp un outer).deeper (envOf qual scope L f cdv)) L g s _ ⟨X, ⟨mg, mb, topRead_of T⟩, hk, rfl, rfl, rfl, (fun _ => by passes_own), fun h' m' F' r' hr => ⟨dp + 1, un + 3, base, envOf qual scope L f cdv :: outer, mean, mg, mb, rfl, ?_, fun p hp => Own.inner (cells := [p]) (news := [p]) (L := L) (h := h') B (fun q hq => by obtain rfl := List.mem_singleton.mp hq; exact hp) rfl (fun q hq => hq) p (.head _)⟩⟩ ?_ hGg h₁ _ ⟨F, N, hD⟩) (fun fl s' P => P.elim) (fun _ _ e => e)
  · exact At.inner (s := { s with heap := h' }) C B F' (by omega) (by omega) hk
  · intro m n hc' h' k e fl fs S hcs hfl hfr kpf XX
    obtain rfl := Option.some.inj hfr
    exact r_leave (s := s) (s' := { s with heap := h', toks := k }) hfl hc hk1 B S.F S.N hcs rfl kpf XX (fun h'' T => exc e h'' k T) hk
end
end Mine
end
section
open PySem PySem.W PySem.Calls PyProof.Rows
namespace Mine
section
variable {c : Cx} {m : Lo} {n : Nw} {r : Nat} {Q : Flow → Shared → Prop}
theorem RUN.unp2 {x y : Str} {p p1 p2 p4 : Pos} {j : Nat} {e : PySem.Expr} {rest : List Stmt} {t : Addr} {v1 v2 : Value} (H : Ok c r) (he : EVx c m n e (.ref t)) (ht : ∀ h, c.St m n h → IsTup h t #[v1, v2])
    (hx : c.env.kindOf x = some .local) (hy : c.env.kindOf y = some .local) (h : let m' := upd (upd m x v1) y v2; RUN c m' n rest Q)
    (ha : ∀ (E : Value → Shared → Prop) (s : Shared) (Q : Flow → Shared → Prop), wpAny c.M c.A (PySem.eval e c.env) (fun v s₁ => wpAny c.M c.A (assign (.Tuple [.Name x p1, .Name y p2] j p4) c.env v) (fun _ => Q .next) E s₁) E s → wpAny c.M c.A (exec (.Assign [.Tuple [.Name x p1, .Name y p2] j p4] e p) c.env) Q E s) :
    RUN c m n (.Assign [.Tuple [.Name x p1, .Name y p2] j p4] e p :: rest) Q := by
  intro h0 k S
  refine wpAny_execs_cons (ha _ _ _ (he h0 k _ S fun h1 k1 S1 => ?_))
  refine unpackN_ S1.F S1.N (ht _ S1) H.hh rfl rfl fun h2 F2 N2 => ?_
  refine assignInOrder_cons (assign_Name (storeG_L F2 N2 (fun h3 F3 N3 => ?_) H.kd hx))
  refine assignInOrder_cons (assign_Name (storeG_L F3 N3 (fun h4 F4 N4 => ?_) H.kd hy))
  exact assignInOrder_nil (h h4 _ ⟨F4, N4, S1.D⟩)
theorem Cx.St.isTup {h : Heap} (S : c.St m n h) {i : Nat} {a : Addr} {vs : List Value} {k : Nat} (e : n[i]? = some (a, tupO vs k)) : IsTup h a vs.toArray := ⟨_, (S.N _ (List.mem_of_getElem? e)).1, rfl, _, rfl⟩
theorem EVx.bih {f e : PySem.Expr} {es : List PySem.Expr} {p : Pos} {id : String} {v : Value} (hf : EVx c m n f (.builtin id))
    (ha : ARG c m n (e :: es) fun vs => ∀ (h : Heap) (k : Nat) (Q : Value → Shared → Prop), c.St m n h → (∀ k', Q v (c.sh h k')) → wpAny c.M c.A (PySem.call (.builtin id) vs) Q c.E (c.sh h k))
    (h0 : autoParam (PySem.eval (f.Call (e :: es) [] p) c.env = (PySem.eval f c.env >>= fun fv => callWith p fv [] (backTo p (starEach (e :: es) c.env)) (backToKw p (keywordEach [] c.env)))) rflT)
    (hs : autoParam (starEach (e :: es) c.env = (false, PySem.eval e c.env) :: starEach es c.env) rflT) (hs2 : autoParam (((backTo p (starEach es c.env)).any fun x => x.1) = false) rflT) : EVx c m n (.Call f (e :: es) [] p) v :=
  fun h k Q S q => Call_ (hf h k _ S fun h1 k1 S1 => callWith_builtin1 (ha p h1 k1 _ S1 fun vs h2 k2 hc S2 => hc h2 k2 _ S2 fun k' => q h2 k' S2) hs hs2) h0
theorem b_isit {p : Addr} {vs : List Value} {k i : Nat} {T : String} {z : Bool} (H : Ok c r) (e : n[i]? = some (p, tupO vs k)) (hz : kitOne (KO c.w.params) (.type "tuple") (.type T) = some z) : ∀ (h : Heap) (k : Nat) (Q : Value → Shared → Prop), c.St m n h → (∀ k', Q (.bool z) (c.sh h k')) → wpAny c.M c.A (PySem.call (.builtin "isinstance") [.ref p, .type T]) Q c.E (c.sh h k) :=
  fun h k Q S q => kia_one kitx_tuple (H.X.keeps S.F.keep) ⟨_, S.get e, rfl⟩ hz (by intro e; cases e) fun tk => q tk
end
end Mine
end
section
open PySem PySem.W PySem.Calls PyProof.Rows
namespace Mine
section
variable {c : Cx} {m : Lo} {n : Nw} {r : Nat} {Q : Flow → Shared → Prop}
noncomputable def Tw (c : Cx) (I : Nat → Lo → Nw → Prop) (k : Nat) (Q : Flow → Shared → Prop) (f : Flow) (s' : Shared) : Prop := match f with
  | .ret v => Q (.ret v) s'
  | .brk => Q .next s'
  | _ => ∃ h t m2 n2 j, j < k ∧ s' = c.sh h t ∧ c.St m2 n2 h ∧ I j m2 n2
theorem RUN.wturn {I : Nat → Lo → Nw → Prop} {k j : Nat} (hj : j < k) (h : I j m n) : RUN c m n [] (Tw c I k Q) := fun h0 t S => wpAny_execs_nil ⟨h0, t, m, n, j, hj, rfl, S, h⟩
theorem RUN.while {test : PySem.Expr} {body rest : List Stmt} {p : Pos} (I : Nat → Lo → Nw → Prop) (k0 : Nat) (H : Ok c r) (h0 : I k0 m n)
    (turn : ∀ k m1 n1, I k m1 n1 → (CND c m1 n1 test true ∧ RUN c m1 n1 body (Tw c I k (c.aft rest Q))) ∨ (CND c m1 n1 test false ∧ RUN c m1 n1 rest Q)) (hfn : autoParam (c.env.func.isSome = true) rflT) : RUN c m n (.While test body [] p :: rest) Q := by
  intro h k S
  refine wpAny_execs_cons (wpAny_mono (Q := c.aft rest Q) (wpAny_While ?_) (fun f s' z => by cases f <;> exact z) fun _ _ e => e)
  refine codeAny_whileLoop (fun j s' => ∃ h t m1 n1, s' = c.sh h t ∧ c.St m1 n1 h ∧ I j m1 n1) ?_ k0 ⟨h, k, m, n, rfl, S, h0⟩
  rintro j s' ⟨h1, t1, m1, n1, rfl, S1, hI⟩
  rcases turn j m1 n1 hI with ⟨hc, hb⟩ | ⟨hc, hb⟩
  · refine wpAny_passesOwn (H.po hfn) (hc h1 t1 _ S1 fun h2 t2 S2 => ?_)
    rw [if_pos rfl]
    refine wpAny_mono (wpAny_passesOwn (H.po hfn) (hb h2 t2 S2)) (fun f s3 z => ?_) fun _ _ e => e
    cases f with
    | ret v => exact z
    | brk => exact z
    | next => obtain ⟨h3, t3, m3, n3, i, hi, rfl, S3, hI3⟩ := z; exact ⟨i, hi, h3, t3, m3, n3, rfl, S3, hI3⟩
    | cont => obtain ⟨h3, t3, m3, n3, i, hi, rfl, S3, hI3⟩ := z; exact ⟨i, hi, h3, t3, m3, n3, rfl, S3, hI3⟩
  · refine wpAny_passesOwn (H.po hfn) (hc h1 t1 _ S1 fun h2 t2 S2 => ?_)
    rw [if_neg (by decide)]
    exact wpAny_execs_nil (hb h2 t2 S2)
theorem RUN.aug {x : Str} {op : Operator} {e : PySem.Expr} {p p' : Pos} {rest : List Stmt} {a b z : Int} {ta : Tok} (H : Ok c r) (hl : c.env.kindOf x = some .local) (hm : m x = some (.int a ta)) (he : EVi c m n e b)
    (ho : ∀ t u (s : Shared) (Q : Value → Shared → Prop), (∀ t' k', Q (.int z t') { s with toks := k' }) → wpAny c.M c.A (inplaceOp op (.int a t) (.int b u)) Q c.E s) (h : ∀ t, let m' := upd m x (.int z t); RUN c m' n rest Q) : RUN c m n (.AugAssign (.Name x p') op e p :: rest) Q :=
  fun h0 k S => wpAny_execs_cons (wpAny_AugAssign_Name (wpAny_loadName_local H.kd hl S.F.ns hm (he h0 k _ S fun u h1 k1 S1 => ho _ u _ _ fun t' k' => storeG_L S1.F S1.N (fun h2 F2 N2 => h t' h2 _ ⟨F2, N2, S1.D⟩) H.kd hl)))
theorem RUN.unp2g {x y : Str} {p p1 p2 p4 : Pos} {j : Nat} {e : PySem.Expr} {rest : List Stmt} {P : Value → Value → Prop} (H : Ok c r) (he : EVg c m n e fun v n' => ∃ D v1 v2, v = .ref D ∧ n' = (D, tupO [v1, v2] 0) :: n ∧ P v1 v2)
    (hx : c.env.kindOf x = some .local) (hy : c.env.kindOf y = some .local) (h : ∀ v1 v2, P v1 v2 → let m' := upd (upd m x v1) y v2; RUN c m' n rest Q)
    (ha : ∀ (E : Value → Shared → Prop) (s : Shared) (Q : Flow → Shared → Prop), wpAny c.M c.A (PySem.eval e c.env) (fun v s₁ => wpAny c.M c.A (assign (.Tuple [.Name x p1, .Name y p2] j p4) c.env v) (fun _ => Q .next) E s₁) E s → wpAny c.M c.A (exec (.Assign [.Tuple [.Name x p1, .Name y p2] j p4] e p) c.env) Q E s) :
    RUN c m n (.Assign [.Tuple [.Name x p1, .Name y p2] j p4] e p :: rest) Q := by
  intro h0 k S
  refine wpAny_execs_cons (ha _ _ _ (he h0 k _ S fun v n' h1 k1 hv S1 => ?_))
  obtain ⟨D, v1, v2, rfl, rfl, hP⟩ := hv
  refine unpackN_ S1.F S1.N (S1.isTup (i := 0) rfl) H.hh rfl rfl fun h2 F2 N2 => ?_
  refine assignInOrder_cons (assign_Name (storeG_L F2 N2 (fun h3 F3 N3 => ?_) H.kd hx))
  refine assignInOrder_cons (assign_Name (storeG_L F3 N3 (fun h4 F4 N4 => ?_) H.kd hy))
  exact assignInOrder_nil (h v1 v2 hP h4 _ ⟨F4, fun p hp => N4 p (List.mem_cons_of_mem _ hp), (List.nodup_cons.mp S1.D).2⟩)
end
end Mine
end
section
open PySem PySem.W PySem.Calls PyProof.Rows PySem.Spec
namespace Mine
noncomputable abbrev But (L : Addr) (h h' : Heap) : Prop := ∀ b o, b ≠ L → h.get? b = some o → h'.get? b = some o
theorem But.refl {L : Addr} {h : Heap} : But L h h := fun _ _ _ e => e
section
variable {c : Cx} {m m1 m2 : Lo} {n : Nw} {r : Nat} {h0 : Heap}
noncomputable def TGT (c : Cx) (n : Nw) (e : PySem.Expr) (v : Value) (h0 : Heap) (m m2 : Lo) : Prop :=
  ∀ h k Q, But c.L h0 h → c.St m n h → (∀ h' k', But c.L h0 h' → c.St m2 n h' → Q () (c.sh h' k')) → wpAny c.M c.A (assign e c.env v) Q c.E (c.sh h k)
noncomputable def TGS (c : Cx) (n : Nw) (ts : List (Value → Sem Unit)) (vs : List Value) (h0 : Heap) (m m2 : Lo) : Prop :=
  ∀ h k Q, But c.L h0 h → c.St m n h → (∀ h' k', But c.L h0 h' → c.St m2 n h' → Q () (c.sh h' k')) → wpAny c.M c.A (assignInOrder ts vs) Q c.E (c.sh h k)
theorem TGT.name {x : Str} {p : Pos} {v : Value} (H : Ok c r) (hx : c.env.kindOf x = some .local) : TGT c n (.Name x p) v h0 m (upd m x v) :=
  fun h k Q b S q => assign_Name (wpAny_storeName_local hx S.F.ns (fun h' hn hs => q h' _ (fun a o ha e => (hs.2 a ha).trans (b a o ha e)) ⟨S.F.set hn hs, S.N.set hs, S.D⟩)
    (by show (c.env.scope.kind == .class || (c.env.scope.kind == .module && c.env.locals != c.env.globals)) = false; rw [H.kd]; rfl))
theorem TGS.nil {vs : List Value} : TGS c n [] vs h0 m m := fun h k _ b S q => assignInOrder_nil (q h k b S)
theorem TGS.cons {e : PySem.Expr} {v : Value} {ts : List (Value → Sem Unit)} {vs : List Value} (h : TGT c n e v h0 m m1) (h2 : TGS c n ts vs h0 m1 m2) : TGS c n ((fun u => assign e c.env u) :: ts) (v :: vs) h0 m m2 :=
  fun h1 k Q b S q => assignInOrder_cons (h h1 k _ b S fun h3 k3 b3 S3 => h2 h3 k3 Q b3 S3 q)
theorem TGT.tup {elts : List PySem.Expr} {k : Nat} {p : Pos} {t : Addr} {vs : List Value} {mm : Lo} {nn : Nw} (H : Ok c r) (S0 : c.St mm nn h0) (ht : IsTup h0 t vs.toArray)
    (h : TGS c n ((assignEach elts c.env).map (·.2)) vs h0 m m2) (hn : autoParam ((assignEach elts c.env).length = vs.length) rflT) (hst : autoParam ((assignEach elts c.env).findIdx? (·.1) = none) rflT) : TGT c n (.Tuple elts k p) (.ref t) h0 m m2 := by
  intro h1 k1 Q b S q
  obtain ⟨o, ho, hc, kk, hd⟩ := ht
  have hL : t ≠ c.L := fun e => by
    obtain ⟨o2, es, ep, ho2, hd2, _⟩ := S0.F.ns
    rw [e] at ho
    cases ho.symm.trans ho2
    rw [hd] at hd2
    cases hd2
  refine assign_Tuple_tuple H.hh ⟨o, b t o hL ho, hc, kk, hd⟩ (by simpa using hn) hst fun h' he => ?_
  have up : ∀ a o, h1.get? a = some o → h'.get? a = some o := fun a o e => he a o (Nat.ne_of_lt (Heap.lt_size e)) e
  refine wpAny_mono (h h' k1 Q (fun a o ha e => up a o (b a o ha e)) ⟨S.F.keeps up, S.N.grown up, S.D⟩ q) (fun _ _ z => z) fun _ _ z => z
end
theorem KTurns.mono {prog : Program} {w : World} {A : Around} {target : PySem.Expr} {I : Addr} {fp wr wr' : List Addr} {n : Nat} {P Md : Nat → Value → Heap → Prop} {St : Nat → Heap → Prop} (W : KTurns prog w A target I fp wr n P Md St)
    (h : ∀ b ∈ wr, b ∈ wr') (h2 : ∀ b ∈ wr', b ∈ fp) : KTurns prog w A target I fp wr' n P Md St where
  sub := h2
  frame := W.frame
  item := fun i s Q E hi st hQ => W.item i s Q E hi st fun v h' tk hM hk => hQ v h' tk hM fun b o hb => hk b o fun z => hb (h b z)
  go := fun i v s Q E hm hQ => W.go i v s Q E hm fun h' hP hs hk => hQ h' hP hs fun b o hb => hk b o fun z => hb (h b z)
  done := fun s Q E st hQ => W.done s Q E st fun h' tk hk => hQ h' tk fun b o hb => hk b o fun z => hb (h b z)
structure Src (c : Cx) (target : PySem.Expr) (I : Addr) (N : Nat) (P Md : Nat → Value → Heap → Prop) (St : Nat → Heap → Prop) (fp wr : List Addr) (keep : Nw) (h : Heap) : Prop where
  K : KTurns PySem.Challenge.rw_sm0006_01.row.prog c.w c.A target I fp wr N P Md St
  self : ∀ i (s : Shared) (Q : Value → Shared → Prop) (E : Value → Shared → Prop), St i s.heap → Q (.ref I) s → wpAny c.M c.A (pyIter (.ref I)) Q E s
  ob : ∀ i h, St i h → ∀ b ∈ wr, ∃ o, h.get? b = some o
  st : St 0 h
  new : ∀ b ∈ wr, c.g.get? b = none
  nd : wr.Nodup
  fpk : ∀ b ∈ fp, b ∈ wr ∨ (∃ o, (b, o) ∈ keep) ∨ ∃ o, c.g.get? b = some o
  lw : c.L ∉ wr
noncomputable def objs_at (l : List Addr) (h : Heap) : Nw := l.filterMap fun b => (h.get? b).map fun o => (b, o)
theorem mem_objs_at {l : List Addr} {h : Heap} {p : Addr × Obj} : p ∈ objs_at l h ↔ p.1 ∈ l ∧ h.get? p.1 = some p.2 := by
  constructor
  · intro hp
    obtain ⟨b, hb, e⟩ := List.mem_filterMap.mp hp
    obtain ⟨o, ho, e2⟩ := Option.map_eq_some_iff.mp e
    subst e2
    exact ⟨hb, ho⟩
  · rintro ⟨h1, h2⟩
    exact List.mem_filterMap.mpr ⟨p.1, h1, by rw [h2]; rfl⟩
theorem objs_at_nd {l : List Addr} {h : Heap} (hl : l.Nodup) : ((objs_at l h).map Prod.fst).Nodup := by
  induction l with
  | nil => exact List.nodup_nil
  | cons a l ih =>
    have h1 := List.nodup_cons.mp hl
    unfold objs_at
    rw [List.filterMap_cons]
    cases e : h.get? a with
    | none => exact ih h1.2
    | some o =>
      refine List.nodup_cons.mpr ⟨fun hm => ?_, ih h1.2⟩
      obtain ⟨p, hp, e2⟩ := List.mem_map.mp hm
      have := (mem_objs_at.mp hp).1
      rw [e2] at this
      exact h1.1 this
section
variable {c : Cx} {m : Lo} {n : Nw} {r : Nat} {Q : Flow → Shared → Prop}
noncomputable def ITat (c : Cx) (target : PySem.Expr) (N : Nat) (V : Nat → Value → Heap → Prop) (keep n : Nw) (I : Addr) (h : Heap) : Prop :=
  ∃ (Md : Nat → Value → Heap → Prop) (St : Nat → Heap → Prop) (fp wr : List Addr), Src c target I N V Md St fp wr keep h ∧ (∀ p ∈ n, p.1 ∉ wr) ∧ ∀ p ∈ keep, p ∈ n
noncomputable def ITR (c : Cx) (m : Lo) (n : Nw) (e target : PySem.Expr) (N : Nat) (V : Nat → Value → Heap → Prop) (keep : Nw) : Prop :=
  ∀ h k Q, c.St m n h → (∀ I h' k', c.St m n h' → ITat c target N V keep n I h' → Q (.ref I) (c.sh h' k')) → wpAny c.M c.A (eval e c.env) (fun v s => wpAny c.M c.A (pyIter v) Q c.E s) c.E (c.sh h k)
theorem Cx.St.walk {h : Heap} {wr : List Addr} (F : Fr c.g c.L h m) (N : News c.g c.L h n) (D : (n.map Prod.fst).Nodup) (off : ∀ p ∈ n, p.1 ∉ wr) (new : ∀ b ∈ wr, c.g.get? b = none) (nd : wr.Nodup) (lw : c.L ∉ wr) : c.St m (n ++ objs_at wr h) h := by
  refine ⟨F, fun p hp => ?_, ?_⟩
  · rcases List.mem_append.mp hp with hp | hp
    · exact N p hp
    · have := mem_objs_at.mp hp
      exact ⟨this.2, fun e => lw (e ▸ this.1), new _ this.1⟩
  · rw [List.map_append]
    refine List.nodup_append.mpr ⟨D, objs_at_nd nd, fun a ha b hb e => ?_⟩
    obtain ⟨p, hp, e1⟩ := List.mem_map.mp ha
    obtain ⟨q, hq, e2⟩ := List.mem_map.mp hb
    have := (mem_objs_at.mp hq).1
    rw [e2, ← e, ← e1] at this
    exact off p hp this
theorem Src.stay {target : PySem.Expr} {I : Addr} {N i : Nat} {P Md : Nat → Value → Heap → Prop} {St : Nat → Heap → Prop} {fp wr : List Addr} {keep n1 n2 : Nw} {h0 h1 h2 : Heap} {m1 m2 : Lo} (X : Src c target I N P Md St fp wr keep h0)
    (hst : St i h1) (S1 : c.St m1 (n1 ++ objs_at wr h1) h1) (S2 : c.St m2 (n2 ++ objs_at wr h1) h2) (k1 : ∀ p ∈ keep, p ∈ n1) (k2 : ∀ p ∈ keep, p ∈ n2) :
    (∀ b ∈ fp, ∀ o, h1.get? b = some o → h2.get? b = some o) ∧ ∀ p ∈ n2, p.1 ∉ wr := by
  refine ⟨fun b hb o e => ?_, fun p hp hw => ?_⟩
  · rcases X.fpk b hb with hw | ⟨o', hk⟩ | ⟨o', hg⟩
    · exact (S2.N (b, o) (List.mem_append_right _ (mem_objs_at.mpr ⟨hw, e⟩))).1
    · have := (S1.N _ (List.mem_append_left _ (k1 _ hk))).1
      cases this.symm.trans e
      exact (S2.N _ (List.mem_append_left _ (k2 _ hk))).1
    · have := S1.F.keep b o' hg
      cases this.symm.trans e
      exact S2.F.keep b _ hg
  · obtain ⟨o, ho⟩ := X.ob i h1 hst p.1 hw
    have D := S2.D
    rw [List.map_append] at D
    exact (List.nodup_append.mp D).2.2 p.1 (List.mem_map_of_mem hp) p.1 (List.mem_map.mpr ⟨(p.1, o), mem_objs_at.mpr ⟨hw, ho⟩, rfl⟩) rfl
noncomputable def TnW (c : Cx) (T : Nw) (Jn : Lo → Nw → Prop) (Q : Flow → Shared → Prop) (f : Flow) (s' : Shared) : Prop := match f with
  | .ret v => Q (.ret v) s'
  | .brk => Q .next s'
  | _ => ∃ h k m2 n2, s' = c.sh h k ∧ c.St m2 (n2 ++ T) h ∧ Jn m2 n2
theorem RUN.turnW {T : Nw} {Jn : Lo → Nw → Prop} {n2 : Nw} (q : List.Sublist (n2 ++ T) n) (h : Jn m n2) : RUN c m n [] (TnW c T Jn Q) :=
  fun h0 k S => wpAny_execs_nil ⟨h0, k, m, n2, rfl, ⟨S.F, fun p hp => S.N p (q.subset hp), (q.map Prod.fst).nodup S.D⟩, h⟩
theorem RUN.for_w {target iter : PySem.Expr} {p : Pos} {body rest : List Stmt} {N : Nat} {V : Nat → Value → Heap → Prop} {keep : Nw} (J : Nat → Lo → Nw → Prop) (H : Ok c r) (he : ITR c m n iter target N V keep) (h0 : J 0 m n)
    (hk : ∀ i m1 n1, J i m1 n1 → ∀ p ∈ keep, p ∈ n1)
    (step : ∀ i T v m1 n1 h, i < N → J i m1 n1 → V i v h → c.St m1 (n1 ++ T) h → ∃ m2, TGT c (n1 ++ T) target v h m1 m2 ∧ RUN c m2 (n1 ++ T) body (TnW c T (J (i + 1)) (c.aft rest Q)))
    (fin : ∀ m1 n1, J N m1 n1 → RUN c m1 n1 rest Q) (hs : autoParam (∀ v, foldedSetIterable iter c.env v = pure v) irflT) (hfn : autoParam (c.env.func.isSome = true) rflT) : RUN c m n (.For target iter body [] p :: rest) Q := by
  intro h1 k1 S
  refine wpAny_execs_cons (wpAny_mono (For_turns (Q := c.aft rest Q) S.F (he h1 k1 _ S fun I h2 k2 S2 hI => ?_) hs (H.po hfn)) (fun f s' z => by cases f <;> exact z) fun _ _ e => e)
  obtain ⟨Md, St, fp, wr, X, off, kn⟩ := hI
  have lf : c.L ∉ fp := fun hm => by
    rcases X.fpk _ hm with hw | ⟨o', hk'⟩ | ⟨o', hg⟩
    · exact X.lw hw
    · exact (S2.N _ (kn _ hk')).2.1 rfl
    · exact Nat.lt_irrefl _ (Nat.lt_of_lt_of_le (Heap.lt_size hg) S2.F.above)
  refine ⟨I, fp, wr, N, V, Md, St, m, n, fun i m' n' => J i m' n' ∧ (n'.map Prod.fst).Nodup, rfl, X.K, lf, X.new, off, X.st, S2.F, S2.N, ⟨h0, S2.D⟩, fun i v m1 n1 h3 k3 own hi hV hJ hoff hown hget hall hst F3 N3 => ?_, fun h' tk m' n' F' N' _ hJ => fin m' n' hJ.1 h' tk ⟨F', N', hJ.2⟩⟩
  have S3 : c.St m1 (n1 ++ objs_at wr h3) h3 := Cx.St.walk F3 (fun p hp => N3 p (List.mem_append_right _ hp)) hJ.2 hoff X.new X.nd X.lw
  obtain ⟨m2, tg, run⟩ := step i (objs_at wr h3) v m1 n1 h3 hi hJ.1 hV S3
  refine tg h3 k3 _ But.refl S3 fun h4 k4 b4 S4 => wpAny_mono (run h4 k4 S4) (fun f s' z => ?_) fun _ _ e => e
  have fin' : (∃ h k m2 n2, s' = c.sh h k ∧ c.St m2 (n2 ++ objs_at wr h3) h ∧ J (i + 1) m2 n2) → LoopStepU c.g c.L wr own (fun m' n' => J (i + 1) m' n' ∧ (n'.map Prod.fst).Nodup) (c.sh h3 k3) .next s' := by
    rintro ⟨h5, k5, m5, n5, rfl, S5, hJ5⟩
    obtain ⟨hf, ho⟩ := X.stay hst S3 S5 (hk _ _ _ hJ.1) (hk _ _ _ hJ5)
    refine ⟨rfl, h5, k5, m5, n5, rfl, S5.F, fun p hp => ?_, ho, hJ5, ?_⟩
    · rcases List.mem_append.mp hp with hp | hp
      · exact ⟨hf _ (hown p hp) _ (hget p hp), (N3 p (List.mem_append_left _ hp)).2⟩
      · exact S5.N p (List.mem_append_left _ hp)
    · have D := S5.D
      rw [List.map_append] at D
      exact (List.nodup_append.mp D).1
  cases f with
  | ret v => exact .ret z
  | brk => exact .brk z
  | next => exact .next (fin' z)
  | cont => exact .cont (fin' z)
end
end Mine
end
section
open PySem PySem.W PySem.Calls PyProof.Rows PySem.Spec
namespace Mine
open LCg
noncomputable abbrev tests (ifs : List PySem.Expr) (env : Env) : Sem Bool := forIn ifs true fun c r => if r = true then do let ok ← PySem.isTrue c env (eval c env); pure (ForInStep.yield ok) else pure (ForInStep.yield r)
section
variable {prog : Program} {w : World} {A : Around} {s : Shared}
theorem comp_loop {elt target iter : PySem.Expr} {ifs : List PySem.Expr} {scope : Scope} {pos : Pos} {it acc : Value} {env : Env} {R : Result → Shared → Prop} (I : Nat → Shared → Prop)
    (turn : ∀ n s (E : Value → Shared → Prop), I n s → wpAny (model prog w) A (pyNext it) (fun r s₁ => match r with
      | none => R (.ok .next) s₁
      | some v => wpAny (model prog w) A (letOwnedTupleGo target it v) (fun _ s₀ => wpAny (model prog w) A (assign target env v) (fun _ s₂ =>
          wpAny (model prog w) A (tests ifs env) (fun ok s₃ => if ok = true then wpAny (model prog w) A (eval elt env) (fun x s₄ =>
            wpAny (model prog w) A (call (.builtin "list.append") [acc, x]) (fun _ s₅ => ∃ m, m < n ∧ I m s₅) E s₄) E s₃ else ∃ m, m < n ∧ I m s₃) E s₂)
          E s₀) E s₁) E s)
    (n : Nat) (h : I n s) : codeAny (model prog w) A (.compLoop (.ListComp elt [⟨target, iter, ifs, 0⟩] scope pos) 0 it acc env) R s := by
  refine codeAny_loop rfl I (fun n s hI => ?_) n h
  show wpAny _ A ((compTurn (.ListComp elt [⟨target, iter, ifs, 0⟩] scope pos) 0 it acc env).onRaise (fun x => do noteFrame x env; theTreesLotGoes x)) _ _ s
  refine wpAny_noted ?_
  rw [compTurn_list]
  refine wpAny_bind (wpAny_standAt (wpAny_bind (wpAny_mono (turn n s _ hI) (fun r s₁ h₁ => ?_) fun _ _ h' => h')))
  cases r with
  | none => exact wpAny_pure h₁
  | some v =>
    refine wpAny_bind (wpAny_mono h₁ (fun _ s₀ h₀' => ?_) fun _ _ h' => h')
    refine wpAny_bind (wpAny_mono h₀' (fun _ s₂ h₂ => wpAny_bind (wpAny_mono h₂ (fun ok s₃ h₃ => ?_) fun _ _ h' => h')) fun _ _ h' => h')
    cases ok with
    | false => exact wpAny_pure ⟨rfl, h₃⟩
    | true => exact wpAny_bind (wpAny_bind (wpAny_mono h₃ (fun x s₄ h₄ => wpAny_bind (wpAny_mono h₄ (fun _ s₅ h₅ => wpAny_pure (wpAny_pure ⟨rfl, h₅⟩)) fun _ _ h' => h')) fun _ _ h' => h'))
end
noncomputable abbrev Cx.inn (c : Cx) (scope : Scope) (cl : List (Str × Addr)) (C : Addr) (g' : Heap) (E' : Value → Shared → Prop) : Cx := ⟨c.w, c.A, compEnvC scope cl C c.env, g', c.s, E'⟩
section
variable {c : Cx} {m : Lo} {n : Nw} {r : Nat}
noncomputable def TST (c : Cx) (m : Lo) (n : Nw) (ifs : List PySem.Expr) (b : Bool) : Prop := ∀ h k Q, c.St m n h → (∀ h' k', c.St m n h' → Q b (c.sh h' k')) → wpAny c.M c.A (tests ifs c.env) Q c.E (c.sh h k)
theorem TST.nil : TST c m n [] true := fun h k _ S q => wpAny_pure (q h k S)
theorem TST.one {e : PySem.Expr} {b : Bool} (h : CND c m n e b) : TST c m n [e] b := fun h0 k _ S q => wpAny_tests_one (h h0 k _ S q)
inductive TurH (c : Cx) (elt target : PySem.Expr) (ifs : List PySem.Expr) (v : Value) (h : Heap) (m1 : Lo) (n : Nw) (E : Lo → Prop) (F : Prop) : Prop
  | mk (m2 : Lo) (b : Bool) (tg : TGT c n target v h m1 m2) (tt : TST c m2 n ifs b) (et : b = true → E m2) (ef : b = false → F) : TurH c elt target ifs v h m1 n E F
noncomputable def CTURN (c : Cx) (r : Nat) (scope : Scope) (cl : List (Str × Addr)) (elt target : PySem.Expr) (ifs : List PySem.Expr) (N : Nat) (V : Nat → Value → Heap → Prop) (J : Nat → List Value → Nw → Prop) : Prop :=
  ∀ C g' E', Ok (c.inn scope cl C g' E') r → (∀ b o, c.g.get? b = some o → g'.get? b = some o) → ∀ i v ys n1 T m1 h, i < N → J i ys n1 → V i v h → (c.inn scope cl C g' E').St m1 (n1 ++ T) h →
    TurH (c.inn scope cl C g' E') elt target ifs v h m1 (n1 ++ T) (fun m2 => EVg (c.inn scope cl C g' E') m2 (n1 ++ T) elt fun y n3 => ∃ n2, List.Sublist (n2 ++ T) n3 ∧ J (i + 1) (ys ++ [y]) n2) (J (i + 1) ys n1)
end
noncomputable abbrev Cx.at (c : Cx) (g2 : Heap) : Cx := { c with g := g2 }
section
variable {c : Cx} {fs : List Addr} {m : Lo} {n : Nw} {r : Nat}
noncomputable def EVq (c : Cx) (fs : List Addr) (m : Lo) (n : Nw) (e : PySem.Expr) (P : Value → Nw → Prop) : Prop :=
  ∀ h k Q, c.St m n h → (∀ g2 v n' h' k', KtsTurn fs c.g g2 → P v n' → (c.at g2).St m n' h' → Q v (c.sh h' k')) → wpAny c.M c.A (eval e c.env) Q c.E (c.sh h k)
theorem EVg.q {e : PySem.Expr} {P : Value → Nw → Prop} (h : EVg c m n e P) : EVq c fs m n e P := fun h0 k _ S q => h h0 k _ S fun v n' h' k' hp S' => q c.g v n' h' k' KtsTurn.refl hp S'
end
section
variable {c : Cx} {m : Lo} {n : Nw} {r : Nat}
noncomputable def CTURNp (PK : Cx → Prop) (c : Cx) (scope : Scope) (cl : List (Str × Addr)) (elt target : PySem.Expr) (ifs : List PySem.Expr) (N : Nat) (V : Nat → Value → Heap → Prop) (J : Nat → List Value → Nw → Prop) : Prop :=
  ∀ C g' E', PK (c.inn scope cl C g' E') → (∀ b o, c.g.get? b = some o → g'.get? b = some o) → ∀ i v ys n1 T m1 h, i < N → J i ys n1 → V i v h → (c.inn scope cl C g' E').St m1 (n1 ++ T) h →
    TurH (c.inn scope cl C g' E') elt target ifs v h m1 (n1 ++ T) (fun m2 => EVq (c.inn scope cl C g' E') [c.L] m2 (n1 ++ T) elt fun y n3 => ∃ n2, List.Sublist (n2 ++ T) n3 ∧ J (i + 1) (ys ++ [y]) n2) (J (i + 1) ys n1)
theorem CTURN.p {scope : Scope} {cl : List (Str × Addr)} {elt target : PySem.Expr} {ifs : List PySem.Expr} {N : Nat} {V : Nat → Value → Heap → Prop} {J : Nat → List Value → Nw → Prop} (t : CTURN c r scope cl elt target ifs N V J) : CTURNp (fun c' => Ok c' r) c scope cl elt target ifs N V J :=
  fun C g' E' ok gs i v ys n1 T m1 h hi hJ hV S => let ⟨m2, b, tg, tt, et, ef⟩ := t C g' E' ok gs i v ys n1 T m1 h hi hJ hV S; ⟨m2, b, tg, tt, fun hb => (et hb).q, ef⟩
theorem walk_stay2 {g : Heap} {c1 c2 : Cx} {fp wr : List Addr} {keep n1 n2 : Nw} {h1 h2 : Heap} {m1 m2 : Lo} (k1' : ∀ b o, g.get? b = some o → c1.g.get? b = some o) (k2' : ∀ b o, g.get? b = some o → c2.g.get? b = some o) (fpk : ∀ b ∈ fp, b ∈ wr ∨ (∃ o, (b, o) ∈ keep) ∨ ∃ o, g.get? b = some o) (ob : ∀ b ∈ wr, ∃ o, h1.get? b = some o)
    (S1 : c1.St m1 (n1 ++ objs_at wr h1) h1) (S2 : c2.St m2 (n2 ++ objs_at wr h1) h2) (k1 : ∀ p ∈ keep, p ∈ n1) (k2 : ∀ p ∈ keep, p ∈ n2) :
    (∀ b ∈ fp, ∀ o, h1.get? b = some o → h2.get? b = some o) ∧ ∀ p ∈ n2, p.1 ∉ wr := by
  refine ⟨fun b hb o e => ?_, fun p hp hw => ?_⟩
  · rcases fpk b hb with hw | ⟨o', hk⟩ | ⟨o', hg⟩
    · exact (S2.N (b, o) (List.mem_append_right _ (mem_objs_at.mpr ⟨hw, e⟩))).1
    · have := (S1.N _ (List.mem_append_left _ (k1 _ hk))).1
      cases this.symm.trans e
      exact (S2.N _ (List.mem_append_left _ (k2 _ hk))).1
    · have := S1.F.keep b o' (k1' b o' hg)
      cases this.symm.trans e
      exact S2.F.keep b _ (k2' b _ hg)
  · obtain ⟨o, ho⟩ := ob p.1 hw
    have D := S2.D
    rw [List.map_append] at D
    exact (List.nodup_append.mp D).2.2 p.1 (List.mem_map_of_mem hp) p.1 (List.mem_map.mpr ⟨(p.1, o), mem_objs_at.mpr ⟨hw, ho⟩, rfl⟩) rfl
theorem comp_coreP {elt target iter : PySem.Expr} {ifs : List PySem.Expr} {scope : Scope} {cl : List (Str × Addr)} {pos pos2 : Pos} {N : Nat} {V : Nat → Value → Heap → Prop} {keep : Nw} {use : Option (Value → Sem Unit)} {Q : Value → Shared → Prop} (J : Nat → List Value → Nw → Prop) (PK : Cx → Prop) (H : Ok c r)
    (hPK : ∀ C g2 E', (∀ g3, KtsTurn [c.L] g2 g3 → Ok (c.inn scope cl C g3 E') r) → (∀ g3, KtsTurn [c.L] g2 g3 → ∀ b o, c.g.get? b = some o → g3.get? b = some o) → (∃ o, g2.get? c.L = some o ∧ ∀ vs, o.data ≠ .fields vs) → PK (c.inn scope cl C g2 E'))
    (he : ITR c m n iter target N V keep) (h0 : J 0 [] n) (hk : ∀ i ys n1, J i ys n1 → ∀ p ∈ keep, p ∈ n1) (turn : CTURNp PK c scope cl elt target ifs N V J) (hN : N ≤ sizeLine)
    (fin : ∀ D C ys n1 h k mi, J N ys n1 → c.St m ((D, lstO ys ys.length) :: n1) h → h.Ns C mi → C ≠ c.L → c.g.get? C = none → (∀ p ∈ (D, lstO ys ys.length) :: n1, p.1 ≠ C) → compPost c.M c.A c.E use Q (.ref D) C (.ok .next) (c.sh h k))
    (hclos : closureFor scope c.env = pure cl) (hcell : ∀ y ∈ scope.names, y.2 ≠ .cell) (hkind : scope.kind = .function)
    (hnames : ∀ y ∈ scope.names, y.2 = .local → scope.names.lookup y.1 = some .local)
    (hs : ∀ v, foldedSetIterable iter c.env v = pure v) (h : Heap) (k : Nat) (S : c.St m n h) :
    wpAny c.M c.A (comprehension (.ListComp elt [⟨target, iter, ifs, 0⟩] scope pos) scope c.env pos2 (newList []) false (eval iter c.env) use) Q c.E (c.sh h k) := by
  refine wpAny_comprehension_free (use := use) rfl hs hclos hkind hnames (he h k _ S fun I h1 k1 S1 hI => ?_)
  obtain ⟨Md, St, fp, wr, X, off, kn⟩ := hI
  refine wpAny_newObj_type (wpAny_newFunctionEnv hcell (by intro y hy; simp at hy) (fun h3 hns3 hsb3 => ?_) hkind)
  dsimp only at hns3 hsb3 ⊢
  generalize hH2 : h1.push { cls := .type "list", dict := none, data := .seq ([] : List Value).toArray } = H2 at hns3 hsb3 ⊢
  have hC : H2.objs.size = h1.objs.size + 1 := by rw [← hH2, Heap.size_push]
  have hDC : h1.objs.size ≠ H2.objs.size := by rw [hC]; exact Nat.ne_of_lt (Nat.lt_succ_self _)
  have up3 : ∀ b o, h1.get? b = some o → h3.get? b = some o := fun b o e => hsb3.extBut b o (by have := Heap.lt_size e; rw [hC]; exact Nat.ne_of_lt (Nat.lt_succ_of_lt this)) (Heap.get?_push_of_some _ (hH2 ▸ Heap.get?_push_of_some _ e))
  have hacc : h3.get? h1.objs.size = some (lstO [] 0) := hsb3.extBut _ _ hDC (Heap.get?_push_of_some _ (hH2 ▸ Heap.get?_push_size _ rfl))
  have none1 : ∀ a, h1.objs.size ≤ a → h1.get? a = none := fun a ha => by
    cases e : h1.get? a with
    | none => rfl
    | some o' => exact absurd (Heap.lt_size e) (Nat.not_lt.mpr ha)
  have hwl : ∀ b ∈ wr, b < h1.objs.size := fun b hb => Heap.lt_size (X.ob 0 h1 X.st b hb).choose_spec
  have hnl : ∀ p ∈ n, p.1 < h1.objs.size := fun p hp => Heap.lt_size (S1.N p hp).1
  let g' := hideAll h1 (wr ++ ks n)
  have gsub : ∀ b o, c.g.get? b = some o → g'.get? b = some o := fun b o e => hideAll_get _ (S1.F.keep b o e) fun hm => by
    rcases List.mem_append.mp hm with hm | hm
    · rw [X.new b hm] at e; cases e
    · obtain ⟨p, hp, e2⟩ := List.mem_map.mp hm
      have := (S1.N p hp).2.2
      rw [e2, e] at this; cases this
  have gL : ∃ o, h1.get? c.L = some o ∧ g'.get? c.L = some o ∧ NsObj o m := by
    obtain ⟨o, ho, hno⟩ := ns_obj S1.F.ns
    refine ⟨o, ho, hideAll_get _ ho fun hm => ?_, hno⟩
    rcases List.mem_append.mp hm with hm | hm
    · exact X.lw hm
    · obtain ⟨p, hp, e2⟩ := List.mem_map.mp hm
      exact (S1.N p hp).2.1 e2
  obtain ⟨oL, hoL, hgL, hnL⟩ := gL
  have gs2 : ∀ g2, KtsTurn [c.L] g' g2 → ∀ b o, c.g.get? b = some o → g2.get? b = some o := fun g2 T b o e => T.other b o (gsub b o e) fun hm => by
    have hbL : b = c.L := List.mem_singleton.mp hm
    rw [hbL, kts_self S1.F] at e; cases e
  have gL2 : ∀ g2, KtsTurn [c.L] g' g2 → ∃ o, g2.get? c.L = some o ∧ NsObj o m := fun g2 T => by
    obtain ⟨sl, hs⟩ := T.frame _ _ hgL (List.mem_singleton.mpr rfl)
    obtain ⟨es, ep, hd, hr⟩ := hnL
    exact ⟨_, hs, es, ep, hd, hr⟩
  have outF : ∀ (h' : Heap) g2, KtsTurn [c.L] g' g2 → (∀ b o, g2.get? b = some o → h'.get? b = some o) → Fr c.g c.L h' m := fun h' g2 T hk' => by
    obtain ⟨o, ho, hn⟩ := gL2 g2 T
    exact ⟨hn.ns (hk' _ _ ho), fun b o e => hk' b o (gs2 g2 T b o e), S1.F.above⟩
  have gno : ∀ g2, KtsTurn [c.L] g' g2 → ∀ b, g2.get? b = none → g'.get? b = none := fun g2 T b e => by
    cases e2 : g'.get? b with
    | none => rfl
    | some o => obtain ⟨sl, hs⟩ := T.up e2; rw [e] at hs; cases hs
  have outN0 : ∀ (b : Addr), g'.get? b = none → b ≠ c.L ∧ c.g.get? b = none := fun b e => by
    refine ⟨fun e2 => ?_, ?_⟩
    · rw [e2, hgL] at e; cases e
    · cases e2 : c.g.get? b with
      | none => rfl
      | some o => rw [gsub b o e2] at e; cases e
  have outN : ∀ (b : Addr) g2, KtsTurn [c.L] g' g2 → g2.get? b = none → b ≠ c.L ∧ c.g.get? b = none := fun b g2 T e => outN0 b (gno g2 T b e)
  have gw : ∀ b ∈ wr, g'.get? b = none := fun b hb => hideAll_none _ (List.mem_append_left _ hb)
  have gn : ∀ p ∈ n, g'.get? p.1 = none := fun p hp => hideAll_none _ (List.mem_append_right _ (List.mem_map_of_mem hp))
  have gnew : ∀ a, h1.objs.size ≤ a → g'.get? a = none := fun a ha => by
    cases e : g'.get? a with
    | none => rfl
    | some o => have := of_hideAll _ e; rw [none1 a ha] at this; cases this
  have gD : g'.get? h1.objs.size = none := gnew _ (Nat.le_refl _)
  have gC : g'.get? H2.objs.size = none := gnew _ (by rw [hC]; exact Nat.le_succ _)
  have ok1 : ∀ E' g2, KtsTurn [c.L] g' g2 → Ok (c.inn scope cl H2.objs.size g2 E') r := fun E' g2 T => by
    refine ⟨H.X.keeps (gs2 g2 T), ?_, hkind, H.gl, H.bl, H.hh, (fun z => by cases z), fun h' m' F' r' hr => ?_⟩
    · obtain ⟨mg, mb, TT⟩ := H.T
      exact ⟨mg, mb, TT.keeps (gs2 g2 T)⟩
    · obtain ⟨dp, un, base, outer, mean, mg, mb, eA, C, hp⟩ := H.stand h' m (outF h' g2 T F'.keep) r' hr
      exact ⟨dp, un, base, outer, mean, mg, mb, eA, C, fun p hq => hp p ⟨hq.1, (outN _ g2 T hq.2.2).1, (outN _ g2 T hq.2.2).2⟩⟩
  have ok : ∀ E' g2, KtsTurn [c.L] g' g2 → PK (c.inn scope cl H2.objs.size g2 E') := fun E' g2 T => hPK _ g2 E' (fun g3 T3 => ok1 E' g3 (T.trans T3)) (fun g3 T3 => gs2 g3 (T.trans T3)) (by
    obtain ⟨o, ho, es, ep, hd, hr⟩ := gL2 g2 T
    exact ⟨o, ho, fun vs e => by rw [hd] at e; cases e⟩)
  have ltC : ∀ b : Addr, b < h1.objs.size → b ≠ H2.objs.size := fun b hb => by rw [hC]; exact Nat.ne_of_lt (Nat.lt_succ_of_lt hb)
  have hCw : H2.objs.size ∉ wr ++ [h1.objs.size] := fun hm => by
    rcases List.mem_append.mp hm with hm | hm
    · exact ltC _ (hwl _ hm) rfl
    · exact hDC (List.mem_singleton.mp hm).symm
  have fpk : ∀ b ∈ fp, b ∈ wr ++ [h1.objs.size] ∨ (∃ o, (b, o) ∈ keep) ∨ ∃ o, c.g.get? b = some o := fun b hb => by
    rcases X.fpk b hb with z | z | ⟨o, z⟩
    · exact .inl (List.mem_append_left _ z)
    · exact .inr (.inl z)
    · exact .inr (.inr ⟨o, z⟩)
  have fpl : ∀ b ∈ fp, b < h1.objs.size := fun b hb => by
    rcases X.fpk b hb with z | ⟨o, z⟩ | ⟨o, z⟩
    · exact hwl b z
    · exact hnl _ (kn _ z)
    · exact Heap.lt_size (S1.F.keep b o z)
  have nd2 : (wr ++ [h1.objs.size]).Nodup := List.nodup_append.mpr ⟨X.nd, by simp, fun a ha b hb e => by
    have := hwl a ha
    rw [e, List.mem_singleton.mp hb] at this; exact Nat.lt_irrefl _ this⟩
  have new2 : ∀ b ∈ wr ++ [h1.objs.size], g'.get? b = none := fun b hb => by
    rcases List.mem_append.mp hb with hb | hb
    · exact gw b hb
    · rw [List.mem_singleton.mp hb]; exact gD
  have loop : codeAny c.M c.A (.compLoop (.ListComp elt [⟨target, iter, ifs, 0⟩] scope pos) 0 (.ref I) (.ref h1.objs.size) (compEnvC scope cl H2.objs.size c.env))
      (compPost c.M c.A c.E use Q (.ref h1.objs.size) H2.objs.size) (c.sh h3 (k1 + ([] : List (Str × Value)).length)) := by
    refine comp_loop (fun kk s' => ∃ h' tk i ys n1 m' g2, s' = c.sh h' tk ∧ KtsTurn [c.L] g' g2 ∧ i ≤ N ∧ kk = N + 1 - i ∧ ys.length ≤ i ∧ St i h' ∧ Fr g2 H2.objs.size h' m' ∧ News g2 H2.objs.size h' n1 ∧ (n1.map Prod.fst).Nodup ∧
        (∀ p ∈ n1, p.1 ∉ wr ++ [h1.objs.size]) ∧ h'.get? h1.objs.size = some (lstO ys ys.length) ∧ J i ys n1) ?_ (N + 1)
      ⟨h3, _, 0, [], n, _, g', rfl, KtsTurn.refl, Nat.zero_le _, rfl, Nat.le_refl _, X.K.frame _ _ _ X.st fun b _ o e => up3 b o e,
        ⟨hns3, fun b o e => up3 b o (of_hideAll _ e), by rw [hideAll_size, hC]; exact Nat.le_succ _⟩, fun p hp => ⟨up3 _ _ (S1.N p hp).1, ltC _ (hnl p hp), gn p hp⟩, S1.D, fun p hp hm => ?_, hacc, h0⟩
    · rintro kk s' E' ⟨h', tk, i, ys, n1, m', g2, rfl, T2, hi, rfl, hyl, hst, F', N', D', off', hD', hJ⟩
      have Ok' := ok E' g2 T2
      have gw2 : ∀ b ∈ wr, g2.get? b = none := fun b hb => T2.none_ b (gw b hb)
      have gD2 := T2.none_ _ gD
      have new3 : ∀ b ∈ wr ++ [h1.objs.size], g2.get? b = none := fun b hb => T2.none_ b (new2 b hb)
      have Lw : H2.objs.size ∉ wr := fun z => hCw (List.mem_append_left _ z)
      have Dw : h1.objs.size ∉ wr := fun z => Nat.lt_irrefl _ (hwl _ z)
      have nxt : ∀ hh : Heap, (∀ b o, b ∉ wr → h'.get? b = some o → hh.get? b = some o) → Fr g2 H2.objs.size hh m' ∧ News g2 H2.objs.size hh n1 ∧ hh.get? h1.objs.size = some (lstO ys ys.length) := fun hh up =>
        ⟨⟨F'.ns.at' fun o e => up _ o Lw e, fun b o e => up b o (fun z => by rw [gw2 b z] at e; cases e) (F'.keep b o e), F'.above⟩, fun p hp => ⟨up _ _ (fun z => off' p hp (List.mem_append_left _ z)) (N' p hp).1, (N' p hp).2⟩, up _ _ Dw hD'⟩
      by_cases hlt : i < N
      · refine X.K.item i _ _ _ hlt hst fun v h4 tk4 hM hk4 => X.K.go i v _ _ _ hM fun h5 hV hst5 hk5 => ?_
        obtain ⟨F5, N5, hD5⟩ := nxt h5 fun b o hb e => hk5 b o hb (hk4 b o hb e)
        have S5 : (c.inn scope cl H2.objs.size g2 E').St m' (n1 ++ objs_at (wr ++ [h1.objs.size]) h5) h5 := Cx.St.walk F5 N5 D' off' new3 nd2 hCw
        have ob5 : ∀ b ∈ wr ++ [h1.objs.size], ∃ o, h5.get? b = some o := fun b hb => by
          rcases List.mem_append.mp hb with hb | hb
          · exact X.ob _ _ hst5 b hb
          · rw [List.mem_singleton.mp hb]; exact ⟨_, hD5⟩
        have tD : (h1.objs.size, lstO ys ys.length) ∈ objs_at (wr ++ [h1.objs.size]) h5 := mem_objs_at.mpr ⟨List.mem_append_right _ (List.mem_singleton.mpr rfl), hD5⟩
        obtain ⟨m2, b, tg, tt, et, ef⟩ := turn _ _ E' Ok' (gs2 g2 T2) i v ys n1 _ m' h5 hlt hJ hV S5
        refine tg h5 tk4 _ But.refl S5 fun h6 k6 b6 S6 => tt h6 k6 _ S6 fun h7 k7 S7 => ?_
        cases b with
        | false =>
          rw [if_neg (by decide)]
          have hJ2 := ef rfl
          obtain ⟨hf, ho⟩ := walk_stay2 (c1 := c.inn scope cl H2.objs.size g2 E') (c2 := c.inn scope cl H2.objs.size g2 E') (gs2 g2 T2) (gs2 g2 T2) fpk ob5 S5 S7 (hk _ _ _ hJ) (hk _ _ _ hJ)
          exact ⟨N + 1 - (i + 1), by omega, h7, k7, i + 1, ys, n1, m2, g2, rfl, T2, hlt, rfl, by omega, X.K.frame _ _ _ hst5 hf, S7.F, fun p hp => S7.N p (List.mem_append_left _ hp), D', ho, (S7.N _ (List.mem_append_right _ tD)).1, hJ2⟩
        | true =>
          rw [if_pos rfl]
          refine et rfl h7 k7 _ S7 fun g3 y n3 h8 k8 T3 hy S8 => ?_
          have T4 := T2.trans T3
          obtain ⟨n2, hsub, hJ2⟩ := hy
          have S8' : (c.inn scope cl H2.objs.size g3 E').St m2 (n2 ++ objs_at (wr ++ [h1.objs.size]) h5) h8 := ⟨S8.F, fun p hp => S8.N p (hsub.subset hp), (hsub.map Prod.fst).nodup S8.D⟩
          obtain ⟨hf, ho⟩ := walk_stay2 (c1 := c.inn scope cl H2.objs.size g2 E') (c2 := c.inn scope cl H2.objs.size g3 E') (gs2 g2 T2) (gs2 g3 T4) fpk ob5 S5 S8' (hk _ _ _ hJ) (hk _ _ _ hJ2)
          have hD8 := (S8'.N _ (List.mem_append_right _ tD)).1
          refine append_at (hsz := by show ys.toArray.size ≤ sizeLine; rw [List.size_toArray]; omega) hD8 fun h9 hs9 hD9 => ?_
          have D8 := S8'.D
          rw [List.map_append] at D8
          refine ⟨N + 1 - (i + 1), by omega, h9, k8, i + 1, ys ++ [y], n2, m2, g3, rfl, T4, hlt, rfl, by rw [List.length_append, List.length_singleton]; omega, X.K.frame _ _ _ hst5 fun b hb o e => hs9.extBut b o (fun z => by have := fpl b hb; rw [z] at this; exact Nat.lt_irrefl _ this) (hf b hb o e),
            S8'.F.change hs9 hDC (T4.none_ _ gD), fun p hp => ⟨hs9.extBut _ _ (fun z => ho p hp (List.mem_append_right _ (List.mem_singleton.mpr z))) (S8'.N p (List.mem_append_left _ hp)).1, (S8'.N p (List.mem_append_left _ hp)).2⟩, (List.nodup_append.mp D8).1, ho, ?_, hJ2⟩
          rw [hD9]
          simp [lstO]
      · obtain rfl : i = N := Nat.le_antisymm hi (Nat.not_lt.mp hlt)
        refine X.K.done _ _ _ hst fun h4 tk4 hk4 => ?_
        obtain ⟨F4, N4, hD4⟩ := nxt h4 hk4
        have hnC : ∀ p ∈ (h1.objs.size, lstO ys ys.length) :: n1, p.1 ≠ H2.objs.size := fun p hp => by
          rcases List.mem_cons.mp hp with rfl | hp
          · exact hDC
          · exact (N4 p hp).2.1
        refine fin h1.objs.size H2.objs.size ys n1 h4 tk4 m' hJ ⟨outF h4 g2 T2 F4.keep, fun p hp => ?_, List.nodup_cons.mpr ⟨fun hm => ?_, D'⟩⟩ F4.ns (outN0 _ gC).1 (outN0 _ gC).2 hnC
        · rcases List.mem_cons.mp hp with rfl | hp
          · exact ⟨hD4, outN0 _ gD⟩
          · exact ⟨(N4 p hp).1, outN _ g2 T2 (N4 p hp).2.2⟩
        · obtain ⟨p, hp, e⟩ := List.mem_map.mp hm
          exact off' p hp (List.mem_append_right _ (List.mem_singleton.mpr e))
    · have := hnl p hp
      rcases List.mem_append.mp hm with hm | hm
      · exact off p hp hm
      · rw [List.mem_singleton.mp hm] at this; exact Nat.lt_irrefl _ this
  exact codeAny_compStart_list loop (X.self 0 _ _ _ (X.K.frame _ _ _ X.st fun b _ o e => up3 b o e) loop)
theorem EVg.comp {elt target iter : PySem.Expr} {ifs : List PySem.Expr} {scope : Scope} {cl : List (Str × Addr)} {pos : Pos} {N : Nat} {V : Nat → Value → Heap → Prop} {keep : Nw} {P : Value → Nw → Prop} (J : Nat → List Value → Nw → Prop) (H : Ok c r)
    (he : ITR c m n iter target N V keep) (h0 : J 0 [] n) (hk : ∀ i ys n1, J i ys n1 → ∀ p ∈ keep, p ∈ n1) (turn : CTURN c r scope cl elt target ifs N V J) (hN : N ≤ sizeLine)
    (fin : ∀ D ys n1, J N ys n1 → P (.ref D) ((D, lstO ys ys.length) :: n1))
    (hclos : closureFor scope c.env = pure cl) (hcell : autoParam (∀ y ∈ scope.names, y.2 ≠ .cell) decT) (hkind : autoParam (scope.kind = .function) rflT)
    (hnames : autoParam (∀ y ∈ scope.names, y.2 = .local → scope.names.lookup y.1 = some .local) decT)
    (hs : autoParam (∀ v, foldedSetIterable iter c.env v = pure v) irflT) : EVg c m n (.ListComp elt [⟨target, iter, ifs, 0⟩] scope pos) P := by
  intro h k Q S q
  rw [eval_ListComp]
  refine comp_coreP (PK := fun c' => Ok c' r) (use := none) J H (fun _ g2 _ ok _ _ => ok g2 KtsTurn.refl) he h0 hk (CTURN.p turn) hN (fun D C ys n1 h4 k4 mi hJ S4 hn hCL hC0 hnC => ?_) hclos hcell hkind hnames hs h k S
  refine ⟨mi, hn, fun h5 hs5 => q _ _ h5 k4 (fin _ _ _ hJ) ⟨S4.F.change hs5 hCL hC0, fun p hp => ⟨hs5.extBut _ _ (hnC p hp) (S4.N p hp).1, (S4.N p hp).2⟩, S4.D⟩⟩
theorem RUN.let_comp {y : Str} {py spos : Pos} {rest : List Stmt} {R : Flow → Shared → Prop} {elt target iter : PySem.Expr} {ifs : List PySem.Expr} {scope : Scope} {cl : List (Str × Addr)} {pos : Pos} {N : Nat} {V : Nat → Value → Heap → Prop} {keep : Nw} (J : Nat → List Value → Nw → Prop) (H : Ok c r)
    (he : ITR c m n iter target N V keep) (h0 : J 0 [] n) (hk : ∀ i ys n1, J i ys n1 → ∀ p ∈ keep, p ∈ n1) (turn : CTURN c r scope cl elt target ifs N V J) (hN : N ≤ sizeLine) (hy : c.env.kindOf y = some .local)
    (fin : ∀ D ys n1, J N ys n1 → let m' := upd m y (.ref D); let n' := (D, lstO ys ys.length) :: n1; RUN c m' n' rest R)
    (hclos : closureFor scope c.env = pure cl) (hsw : autoParam (swapsWith (.ListComp elt [⟨target, iter, ifs, 0⟩] scope pos) (some (.Name y py)) spos.line c.env = pure true) rflT) (hcell : autoParam (∀ y ∈ scope.names, y.2 ≠ .cell) decT) (hkind : autoParam (scope.kind = .function) rflT)
    (hnames : autoParam (∀ y ∈ scope.names, y.2 = .local → scope.names.lookup y.1 = some .local) decT)
    (hs : autoParam (∀ v, foldedSetIterable iter c.env v = pure v) irflT) : RUN c m n (.Assign [.Name y py] (.ListComp elt [⟨target, iter, ifs, 0⟩] scope pos) spos :: rest) R := by
  intro h k S
  refine wpAny_execs_cons ?_
  rw [exec_Assign_Name_used _ _ _ _ hsw]
  refine wpAny_bind (wpAny_standAt (wpAny_bind ?_))
  show wpAny _ c.A (do let _ ← comprehension (.ListComp elt [⟨target, iter, ifs, 0⟩] scope pos) scope c.env _ (newList []) false (eval iter c.env) (some (assign (.Name y py) c.env))) _ _ _
  refine wpAny_bind (wpAny_mono (comp_coreP (PK := fun c' => Ok c' r) (use := some (assign (.Name y py) c.env)) J H (fun _ g2 _ ok _ _ => ok g2 KtsTurn.refl) he h0 hk (CTURN.p turn) hN (fun D C ys n1 h4 k4 mi hJ S4 hn hCL hC0 hnC => ?_) hclos hcell hkind hnames hs h k S) (fun _ s' hq => wpAny_pure (wpAny_pure hq)) fun _ _ e => e)
  show wpAny _ c.A (assign (.Name y py) c.env (.ref D)) _ _ _
  refine (TGT.name (h0 := h4) H hy) h4 k4 _ But.refl S4 fun h5 k5 b5 S5 => ?_
  obtain ⟨oC, hoC, hnn⟩ := ns_obj hn
  refine ⟨mi, hnn.ns (b5 C oC hCL hoC), fun h6 hs6 => fin D ys n1 hJ h6 k5 ⟨S5.F.change hs6 hCL hC0, fun p hp => ⟨hs6.extBut _ _ (hnC p hp) (S5.N p hp).1, (S5.N p hp).2⟩, S5.D⟩⟩
end
end Mine
end
section
open PySem PySem.W PySem.Calls PyProof.Rows PySem.Spec
namespace Mine
open LCg
section
variable {c : Cx} {m : Lo} {n : Nw} {r : Nat}
theorem Cx.St.grow {h h' : Heap} (S : c.St m n h) (up : ∀ b o, h.get? b = some o → h'.get? b = some o) : c.St m n h' := ⟨S.F.keeps up, S.N.grown up, S.D⟩
theorem ITat.new {h h' : Heap} {x : Nw} {target : PySem.Expr} {I : Addr} {N : Nat} {V Md : Nat → Value → Heap → Prop} {St : Nat → Heap → Prop} {fp wr : List Addr} {keep : Nw} (S : c.St m (x ++ n) h)
    (hw : ∀ b ∈ wr, h.objs.size ≤ b ∨ b ∈ x.map Prod.fst) (nd : wr.Nodup) (K : KTurns PySem.Challenge.rw_sm0006_01.row.prog c.w c.A target I fp wr N V Md St)
    (self : ∀ i (s : Shared) (Q : Value → Shared → Prop) (E : Value → Shared → Prop), St i s.heap → Q (.ref I) s → wpAny c.M c.A (pyIter (.ref I)) Q E s)
    (ob : ∀ i h, St i h → ∀ b ∈ wr, ∃ o, h.get? b = some o) (st : St 0 h') (fpk : ∀ b ∈ fp, b ∈ wr ∨ ∃ o, (b, o) ∈ keep) (kn : ∀ p ∈ keep, p ∈ n) : ITat c target N V keep n I h' := by
  have none1 : ∀ a, h.objs.size ≤ a → h.get? a = none := fun a ha => by
    cases e : h.get? a with
    | none => rfl
    | some o' => exact absurd (Heap.lt_size e) (Nat.not_lt.mpr ha)
  refine ⟨Md, St, fp, wr, ⟨K, self, ob, st, fun b hb => ?_, nd, fun b hb => ?_, fun hL => ?_⟩, fun p hp hb => ?_, kn⟩
  · rcases hw b hb with h1 | h1
    · cases e : c.g.get? b with
      | none => rfl
      | some o => have := S.F.keep b o e; rw [none1 b h1] at this; cases this
    · obtain ⟨p, hp, e⟩ := List.mem_map.mp h1
      exact e ▸ (S.N p (List.mem_append_left _ hp)).2.2
  · rcases fpk b hb with h1 | h1
    · exact .inl h1
    · exact .inr (.inl h1)
  · rcases hw _ hL with h1 | h1
    · exact Nat.lt_irrefl _ (Nat.lt_of_lt_of_le S.F.ns.lt h1)
    · obtain ⟨p, hp, e⟩ := List.mem_map.mp h1
      exact (S.N p (List.mem_append_left _ hp)).2.1 e
  · rcases hw _ hb with h1 | h1
    · have := Heap.lt_size (S.N p (List.mem_append_right _ hp)).1
      exact Nat.lt_irrefl _ (Nat.lt_of_lt_of_le this h1)
    · have D := S.D
      rw [List.map_append] at D
      exact (List.nodup_append.mp D).2.2 _ h1 _ (List.mem_map_of_mem hp) rfl
theorem nd1 {a : Addr} : [a].Nodup := by simp
theorem ITR.rng {e : PySem.Expr} {x : Str} {p : Pos} {a d : Int} {N : Nat} (H : Ok c r) (he : EVr c m n e a d N) : ITR c m n e (.Name x p) N (fun i v _ => ∃ t, v = .int (a + (i : Int) * d) t) [] := by
  intro h k Q S q
  refine he h k _ S fun rr b t u v h1 k1 S1 hr hsm hn => wpAny_pyIter_range hr hsm ?_
  rw [hn]
  have up : ∀ b o, h1.get? b = some o → (h1.push { cls := .type "range_iterator", data := .fields #[rawInt a, rawInt ((N : Nat) : Int), rawInt d] }).get? b = some o := fun b o e => Heap.get?_push_of_some _ e
  refine q _ _ _ (S1.grow up) (ITat.new (x := []) S1 (wr := [h1.objs.size]) (by simp) nd1 (KTurns.ofWalks (Walks.range H.hh h1.objs.size a d N) (fun i v s Q E _ q => letGo_name q)) (Walks.range H.hh h1.objs.size a d N).self ?_ ?_ (fun b hb => .inl hb) (by simp))
  · intro i h2 st b hb
    rw [List.mem_singleton.mp hb]
    exact ⟨_, st⟩
  · show IsRangeIter _ _ _ _ _
    simpa using Heap.get?_push_size _ rfl
theorem ITR.str {e : PySem.Expr} {x : Str} {p : Pos} {u : Str} (H : Ok c r) (he : EVs c m n e u) : ITR c m n e (.Name x p) u.cps.size (fun i v _ => SignAt u i v) [] := by
  intro h k Q S q
  refine he h k _ S fun t h1 k1 S1 => wpAny_pyIter_strU ?_
  have D := Draws.str (prog := PySem.Challenge.rw_sm0006_01.row.prog) (w := c.w) (A := c.A) (x := u) (t := t) (it := h1.objs.size) H.hh
  have up : ∀ b o, h1.get? b = some o → (h1.push { cls := .type (strIterType u), data := .fields #[.str u t, .int 0 0] }).get? b = some o := fun b o e => Heap.get?_push_of_some _ e
  have W : Walks PySem.Challenge.rw_sm0006_01.row.prog c.w c.A h1.objs.size [h1.objs.size] [h1.objs.size] u.cps.size (SignAt u) (fun i h => h.IsStrIter h1.objs.size (strIterType u) u t i) := by
    unfold strIterType
    split
    · exact Walks.strAscii H.hh _ u t
    · exact Walks.strWide H.hh _ u t
  refine q _ _ _ (S1.grow up) (ITat.new (x := []) S1 (wr := [h1.objs.size]) (by simp) nd1 (KTurns.ofWalks W (fun i v s Q E _ q => letGo_name q)) W.self ?_ ?_ (fun b hb => .inl hb) (by simp))
  · intro i h2 st b hb
    rw [List.mem_singleton.mp hb]
    exact D.live i h2 st
  · exact ⟨_, Heap.get?_push_size _ rfl, rfl, rfl⟩
theorem ITR.lst {e target : PySem.Expr} {z : Nat} {a : Addr} {vs : List Value} {k : Nat} (H : Ok c r) (he : EVx c m n e (.ref a)) (hz : n[z]? = some (a, lstO vs k)) : ITR c m n e target vs.length (fun i v _ => vs[i]? = some v) [(a, lstO vs k)] := by
  intro h k Q S q
  refine he h k _ S fun h1 k1 S1 => wpAny_pyIter_list (S1.isList hz) ?_
  have hlt : a < h1.objs.size := Heap.lt_size (S1.get hz)
  have up : ∀ b o, h1.get? b = some o → (h1.push { cls := .type "list_iterator", data := .fields #[.ref a, .int 0 0] }).get? b = some o := fun b o e => Heap.get?_push_of_some _ e
  have W := Walks.list (prog := PySem.Challenge.rw_sm0006_01.row.prog) (w := c.w) H.hh h1.objs.size a (Nat.ne_of_lt hlt) vs.toArray
  have e1 : vs.toArray.size = vs.length := by simp
  rw [e1] at W
  have K2 := KTurns.ofWalks (target := target) W (fun i v s Q E st q => letGo_listiter st.1 q)
  have K1 : KTurns PySem.Challenge.rw_sm0006_01.row.prog c.w c.A target h1.objs.size [h1.objs.size, a] [h1.objs.size] vs.length (fun i v _ => vs[i]? = some v) _ _ :=
    ⟨K2.sub, K2.frame, K2.item, fun i v s Q E hm hQ => K2.go i v s Q E hm fun h' hP => hQ h' (by simpa using hP), K2.done⟩
  refine q _ _ _ (S1.grow up) (ITat.new (x := []) S1 (wr := [h1.objs.size]) (by simp) nd1 K1 W.self ?_ ?_ (fun b hb => ?_) ?_)
  · intro i h2 st b hb
    rw [List.mem_singleton.mp hb]
    obtain ⟨o, ho, _⟩ := st.1
    exact ⟨o, ho⟩
  · exact ⟨⟨_, Heap.get?_push_size _ rfl, rfl, rfl⟩, (S1.isList hz).at fun o e => Heap.get?_push_of_some _ e⟩
  · have hb' : b = h1.objs.size ∨ b = a := by simpa using hb
    rcases hb' with rfl | rfl
    · exact .inl (List.mem_singleton.mpr rfl)
    · exact .inr ⟨_, List.mem_singleton.mpr rfl⟩
  · intro p hp
    rw [List.mem_singleton.mp hp]
    exact List.mem_of_getElem? hz
theorem ITR.lstg {e target : PySem.Expr} {N : Nat} {V : List Value → Prop} (H : Ok c r) (he : EVg c m n e fun v n' => ∃ D vs k, v = .ref D ∧ n' = (D, lstO vs k) :: n ∧ vs.length = N ∧ V vs) : ITR c m n e target N (fun i v _ => ∃ vs, V vs ∧ vs[i]? = some v) [] := by
  intro h k Q S q
  refine he h k _ S fun v n' h1 k1 hv S1 => ?_
  obtain ⟨D, vs, kk, rfl, rfl, hl, hV⟩ := hv
  have hz : ((D, lstO vs kk) :: n)[0]? = some (D, lstO vs kk) := rfl
  refine wpAny_pyIter_list (S1.isList hz) ?_
  have hlt : D < h1.objs.size := Heap.lt_size (S1.get hz)
  have up : ∀ b o, h1.get? b = some o → (h1.push { cls := .type "list_iterator", data := .fields #[.ref D, .int 0 0] }).get? b = some o := fun b o e => Heap.get?_push_of_some _ e
  have W := Walks.list (prog := PySem.Challenge.rw_sm0006_01.row.prog) (w := c.w) H.hh h1.objs.size D (Nat.ne_of_lt hlt) vs.toArray
  have e1 : vs.toArray.size = N := by simpa using hl
  rw [e1] at W
  have K0 := KTurns.ofWalks (target := target) W (fun i v s Q E st q => letGo_listiter st.1 q)
  have K1 : KTurns PySem.Challenge.rw_sm0006_01.row.prog c.w c.A target h1.objs.size [h1.objs.size, D] [h1.objs.size, D] N (fun i v _ => ∃ vs, V vs ∧ vs[i]? = some v) _ _ :=
    let K2 := KTurns.mono K0 (wr' := [h1.objs.size, D]) (fun b hb => by rw [List.mem_singleton.mp hb]; simp) (fun b hb => hb)
    ⟨K2.sub, K2.frame, K2.item, fun i v s Q E hm hQ => K2.go i v s Q E hm fun h' hP => hQ h' ⟨vs, hV, by simpa using hP⟩, K2.done⟩
  refine q _ _ _ ((S1.sub (List.sublist_cons_self _ _)).grow up) (ITat.new (x := [(D, lstO vs kk)]) S1 (wr := [h1.objs.size, D]) ?_ ?_ K1 W.self ?_ ?_ (fun b hb => .inl hb) (by simp))
  · intro b hb
    have hb' : b = h1.objs.size ∨ b = D := by simpa using hb
    rcases hb' with rfl | rfl
    · exact .inl (Nat.le_refl _)
    · exact .inr (List.mem_singleton.mpr rfl)
  · exact List.nodup_cons.mpr ⟨fun hm => Nat.ne_of_gt hlt (List.mem_singleton.mp hm), nd1⟩
  · intro i h2 st b hb
    have hb' : b = h1.objs.size ∨ b = D := by simpa using hb
    rcases hb' with rfl | rfl
    · obtain ⟨o, ho, _⟩ := st.1; exact ⟨o, ho⟩
    · obtain ⟨o, ho, _⟩ := st.2; exact ⟨o, ho⟩
  · exact ⟨⟨_, Heap.get?_push_size _ rfl, rfl, rfl⟩, (S1.isList hz).at fun o e => Heap.get?_push_of_some _ e⟩
theorem ITR.tupg {e target : PySem.Expr} {N : Nat} {V : List Value → Prop} (H : Ok c r) (he : EVg c m n e fun v n' => ∃ D vs k, v = .ref D ∧ n' = (D, tupO vs k) :: n ∧ vs.length = N ∧ V vs) : ITR c m n e target N (fun i v _ => ∃ vs, V vs ∧ vs[i]? = some v) [] := by
  intro h k Q S q
  refine he h k _ S fun v n' h1 k1 hv S1 => ?_
  obtain ⟨D, vs, kk, rfl, rfl, hl, hV⟩ := hv
  have hz : ((D, tupO vs kk) :: n)[0]? = some (D, tupO vs kk) := rfl
  have hT : h1.IsTuple D vs.toArray := S1.isTup hz
  refine wpAny_pyIter_tuple hT ?_
  have hlt : D < h1.objs.size := Heap.lt_size (S1.get hz)
  have up : ∀ b o, h1.get? b = some o → (h1.push { cls := .type "tuple_iterator", data := .fields #[.ref D, .int 0 0] }).get? b = some o := fun b o e => Heap.get?_push_of_some _ e
  have W := Walks.tuple (prog := PySem.Challenge.rw_sm0006_01.row.prog) (w := c.w) H.hh h1.objs.size D (Nat.ne_of_lt hlt) vs.toArray
  have e1 : vs.toArray.size = N := by simpa using hl
  rw [e1] at W
  have K0 := KTurns.ofWalks (target := target) W (fun i v s Q E st q => letGo_tupleiter st.1 q)
  have K1 : KTurns PySem.Challenge.rw_sm0006_01.row.prog c.w c.A target h1.objs.size [h1.objs.size, D] [h1.objs.size, D] N (fun i v _ => ∃ vs, V vs ∧ vs[i]? = some v) _ _ :=
    let K2 := KTurns.mono K0 (wr' := [h1.objs.size, D]) (fun b hb => by rw [List.mem_singleton.mp hb]; simp) (fun b hb => hb)
    ⟨K2.sub, K2.frame, K2.item, fun i v s Q E hm hQ => K2.go i v s Q E hm fun h' hP => hQ h' ⟨vs, hV, by simpa using hP⟩, K2.done⟩
  refine q _ _ _ ((S1.sub (List.sublist_cons_self _ _)).grow up) (ITat.new (x := [(D, tupO vs kk)]) S1 (wr := [h1.objs.size, D]) ?_ ?_ K1 W.self ?_ ?_ (fun b hb => .inl hb) (by simp))
  · intro b hb
    have hb' : b = h1.objs.size ∨ b = D := by simpa using hb
    rcases hb' with rfl | rfl
    · exact .inl (Nat.le_refl _)
    · exact .inr (List.mem_singleton.mpr rfl)
  · exact List.nodup_cons.mpr ⟨fun hm => Nat.ne_of_gt hlt (List.mem_singleton.mp hm), nd1⟩
  · intro i h2 st b hb
    have hb' : b = h1.objs.size ∨ b = D := by simpa using hb
    rcases hb' with rfl | rfl
    · obtain ⟨o, ho, _⟩ := st.1; exact ⟨o, ho⟩
    · obtain ⟨o, ho, _⟩ := st.2; exact ⟨o, ho⟩
  · exact ⟨⟨_, Heap.get?_push_size _ rfl, rfl, rfl⟩, hT.at fun o e => Heap.get?_push_of_some _ e⟩
theorem ITR.enum {f e : PySem.Expr} {elts : List PySem.Expr} {kk : Nat} {tp p : Pos} {z : Nat} {a : Addr} {vs : List Value} {k : Nat} (H : Ok c r) (hf : EVx c m n f (.type "enumerate")) (he : EVx c m n e (.ref a)) (hz : n[z]? = some (a, lstO vs k))
    (h0 : autoParam (eval (f.Call [e] [] p) c.env = (eval f c.env >>= fun fv => callWith p fv [] (backTo p (starEach [e] c.env)) (backToKw p (keywordEach [] c.env)))) rflT)
    (hs : autoParam (starEach [e] c.env = (false, eval e c.env) :: starEach [] c.env) rflT) :
    ITR c m n (.Call f [e] [] p) (.Tuple elts kk tp) vs.length (fun i v h => ∃ T t x, v = .ref T ∧ vs[i]? = some x ∧ IsTup h T #[.int i t, x]) [(a, lstO vs k)] := by
  intro h k0 Q S q
  refine Call_ (hf h k0 _ S fun h1 k1 S1 => callWith_type1 (args_cons (he h1 k1 _ S1 fun h2 k2 S2 => args_nil (call_enumerate_list (S2.isList hz) fun h' hE hI hsz' hk => ?_)) hs) hs rfl) h0
  refine wpAny_pyIter_enum hE ?_
  have hlt : a < h2.objs.size := Heap.lt_size (S2.get hz)
  have hW := (WalksT.enumerate (prog := PySem.Challenge.rw_sm0006_01.row.prog) (w := c.w) H.hh (h2.objs.size + 1) h2.objs.size a (Nat.succ_ne_self _) (ktu_ne 1 hlt) (Nat.ne_of_lt hlt) vs.toArray).toU
  have e1 : vs.toArray.size = vs.length := by simp
  rw [e1] at hW
  have K0 := KTurns.ofWalksU (elts := elts) (k := kk) (pos := tp) hW
  have K1 : KTurns PySem.Challenge.rw_sm0006_01.row.prog c.w c.A (.Tuple elts kk tp) (h2.objs.size + 1) _ _ vs.length (fun i v h => ∃ T t x, v = .ref T ∧ vs[i]? = some x ∧ IsTup h T #[.int i t, x]) _ _ :=
    ⟨K0.sub, K0.frame, K0.item, fun i v s Q E hm hQ => K0.go i v s Q E hm fun h' hP => hQ h' (by
      obtain ⟨T, vals, rfl, ⟨t, x, hx, rfl⟩, hT⟩ := hP
      exact ⟨T, t, x, rfl, by simpa using hx, hT⟩), K0.done⟩
  refine q _ _ _ (S2.grow hk) (ITat.new (x := []) S2 ?_ ?_ K1 hW.self ?_ ⟨⟨_, hE⟩, hI, (S2.isList hz).at fun o e => hk _ o e⟩ (fun b hb => ?_) ?_)
  · intro b hb
    have hb' : b = h2.objs.size + 1 ∨ b = h2.objs.size := by simpa using hb
    rcases hb' with rfl | rfl
    · exact .inl (Nat.le_add_right _ _)
    · exact .inl (Nat.le_refl _)
  · exact List.nodup_cons.mpr ⟨fun hm => Nat.succ_ne_self _ (List.mem_singleton.mp hm), nd1⟩
  · rintro i h3 ⟨⟨old, he⟩, ⟨oi, hoi, _⟩, _⟩ b hb
    have hb' : b = h2.objs.size + 1 ∨ b = h2.objs.size := by simpa using hb
    rcases hb' with rfl | rfl
    · exact ⟨_, he⟩
    · exact ⟨_, hoi⟩
  · have hb' : b = h2.objs.size + 1 ∨ b = h2.objs.size ∨ b = a := by simpa using hb
    rcases hb' with rfl | rfl | rfl
    · exact .inl (by simp)
    · exact .inl (by simp)
    · exact .inr ⟨_, List.mem_singleton.mpr rfl⟩
  · intro p hp
    rw [List.mem_singleton.mp hp]
    exact List.mem_of_getElem? hz
theorem ITR.enumS {f e : PySem.Expr} {elts : List PySem.Expr} {kk : Nat} {tp p : Pos} {u : Str} (H : Ok c r) (hf : EVx c m n f (.type "enumerate")) (he : EVs c m n e u)
    (h0 : autoParam (eval (f.Call [e] [] p) c.env = (eval f c.env >>= fun fv => callWith p fv [] (backTo p (starEach [e] c.env)) (backToKw p (keywordEach [] c.env)))) rflT)
    (hs : autoParam (starEach [e] c.env = (false, eval e c.env) :: starEach [] c.env) rflT) :
    ITR c m n (.Call f [e] [] p) (.Tuple elts kk tp) u.cps.size (fun i v h => ∃ T t x, v = .ref T ∧ SignAt u i x ∧ IsTup h T #[.int i t, x]) [] := by
  intro h k0 Q S q
  refine Call_ (hf h k0 _ S fun h1 k1 S1 => callWith_type1 (args_cons (he h1 k1 _ S1 fun tt h2 k2 S2 => args_nil (call_enumerate_str fun h' hE hI hsz' hk => ?_)) hs) hs rfl) h0
  refine wpAny_pyIter_enum hE ?_
  have hD := Draws.str (prog := PySem.Challenge.rw_sm0006_01.row.prog) (w := c.w) (A := c.A.in1) (x := u) (t := tt) (it := h2.objs.size) H.hh
  have hW := (WalksT.enumerateD hD (h2.objs.size + 1) (Nat.succ_ne_self _) (by simp) (by simp)).toU
  have K0 := KTurns.ofWalksU (elts := elts) (k := kk) (pos := tp) hW
  have K1 : KTurns PySem.Challenge.rw_sm0006_01.row.prog c.w c.A (.Tuple elts kk tp) (h2.objs.size + 1) _ _ u.cps.size (fun i v h => ∃ T t x, v = .ref T ∧ SignAt u i x ∧ IsTup h T #[.int i t, x]) _ _ :=
    ⟨K0.sub, K0.frame, K0.item, fun i v s Q E hm hQ => K0.go i v s Q E hm fun h' hP => hQ h' (by
      obtain ⟨T, vals, rfl, ⟨t, x, hx, rfl⟩, hT⟩ := hP
      exact ⟨T, t, x, rfl, hx, hT⟩), K0.done⟩
  refine q _ _ _ (S2.grow hk) (ITat.new (x := []) S2 ?_ ?_ K1 hW.self ?_ ⟨⟨_, hE⟩, hI⟩ (fun b hb => ?_) (by simp))
  · intro b hb
    have hb' : b = h2.objs.size + 1 ∨ b = h2.objs.size := by simpa using hb
    rcases hb' with rfl | rfl
    · exact .inl (Nat.le_add_right _ _)
    · exact .inl (Nat.le_refl _)
  · exact List.nodup_cons.mpr ⟨fun hm => Nat.succ_ne_self _ (List.mem_singleton.mp hm), nd1⟩
  · rintro i h3 ⟨⟨old, he⟩, hst⟩ b hb
    have hb' : b = h2.objs.size + 1 ∨ b = h2.objs.size := by simpa using hb
    rcases hb' with rfl | rfl
    · exact ⟨_, he⟩
    · exact hD.live _ _ hst
  · have hb' : b = h2.objs.size + 1 ∨ b = h2.objs.size := by simpa using hb
    rcases hb' with rfl | rfl
    · exact .inl (by simp)
    · exact .inl (by simp)
theorem ITR.zip {f e1 e2 : PySem.Expr} {elts : List PySem.Expr} {kk : Nat} {tp p : Pos} {z1 z2 : Nat} {a1 a2 : Addr} {xs ys : List Value} {k1 k2 : Nat} (H : Ok c r) (hf : EVx c m n f (.type "zip")) (he1 : EVx c m n e1 (.ref a1)) (he2 : EVx c m n e2 (.ref a2)) (hz1 : n[z1]? = some (a1, lstO xs k1)) (hz2 : n[z2]? = some (a2, lstO ys k2))
    (h0 : autoParam (eval (f.Call [e1, e2] [] p) c.env = (eval f c.env >>= fun fv => callWith p fv [] (backTo p (starEach [e1, e2] c.env)) (backToKw p (keywordEach [] c.env)))) rflT)
    (hs : autoParam (starEach [e1, e2] c.env = (false, eval e1 c.env) :: starEach [e2] c.env) rflT) (hs2 : autoParam (starEach [e2] c.env = (false, eval e2 c.env) :: starEach [] c.env) rflT) :
    ITR c m n (.Call f [e1, e2] [] p) (.Tuple elts kk tp) (min xs.length ys.length) (fun i v h => ∃ T x y, v = .ref T ∧ xs[i]? = some x ∧ ys[i]? = some y ∧ IsTup h T #[x, y]) [(a1, lstO xs k1), (a2, lstO ys k2)] := by
  intro h k0 Q S q
  refine Call_ (hf h k0 _ S fun h1 k1 S1 => callWith_type1 (args_cons (he1 h1 k1 _ S1 fun h2 k2 S2 => args_cons (he2 h2 k2 _ S2 fun h3 k3 S3 => args_nil (call_zip_2 (S3.isList hz1) (S3.isList hz2) fun h' hz hTI hTO hi1 hi2 hsz' hk => ?_)) hs2) hs) hs (by rw [hs2]; rfl)) h0
  refine wpAny_pyIter_zip hz ?_
  have hlt1 : a1 < h3.objs.size := Heap.lt_size (S3.get hz1)
  have hlt2 : a2 < h3.objs.size := Heap.lt_size (S3.get hz2)
  have D : ZipApart (h3.objs.size + 4) (h3.objs.size + 2) (h3.objs.size + 3) h3.objs.size (h3.objs.size + 1) a1 a2 := ktu_apart _ _ _ hlt1 hlt2
  have hW := (WalksT.zip2 (prog := PySem.Challenge.rw_sm0006_01.row.prog) (w := c.w) H.hh _ _ _ _ _ _ _ D xs.toArray ys.toArray).toU
  have e1 : min xs.toArray.size ys.toArray.size = min xs.length ys.length := by simp
  rw [e1] at hW
  have K0 := KTurns.mono (KTurns.ofWalksU (elts := elts) (k := kk) (pos := tp) hW) (wr' := [h3.objs.size + 4, h3.objs.size + 3, h3.objs.size, h3.objs.size + 1, h3.objs.size + 2])
    (fun b hb => by simp at hb ⊢; rcases hb with rfl | rfl | rfl | rfl <;> simp) (fun b hb => by simp at hb ⊢; rcases hb with rfl | rfl | rfl | rfl | rfl <;> simp)
  have K1 : KTurns PySem.Challenge.rw_sm0006_01.row.prog c.w c.A (.Tuple elts kk tp) (h3.objs.size + 4) _ _ (min xs.length ys.length) (fun i v h => ∃ T x y, v = .ref T ∧ xs[i]? = some x ∧ ys[i]? = some y ∧ IsTup h T #[x, y]) _ _ :=
    ⟨K0.sub, K0.frame, K0.item, fun i v s Q E hm hQ => K0.go i v s Q E hm fun h' hP => hQ h' (by
      obtain ⟨T, vals, rfl, ⟨x, y, hx, hy, rfl⟩, hT⟩ := hP
      exact ⟨T, x, y, rfl, by simpa using hx, by simpa using hy, hT⟩), K0.done⟩
  refine q _ _ _ (S3.grow hk) (ITat.new (x := []) S3 ?_ ?_ K1 hW.self ?_ ⟨hz, hTI, ⟨_, _, hTO⟩, hi1, hi2, (S3.isList hz1).at fun o e => hk _ o e, (S3.isList hz2).at fun o e => hk _ o e⟩ ?_ ?_)
  · exact List.forall_mem_cons.mpr ⟨.inl (Nat.le_add_right _ _), List.forall_mem_cons.mpr ⟨.inl (Nat.le_add_right _ _), List.forall_mem_cons.mpr ⟨.inl (Nat.le_refl _), List.forall_mem_cons.mpr ⟨.inl (Nat.le_add_right _ _), List.forall_mem_cons.mpr ⟨.inl (Nat.le_add_right _ _), List.forall_mem_nil _⟩⟩⟩⟩⟩
  · have : ∀ N : Nat, [N + 4, N + 3, N, N + 1, N + 2].Nodup := fun N => (List.Pairwise.map (fun k => N + k) (fun a b ne e => ne (Nat.add_left_cancel e)) (show [4, 3, 0, 1, 2].Pairwise (· ≠ ·) by decide))
    exact this _
  · rintro i h4 ⟨hz, hTI, ⟨a, b', hTO⟩, ⟨o1, ho1, _⟩, ⟨o2, ho2, _⟩, _⟩
    exact List.forall_mem_cons.mpr ⟨⟨_, hz⟩, List.forall_mem_cons.mpr ⟨⟨_, hTO⟩, List.forall_mem_cons.mpr ⟨⟨_, ho1⟩, List.forall_mem_cons.mpr ⟨⟨_, ho2⟩, List.forall_mem_cons.mpr ⟨⟨_, hTI⟩, List.forall_mem_nil _⟩⟩⟩⟩⟩
  · exact (List.forall_mem_cons.mpr ⟨.inl (List.mem_of_getElem? (i := 0) rfl), List.forall_mem_cons.mpr ⟨.inl (List.mem_of_getElem? (i := 4) rfl), List.forall_mem_cons.mpr ⟨.inl (List.mem_of_getElem? (i := 1) rfl), List.forall_mem_cons.mpr ⟨.inl (List.mem_of_getElem? (i := 2) rfl), List.forall_mem_cons.mpr ⟨.inl (List.mem_of_getElem? (i := 3) rfl), List.forall_mem_cons.mpr ⟨.inr ⟨_, List.mem_cons_self⟩, List.forall_mem_cons.mpr ⟨.inr ⟨_, List.mem_cons_of_mem _ List.mem_cons_self⟩, List.forall_mem_nil _⟩⟩⟩⟩⟩⟩⟩)
  · intro p hp
    rcases List.mem_cons.mp hp with rfl | hp
    · exact List.mem_of_getElem? hz1
    · rw [List.mem_singleton.mp hp]; exact List.mem_of_getElem? hz2
end
end Mine
end
section
open PySem PySem.W PySem.Calls PyProof.Rows PySem.Spec
namespace Mine
open LCg
section
variable {c : Cx} {m : Lo} {n : Nw} {r : Nat} {Q : Flow → Shared → Prop}
theorem EVx.cell {x : Str} {p : Pos} {v : Value} {a : Addr} {o : Obj} {z : Nat} (H : Ok c r) (hc : c.env.cells.lookup x = some a) (hz : n[z]? = some (a, o)) (hd : o.data = .cell (some v)) (hl : c.env.kindOf x = some .cell) (hb : (x == Str.ofString "__debug__") = false) : EVx c m n (.Name x p) v :=
  fun _ _ _ S q => wpAny_Name (wpAny_loadName_cell H.kd hl hc ⟨o, S.get hz, hd⟩ (q _ _ S)) hb
theorem EVx.free {x : Str} {p : Pos} {v : Value} {a : Addr} {o : Obj} {z : Nat} (H : Ok c r) (hc : c.env.cells.lookup x = some a) (hz : n[z]? = some (a, o)) (hd : o.data = .cell (some v)) (hl : c.env.kindOf x = some .free) (hb : (x == Str.ofString "__debug__") = false) (hn : (x == Str.ofString "__classdict__") = false) : EVx c m n (.Name x p) v :=
  fun _ _ _ S q => wpAny_Name (wpAny_loadName_free H.kd hl hc ⟨o, S.get hz, hd⟩ (q _ _ S) hn) hb
noncomputable def TGA (c : Cx) (e : PySem.Expr) (v : Value) (m : Lo) (n : Nw) (K : Lo → Nw → Prop) : Prop :=
  ∀ h k Q, c.St m n h → (∀ m2 n2 h' k', K m2 n2 → c.St m2 n2 h' → Q () (c.sh h' k')) → wpAny c.M c.A (assign e c.env v) Q c.E (c.sh h k)
noncomputable def TAS (c : Cx) (ts : List (Value → Sem Unit)) (vs : List Value) (m : Lo) (n : Nw) (K : Lo → Nw → Prop) : Prop :=
  ∀ h k Q, c.St m n h → (∀ m2 n2 h' k', K m2 n2 → c.St m2 n2 h' → Q () (c.sh h' k')) → wpAny c.M c.A (assignInOrder ts vs) Q c.E (c.sh h k)
theorem TAS.nil {K : Lo → Nw → Prop} {vs : List Value} (h : K m n) : TAS c [] vs m n K := fun _ _ _ S q => assignInOrder_nil (q _ _ _ _ h S)
theorem TAS.cons {e : PySem.Expr} {v : Value} {ts : List (Value → Sem Unit)} {vs : List Value} {K : Lo → Nw → Prop} (h : TGA c e v m n fun m1 n1 => TAS c ts vs m1 n1 K) : TAS c ((fun u => assign e c.env u) :: ts) (v :: vs) m n K :=
  fun h0 k Q S q => assignInOrder_cons (h h0 k _ S fun m1 n1 h1 k1 ht S1 => ht h1 k1 Q S1 q)
theorem TGA.name {x : Str} {p : Pos} {v : Value} {K : Lo → Nw → Prop} (H : Ok c r) (hx : c.env.kindOf x = some .local) (h : let m' := upd m x v; K m' n) : TGA c (.Name x p) v m n K :=
  fun h0 k _ S q => (TGT.name (h0 := h0) H hx) h0 k _ But.refl S fun h' k' _ S' => q _ _ h' k' h S'
theorem store_cell {x : Str} {v : Value} {a : Addr} {o : Obj} {v0 : Option Value} {z : Nat} {QQ : Unit → Shared → Prop} {h0 : Heap} {k : Nat} (H : Ok c r) (hc : c.env.cells.lookup x = some a) (hz : n[z]? = some (a, o)) (hd : o.data = .cell v0) (hx : c.env.kindOf x = some .cell) (S : c.St m n h0)
    (h : ∀ o' h', o'.data = .cell (some v) → c.St m (n.set z (a, o')) h' → QQ () (c.sh h' k)) : wpAny c.M c.A (storeName c.env x v) QQ c.E (c.sh h0 k) := by
  refine wpAny_storeName_cell H.kd hx hc ⟨o, S.get hz, hd⟩ fun h' hv hs => ?_
  obtain ⟨o', ho', hd'⟩ := hv
  have hm := S.N _ (List.mem_of_getElem? hz)
  obtain ⟨pre, post, e1, e2, a1, a2⟩ := (UpdF.at hz S.D).split
  refine h o' h' hd' ⟨S.F.change hs hm.2.1 hm.2.2, ?_, by rw [ks_set hz]; exact S.D⟩
  rw [e2 o']
  have N := S.N
  rw [e1] at N
  exact N.setAt a1 a2 hs ho'
theorem TGA.cell {x : Str} {p : Pos} {v : Value} {a : Addr} {o : Obj} {v0 : Option Value} {z : Nat} {K : Lo → Nw → Prop} (H : Ok c r) (hc : c.env.cells.lookup x = some a) (hz : n[z]? = some (a, o)) (hd : o.data = .cell v0) (hx : c.env.kindOf x = some .cell)
    (h : ∀ o', o'.data = .cell (some v) → let n' := n.set z (a, o'); K m n') : TGA c (.Name x p) v m n K :=
  fun _ _ _ S q => assign_Name (store_cell H hc hz hd hx S fun o' h' hd' S' => q _ _ h' _ (h o' hd') S')
theorem assign_Sub {M : Model} {A : Around} {E : Value → Shared → Prop} {s : Shared} {env : Env} {o i : PySem.Expr} {pos : Pos} {v : Value} {QQ : Unit → Shared → Prop}
    (h : wpAny M A (eval o env) (fun ov s₂ => wpAny M A (eval i env) (fun iv s₃ => wpAny M A (setItem ov iv v) QQ E s₃) E s₂) E s) : wpAny M A (assign (.Subscript o i pos) env v) QQ E s := fun Γ p hΓ => by
  simp only [assign_Subscript, Sem.wp_bind', Sem.wp_holding, Sem.wp_cmd_standAt, Sem.wp_release]
  exact Sem.wp_mono M Γ _ (fun ov p₂ s₂ h₂ => Sem.wp_mono M Γ _ (fun iv p₃ s₃ h₃ => h₃ Γ _ hΓ) (fun _ _ _ h' => h') _ _ (h₂ Γ p₂ hΓ)) (fun _ _ _ h' => h') _ _ (h Γ _ hΓ)
theorem TGA.item {o i : PySem.Expr} {p : Pos} {l : Addr} {vs q : List Value} {k z : Nat} {j : Int} {v : Value} {K : Lo → Nw → Prop} (ho : EVx c m n o (.ref l)) (hi : EVi c m n i j) (hz : n[z]? = some (l, lstO vs k)) (h0 : 0 ≤ j) (h1 : j < 2 ^ 63)
    (hq : ki_setL vs j.toNat v = some q) (h : let n' := n.set z (l, lstO q k); K m n') : TGA c (.Subscript o i p) v m n K :=
  fun h0' k0 _ S q' => assign_Sub (ho h0' k0 _ S fun h3 k3 S3 => hi h3 k3 _ S3 fun u h4 k4 S4 => by
    have up := Upd.at (o' := lstO q k) hz S4.D
    exact ki_set S4.F S4.N h0 h1 hq up fun h5 F5 N5 => q' _ _ h5 _ h ⟨F5, N5, by rw [ks_set hz]; exact S4.D⟩)
theorem TGA.ditem {o i : PySem.Expr} {p : Pos} {d : Addr} {ob : Obj} {kvs : List (Str × Value)} {z : Nat} {key : Str} {v : Value} {K : Lo → Nw → Prop} (ho : EVx c m n o (.ref d)) (hi : EVs c m n i key) (hz : n[z]? = some (d, ob)) (hd : ob.IsDictOf (SKw c.w) kvs) (hl : kvs.length ≤ sizeLine)
    (h : ∀ ob', ob'.IsDictOf (SKw c.w) (stored kvs key v) → let n' := n.set z (d, ob'); K m n') : TGA c (.Subscript o i p) v m n K :=
  fun h0' k0 _ S q' => assign_Sub (ho h0' k0 _ S fun h3 k3 S3 => hi h3 k3 _ S3 fun u h4 k4 S4 =>
    kda_set (knd := SKw c.w) S4.F S4.N (UpdF.at hz S4.D) hd (strKind_is _ _ _ _) hl fun h5 o5 F5 N5 d5 => q' _ _ h5 _ (h o5 d5) ⟨F5, N5, by rw [ks_set hz]; exact S4.D⟩)
inductive UnpH (c : Cx) (m : Lo) (ts : List (Value → Sem Unit)) (N : Nat) (K : Lo → Nw → Prop) (v : Value) (n1 : Nw) : Prop
  | mk (D : Addr) (vs : List Value) (k : Nat) (n2 : Nw) (e1 : v = .ref D) (e2 : n1 = (D, tupO vs k) :: n2) (e3 : vs.length = N) (h : TAS c ts vs m n2 K) : UnpH c m ts N K v n1
theorem RUN.unpg {elts : List PySem.Expr} {e : PySem.Expr} {j : Nat} {p p3 : Pos} {rest : List Stmt} {V : Value → Nw → Prop} (H : Ok c r) (he : EVg c m n e V)
    (h : ∀ v n1, V v n1 → UnpH c m ((assignEach elts c.env).map (·.2)) elts.length (fun m2 n3 => RUN c m2 n3 rest Q) v n1)
    (hn : autoParam ((assignEach elts c.env).length = elts.length) rflT) (hst : autoParam ((assignEach elts c.env).findIdx? (·.1) = none) rflT)
    (h1 : autoParam (swapsWithSole [.Tuple elts j p3] e p.line c.env = pure false) rflT) (h2 : autoParam (swappedStores [.Tuple elts j p3] e c.env = pure none) rflT) : RUN c m n (.Assign [.Tuple elts j p3] e p :: rest) Q := by
  intro h0 k S
  refine wpAny_execs_cons (PyProof.Rows.Assign_Tuple (he h0 k _ S fun v n1 h3 k3 hv S3 => ?_) h1 h2)
  obtain ⟨D, vs, kk, n2, rfl, rfl, hl, ht⟩ := h v n1 hv
  refine unpackN_ (s := c.sh h3 k3) S3.F S3.N (S3.isTup (i := 0) rfl) H.hh (by rw [hn]; simpa using hl.symm) hst fun h5 F5 N5 => ?_
  exact ht h5 _ _ ⟨F5, fun p hp => N5 p (List.mem_cons_of_mem _ hp), (List.nodup_cons.mp S3.D).2⟩ fun m2 n3 h6 k6 hr S6 => hr h6 k6 S6
inductive LetcH (c : Cx) (m : Lo) (rest : List Stmt) (Q : Flow → Shared → Prop) (a : Addr) (v : Value) (n1 : Nw) : Prop
  | mk (z : Nat) (o : Obj) (v0 : Option Value) (hz : n1[z]? = some (a, o)) (hd : o.data = .cell v0) (h : ∀ o', o'.data = .cell (some v) → RUN c m (n1.set z (a, o')) rest Q) : LetcH c m rest Q a v n1
theorem RUN.letc {x : Str} {p p' : Pos} {e : PySem.Expr} {rest : List Stmt} {V : Value → Nw → Prop} {a : Addr} (H : Ok c r) (he : EVg c m n e V) (hc : c.env.cells.lookup x = some a) (hx : c.env.kindOf x = some .cell)
    (h : ∀ v n1, V v n1 → LetcH c m rest Q a v n1)
    (hs : autoParam (swapsWith e (some (.Name x p')) p.line c.env = pure false) rflT) : RUN c m n (.Assign [.Name x p'] e p :: rest) Q :=
  fun h0 k S => wpAny_execs_cons (wpAny_Assign_Name (he h0 k _ S fun v n1 h1 k1 hv S1 => by
    obtain ⟨z, o, v0, hz, hd, hr⟩ := h v n1 hv
    exact store_cell H hc hz hd hx S1 fun o' h' hd' S' => hr o' hd' h' _ S') hs)
theorem RUN.set_g {o i : PySem.Expr} {p p' : Pos} {e : PySem.Expr} {rest : List Stmt} {V : Value → Nw → Prop} (he : EVg c m n e V) (h : ∀ v n1, V v n1 → TGA c (.Subscript o i p') v m n1 fun m2 n2 => RUN c m2 n2 rest Q)
    (hs : autoParam (swapsWith e (some (o.Subscript i p')) p.line c.env = pure false) rflT) : RUN c m n (.Assign [.Subscript o i p'] e p :: rest) Q := by
  intro h0 k S
  refine wpAny_execs_cons ?_
  rw [exec_Assign_Subscript o i p' e p hs]
  exact wpAny_bind (wpAny_standAt (wpAny_bind (he h0 k _ S fun v n1 h1 k1 hv S1 => wpAny_bind (h v n1 hv h1 k1 _ S1 fun m2 n2 h2 k2 hr S2 => wpAny_pure (hr h2 k2 S2)))))
theorem EVg.i {e : PySem.Expr} {v : Int} (h : EVi c m n e v) : EVg c m n e fun u n' => (∃ t, u = .int v t) ∧ n' = n := fun a b _ S q => h a b _ S fun t h' k' S' => q _ n h' k' ⟨⟨t, rfl⟩, rfl⟩ S'
theorem EVg.s {e : PySem.Expr} {v : Str} (h : EVs c m n e v) : EVg c m n e fun u n' => (∃ t, u = .str v t) ∧ n' = n := fun a b _ S q => h a b _ S fun t h' k' S' => q _ n h' k' ⟨⟨t, rfl⟩, rfl⟩ S'
theorem EVg.x {e : PySem.Expr} {v : Value} (h : EVx c m n e v) : EVg c m n e fun u n' => u = v ∧ n' = n := fun a b _ S q => h a b _ S fun h' k' S' => q _ n h' k' ⟨rfl, rfl⟩ S'
theorem EVg.ife_t {e a b : PySem.Expr} {p : Pos} {P : Value → Nw → Prop} (hc : CND c m n e true) (ha : EVg c m n a P) : EVg c m n (.IfExp e a b p) P :=
  fun h k Q S q => IfExp_ (hc h k _ S fun h1 k1 S1 => by rw [if_pos rfl]; exact ha h1 k1 Q S1 q)
theorem EVg.ife_f {e a b : PySem.Expr} {p : Pos} {P : Value → Nw → Prop} (hc : CND c m n e false) (ha : EVg c m n b P) : EVg c m n (.IfExp e a b p) P :=
  fun h k Q S q => IfExp_ (hc h k _ S fun h1 k1 S1 => by rw [if_neg (by decide)]; exact ha h1 k1 Q S1 q)
inductive AppH (c : Cx) (m : Lo) (rest : List Stmt) (Q : Flow → Shared → Prop) (l : Addr) (v : Value) (n1 : Nw) : Prop
  | mk (z : Nat) (vs : List Value) (k : Nat) (hz : n1[z]? = some (l, lstO vs k)) (hs : vs.length ≤ sizeLine) (h : RUN c m (n1.set z (l, lstO (vs ++ [v]) (k + 1))) rest Q) : AppH c m rest Q l v n1
theorem RUN.append_g {o e : PySem.Expr} {p p1 p2 : Pos} {rest : List Stmt} {l : Addr} {V : Value → Nw → Prop} (ho : EVx c m n o (.ref l)) (he : EVg c m n e V)
    (h : ∀ v n1, V v n1 → AppH c m rest Q l v n1) {z0 k0 : Nat} {vs0 : List Value} (hz0 : n[z0]? = some (l, lstO vs0 k0))
    (h2 : ∀ (E : Value → Shared → Prop) (s : Shared) (Q : Value → Shared → Prop), wpAny c.M c.A (PySem.eval o c.env) (fun ov s₁ => ∀ pl : Sem Bool, wpAny c.M c.A (getMethod ov (Str.ofString "append") pl) (fun fx s₂ => wpAny c.M c.A (callWith p2 fx.1 fx.2 (backTo p2 (starEach [e] c.env)) []) Q E s₂) E s₁) E s → wpAny c.M c.A (PySem.eval ((o.Attribute (Str.ofString "append") p1).Call [e] [] p2) c.env) Q E s)
    (h3 : interactive c.env = false) (h4 : swapsWith ((o.Attribute (Str.ofString "append") p1).Call [e] [] p2) none p.line c.env = pure false) (hs : starEach [e] c.env = (false, PySem.eval e c.env) :: starEach [] c.env) : RUN c m n (.Expr ((o.Attribute (Str.ofString "append") p1).Call [e] [] p2) p :: rest) Q :=
  fun h0 k0 S => wpAny_execs_cons (wpAny_Expr_any (h2 _ _ _ (ho h0 k0 _ S fun h5 k5 S5 pl => listMethod_K S5.N (List.mem_of_getElem? hz0) F.slot_list_append F.type_list_append (callWith_method1 (args_cons (he h5 k5 _ S5 fun v n1 h6 k6 hv S6 => args_nil (by
    obtain ⟨z, vs, k, hz, hsz, hr⟩ := h v n1 hv
    exact append_K S6.F S6.N (by rw [push_lst]; exact Upd.at hz S6.D) (fun h7 F7 N7 => hr h7 _ ⟨F7, N7, by rw [ks_set hz]; exact S6.D⟩) (by simpa using hsz))) hs) hs rfl))) h3 h4)
end
theorem cellsFrom_ge : ∀ (names : List (Str × NameKind)) (n : Nat) (acc : List (Str × Addr)) (B : Nat), B ≤ n → (∀ x ∈ acc, (B : Nat) ≤ x.2) → ∀ x ∈ cellsFrom n names acc, (B : Nat) ≤ x.2
  | [], _, _, _, _, h => h
  | (nm, kd) :: r, n, acc, B, hB, h => by
    unfold cellsFrom
    split
    · refine cellsFrom_ge r (n + 1) _ B (Nat.le_succ_of_le hB) fun x hx => ?_
      rcases List.mem_cons.mp hx with rfl | hx
      · exact hB
      · exact h x hx
    · exact cellsFrom_ge r n acc B hB h
theorem cellsFrom_nd : ∀ (names : List (Str × NameKind)) (n : Nat) (acc : List (Str × Addr)), (acc.map Prod.snd).Nodup → (∀ x ∈ acc, (x.2 : Nat) < n) → ((cellsFrom n names acc).map Prod.snd).Nodup
  | [], _, _, h, _ => h
  | (nm, kd) :: r, n, acc, h, h2 => by
    unfold cellsFrom
    split
    · refine cellsFrom_nd r (n + 1) _ (List.nodup_cons.mpr ⟨fun hm => ?_, h⟩) fun x hx => ?_
      · obtain ⟨x, hx, e⟩ := List.mem_map.mp hm
        have := h2 x hx
        rw [e] at this
        exact Nat.lt_irrefl _ this
      · rcases List.mem_cons.mp hx with rfl | hx
        · exact Nat.lt_succ_self _
        · exact Nat.lt_succ_of_lt (h2 x hx)
    · exact cellsFrom_nd r n acc h h2
theorem cellsAre_ks {cm : Str → Option Value} {cs : List (Str × Addr)} {cl : List (Addr × Obj)} (x : CellsAre cm cs cl) : cl.map Prod.fst = cs.map Prod.snd := by
  induction x with
  | nil => rfl
  | cons _ _ ih => show _ :: _ = _ :: _; rw [ih]
section
variable {w : World} {r : Nat} {f : Addr} {vs : List Value} {cells : Nw} {G : Heap → Prop} {P : Value → Nw → Prop} {name qual : Str} {params : Arguments} {body : List Stmt} {scope : Scope} {dV kV doc pm cdv ct oc : Value} {an od : Option Addr} {osl : Array (Option Value)} {binds : List (Str × Value)}
theorem CTn.mkC (binds : List (Str × Value)) (ho : (KO w.params).lookup f = some ⟨oc, od, .func (fnOf name qual params body scope dV kV doc pm an cdv ct), osl⟩) (hcd : codeIn (KO w.params) cdv qual = true)
    (hbind : ∀ s, BindsTo s (fnOf name qual params body scope dV kV doc pm an cdv ct) ⟨vs, []⟩ binds) (hkind : (binds.all fun y => scope.names.lookup y.1 == some .local || scope.names.lookup y.1 == some .cell) = true)
    (hnd : ((cellsFrom 0 scope.names []).map (·.1)).Nodup) (hGk : ∀ h h', (∀ b o, h.get? b = some o → h'.get? b = some o) → G h → G h')
    (h : ∀ A L g s E cl, let c : Cx := ⟨w, A, envOfC qual scope L f cdv, g, s, E⟩; Ok c r → G g → CellsAre (bindC (envOfC qual scope L f cdv).kindOf binds fun _ => none) (cellsFrom (L + 1) scope.names []) cl → let QQ : Flow → Shared → Prop := (Pn c P); RUN c (bindL (envOfC qual scope L f cdv).kindOf binds fun _ => none) (cl ++ cells) body QQ)
    (hco : autoParam (scope.isCoroutine = false) rflT) (hgen : autoParam (scope.isGenerator = false) rflT) (hk : autoParam (scope.kind = .function) rflT) : CTn w r f vs cells G P := by
  intro dp un base outer mean mg mb s R C hc hD hG ret
  refine enterC (binds := binds) C hc ho hcd (hbind s) hkind hnd (fun g L h₁ tk cl F N Y B X T hk1 hlt => ?_) hco hgen hk
  have hGg : G g := hGk _ _ (fun b o e => hk1 b o (of_hideAll _ e) fun hb => by rw [hideAll_none _ hb] at e; cases e) hG
  have D : ((cl ++ cells).map Prod.fst).Nodup := by
    rw [List.map_append, cellsAre_ks Y]
    refine List.nodup_append.mpr ⟨cellsFrom_nd _ _ _ List.nodup_nil (by intro x hx; cases hx), hD, fun a ha b hb e => ?_⟩
    obtain ⟨x, hx, e1⟩ := List.mem_map.mp ha
    obtain ⟨p, hp, e2⟩ := List.mem_map.mp hb
    have h1 : L + 1 ≤ x.2 := cellsFrom_ge scope.names (L + 1) [] (L + 1) (Nat.le_refl _) (by intro y hy; cases hy) x hx
    have h2 := hlt p hp
    rw [e2, ← e, ← e1] at h2
    exact Nat.lt_irrefl _ (Nat.lt_of_lt_of_le h2 (Nat.le_of_succ_le h1))
  refine wpAny_mono (h ((top dp un outer).deeper (envOfC qual scope L f cdv)) L g s _ cl ⟨X, ⟨mg, mb, topRead_of T⟩, hk, rfl, rfl, rfl, (fun _ => by passes_own), fun h' m' F' r' hr => ⟨dp + 1, un + 3, base, envOfC qual scope L f cdv :: outer, mean, mg, mb, rfl, ?_, fun p hp => Own.inner (cells := [p]) (news := [p]) (L := L) (h := h') B (fun q hq => by obtain rfl := List.mem_singleton.mp hq; exact hp) rfl (fun q hq => hq) p (.head _)⟩⟩ hGg Y h₁ _ ⟨F, N, D⟩) (fun fl s' P => ?_) (fun _ _ e => e)
  · exact At.innerC (s := { s with heap := h' }) C B F' (by omega) (by omega) hk
  · obtain ⟨v, m', n', h', k, hP, S', rfl, rfl⟩ := P
    refine ret _ n' h' k hP (fun b o e hb => S'.F.keep _ _ (hk1 b o e hb)) S'.D fun p hp => ⟨(S'.N p hp).1, ?_⟩
    by_cases q : p.1 ∈ ks cells
    · exact .inl q
    · cases e : s.heap.get? p.1 with
      | none => exact .inr rfl
      | some o => have := hk1 _ _ e q; rw [(S'.N p hp).2.2] at this; cases this
end
end Mine
end
section
open PySem PySem.W PySem.Calls PyProof.Rows PySem.Spec
namespace Mine
open LCg
section
variable {c : Cx} {m : Lo} {n : Nw} {r : Nat} {Q : Flow → Shared → Prop}
theorem EVs.rev {a s : PySem.Expr} {p p' : Pos} {x v : Str} (ha : EVs c m n a x) (hs : EVi c m n s (-1)) (hz : x.length ≤ sizeLine) (hv : ∀ u, Txt.sliceBy x none none (-1, u) = v)
    (hl : autoParam (∀ (t : Tok) v, letTemporaryGo a (.str x t) v = pure ()) irflT) : EVs c m n (.Subscript a (.Slice none none (some s) p') p) v :=
  fun h k Q S q => Subscript_ (ha h k _ S fun t h1 k1 S1 => wpAny_Slice (evalPart_none_step (evalPart_none_step (evalPart_some_step (hs h1 k1 _ S1 fun u h3 k3 S3 =>
    (slice_strK_nn S3.F S3.N (by decide) (fun h' t' k' F' N' => by rw [hv]; exact q t' h' k' ⟨F', N', S3.D⟩) rfl (hl t) hz))))))
theorem EVs.ch {a b : PySem.Expr} {p : Pos} {x : Str} {j : Int} (ha : EVs c m n a x) (hb : EVi c m n b j) (hr : fitsSsize j = true) (h1 : -(x.length : Int) ≤ j) (h2 : j < x.length)
    (hs : autoParam (∀ t u, subscripted b false (.str x t) (.int j u) = operate [.str x t, .int j u] (getItem (.str x t) (.int j u))) irflT)
    (hl : autoParam (∀ (t : Tok) v, letTemporaryGo a (.str x t) v = pure ()) irflT) : EVs c m n (.Subscript a b p) (Txt.item x j) :=
  fun h k Q S q => Subscript_ (ha h k _ S fun t h1' k1 S1 => hb h1' k1 _ S1 fun u h2' k2 S2 => item_str hr h1 h2 (fun _ => q _ _ _ S2) (hs t u) (hl t))
theorem b_ord {x : Str} {t : Tok} {v : Int} (h1 : x.length = 1) (hv : ((x.cps.getD 0 0 : Nat) : Int) = v) : ∀ (h : Heap) (k : Nat) (Q : Value → Shared → Prop), c.St m n h → (∀ t k', Q (.int v t) (c.sh h k')) → wpAny c.M c.A (PySem.call (.builtin "ord") [.str x t]) Q c.E (c.sh h k) := fun _ _ _ _ q => ord_of_one h1 (by rw [hv]; exact q _ _)
theorem EVi.bor {a b : PySem.Expr} {p : Pos} {x y : Int} (ha : EVi c m n a (x * 2 ^ (8 : Int).toNat)) (hb : EVi c m n b y) (h0 : 0 ≤ y) (h1 : y < 256) : EVi c m n (.BinOp a .BitOr b p) (x * 256 + y) :=
  EVi.bin ha hb fun _ _ _ _ q => or_int (by rw [show (8 : Int).toNat = 8 from rfl, bor256 h0 h1]; exact q _ _)
theorem EVr.r3 {f e1 e2 e3 : PySem.Expr} {p : Pos} {v1 v2 v3 : Int} {N : Nat} (hf : EVx c m n f (.type "range")) (he1 : EVi c m n e1 v1) (he2 : EVi c m n e2 v2) (he3 : EVi c m n e3 v3) (hc : v3 ≠ 0) (hp : Builtin.divisionGoesByPylong (v2 - v1) v3 = false) (hsm : Builtin.Range.small v1 v2 v3 = true) (hN : Builtin.Range.rangeSize v1 v2 v3 = ((N : Nat) : Int))
    (h0 : autoParam (eval (f.Call [e1, e2, e3] [] p) c.env = (eval f c.env >>= fun fv => callWith p fv [] (backTo p (starEach [e1, e2, e3] c.env)) (backToKw p (keywordEach [] c.env)))) rflT)
    (hs : autoParam (starEach [e1, e2, e3] c.env = (false, eval e1 c.env) :: starEach [e2, e3] c.env) rflT) (hs2 : autoParam (starEach [e2, e3] c.env = (false, eval e2 c.env) :: starEach [e3] c.env) rflT) (hs3 : autoParam (starEach [e3] c.env = (false, eval e3 c.env) :: starEach [] c.env) rflT) : EVr c m n (.Call f [e1, e2, e3] [] p) v1 v3 N :=
  fun h k Q S q => Call_ (hf h k _ S fun h1 k1 S1 => callWith_type1 (args_cons (he1 h1 k1 _ S1 fun t h2 k2 S2 => args_cons (he2 h2 k2 _ S2 fun t2 h3 k3 S3 => args_cons (he3 h3 k3 _ S3 fun t3 h4 k4 S4 => args_nil (range3_rows S4.F S4.N hc (fun h' tk t1 u1 v1 hr F' N' _ => q _ _ _ _ _ h' tk ⟨F', N', S4.D⟩ hr hsm hN) (.inl hp))) hs3) hs2) hs) hs (by rw [hs2, hs3]; rfl)) h0
theorem call_sum {l : Addr} {vs : List Value} {ns : List Int} {w : World} {A : Around} {E : Value → Shared → Prop} {s : Shared} {QQ : Value → Shared → Prop} (hh : A.handled = none) (hl : s.heap.IsList l vs.toArray) (hi : IntsAre vs ns)
    (h : ∀ h' tk t', (∀ b o, s.heap.get? b = some o → h'.get? b = some o) → QQ (.int ns.sum t') { s with heap := h', toks := tk }) : wpAny (model PySem.Challenge.rw_sm0006_01.row.prog w) A (PySem.call (.builtin "sum") [.ref l]) QQ E s := by
  have e := hi.numsOf
  obtain ⟨xs, hx⟩ := hi.allInts.items
  rw [hx] at hl
  have e2 : numsOf (intItems xs).toList = ns := by rw [← hx]; exact e
  refine sum_intListG hh hl fun h' tk t' hk => ?_
  rw [preSum_eq, List.take_of_length_le (by simp), ← nums_intItems, e2]
  exact h h' tk t' hk
inductive SumH (P : Value → Nw → Prop) (v : Value) (n1 : Nw) : Prop
  | mk (l : Addr) (vs : List Value) (ns : List Int) (k z : Nat) (e : v = .ref l) (hz : n1[z]? = some (l, lstO vs k)) (hi : IntsAre vs ns) (h : ∀ t, P (.int ns.sum t) n1) : SumH P v n1
inductive JoinH (x : Str) (P : Value → Nw → Prop) (v : Value) (n1 : Nw) : Prop
  | mk (l : Addr) (vs : List Value) (ys : List Str) (k z : Nat) (e : v = .ref l) (hz : n1[z]? = some (l, lstO vs k)) (hy : StrsAre vs ys) (hb : (ys.map fun x => x.length).sum + ys.length ≤ 1048576) (h : ∀ t, P (.str (Txt.join x ys) t) n1) : JoinH x P v n1
theorem EVg.sum {f e : PySem.Expr} {p : Pos} {V P : Value → Nw → Prop} (H : Ok c r) (hf : EVx c m n f (.builtin "sum")) (he : EVg c m n e V)
    (h : ∀ v n1, V v n1 → SumH P v n1)
    (h0 : autoParam (eval (f.Call [e] [] p) c.env = (eval f c.env >>= fun fv => callWith p fv [] (backTo p (starEach [e] c.env)) (backToKw p (keywordEach [] c.env)))) rflT)
    (hs : autoParam (starEach [e] c.env = (false, eval e c.env) :: starEach [] c.env) rflT) : EVg c m n (.Call f [e] [] p) P :=
  fun h0' k Q S q => Call_ (hf h0' k _ S fun h1 k1 S1 => callWith_builtin1 (args_cons (he h1 k1 _ S1 fun v n1 h2 k2 hv S2 => args_nil (by
    obtain ⟨l, vs, ns, kk, z, rfl, hz, hi, hP⟩ := h v n1 hv
    exact call_sum H.hh (S2.isList hz) hi fun h' tk t' hk => q _ _ h' tk (hP t') (S2.grow hk))) hs) hs rfl) h0
theorem EVg.join {e : PySem.Expr} {pc p1 p2 : Pos} {j : Nat} {x : Str} {V P : Value → Nw → Prop} (he : EVg c m n e V) (hx : x.length ≤ 16)
    (h : ∀ v n1, V v n1 → JoinH x P v n1)
    (hM : ∀ (E : Value → Shared → Prop) (s : Shared) (Q : Value → Shared → Prop), wpAny c.M c.A (PySem.eval (.Constant (.str x) j pc) c.env) (fun ov s₁ => ∀ pl : Sem Bool, wpAny c.M c.A (getMethod ov (Str.ofString "join") pl) (fun fx s₂ => wpAny c.M c.A (callWith p2 fx.1 fx.2 (backTo p2 (starEach [e] c.env)) []) Q E s₂) E s₁) E s → wpAny c.M c.A (PySem.eval (.Call (.Attribute (.Constant (.str x) j pc) (Str.ofString "join") p1) [e] [] p2) c.env) Q E s)
    (hs : starEach [e] c.env = (false, PySem.eval e c.env) :: starEach [] c.env) : EVg c m n (.Call (.Attribute (.Constant (.str x) j pc) (Str.ofString "join") p1) [e] [] p2) P :=
  fun h0 k0 Q S q => hM _ _ _ (EVs.const h0 k0 _ S fun t h1 k1 S1 pl => GM.join (callWith_method1 (args_cons (he h1 k1 _ S1 fun v n1 h2 k2 hv S2 => args_nil (by
    obtain ⟨l, vs, ys, kk, z, rfl, hz, hy, hb, hP⟩ := h v n1 hv
    exact join_listW (S2.isList hz) (by simpa using hy) hx hb fun t' k' => q _ _ h2 k' (hP t') S2)) hs) hs rfl))
theorem EVg.sub {e : PySem.Expr} {P P' : Value → Nw → Prop} (h : EVg c m n e P) (q : ∀ v n', P v n' → ∃ n2, List.Sublist n2 n' ∧ P' v n2) : EVg c m n e P' := fun h0 k Q S q' => h h0 k Q S fun v n' h' k' p S' => by
  obtain ⟨n2, hs, hp⟩ := q v n' p
  exact q' v n2 h' k' hp (S'.sub hs)
theorem EVi.ofgs {e : PySem.Expr} {v : Int} (h : EVg c m n e fun u n' => (∃ t, u = .int v t) ∧ List.Sublist n n') : EVi c m n e v := fun h0 k Q S q => h h0 k Q S fun u n' h' k' ⟨⟨t, e1⟩, e2⟩ S' => by subst e1; exact q t h' k' (S'.sub e2)
theorem EVs.ofgs {e : PySem.Expr} {v : Str} (h : EVg c m n e fun u n' => (∃ t, u = .str v t) ∧ List.Sublist n n') : EVs c m n e v := fun h0 k Q S q => h h0 k Q S fun u n' h' k' ⟨⟨t, e1⟩, e2⟩ S' => by subst e1; exact q t h' k' (S'.sub e2)
end
end Mine
end
section
open PySem PySem.W PySem.Calls PyProof.Rows PySem.Spec
namespace Mine
theorem pick_app {is : List Nat} : ∀ {k : Nat} (a T : Nw), (is.all fun i => decide (i < k + a.length)) = true → pick is k (a ++ T) = pick is k a
  | k, [], T, h => pick_ge T fun i hi => by
    have := List.all_eq_true.mp h i hi
    simpa using this
  | k, p :: a, T, h => by
    have h' : (is.all fun i => decide (i < k + 1 + a.length)) = true := List.all_eq_true.mpr fun i hi => by
      have := of_decide_eq_true (List.all_eq_true.mp h i hi)
      exact decide_eq_true (by rw [List.length_cons] at this; omega)
    show pick is k (p :: (a ++ T)) = _
    unfold pick
    rw [pick_app a T h']
theorem rest_app {is : List Nat} : ∀ {k : Nat} (a T : Nw), (is.all fun i => decide (i < k + a.length)) = true → rest is k (a ++ T) = rest is k a ++ T
  | k, [], T, h => rest_ge T fun i hi => by
    have := List.all_eq_true.mp h i hi
    simpa using this
  | k, p :: a, T, h => by
    have h' : (is.all fun i => decide (i < k + 1 + a.length)) = true := List.all_eq_true.mpr fun i hi => by
      have := of_decide_eq_true (List.all_eq_true.mp h i hi)
      exact decide_eq_true (by rw [List.length_cons] at this; omega)
    show rest is k (p :: (a ++ T)) = _
    unfold rest
    rw [rest_app a T h']
    cases is.any (Nat.beq k) <;> rfl
section
variable {c : Cx} {m : Lo} {n n1 T : Nw} {r : Nat} {Q : Flow → Shared → Prop}
theorem EVg.callT {f e : PySem.Expr} {es : List PySem.Expr} {p : Pos} {ad : Addr} {G : Heap → Prop} {P : Value → Nw → Prop} (is : List Nat) (r' : Nat) (H : Ok c r) (hr : r' < r) (hf : EVx c m (n1 ++ T) f (.ref ad)) (hk : keepIn (KO c.w.params) (.ref ad) = true)
    (hG : G c.g) (hGk : ∀ h h', (∀ b o, h.get? b = some o → h'.get? b = some o) → G h → G h') (ha : ARG c m (n1 ++ T) (e :: es) fun vs => CTn c.w r' ad vs (pick is 0 n1) G P)
    (hi : autoParam ((is.all fun i => decide (i < 0 + n1.length)) = true) rflT)
    (h0 : autoParam (eval (f.Call (e :: es) [] p) c.env = (eval f c.env >>= fun fv => callWith p fv [] (backTo p (starEach (e :: es) c.env)) (backToKw p (keywordEach [] c.env)))) rflT)
    (hs : autoParam (starEach (e :: es) c.env = (false, eval e c.env) :: starEach es c.env) rflT) (hs2 : autoParam (((backTo p (starEach es c.env)).any fun x => x.1) = false) rflT) :
    EVg c m (n1 ++ T) (.Call f (e :: es) [] p) fun v n'' => ∃ n', P v n' ∧ n'' = n' ++ (rest is 0 n1 ++ T) := by
  have := EVg.call (P := P) is r' H hr hf hk (by rw [pick_app n1 T hi]; exact ha) hG hGk h0 hs hs2
  rw [rest_app n1 T hi] at this
  exact this
theorem EVg.callRT {f e : PySem.Expr} {es : List PySem.Expr} {p : Pos} {ad : Addr} {G : Heap → Prop} {P : Value → Prop} (is : List Nat) (r' : Nat) (H : Ok c r) (hr : r' < r) (hf : EVx c m (n1 ++ T) f (.ref ad)) (hk : keepIn (KO c.w.params) (.ref ad) = true)
    (hG : G c.g) (hGk : ∀ h h', (∀ b o, h.get? b = some o → h'.get? b = some o) → G h → G h') (ha : ARG c m (n1 ++ T) (e :: es) fun vs => CTn c.w r' ad vs (pick is 0 n1) G fun u n' => P u ∧ n' = pick is 0 n1)
    (hi : autoParam ((is.all fun i => decide (i < 0 + n1.length)) = true) rflT)
    (h0 : autoParam (eval (f.Call (e :: es) [] p) c.env = (eval f c.env >>= fun fv => callWith p fv [] (backTo p (starEach (e :: es) c.env)) (backToKw p (keywordEach [] c.env)))) rflT)
    (hs : autoParam (starEach (e :: es) c.env = (false, eval e c.env) :: starEach es c.env) rflT) (hs2 : autoParam (((backTo p (starEach es c.env)).any fun x => x.1) = false) rflT) :
    EVg c m (n1 ++ T) (.Call f (e :: es) [] p) fun u n' => P u ∧ n' = n1 ++ T :=
  EVg.callR is r' H hr hf hk hG hGk (by rw [pick_app n1 T hi]; exact ha) h0 hs hs2
end
end Mine
end
section
open PySem PySem.W PySem.Calls PyProof.Rows PySem.Spec
namespace Mine
theorem CTn.mono {w : World} {r : Nat} {f : Addr} {vs : List Value} {cells : Nw} {G : Heap → Prop} {P P' : Value → Nw → Prop} (h : CTn w r f vs cells G P) (q : ∀ v n', P v n' → P' v n') : CTn w r f vs cells G P' :=
  fun dp un base outer mean mg mb s R C hc hD hG ret => h dp un base outer mean mg mb s R C hc hD hG fun v n' h' k' hP => ret v n' h' k' (q v n' hP)
section
variable {c : Cx} {m : Lo} {n : Nw} {r : Nat} {Q : Flow → Shared → Prop}
theorem EVs.stri {f e : PySem.Expr} {p : Pos} {v : Int} {u : Str} (hf : EVx c m n f (.type "str")) (he : EVi c m n e v) (hv : v.natAbs.log2 < 1920) (hu : (toString v : Str) = u)
    (h0 : autoParam (eval (f.Call [e] [] p) c.env = (eval f c.env >>= fun fv => callWith p fv [] (backTo p (starEach [e] c.env)) (backToKw p (keywordEach [] c.env)))) rflT)
    (hs : autoParam (starEach [e] c.env = (false, eval e c.env) :: starEach [] c.env) rflT) : EVs c m n (.Call f [e] [] p) u :=
  fun h k Q S q => Call_ (hf h k _ S fun h1 k1 S1 => callWith_type1 (args_cons (he h1 k1 _ S1 fun t h2 k2 S2 => args_nil (PySem.P.str_of_int hv (by rw [hu]; exact q _ _ _ S2))) hs) hs rfl) h0
theorem RUN.ex {e : PySem.Expr} {p : Pos} {rest : List Stmt} {V : Value → Nw → Prop} (he : EVg c m n e V) (h : ∀ v n1, V v n1 → RUN c m n1 rest Q) (hi : autoParam (interactive c.env = false) rflT) (hs : autoParam (swapsWith e none p.line c.env = pure false) rflT) : RUN c m n (.Expr e p :: rest) Q :=
  fun h0 k S => wpAny_execs_cons (wpAny_Expr_any (he h0 k _ S fun v n1 h1 k1 hv S1 => h v n1 hv h1 k1 S1) hi hs)
theorem RUN.ex_r {e : PySem.Expr} {p : Pos} {rest : List Stmt} (he : EXr c m n e) (hi : autoParam (interactive c.env = false) rflT) (hs : autoParam (swapsWith e none p.line c.env = pure false) rflT) : RUN c m n (.Expr e p :: rest) Q :=
  fun h0 k S => wpAny_execs_cons (wpAny_Expr_any (he h0 k _ S) hi hs)
noncomputable def ARGr (c : Cx) (m : Lo) (n : Nw) (es : List PySem.Expr) : Prop := ∀ p h k Q, c.St m n h → wpAny c.M c.A (spliced (backTo p (starEach es c.env))) Q c.E (c.sh h k)
theorem ARGr.here {e : PySem.Expr} {es : List PySem.Expr} (he : EXr c m n e) (hs : autoParam (starEach (e :: es) c.env = (false, eval e c.env) :: starEach es c.env) rflT) : ARGr c m n (e :: es) := fun _ h k _ S => args_cons (he h k _ S) hs
theorem ARGr.g {e : PySem.Expr} {es : List PySem.Expr} {V : Value → Nw → Prop} (he : EVg c m n e V) (hr : ∀ v n1, V v n1 → ARGr c m n1 es) (hs : autoParam (starEach (e :: es) c.env = (false, eval e c.env) :: starEach es c.env) rflT) : ARGr c m n (e :: es) :=
  fun p h k _ S => args_cons (he h k _ S fun v n1 h1 k1 hv S1 => hr v n1 hv p h1 k1 _ S1) hs
theorem EXr.args {f e : PySem.Expr} {es : List PySem.Expr} {p : Pos} {a : Addr} (H : Ok c r) (hf : EVx c m n f (.ref a)) (hk : keepIn (KO c.w.params) (.ref a) = true) (ha : ARGr c m n (e :: es))
    (h0 : autoParam (eval (f.Call (e :: es) [] p) c.env = (eval f c.env >>= fun fv => callWith p fv [] (backTo p (starEach (e :: es) c.env)) (backToKw p (keywordEach [] c.env)))) rflT)
    (hs : autoParam (starEach (e :: es) c.env = (false, eval e c.env) :: starEach es c.env) rflT) (hs2 : autoParam (((backTo p (starEach es c.env)).any fun x => x.1) = false) rflT) : EXr c m n (.Call f (e :: es) [] p) :=
  fun h k Q S => Call_ (hf h k _ S fun h1 k1 S1 => callWith_K (H.X.keeps S1.F.keep) hk (ha p h1 k1 _ S1) hs hs2) h0
theorem EXr.callA {f e : PySem.Expr} {es : List PySem.Expr} {p : Pos} {a : Addr} {G : Heap → Prop} {cells : Nw} {u : Str} (is : List Nat) (r' : Nat) (H : Ok c r) (hT : Thr c cells u) (hr : r' < r) (hf : EVx c m n f (.ref a)) (hk : keepIn (KO c.w.params) (.ref a) = true)
    (ha : ARGg c m n (e :: es) fun n1 vs => CTr c.w r' a vs (pick is 0 n1) G u ∧ ∀ p ∈ cells, p ∈ n1) (hG : G c.g) (hGk : ∀ h h', (∀ b o, h.get? b = some o → h'.get? b = some o) → G h → G h')
    (h0 : autoParam (PySem.eval (f.Call (e :: es) [] p) c.env = (PySem.eval f c.env >>= fun fv => callWith p fv [] (backTo p (starEach (e :: es) c.env)) (backToKw p (keywordEach [] c.env)))) rflT)
    (hs : autoParam (starEach (e :: es) c.env = (false, PySem.eval e c.env) :: starEach es c.env) rflT) (hs2 : autoParam (((backTo p (starEach es c.env)).any fun x => x.1) = false) rflT) : EXr c m n (.Call f (e :: es) [] p) :=
  fun h k Q S => Call_ (hf h k _ S fun h1 k1 S1 => callWith_K (H.X.keeps S1.F.keep) hk (ha p h1 k1 _ S1 fun vs n1 h2 k2 hc S2 => ⟨H.X.keeps S2.F.keep, wpAny_call (by
    obtain ⟨hc, hcs⟩ := hc
    obtain ⟨dp, un, base, outer, mean, mg, mb, eA, C, ob⟩ := H.stand _ _ S2.F r' hr
    have pm := pick_perm (is := is) 0 n1
    have D := (pm.map Prod.fst).nodup_iff.mp S2.D
    rw [List.map_append] at D
    have hm : ∀ p ∈ pick is 0 n1, p ∈ n1 := fun p hp => pm.mem_iff.mpr (List.mem_append_left _ hp)
    have og : ∀ p ∈ pick is 0 n1, c.g.get? p.1 = none := fun p hp => (S2.N p (hm p hp)).2.2
    have hTh : ∀ e h' tk', Thrown (outer.filterMap (·.frame)) h2 h' e u → c.E (.ref e) (c.sh h' tk') := fun e h' tk' th => hT m n1 h2 h' tk' e _ outer S2 hcs (.inr rfl) (by rw [eA]) th.1 th.2
    rw [eA]
    refine hc dp un base outer mean mg mb _ _ C (fun p hp => ob p ((S2.N p (hm p hp)))) (List.nodup_append.mp D).1 (hGk c.g _ (fun b o e => hideAll_get _ (S2.F.keep b o e) fun hb => ?_) hG) fun e h' k' th => hTh e h' k' th
    obtain ⟨p, hp, rfl⟩ := List.mem_map.mp hb
    rw [og p hp] at e; cases e)⟩) hs hs2) h0
end
end Mine
end
section
open PySem PySem.W PySem.Calls PyProof.Rows PySem.Spec
namespace Mine
open LCg
structure OkT (c : Cx) (fs : List Addr) (r : Nat) : Prop where
  ok : ∀ g2, KtsTurn fs c.g g2 → Ok (c.at g2) r
  fr : ∃ outer, c.A.frames = some outer ∧ ∀ b ∈ outer.filterMap (·.frame), b = c.L ∨ b ∈ fs
  st : ∀ b ∈ fs, ∃ o, c.g.get? b = some o ∧ ∀ vs, o.data ≠ .fields vs
  tops : ∀ g2, KtsTurn fs c.g g2 → ∃ mean mg mb, Top topProg LSE mean mg mb g2
theorem OkT.now {c : Cx} {fs : List Addr} {r : Nat} (O : OkT c fs r) : Ok c r := O.ok c.g KtsTurn.refl
theorem OkT.at {c : Cx} {fs : List Addr} {r : Nat} {g2 : Heap} (O : OkT c fs r) (T : KtsTurn fs c.g g2) : OkT (c.at g2) fs r :=
  ⟨fun g3 T3 => O.ok g3 (T.trans T3), O.fr, fun b hb => by
    obtain ⟨o, ho, hd⟩ := O.st b hb
    obtain ⟨sl, hs⟩ := T.frame b o ho hb
    exact ⟨_, hs, hd⟩, fun g3 T3 => O.tops g3 (T.trans T3)⟩
noncomputable def CTq (w : World) (r : Nat) (f : Addr) (vs : List Value) (cells : Nw) (G : Heap → Prop) (Fr0 : List Addr → Prop) (P : Value → Nw → Prop) : Prop :=
  ∀ dp un base outer mean mg mb (s : Shared) (R : Result → Shared → Prop), At w dp un base outer mean mg mb s.heap r → Own base outer s.heap cells → (ks cells).Nodup → G (hideAll s.heap (ks cells)) → Fr0 (outer.filterMap (·.frame)) →
    (∀ v n' h' tk', P v n' → KpG (ks cells) (outer.filterMap (·.frame)) s.heap h' → (ks n').Nodup → (∀ p ∈ n', h'.get? p.1 = some p.2 ∧ (p.1 ∈ ks cells ∨ s.heap.get? p.1 = none)) → R (.ok (.ret v)) { s with heap := h', toks := tk' }) →
    codeAny (model PySem.Challenge.rw_sm0006_01.row.prog w) (top dp un outer) (.call (.ref f) ⟨vs, []⟩) R s
theorem KpG.of_kp {S fs : List Addr} {h h' : Heap} (k : Kp S h h') : KpG S fs h h' := ⟨fun b o e _ n => k b o e n, fun b o e _ n => ⟨o.slots, k b o e n⟩⟩
theorem CTn.q {w : World} {r : Nat} {f : Addr} {vs : List Value} {cells : Nw} {G : Heap → Prop} {P : Value → Nw → Prop} (h : CTn w r f vs cells G P) : CTq w r f vs cells G (fun _ => True) P :=
  fun dp un base outer mean mg mb s R C hc hD hG _ ret => h dp un base outer mean mg mb s R C hc hD hG fun v n' h' k' hP kp => ret v n' h' k' hP (KpG.of_kp kp)
theorem CTq.mono {w : World} {r : Nat} {f : Addr} {vs : List Value} {cells : Nw} {G : Heap → Prop} {Fr0 : List Addr → Prop} {P P' : Value → Nw → Prop} (h : CTq w r f vs cells G Fr0 P) (q : ∀ v n', P v n' → P' v n') : CTq w r f vs cells G Fr0 P' :=
  fun dp un base outer mean mg mb s R C hc hD hG hF ret => h dp un base outer mean mg mb s R C hc hD hG hF fun v n' h' k' hP => ret v n' h' k' (q v n' hP)
section
variable {c : Cx} {fs : List Addr} {m : Lo} {n : Nw} {r : Nat} {Q : Flow → Shared → Prop}
theorem turnN {g : Heap} {L : Addr} {h h' : Heap} {S fr : List Addr} (F : Fr g L h m) (hS : ∀ b ∈ S, g.get? b = none) (hLS : L ∉ S) (hfr : ∀ b ∈ fr, b = L ∨ b ∈ fs) (hfs : ∀ b ∈ fs, ∃ o, g.get? b = some o) (k : KpG S fr h h') :
    ∃ g2, KtsTurn fs g g2 ∧ Fr g2 L h' m := by
  have gL : g.get? L = none := kts_self F
  have nS : ∀ b o, g.get? b = some o → b ∉ S := fun b o e hb => by rw [hS b hb] at e; cases e
  have T := kts_turn_at (h := h') hfs (fun b o e nb => k.off b o (F.keep b o e) (fun hm => by
    rcases hfr b hm with z | z
    · rw [z, gL] at e; cases e
    · exact nb z) (nS b o e)) (fun b o e _ => by
    by_cases z : b ∈ fr
    · exact k.on b o (F.keep b o e) z (nS b o e)
    · exact ⟨o.slots, k.off b o (F.keep b o e) z (nS b o e)⟩)
  refine ⟨_, T.1, ?_, T.2, by rw [T.1.size]; exact F.above⟩
  obtain ⟨o, ho, es, ep, hd, hr⟩ := ns_obj F.ns
  by_cases z : L ∈ fr
  · obtain ⟨sl, hs⟩ := k.on L o ho z hLS
    exact ⟨_, es, ep, hs, hd, hr⟩
  · exact ⟨_, es, ep, k.off L o ho z hLS, hd, hr⟩
theorem St.callG {is : List Nat} {h h' : Heap} {n' : Nw} {outer : List Env} (O : OkT c fs r) (eA : c.A.frames = some outer) (S : c.St m n h) (k : KpG (ks (pick is 0 n)) (outer.filterMap (·.frame)) h h') (d : (ks n').Nodup) (q : ∀ p ∈ n', h'.get? p.1 = some p.2 ∧ (p.1 ∈ ks (pick is 0 n) ∨ h.get? p.1 = none)) :
    ∃ g2, KtsTurn fs c.g g2 ∧ (c.at g2).St m (n' ++ rest is 0 n) h' := by
  have pm := pick_perm (is := is) 0 n
  have D := (pm.map Prod.fst).nodup_iff.mp S.D
  rw [List.map_append] at D
  obtain ⟨_, D2, D3⟩ := List.nodup_append.mp D
  have kn : ∀ a ∈ ks (pick is 0 n), c.g.get? a = none ∧ a ≠ c.L := fun a ha => by
    obtain ⟨p, hp, rfl⟩ := List.mem_map.mp ha
    have := S.N p (pm.mem_iff.mpr (List.mem_append_left _ hp))
    exact ⟨this.2.2, this.2.1⟩
  obtain ⟨outer', e1, e2⟩ := O.fr
  have e3 : outer' = outer := Option.some.inj (e1.symm.trans eA)
  rw [e3] at e2
  obtain ⟨g2, T, F'⟩ := turnN (fs := fs) S.F (fun b hb => (kn b hb).1) (fun z => (kn _ z).2 rfl) e2 (fun b hb => let ⟨o, ho, _⟩ := O.st b hb; ⟨o, ho⟩) k
  refine ⟨g2, T, F', fun p hp => ?_, ?_⟩
  · rcases List.mem_append.mp hp with hp | hp
    · obtain ⟨e, q2⟩ := q p hp
      refine ⟨e, ?_, ?_⟩
      · rcases q2 with q2 | q2
        · exact (kn _ q2).2
        · intro e2
          obtain ⟨o, _, _, ho, _⟩ := S.F.ns
          rw [← e2] at ho
          rw [q2] at ho; cases ho
      · rcases q2 with q2 | q2
        · exact T.none_ _ (kn _ q2).1
        · refine T.none_ _ ?_
          cases e3 : c.g.get? p.1 with
          | none => rfl
          | some o => have := S.F.keep _ _ e3; rw [q2] at this; cases this
    · have z := S.N p (pm.mem_iff.mpr (List.mem_append_right _ hp))
      refine ⟨k.off _ _ z.1 (fun hm => ?_) fun hb => D3 _ hb _ (List.mem_map_of_mem hp) rfl, z.2.1, T.none_ _ z.2.2⟩
      rcases e2 _ hm with w | w
      · exact z.2.1 w
      · obtain ⟨o, ho, _⟩ := O.st _ w
        rw [z.2.2] at ho; cases ho
  · rw [List.map_append]
    refine List.nodup_append.mpr ⟨d, D2, fun a ha b hb e => ?_⟩
    subst e
    obtain ⟨p, hp, rfl⟩ := List.mem_map.mp ha
    rcases (q p hp).2 with q2 | q2
    · exact D3 _ q2 _ hb rfl
    · obtain ⟨p2, hp2, e2⟩ := List.mem_map.mp hb
      have z := (S.N p2 (pm.mem_iff.mpr (List.mem_append_right _ hp2))).1
      rw [e2, q2] at z; cases z
theorem EVq.mono {e : PySem.Expr} {P P' : Value → Nw → Prop} (h : EVq c fs m n e P) (q : ∀ v n', P v n' → P' v n') : EVq c fs m n e P' := fun h0 k _ S q' => h h0 k _ S fun g2 v n' h' k' T hp S' => q' g2 v n' h' k' T (q v n' hp) S'
theorem EVq.call {f e : PySem.Expr} {es : List PySem.Expr} {p : Pos} {a : Addr} {P : Value → Nw → Prop} (is : List Nat) (r' : Nat) (O : OkT c fs r) (hr : r' < r) (hf : EVx c m n f (.ref a)) (hk : keepIn (KO c.w.params) (.ref a) = true)
    (ha : ARGg c m n (e :: es) fun n1 vs => ∃ (G : Heap → Prop) (Fr0 : List Addr → Prop), CTq c.w r' a vs (pick is 0 n1) G Fr0 (fun v n' => P v (n' ++ rest is 0 n1)) ∧ ∀ h, c.St m n1 h → G (hideAll h (ks (pick is 0 n1))) ∧ ∀ fr : List Addr, (∀ b ∈ fr, b = c.L ∨ b ∈ fs) → Fr0 fr)
    (h0 : autoParam (eval (f.Call (e :: es) [] p) c.env = (eval f c.env >>= fun fv => callWith p fv [] (backTo p (starEach (e :: es) c.env)) (backToKw p (keywordEach [] c.env)))) rflT)
    (hs : autoParam (starEach (e :: es) c.env = (false, eval e c.env) :: starEach es c.env) rflT) (hs2 : autoParam (((backTo p (starEach es c.env)).any fun x => x.1) = false) rflT) : EVq c fs m n (.Call f (e :: es) [] p) P :=
  fun h k Q S q => Call_ (hf h k _ S fun h1 k1 S1 => callWith_K (O.now.X.keeps S1.F.keep) hk (ha p h1 k1 _ S1 fun vs n1 h2 k2 hc S2 => ⟨O.now.X.keeps S2.F.keep, wpAny_call (by
    obtain ⟨G, Fr0, hc, hG⟩ := hc
    obtain ⟨dp, un, base, outer, mean, mg, mb, eA, C, ob⟩ := O.now.stand _ _ S2.F r' hr
    have eF : c.A.frames = some outer := by rw [eA]
    have hend : ∀ v n' h' k', P v (n' ++ rest is 0 n1) → KpG (ks (pick is 0 n1)) (outer.filterMap (·.frame)) h2 h' → (ks n').Nodup → (∀ p ∈ n', h'.get? p.1 = some p.2 ∧ (p.1 ∈ ks (pick is 0 n1) ∨ h2.get? p.1 = none)) → Q v (c.sh h' k') := fun v n' h' k' hP kp d q2 => by
      obtain ⟨g2, T, S'⟩ := St.callG O eF S2 kp d q2
      exact q g2 v _ h' k' T hP S'
    have hF := (hG h2 S2).2 (outer.filterMap (·.frame)) (by
      obtain ⟨o2, e1, e2⟩ := O.fr
      rw [eF] at e1; cases e1; exact e2)
    rw [eA]
    have pm := pick_perm (is := is) 0 n1
    have D := (pm.map Prod.fst).nodup_iff.mp S2.D
    rw [List.map_append] at D
    exact hc dp un base outer mean mg mb _ _ C (fun p hp => ob p ((S2.N p (pm.mem_iff.mpr (List.mem_append_left _ hp))))) (List.nodup_append.mp D).1 (hG h2 S2).1 hF fun v n' h' k' hP kp d q2 => hend v n' h' k' hP kp d q2)⟩) hs hs2) h0
theorem RUN.let_q {x : Str} {p p' : Pos} {e : PySem.Expr} {rest : List Stmt} {V : Value → Nw → Prop} (O : OkT c fs r) (he : EVq c fs m n e V) (hl : c.env.kindOf x = some .local)
    (h : ∀ g2 v n', KtsTurn fs c.g g2 → V v n' → let m' := upd m x v; RUN (c.at g2) m' n' rest Q) (hs : autoParam (swapsWith e (some (.Name x p')) p.line c.env = pure false) rflT) : RUN c m n (.Assign [.Name x p'] e p :: rest) Q :=
  fun h0 k S => wpAny_execs_cons (wpAny_Assign_Name (he h0 k _ S fun g2 v n' h1 k1 T hv S1 => storeG_L (env := c.env) S1.F S1.N (fun h2 F2 N2 => h g2 v n' T hv h2 _ ⟨F2, N2, S1.D⟩) O.now.kd hl) hs)
noncomputable def Pq (c : Cx) (fs : List Addr) (P : Value → Nw → Prop) (f : Flow) (s' : Shared) : Prop := ∃ g2, KtsTurn fs c.g g2 ∧ Pn (c.at g2) P f s'
theorem RUN.pn {st : List Stmt} {P : Value → Nw → Prop} (h : RUN c m n st (Pn c P)) : RUN c m n st (Pq c fs P) := fun h0 k S => wpAny_mono (h h0 k S) (fun _ _ z => ⟨c.g, KtsTurn.refl, z⟩) fun _ _ e => e
end
end Mine
end
section
open PySem PySem.W PySem.Calls PyProof.Rows PySem.Spec
namespace Mine
open LCg
theorem OkT.mk' {w : World} {dp un r : Nat} {s0 : Heap} {base g : Heap} {outer : List Env} {mean : ExcName → Option Value} {mg mb : Str → Option Value} {qual : Str} {scope : Scope} {L f : Addr} {cdv : Value} {cls : List (Str × Addr)} {s : Shared} {E : Value → Shared → Prop}
    (C : At w dp un base outer mean mg mb s0 r) (B : Below (top dp un outer) base outer g) (hk : scope.kind = .function) (po : PassesOwn (model PySem.Challenge.rw_sm0006_01.row.prog w) ((top dp un outer).deeper (envX qual scope L f cdv cls)) (envX qual scope L f cdv cls) E) :
    OkT ⟨w, (top dp un outer).deeper (envX qual scope L f cdv cls), envX qual scope L f cdv cls, g, s, E⟩ (outer.filterMap (·.frame)) r := by
  have stays2 : ∀ g2, KtsTurn (outer.filterMap (·.frame)) g g2 → base.StaysIn g2 := fun g2 T b o e => T.other b o (B.stays b o e) fun hm => by
    rw [(B.frames.mem hm).1] at e; cases e
  have B2 : ∀ g2, KtsTurn (outer.filterMap (·.frame)) g g2 → Below (top dp un outer) base outer g2 := fun g2 T => ⟨rfl, stays2 g2 T, B.frames.of_keeps fun b o e _ => by
    obtain ⟨sl, hs⟩ := T.up e
    exact ⟨_, hs, rfl⟩⟩
  refine ⟨fun g2 T => ⟨C.X.keeps (stays2 g2 T), ⟨mg, mb, topRead_of (C.T.keeps (stays2 g2 T))⟩, hk, rfl, rfl, rfl, (fun _ => po), fun h' m' F' r' hr => ⟨dp + 1, un + 3, base, envX qual scope L f cdv cls :: outer, mean, mg, mb, rfl, At.innerC (s := { s with heap := h' }) C (B2 g2 T) F' (by omega) (by omega) hk, fun p hp => Own.inner (cells := [p]) (news := [p]) (L := L) (h := h') (B2 g2 T) (fun q hq => by obtain rfl := List.mem_singleton.mp hq; exact hp) rfl (fun q hq => hq) p (.head _)⟩⟩, ⟨envX qual scope L f cdv cls :: outer, rfl, fun b hb => ?_⟩, fun b hb => (B.frames.mem hb).2, fun g2 T => ⟨mean, mg, mb, C.T.keeps (stays2 g2 T)⟩⟩
  exact kts_mem (name := qual) (scope := scope) (a := f) (cd := cdv) hb
section
variable {w : World} {r : Nat} {f : Addr} {vs : List Value} {cells : Nw} {G : Heap → Prop} {Fr0 : List Addr → Prop} {P : Value → Nw → Prop} {name qual : Str} {params : Arguments} {body : List Stmt} {scope : Scope} {dV kV doc pm cdv ct oc : Value} {an od : Option Addr} {osl : Array (Option Value)} {binds : List (Str × Value)}
theorem ctq_end {base g s0 : Heap} {outer : List Env} {c : Cx} {fl : Flow} {s' : Shared} {R : Result → Shared → Prop} (eg : c.g = g) (hk1 : ∀ b o, s0.get? b = some o → b ∉ ks cells → g.get? b = some o) (hcf : ∀ p ∈ cells, p.1 ∉ outer.filterMap (·.frame))
    (ret : ∀ v n' h' tk', P v n' → KpG (ks cells) (outer.filterMap (·.frame)) s0 h' → (ks n').Nodup → (∀ p ∈ n', h'.get? p.1 = some p.2 ∧ (p.1 ∈ ks cells ∨ s0.get? p.1 = none)) → R (.ok (.ret v)) { c.s with heap := h', toks := tk' })
    (X : Pq c (outer.filterMap (·.frame)) P fl s') : R (.ok (.ret (match fl with | .ret v => v | _ => .none))) s' := by
  obtain ⟨g2, T, v, m', n', h', k, hP, S', rfl, rfl⟩ := X
  subst eg
  refine ret _ n' h' k hP ⟨fun b o e n1 n2 => S'.F.keep _ _ (T.other _ _ (hk1 b o e n2) n1), fun b o e hm n2 => ?_⟩ S'.D fun p hp => ⟨(S'.N p hp).1, ?_⟩
  · obtain ⟨sl, hs⟩ := T.frame _ _ (hk1 b o e n2) hm
    exact ⟨sl, S'.F.keep _ _ hs⟩
  · by_cases q : p.1 ∈ ks cells
    · exact .inl q
    · cases e : s0.get? p.1 with
      | none => exact .inr rfl
      | some o =>
        obtain ⟨sl, hs⟩ := T.up (hk1 _ _ e q)
        rw [(S'.N p hp).2.2] at hs; cases hs
theorem CTq.mkC (binds : List (Str × Value)) (ho : (KO w.params).lookup f = some ⟨oc, od, .func (fnOf name qual params body scope dV kV doc pm an cdv ct), osl⟩) (hcd : codeIn (KO w.params) cdv qual = true)
    (hbind : ∀ s, BindsTo s (fnOf name qual params body scope dV kV doc pm an cdv ct) ⟨vs, []⟩ binds) (hkind : (binds.all fun y => scope.names.lookup y.1 == some .local || scope.names.lookup y.1 == some .cell) = true)
    (hnd : ((cellsFrom 0 scope.names []).map (·.1)).Nodup) (hGk : ∀ h h', (∀ b o, h.get? b = some o → h'.get? b = some o) → G h → G h')
    (h : ∀ A L g s E fs cl, let c : Cx := ⟨w, A, envOfC qual scope L f cdv, g, s, E⟩; OkT c fs r → G g → Fr0 fs → CellsAre (bindC (envOfC qual scope L f cdv).kindOf binds fun _ => none) (cellsFrom (L + 1) scope.names []) cl → let QQ : Flow → Shared → Prop := (Pq c fs P); RUN c (bindL (envOfC qual scope L f cdv).kindOf binds fun _ => none) (cl ++ cells) body QQ)
    (hco : autoParam (scope.isCoroutine = false) rflT) (hgen : autoParam (scope.isGenerator = false) rflT) (hk : autoParam (scope.kind = .function) rflT) : CTq w r f vs cells G Fr0 P := by
  intro dp un base outer mean mg mb s R C hc hD hG hF ret
  refine enterC (binds := binds) C hc ho hcd (hbind s) hkind hnd (fun g L h₁ tk cl F N Y B X T hk1 hlt => ?_) hco hgen hk
  have hGg : G g := hGk _ _ (fun b o e => hk1 b o (of_hideAll _ e) fun hb => by rw [hideAll_none _ hb] at e; cases e) hG
  have D : ((cl ++ cells).map Prod.fst).Nodup := by
    rw [List.map_append, cellsAre_ks Y]
    refine List.nodup_append.mpr ⟨cellsFrom_nd _ _ _ List.nodup_nil (by intro x hx; cases hx), hD, fun a ha b hb e => ?_⟩
    obtain ⟨x, hx, e1⟩ := List.mem_map.mp ha
    obtain ⟨p, hp, e2⟩ := List.mem_map.mp hb
    have h1 : L + 1 ≤ x.2 := cellsFrom_ge scope.names (L + 1) [] (L + 1) (Nat.le_refl _) (by intro y hy; cases hy) x hx
    have h2 := hlt p hp
    rw [e2, ← e, ← e1] at h2
    exact Nat.lt_irrefl _ (Nat.lt_of_lt_of_le h2 (Nat.le_of_succ_le h1))
  exact wpAny_mono (h ((top dp un outer).deeper (envOfC qual scope L f cdv)) L g s _ _ cl (OkT.mk' C B hk (by passes_own)) hGg hF Y h₁ _ ⟨F, N, D⟩) (fun fl s' X => ctq_end (outer := outer) (base := base) rfl hk1 (fun p hp => (hc p hp).2.2) ret X) (fun _ _ e => e)
end
theorem hide_up {h h' : Heap} {l : List Addr} (k : Kp [] h h') : ∀ b o, (hideAll h l).get? b = some o → (hideAll h' l).get? b = some o := fun b o e =>
  hideAll_get _ (k.all _ _ (of_hideAll _ e)) fun hb => by rw [hideAll_none _ hb] at e; cases e
theorem t_code_ok {w : World} {k : Nat} {lam : Addr} {cells : Nw} {G : Heap → Prop} {P : Value → Nw → Prop} (hlam : ∃ oc od fd sl, (lam, (⟨oc, od, .func fd, sl⟩ : Obj)) ∈ cells) (hGk : ∀ h h', (∀ b o, h.get? b = some o → h'.get? b = some o) → G h → G h') (h : CTn w k lam [] cells G P) :
    CTn w (k + 1) 386 [.ref lam] cells G fun u n' => (∃ t, u = .str (Str.ofString "") t) ∧ ∃ v, P v n' := by
  intro dp un base outer mean mg mb s R C hc hD hG ret
  refine c_code_ok (S := ks cells) (P := fun h' => ∃ v n', P v n' ∧ (ks n').Nodup ∧ ∀ p ∈ n', h'.get? p.1 = some p.2 ∧ (p.1 ∈ ks cells ∨ s.heap.get? p.1 = none)) C hc hlam (fun dp' un' outer' s' R' C' hc' k' ret' => ?_) (fun a ha => ?_) fun h' tk' t kp hP => ?_
  · refine h dp' un' base outer' mean mg mb s' R' C' hc' hD (hGk _ _ (hide_up k') hG) fun v n' h' tk' hP kp d q => ret' h' tk' v kp ⟨v, n', hP, d, fun p hp => ⟨(q p hp).1, ?_⟩⟩
    rcases (q p hp).2 with z | z
    · exact .inl z
    · refine .inr ?_
      cases e : s.heap.get? p.1 with
      | none => rfl
      | some o => rw [k'.all _ _ e] at z; cases z
  · obtain ⟨p, hp, rfl⟩ := List.mem_map.mp ha
    exact ⟨p.2, hp⟩
  · obtain ⟨v, n', hP, d, q⟩ := hP
    exact ret _ n' h' tk' ⟨⟨t, rfl⟩, v, hP⟩ kp d q
theorem t_code_x {w : World} {k : Nat} {lam : Addr} {cells : Nw} {G : Heap → Prop} {u : Str} (hlam : ∃ oc od fd sl, (lam, (⟨oc, od, .func fd, sl⟩ : Obj)) ∈ cells) (hGk : ∀ h h', (∀ b o, h.get? b = some o → h'.get? b = some o) → G h → G h') (h : CTr w k lam [] cells G u) :
    CTq w (k + 1) 386 [.ref lam] cells G (fun _ => True) fun u' n' => (∃ t, u' = .str u t) ∧ n' = cells := by
  intro dp un base outer mean mg mb s R C hc hD hG _ ret
  refine c_code_x (u := u) C hc hlam (fun dp' un' outer' s' R' C' hc' k' exc => h dp' un' base outer' mean mg mb s' R' C' hc' hD (hGk _ _ (hide_up k') hG) exc) fun h' tk' t kf => ?_
  refine ret _ cells h' tk' ⟨⟨t, rfl⟩, rfl⟩ ⟨fun b o e n1 _ => kf.off b o e n1, fun b o e hm n2 => ?_⟩ hD fun p hp => ⟨kf.off _ _ (hc p hp).1 (hc p hp).2.2, .inl (List.mem_map_of_mem hp)⟩
  obtain ⟨o', ho', hd'⟩ := (C.B.frames.mem hm).2
  rw [e] at ho'; cases ho'
  exact kf.on b o e hm hd'
end Mine
end
section
open PySem PySem.W PySem.Calls PyProof.Rows PySem.Spec
namespace Mine
open LCg
theorem r_leaveE {dp un : Nat} {s : Shared} {base : Heap} {outer : List Env} {cells news : List (Addr × Obj)} {g hc : Heap} {L e : Addr} {m : Str → Option Value} {u : Str} {A : Around} {E : Value → Shared → Prop} {M : Model} {fl : Option Value} {s' : Shared} {name : Str} {scope : Scope} {a : Addr} {cd : Value} {cl : List (Str × Addr)} {Q : Unit → Shared → Prop} (hfl : fl = none ∨ fl = some .none)
    (O : Own base outer s.heap cells) (hk : ∀ b o, s.heap.get? b = some o → b ∉ cells.map Prod.fst → g.get? b = some o) (B : Below (top dp un outer) base outer g) (F : Fr g L hc m) (N : News g L hc news) (hs : ∀ p ∈ cells, p ∈ news)
    (hA : A.frames = some (envX name scope L a cd cl :: outer)) (k : KpF ((envX name scope L a cd cl :: outer).filterMap (·.frame)) hc s'.heap) (X : ExcIn hc s'.heap e u fl)
    (hQ : ∀ h', Thrown (outer.filterMap (·.frame)) s.heap h' e u → Q () { s' with heap := h' }) (hkd : autoParam (scope.kind = .function) rflT) :
    wpAny M A (leaving (envX name scope L a cd cl) (.ref e)) Q E s' := by
  have B' := B.push (name := name) (scope := scope) (a := a) (cd := cd) F hkd
  exact x_leaving hfl hA (k.frames B'.frames) rfl X k fun h' X' k' => hQ h' (thrown_out O hk F N hs (env := envX name scope L a cd cl) rfl ⟨k', X'⟩)
noncomputable def CodeIs (c' : Value) (cs : Nw) : Prop := ∃ x o vs t, c' = .ref x ∧ (x, o) ∈ cs ∧ o.data = .fields vs ∧ vs[1]? = some (.str QL t)
noncomputable def TabOk (ps : Array Value) (cs : Nw) : Prop := TriplesOk ps.toList ∧ ∀ pos cv, codeAmong pos ps.toList = some cv → CodeIs cv cs
theorem CodeIs.sub {c' : Value} {cs cs' : Nw} (h : CodeIs c' cs) (q : ∀ p ∈ cs, p ∈ cs') : CodeIs c' cs' := by
  obtain ⟨x, o, vs, t, e, hm, r⟩ := h
  exact ⟨x, o, vs, t, e, q _ hm, r⟩
section
variable {w : World} {A : Around} {cn : Str} {sc : Scope} {L a : Addr} {ccd : Value} {cl : List (Str × Addr)} {g : Heap} {s : Shared} {E : Value → Shared → Prop} {fs : List Addr} {r : Nat} {m : Lo}
theorem EVg.lam {front cs : Nw} {z : Nat} {ps : Array Value} {params : Arguments} {body : PySem.Expr} {scope : Scope} {pos : Pos} {clos : List (Str × Addr)} (O : OkT ⟨w, A, envX cn sc L a ccd cl, g, s, E⟩ fs r) (C : CodeHd g 413 409) (hcd : ccd = .ref 413) (hz : front[z]? = some (409, tabObj ps)) (TB : TabOk ps cs)
    (hq : (cn ++ Str.ofString ".<locals>.") ++ Str.ofString "<lambda>" = QL) (hcl : closureFor scope (envX cn sc L a ccd cl) = pure clos) (hdef : defaultsOf params (envX cn sc L a ccd cl) = ([], [])) :
    EVg ⟨w, A, envX cn sc L a ccd cl, g, s, E⟩ m (front ++ cs) (.Lambda params body scope pos) fun v n' => ∃ f lam c' pm ctv ps' cs', lam = kla_obj (Str.ofString "<lambda>") QL params body scope clos pm c' ctv ∧ v = .ref f ∧ n' = (f, lam) :: (front.set z (409, tabObj ps') ++ cs') ∧ TabOk ps' cs' ∧ CodeIs (.ref c') cs' := by
  intro h k Q S q
  obtain ⟨mean, mg, mb, T⟩ := O.tops g KtsTurn.refl
  have hlt : z < front.length := by
    rcases Nat.lt_or_ge z front.length with y | y
    · exact y
    · rw [List.getElem?_eq_none y] at hz; cases hz
  have hz' : (front ++ cs)[z]? = some (409, tabObj ps) := by rw [List.getElem?_append_left hlt]; exact hz
  have eset : ∀ o', (front ++ cs).set z (409, o') = front.set z (409, o') ++ cs := fun o' => List.set_append_left z (409, o') hlt
  have hmem := List.mem_of_getElem? hz'
  refine kla_eval hdef ?_
  have eqq : (envX cn sc L a ccd cl).qual ++ Str.ofString "<lambda>" = QL := hq
  show wpAny _ _ (makeFunction _ ((envX cn sc L a ccd cl).qual ++ Str.ofString "<lambda>") _ _ _ _ _ _ _ _ _) _ _ _
  rw [eqq]
  cases e : codeAmong pos ps.toList with
  | none =>
    refine kla_nest S.F S.N T C hcd (UpdF.at hz' S.D) TB.1 e hcl fun f c' oc vs t ctv h' tk F' N' d1 d2 l1 l2 => ?_
    rw [eset] at N'
    have hkf : ((front.set z (409, tabObj (ps ++ #[rawInt pos.line, rawInt pos.col, .ref c']))) ++ cs).map Prod.fst = (front ++ cs).map Prod.fst := by rw [← eset]; exact ks_set hz'
    have hc1 : c' ∉ (front ++ cs).map Prod.fst := fun hm => by
      obtain ⟨p, hp, e2⟩ := List.mem_map.mp hm
      have := l1 p hp
      rw [e2] at this; exact Nat.lt_irrefl _ this
    have hf1 : f ∉ (front ++ cs).map Prod.fst := fun hm => by
      obtain ⟨p, hp, e2⟩ := List.mem_map.mp hm
      have := Nat.lt_trans (l1 p hp) l2
      rw [e2] at this; exact Nat.lt_irrefl _ this
    refine q _ _ h' tk ⟨f, _, c', (mg "__name__").getD .none, ctv, ps ++ #[rawInt pos.line, rawInt pos.col, .ref c'], (c', oc) :: cs, rfl, rfl, rfl, ⟨?_, fun pos2 cv e2 => ?_⟩, ⟨c', oc, vs, t, rfl, .head _, d1, d2⟩⟩ ⟨F', fun p hp => N' p ?_, ?_⟩
    · rw [Array.toList_append]
      exact TriplesOk_snoc _ _ _ _ TB.1
    · rw [Array.toList_append] at e2
      rcases among_snoc _ TB.1 e2 with e3 | e3
      · exact (TB.2 pos2 cv e3).sub fun p hp => List.mem_cons_of_mem _ hp
      · exact ⟨c', oc, vs, t, e3, .head _, d1, d2⟩
    · rcases List.mem_cons.mp hp with rfl | hp
      · exact .head _
      · rcases List.mem_append.mp hp with hp | hp
        · exact .tail _ (.tail _ (List.mem_append_left _ hp))
        · rcases List.mem_cons.mp hp with rfl | hp
          · exact .tail _ (.head _)
          · exact .tail _ (.tail _ (List.mem_append_right _ hp))
    · have D0 := S.D
      rw [← hkf] at D0
      have p1 : ((f, kla_obj (Str.ofString "<lambda>") QL params body scope clos ((mg "__name__").getD .none) c' ctv) :: (front.set z (409, tabObj (ps ++ #[rawInt pos.line, rawInt pos.col, .ref c'])) ++ (c', oc) :: cs)).Perm ((f, kla_obj (Str.ofString "<lambda>") QL params body scope clos ((mg "__name__").getD .none) c' ctv) :: (c', oc) :: (front.set z (409, tabObj (ps ++ #[rawInt pos.line, rawInt pos.col, .ref c'])) ++ cs)) :=
        List.Perm.cons _ List.perm_middle
      refine (p1.map Prod.fst).nodup_iff.mpr (List.nodup_cons.mpr ⟨fun hm => ?_, List.nodup_cons.mpr ⟨fun hm => ?_, D0⟩⟩)
      · rcases List.mem_cons.mp hm with z2 | hm
        · have l3 := l2
          rw [show f = c' from z2] at l3; exact Nat.lt_irrefl _ l3
        · have hm' : f ∈ (front.set z (409, tabObj (ps ++ #[rawInt pos.line, rawInt pos.col, .ref c'])) ++ cs).map Prod.fst := hm
          rw [hkf] at hm'; exact hf1 hm'
      · have hm' : c' ∈ (front.set z (409, tabObj (ps ++ #[rawInt pos.line, rawInt pos.col, .ref c'])) ++ cs).map Prod.fst := hm
        rw [hkf] at hm'; exact hc1 hm'
  | some cv =>
    have hci := TB.2 pos cv e
    obtain ⟨x, o, vs, t, rfl, hm, d1, d2⟩ := hci
    refine kla_hit S.F S.N T C hcd hmem TB.1 e hcl fun f ctv h' tk F' N' l1 => ?_
    have e0 : front.set z (409, tabObj ps) = front := by
      apply List.ext_getElem?
      intro i
      by_cases hi : i = z
      · subst hi; rw [List.getElem?_set_self hlt, hz]
      · rw [List.getElem?_set_ne (Ne.symm hi)]
    refine q _ _ h' tk ⟨f, _, x, (mg "__name__").getD .none, ctv, ps, cs, rfl, rfl, rfl, TB, ⟨x, o, vs, t, rfl, hm, d1, d2⟩⟩ ⟨F', ?_, ?_⟩
    · rw [e0]; exact N'
    · rw [e0]
      refine List.nodup_cons.mpr ⟨fun hm => ?_, S.D⟩
      obtain ⟨p, hp, e2⟩ := List.mem_map.mp hm
      have := l1 p hp
      rw [e2] at this; exact Nat.lt_irrefl _ this
end
section
variable {w : World} {r : Nat} {f c' : Addr} {cells : Nw} {G : Heap → Prop} {P : Value → Nw → Prop} {nm : Str} {params : Arguments} {body : PySem.Expr} {scope : Scope} {clos : List (Str × Addr)} {pm ctv : Value}
theorem isFn {lam : Obj} (hl : lam = kla_obj nm QL params body scope clos pm c' ctv) (hm : (f, lam) ∈ cells) : ∃ oc od fd sl, (f, (⟨oc, od, .func fd, sl⟩ : Obj)) ∈ cells := by subst hl; exact ⟨_, _, _, _, hm⟩
theorem CTn.lam {lam : Obj} (hl : lam = kla_obj nm QL params body scope clos pm c' ctv) (hm : (f, lam) ∈ cells) (hGc : ∀ h, G h → h.CodeRec (.ref c') QL) (hGk : ∀ h h', (∀ b o, h.get? b = some o → h'.get? b = some o) → G h → G h')
    (h : ∀ A L g s E, let c : Cx := ⟨w, A, envX QL scope L f (.ref c') clos, g, s, E⟩; Ok c r → G g → EVg c (fun y => ([] : List (Str × Value)).reverse.lookup y) cells body P)
    (hbind : autoParam (bindArgs (kla_fn nm QL params body scope clos pm (.ref c') ctv) ⟨[], []⟩ = pure []) rflT) (hco : autoParam (scope.isCoroutine = false) rflT) (hgen : autoParam (scope.isGenerator = false) rflT) (hk : autoParam (scope.kind = .function) rflT)
    (hcell : autoParam (∀ x ∈ scope.names, x.2 ≠ .cell) decT) : CTn w r f [] cells G P := by
  subst hl
  intro dp un base outer mean mg mb s R C hc hD hG ret
  have hcr : s.heap.CodeRec (.ref c') QL := by
    obtain ⟨x, o, vs, t, e, ho, d⟩ := hGc _ hG
    exact ⟨x, o, vs, t, e, of_hideAll _ ho, d⟩
  refine enterL (binds := []) C hc hm hcr hbind (by intro y hy; cases hy) (fun g L h₁ F N B X T hk1 hlt => ?_) hco hgen hk hcell
  have hGg : G g := hGk _ _ (fun b o e => hk1 b o (of_hideAll _ e) fun hb => by rw [hideAll_none _ hb] at e; cases e) hG
  refine h ((top dp un outer).deeper (envX QL scope L f (.ref c') clos)) L g s _ ⟨X, ⟨mg, mb, topRead_of T⟩, hk, rfl, rfl, rfl, (fun _ => by passes_own), fun h' m' F' r' hr => ⟨dp + 1, un + 3, base, envX QL scope L f (.ref c') clos :: outer, mean, mg, mb, rfl, ?_, fun p hp => Own.inner (cells := [p]) (news := [p]) (L := L) (h := h') B (fun q hq => by obtain rfl := List.mem_singleton.mp hq; exact hp) rfl (fun q hq => hq) p (.head _)⟩⟩ hGg h₁ _ _ ⟨F, N, hD⟩ fun v n' h' k' hP S' => ?_
  · exact At.innerC (s := { s with heap := h' }) C B F' (by omega) (by omega) hk
  · refine ret v n' h' k' hP (fun b o e hb => S'.F.keep _ _ (hk1 b o e hb)) S'.D fun p hp => ⟨(S'.N p hp).1, ?_⟩
    by_cases q : p.1 ∈ ks cells
    · exact .inl q
    · cases e : s.heap.get? p.1 with
      | none => exact .inr rfl
      | some o => have := hk1 _ _ e q; rw [(S'.N p hp).2.2] at this; cases this
theorem CTr.lam {u : Str} {lam : Obj} (hl : lam = kla_obj nm QL params body scope clos pm c' ctv) (hm : (f, lam) ∈ cells) (hGc : ∀ h, G h → h.CodeRec (.ref c') QL) (hGk : ∀ h h', (∀ b o, h.get? b = some o → h'.get? b = some o) → G h → G h')
    (h : ∀ A L g s E, let c : Cx := ⟨w, A, envX QL scope L f (.ref c') clos, g, s, E⟩; Ok c r → Thr c cells u → G g → EXr c (fun y => ([] : List (Str × Value)).reverse.lookup y) cells body)
    (hbind : autoParam (bindArgs (kla_fn nm QL params body scope clos pm (.ref c') ctv) ⟨[], []⟩ = pure []) rflT) (hco : autoParam (scope.isCoroutine = false) rflT) (hgen : autoParam (scope.isGenerator = false) rflT) (hk : autoParam (scope.kind = .function) rflT)
    (hcell : autoParam (∀ x ∈ scope.names, x.2 ≠ .cell) decT) : CTr w r f [] cells G u := by
  subst hl
  intro dp un base outer mean mg mb s R C hc hD hG exc
  have hcr : s.heap.CodeRec (.ref c') QL := by
    obtain ⟨x, o, vs, t, e, ho, d⟩ := hGc _ hG
    exact ⟨x, o, vs, t, e, of_hideAll _ ho, d⟩
  refine enterL (binds := []) C hc hm hcr hbind (by intro y hy; cases hy) (fun g L h₁ F N B X T hk1 hlt => ?_) hco hgen hk hcell
  have hGg : G g := hGk _ _ (fun b o e => hk1 b o (of_hideAll _ e) fun hb => by rw [hideAll_none _ hb] at e; cases e) hG
  refine h ((top dp un outer).deeper (envX QL scope L f (.ref c') clos)) L g s _ ⟨X, ⟨mg, mb, topRead_of T⟩, hk, rfl, rfl, rfl, (fun _ => by passes_own), fun h' m' F' r' hr => ⟨dp + 1, un + 3, base, envX QL scope L f (.ref c') clos :: outer, mean, mg, mb, rfl, ?_, fun p hp => Own.inner (cells := [p]) (news := [p]) (L := L) (h := h') B (fun q hq => by obtain rfl := List.mem_singleton.mp hq; exact hp) rfl (fun q hq => hq) p (.head _)⟩⟩ ?_ hGg h₁ _ _ ⟨F, N, hD⟩
  · exact At.innerC (s := { s with heap := h' }) C B F' (by omega) (by omega) hk
  · intro m n hc' h' k e fl fs' S hcs hfl hfr kpf XX
    obtain rfl := Option.some.inj hfr
    exact r_leaveE (s := s) (s' := { s with heap := h', toks := k }) hfl hc hk1 B S.F S.N hcs rfl kpf XX (fun h'' T => exc e h'' k T) hk
end
section
variable {c : Cx} {fs : List Addr} {m : Lo} {n : Nw} {r : Nat} {Q : Flow → Shared → Prop}
theorem EVq.callT {f e : PySem.Expr} {es : List PySem.Expr} {p : Pos} {ad : Addr} {P : Value → Nw → Prop} (is : List Nat) (r' : Nat) (O : OkT c fs r) (hr : r' < r) (hf : EVx c m n f (.ref ad)) (hk : keepIn (KO c.w.params) (.ref ad) = true)
    (ha : ARGg c m n (e :: es) fun n1 vs => ∃ a T, ∃ (G : Heap → Prop) (Fr0 : List Addr → Prop), n1 = a ++ T ∧ (is.all fun i => decide (i < 0 + a.length)) = true ∧ CTq c.w r' ad vs (pick is 0 a) G Fr0 (fun v n' => P v (n' ++ (rest is 0 a ++ T))) ∧ ∀ h, c.St m n1 h → G (hideAll h (ks (pick is 0 a))) ∧ ∀ fr : List Addr, (∀ b ∈ fr, b = c.L ∨ b ∈ fs) → Fr0 fr)
    (h0 : autoParam (eval (f.Call (e :: es) [] p) c.env = (eval f c.env >>= fun fv => callWith p fv [] (backTo p (starEach (e :: es) c.env)) (backToKw p (keywordEach [] c.env)))) rflT)
    (hs : autoParam (starEach (e :: es) c.env = (false, eval e c.env) :: starEach es c.env) rflT) (hs2 : autoParam (((backTo p (starEach es c.env)).any fun x => x.1) = false) rflT) : EVq c fs m n (.Call f (e :: es) [] p) P :=
  EVq.call is r' O hr hf hk (fun p h k Q S q => ha p h k Q S fun vs n1 h1 k1 hv S1 => q vs n1 h1 k1 (by
    obtain ⟨a, T, G, Fr0, rfl, hi, hc, hG⟩ := hv
    refine ⟨G, Fr0, ?_, ?_⟩
    · rw [pick_app a T hi, rest_app a T hi]; exact hc
    · rw [pick_app a T hi]; exact hG) S1) h0 hs hs2
end
end Mine
end
section
open PySem PySem.W PySem.Calls PyProof.Rows PySem.Spec
namespace Mine
inductive CalR (is : List Nat) (a n' : Nw) (R : Nw → Prop) : Prop
  | mk (a2 : Nw) (e0 : (is.all fun i => decide (i < 0 + a2.length)) = true) (e1 : pick is 0 a2 = n') (e2 : rest is 0 a2 = rest is 0 a) (h : R a2) : CalR is a n' R
section
variable {c : Cx} {fs : List Addr} {m : Lo} {n a T : Nw} {r : Nat} {Q : Flow → Shared → Prop}
theorem RUN.fall {rest : List Stmt} (h : RUN c m n rest Q) : RUN c m n [] (c.aft rest Q) := fun h0 k S => wpAny_execs_nil (h h0 k S)
theorem EVg.callP {f e : PySem.Expr} {es : List PySem.Expr} {p : Pos} {ad : Addr} {G : Heap → Prop} {P P' : Value → Nw → Prop} (is : List Nat) (r' : Nat) (H : Ok c r) (hr : r' < r) (hf : EVx c m (a ++ T) f (.ref ad)) (hk : keepIn (KO c.w.params) (.ref ad) = true)
    (hG : G c.g) (hGk : ∀ h h', (∀ b o, h.get? b = some o → h'.get? b = some o) → G h → G h') (ha : ARG c m (a ++ T) (e :: es) fun vs => CTn c.w r' ad vs (pick is 0 a) G P)
    (hq : ∀ v n', P v n' → CalR is a n' fun a2 => P' v (a2 ++ T))
    (hi : autoParam ((is.all fun i => decide (i < 0 + a.length)) = true) rflT)
    (h0 : autoParam (eval (f.Call (e :: es) [] p) c.env = (eval f c.env >>= fun fv => callWith p fv [] (backTo p (starEach (e :: es) c.env)) (backToKw p (keywordEach [] c.env)))) rflT)
    (hs : autoParam (starEach (e :: es) c.env = (false, eval e c.env) :: starEach es c.env) rflT) (hs2 : autoParam (((backTo p (starEach es c.env)).any fun x => x.1) = false) rflT) :
    EVg c m (a ++ T) (.Call f (e :: es) [] p) P' :=
  fun h k Q S q => EVg.callT is r' H hr hf hk hG hGk ha hi h0 hs hs2 h k Q S fun v n' h' k' hv S' => by
    obtain ⟨n2, hP, rfl⟩ := hv
    obtain ⟨a2, e0, e1, e2, hP'⟩ := hq v n2 hP
    refine q v (a2 ++ T) h' k' hP' (S'.perm ?_)
    have := pick_perm (is := is) 0 (a2 ++ T)
    rw [pick_app a2 T e0, rest_app a2 T e0, e1, e2] at this
    exact this
inductive CalP (c : Cx) (fs : List Addr) (m : Lo) (r' : Nat) (ad : Addr) (is : List Nat) (P : Value → Nw → Prop) (n1 : Nw) (vs : List Value) : Prop
  | mk (a T : Nw) (Pc : Value → Nw → Prop) (G : Heap → Prop) (Fr0 : List Addr → Prop) (e : n1 = a ++ T) (hi : (is.all fun i => decide (i < 0 + a.length)) = true) (hc : CTq c.w r' ad vs (pick is 0 a) G Fr0 Pc) (hG : ∀ h, c.St m n1 h → G (hideAll h (ks (pick is 0 a))) ∧ ∀ fr : List Addr, (∀ b ∈ fr, b = c.L ∨ b ∈ fs) → Fr0 fr)
      (hq : ∀ v n', Pc v n' → CalR is a n' fun a2 => P v (a2 ++ T)) : CalP c fs m r' ad is P n1 vs
theorem EVq.callP {f e : PySem.Expr} {es : List PySem.Expr} {p : Pos} {ad : Addr} {P : Value → Nw → Prop} (is : List Nat) (r' : Nat) (O : OkT c fs r) (hr : r' < r) (hf : EVx c m n f (.ref ad)) (hk : keepIn (KO c.w.params) (.ref ad) = true)
    (ha : ARGg c m n (e :: es) (CalP c fs m r' ad is P))
    (h0 : autoParam (eval (f.Call (e :: es) [] p) c.env = (eval f c.env >>= fun fv => callWith p fv [] (backTo p (starEach (e :: es) c.env)) (backToKw p (keywordEach [] c.env)))) rflT)
    (hs : autoParam (starEach (e :: es) c.env = (false, eval e c.env) :: starEach es c.env) rflT) (hs2 : autoParam (((backTo p (starEach es c.env)).any fun x => x.1) = false) rflT) : EVq c fs m n (.Call f (e :: es) [] p) P := by
  have := EVq.callT (P := fun v n'' => ∃ n2, n2.Perm n'' ∧ P v n2) is r' O hr hf hk (fun p h k Q S q => ha p h k Q S fun vs n1 h1 k1 hv S1 => q vs n1 h1 k1 (by
    obtain ⟨a, T, Pc, G, Fr0, e1, hi, hc, hG, hq⟩ := hv
    refine ⟨a, T, G, Fr0, e1, hi, hc.mono fun v n' hP => ?_, hG⟩
    obtain ⟨a2, e0, e2, e3, hP'⟩ := hq v n' hP
    refine ⟨a2 ++ T, ?_, hP'⟩
    have := pick_perm (is := is) 0 (a2 ++ T)
    rw [pick_app a2 T e0, rest_app a2 T e0, e2, e3] at this
    exact this) S1) h0 hs hs2
  intro h k Q S q
  exact this h k Q S fun g2 v n' h' k' T hv S' => by
    obtain ⟨n2, hp, hP⟩ := hv
    exact q g2 v n2 h' k' T hP (S'.perm hp)
theorem hide_g {is : List Nat} {h : Heap} (S : c.St m (a ++ T) h) : ∀ b o, c.g.get? b = some o → (hideAll h (ks (pick is 0 a))).get? b = some o := fun b o e => hideAll_get _ (S.F.keep b o e) fun hb => by
  obtain ⟨p, hp, rfl⟩ := List.mem_map.mp hb
  have hm : p ∈ a := (pick_perm (is := is) 0 a).mem_iff.mpr (List.mem_append_left _ hp)
  rw [(S.N p (List.mem_append_left _ hm)).2.2] at e; cases e
theorem hide_code {is : List Nat} {h : Heap} {c' : Value} {cs : Nw} (S : c.St m (a ++ T) h) (x : CodeIs c' cs) (hs : ∀ p ∈ cs, p ∈ T) : (hideAll h (ks (pick is 0 a))).CodeRec c' QL := by
  obtain ⟨x, o, vs, t, rfl, hm, d1, d2⟩ := x
  refine ⟨x, o, vs, t, rfl, hideAll_get _ (S.N _ (List.mem_append_right _ (hs _ hm))).1 fun hb => ?_, d1, d2⟩
  obtain ⟨p, hp, e⟩ := List.mem_map.mp hb
  have hma : p ∈ a := (pick_perm (is := is) 0 a).mem_iff.mpr (List.mem_append_left _ hp)
  have D := S.D
  rw [List.map_append] at D
  exact (List.nodup_append.mp D).2.2 p.1 (List.mem_map_of_mem hma) x (List.mem_map_of_mem (f := Prod.fst) (hs _ hm)) e
end
section
variable {c : Cx} {fs : List Addr} {m : Lo} {n : Nw} {r : Nat}
theorem EVq.and_t {x y : PySem.Expr} {p : Pos} {P : Value → Nw → Prop} (hx : EVx c m n x (.bool true)) (hy : EVq c fs m n y P) : EVq c fs m n (.BoolOp .And [x, y] p) P :=
  fun h k Q S q => BoolOp_and (hx h k _ S fun h1 k1 S1 => wpAny_truthy_bool (by rw [if_pos rfl]; exact BoolOp_one (hy h1 k1 Q S1 q)))
end
end Mine
end
section
open PySem PySem.W PySem.Calls PyProof.Rows PySem.Spec
namespace Mine
section
variable {w : World} {dp un n : Nat} {s₀ s' : Shared} {base g hc h' : Heap} {outer : List Env} {mean : ExcName → Option Value} {mg mb : Str → Option Value} {L a e : Addr} {m : Str → Option Value} {name : Str} {scope : Scope} {cd : Value} {news : List (Addr × Obj)} {u nn : Str}
  {b₀ : Stmt} {suite : List Stmt} {pos np : Pos} {rest : List ExceptHandler} {Q : Flow → Shared → Prop} {E : Value → Shared → Prop}
theorem r_caughtE {fl : Option Value} (C : At w dp un base outer mean mg mb s₀.heap n) (B : Below (top dp un outer) base outer g) (F : Fr g L hc m) (N : News g L hc news) (hfl : fl = none ∨ fl = some .none) (K0 : KpF ((envOf name scope L a cd :: outer).filterMap (·.frame)) hc s'.heap) (X0 : ExcIn hc s'.heap e u fl)
    (ex : nsIn (KO w.params) mainGlobals (Str.ofString "BasicError") = some (some (.ref 34))) (q : ktsIn (KO w.params) 34 "BaseException" = true)
    (k : ∀ h' g' tk, KtsTurn (outer.filterMap (·.frame)) g g' → Fr g' L h' m → News g' L h' news → Below (top dp un outer) base outer g' →
      wpAny (model PySem.Challenge.rw_sm0006_01.row.prog w) (((top dp un outer).deeper (envOf name scope L a cd)).mark (some (.ref e))) (execs (b₀ :: suite) (envOf name scope L a cd)) Q
        (notedBy (model PySem.Challenge.rw_sm0006_01.row.prog w) (((top dp un outer).deeper (envOf name scope L a cd)).mark (some (.ref e))) (envOf name scope L a cd) (cameBackBy (model PySem.Challenge.rw_sm0006_01.row.prog w) ((top dp un outer).deeper (envOf name scope L a cd)) (envOf name scope L a cd) E))
        { s' with heap := h', toks := tk })
    (hk : autoParam (scope.kind = .function) rflT) (hx : autoParam ((envOf name scope L a cd).kindOf (Str.ofString "BasicError") = some .globalImplicit) rflT) :
    wpAny (model PySem.Challenge.rw_sm0006_01.row.prog w) ((top dp un outer).deeper (envOf name scope L a cd)) (noteFrame (.ref e) (envOf name scope L a cd))
      (fun _ s₂ => wpAny (model PySem.Challenge.rw_sm0006_01.row.prog w) ((top dp un outer).deeper (envOf name scope L a cd)) (setFlight (.ref e) none) (fun _ s₃ =>
        wpAny (model PySem.Challenge.rw_sm0006_01.row.prog w) ((top dp un outer).deeper (envOf name scope L a cd)) (handleBy (.ref e) (envOf name scope L a cd) (.ExceptHandler (some (.Name (Str.ofString "BasicError") np)) none (b₀ :: suite) pos :: rest)) Q E s₃) E s₂) E s' := by
  have B' := B.push (name := name) (scope := scope) (a := a) (cd := cd) F hk
  refine x_noteFrame hfl (Around.frames_deeper B.stack) (K0.frames B'.frames) rfl X0 K0 fun h₄ X₄ k₄ f₄ _ => ?_
  refine x_setFlight (s := { s' with heap := h₄ }) X₄ k₄ fun h₅ X₅ k₅ _ => ?_
  obtain ⟨g₅, T₅, F₅, B₅, N₅⟩ := turned (name := name) (scope := scope) (a := a) (cd := cd) B F N k₅
  have XK₅ := C.X.keeps B₅.stays
  have TT₅ := C.T.keeps B₅.stays
  obtain ⟨oe, hoe, hoec⟩ := X₅.keepK
  obtain ⟨nm, q', N', bs, bm, hdct, sn, sub, ab, col, dd, k0, k1, k2, k3, k5, newId, hC, hbase, hbT⟩ := kts_cls XK₅ q
  refine wpAny_handleBy_cons (codeAny_handlers_test (name_K F₅ XK₅ (topRead_of TT₅) ex ?_ hk hx (by decide))) (by intro q; cases q)
  refine wpAny_excMatches_sub_self (F₅.keep _ _ hC) hoe hoec hbase (codeAny_handlers_suite ?_)
  refine x_setFlight (s := { s' with heap := h₅ }) X₅ k₅ fun h₆ X₆ k₆ _ => ?_
  obtain ⟨g₆, T₆, F₆, B₆, N₆⟩ := turned (name := name) (scope := scope) (a := a) (cd := cd) B F N k₆
  exact k h₆ g₆ _ T₆ F₆ N₆ B₆
end
noncomputable def Catch (c : Cx) (fs : List Addr) : Prop := ∀ (z : Bool) (j : Nat) (np p1 p2 pos : Pos) (Q : Flow → Shared → Prop) (E : Value → Shared → Prop) (u : Str) m n hc h' k e fl,
  c.St m n hc → (fl = none ∨ fl = some .none) → (∀ outer, c.A.frames = some outer → KpF (outer.filterMap (·.frame)) hc h') → ExcIn hc h' e u fl →
  (∀ g2 h2 k2, KtsTurn fs c.g g2 → (c.at g2).St m n h2 → Q (.ret (.bool z)) (c.sh h2 k2)) →
  wpAny c.M c.A (noteFrame (.ref e) c.env) (fun _ s₂ => wpAny c.M c.A (setFlight (.ref e) none) (fun _ s₃ =>
    wpAny c.M c.A (handleBy (.ref e) c.env [.ExceptHandler (some (.Name (Str.ofString "BasicError") np)) none [.Return (some (.Constant (.bool z) j p1)) p2] pos]) Q E s₃) E s₂) E (c.sh h' k)
theorem Catch.mk {w : World} {dp un r : Nat} {s0 : Shared} {base g : Heap} {outer : List Env} {mean : ExcName → Option Value} {mg mb : Str → Option Value} {qual : Str} {scope : Scope} {L f : Addr} {cdv : Value} {s : Shared} {E0 : Value → Shared → Prop}
    (C : At w dp un base outer mean mg mb s0.heap r) (B : Below (top dp un outer) base outer g) (hk : scope.kind = .function) (hx : (envOf qual scope L f cdv).kindOf (Str.ofString "BasicError") = some .globalImplicit)
    (ex : nsIn (KO w.params) mainGlobals (Str.ofString "BasicError") = some (some (.ref 34))) (q : ktsIn (KO w.params) 34 "BaseException" = true) :
    Catch ⟨w, (top dp un outer).deeper (envX qual scope L f cdv []), envX qual scope L f cdv [], g, s, E0⟩ (outer.filterMap (·.frame)) := by
  intro z j np p1 p2 pos Q E u m n hc h' k e fl S hfl hK hX hQ
  have K0 := hK (envX qual scope L f cdv [] :: outer) rfl
  refine r_caughtE (s₀ := s0) (s' := { s with heap := h', toks := k }) (name := qual) (scope := scope) (L := L) (a := f) (cd := cdv) C B S.F S.N hfl K0 hX ex q (fun h2 g2 tk T F2 N2 B2 => ?_) hk hx
  exact wpAny_execs_cons (wpAny_Return_some (Constant_bool (hQ g2 h2 tk T ⟨F2, N2, S.D⟩)))
section
variable {c : Cx} {fs : List Addr} {m : Lo} {n : Nw} {r : Nat} {Q : Flow → Shared → Prop}
theorem OkT.withE {E' : Value → Shared → Prop} (O : OkT c fs r) (po : PassesOwn c.M c.A c.env E') : OkT { c with E := E' } fs r :=
  ⟨fun g2 T => let H := O.ok g2 T; ⟨H.X, H.T, H.kd, H.gl, H.bl, H.hh, fun _ => po, H.stand⟩, O.fr, O.st, O.tops⟩
theorem RUN.try_b {z : Bool} {j : Nat} {np p1 p2 p3 pos : Pos} {b0 : Stmt} {body rest : List Stmt} (O : OkT c fs r) (hC : Catch c fs)
    (hb : ∀ E', (∀ cells u, (∀ g2 m' n', KtsTurn fs c.g g2 → (∀ p ∈ cells, p ∈ n') → ∀ h k, (c.at g2).St m' n' h → Q (.ret (.bool z)) (c.sh h k)) → Thr { c with E := E' } cells u) → OkT { c with E := E' } fs r → RUN { c with E := E' } m n (b0 :: body) (c.aft rest Q))
    (po : PassesOwn c.M c.A c.env (fun e s₁ => wpAny c.M c.A (noteFrame e c.env) (fun _ s₂ => wpAny c.M c.A (setFlight e none) (fun _ s₃ => wpAny c.M c.A (handleBy e c.env [.ExceptHandler (some (.Name (Str.ofString "BasicError") np)) none [.Return (some (.Constant (.bool z) j p1)) p2] pos]) (fun f s' => match f with | .next => wpAny c.M c.A (execs rest c.env) Q c.E s' | f => Q f s') c.E s₃) c.E s₂) c.E s₁)) :
    RUN c m n (.Try (b0 :: body) [.ExceptHandler (some (.Name (Str.ofString "BasicError") np)) none [.Return (some (.Constant (.bool z) j p1)) p2] pos] [] [] p3 :: rest) Q := by
  intro h k S
  refine wpAny_execs_cons (wpAny_Try_except ?_)
  refine wpAny_mono (hb _ (fun cells u hq => ?_) (O.withE po) h k ⟨S.F, S.N, S.D⟩) (fun f s' h' => ?_) fun _ _ e => e
  · intro m1 n1 hc h1 k1 e fl fs1 S1 hcs hfl hfr kpf X
    exact hC z j np p1 p2 pos _ _ u m1 n1 hc h1 k1 e fl ⟨S1.F, S1.N, S1.D⟩ hfl (fun outer eo => by
      rw [show c.A.frames = some fs1 from hfr] at eo; cases eo; exact kpf) X fun g2 h2 k2 T S2 => hq g2 m1 n1 T hcs h2 k2 S2
  · cases f with
    | next => exact wpAny_execs_nil h'
    | ret v => exact h'
    | brk => exact h'
    | cont => exact h'
theorem RUN.fallE {E' : Value → Shared → Prop} {rest : List Stmt} (h : RUN c m n rest Q) : RUN { c with E := E' } m n [] (c.aft rest Q) := fun h0 k S => wpAny_execs_nil (h h0 k ⟨S.F, S.N, S.D⟩)
end
section
variable {w : World} {r : Nat} {f : Addr} {vs : List Value} {cells : Nw} {G : Heap → Prop} {Fr0 : List Addr → Prop} {P : Value → Nw → Prop} {name qual : Str} {params : Arguments} {body : List Stmt} {scope : Scope} {dV kV doc pm cdv ct oc : Value} {an od : Option Addr} {osl : Array (Option Value)} {binds : List (Str × Value)}
theorem CTq.mkT (binds : List (Str × Value)) (ho : (KO w.params).lookup f = some ⟨oc, od, .func (fnOf name qual params body scope dV kV doc pm an cdv ct), osl⟩) (hcd : codeIn (KO w.params) cdv qual = true)
    (hbind : ∀ s, BindsTo s (fnOf name qual params body scope dV kV doc pm an cdv ct) ⟨vs, []⟩ binds) (hloc : (binds.all fun x => decide (scope.names.lookup x.1 = some .local)) = true) (hGk : ∀ h h', (∀ b o, h.get? b = some o → h'.get? b = some o) → G h → G h')
    (h : ∀ A L g s E fs, let c : Cx := ⟨w, A, envX qual scope L f cdv [], g, s, E⟩; OkT c fs r → Catch c fs → G g → Fr0 fs → let QQ : Flow → Shared → Prop := (Pq c fs P); RUN c (fun y => binds.reverse.lookup y) cells body QQ)
    (hx : ∀ L, (envOf qual scope L f cdv).kindOf (Str.ofString "BasicError") = some .globalImplicit) (ex : nsIn (KO w.params) mainGlobals (Str.ofString "BasicError") = some (some (.ref 34))) (q : ktsIn (KO w.params) 34 "BaseException" = true)
    (hco : autoParam (scope.isCoroutine = false) rflT) (hgen : autoParam (scope.isGenerator = false) rflT) (hk : autoParam (scope.kind = .function) rflT)
    (hcell : autoParam (∀ x ∈ scope.names, x.2 ≠ .cell) decT) : CTq w r f vs cells G Fr0 P := by
  intro dp un base outer mean mg mb s R C hc hD hG hF ret
  refine enter (binds := binds) C hc ho hcd (hbind s) (locs hloc) (fun g L h₁ F N B X T hk1 hlt => ?_) hco hgen hk hcell
  have hGg : G g := hGk _ _ (fun b o e => hk1 b o (of_hideAll _ e) fun hb => by rw [hideAll_none _ hb] at e; cases e) hG
  exact wpAny_mono (h ((top dp un outer).deeper (envOf qual scope L f cdv)) L g s _ _ (OkT.mk' C B hk (by passes_own)) (Catch.mk C B hk (hx L) ex q) hGg hF h₁ _ ⟨F, N, hD⟩) (fun fl s' X => ctq_end (outer := outer) (base := base) rfl hk1 (fun p hp => (hc p hp).2.2) ret X) (fun _ _ e => e)
end
end Mine
end
section
open PySem PySem.W PySem.Calls PyProof.Rows PySem.Spec
namespace Mine
noncomputable def EL : List DictEntry → List (Str × Value) → Prop
  | [], [] => True
  | e :: es, p :: l => (∃ t, e.key = .str p.1 t) ∧ e.val = p.2 ∧ EL es l
  | _, _ => False
noncomputable def lkA (x : Str) (l : List (Str × Value)) : Option Value := (l.find? fun p => p.1 == x).map (·.2)
theorem EL.len : ∀ {es : List DictEntry} {l : List (Str × Value)}, EL es l → es.length = l.length
  | [], [], _ => rfl
  | [], _ :: _, h => h.elim
  | _ :: _, [], h => h.elim
  | _ :: es, _ :: l, h => by simp [EL.len (es := es) (l := l) h.2.2]
theorem EL.get {x : Str} : ∀ {es : List DictEntry} {l : List (Str × Value)}, EL es l → getL x es = some (lkA x l)
  | [], [], _ => rfl
  | [], _ :: _, h => h.elim
  | _ :: _, [], h => h.elim
  | e :: es, p :: l, h => by
    obtain ⟨⟨t, hk⟩, hv, hr⟩ := h
    have ih := EL.get (x := x) hr
    have e1 : e.key.isStr x = (p.1 == x) := by rw [hk]; rfl
    unfold getL lkA at ih ⊢
    rw [List.find?_cons, List.find?_cons, e1]
    cases q : (p.1 == x) with
    | true => simp [hv]
    | false =>
      have e2 : (e :: es).any (·.refKey) = es.any (·.refKey) := by
        rw [List.any_cons]
        have : e.refKey = false := by unfold DictEntry.refKey; rw [hk]
        rw [this, Bool.false_or]
      simp only [e2]
      exact ih
theorem EL.put {x : Str} {hsh : Int} {t : Tok} {v : Value} : ∀ {es : List DictEntry} {l : List (Str × Value)}, EL es l → (l.find? fun p => p.1 == x) = none → EL (putL x hsh (.str x t) v es) (l ++ [(x, v)])
  | [], [], _, _ => ⟨⟨t, rfl⟩, rfl, trivial⟩
  | [], _ :: _, h, _ => h.elim
  | _ :: _, [], h, _ => h.elim
  | e :: es, p :: l, h, hn => by
    obtain ⟨⟨t', hk⟩, hv, hr⟩ := h
    have e1 : e.key.isStr x = (p.1 == x) := by rw [hk]; rfl
    rw [List.find?_cons] at hn
    cases q : (p.1 == x) with
    | true => rw [q] at hn; cases hn
    | false =>
      rw [q] at hn
      unfold putL
      rw [e1, q]
      exact ⟨⟨t', hk⟩, hv, EL.put hr hn⟩
section
variable {c : Cx} {m : Lo} {n : Nw} {r : Nat} {Q : Flow → Shared → Prop}
theorem EVg.dict0 {p : Pos} (H : Ok c r) : EVg c m n (.Dict [] [] p) fun v n' => ∃ d o, v = .ref d ∧ n' = (d, o) :: n ∧ (d == sysModules) = false ∧ o.IsDictOf (SKw c.w) [] ∧ o.IsDictOf (IKw c.w) [] := by
  intro h k Q S q
  obtain ⟨mg, mb, T⟩ := H.T
  refine newDict_K S.F S.N T.nolimit fun d h' o F' N' l1 hs hd _ hi _ => q _ _ h' k ⟨d, o, rfl, rfl, hs, hd, hi⟩ ⟨F', N', List.nodup_cons.mpr ⟨fun hm => ?_, S.D⟩⟩
  obtain ⟨p, hp, e⟩ := List.mem_map.mp hm
  have := l1 p hp
  rw [e] at this; exact Nat.lt_irrefl _ this
noncomputable def PRS (c : Cx) (m : Lo) (n : Nw) (keys : List (Option PySem.Expr)) (values : List PySem.Expr) (P : Nw → List (Str × Value) → Prop) : Prop :=
  ∀ pos h k Q, c.St m n h → (∀ vs l n' h' k', P n' l → strPairs vs = l → allStrKeys vs = true → c.St m n' h' → Q vs (c.sh h' k')) → wpAny c.M c.A (evalPairs (pairTrees keys values c.env pos)) Q c.E (c.sh h k)
theorem PRS.nil {P : Nw → List (Str × Value) → Prop} (h : P n []) : PRS c m n [] [] P := fun _ h0 k _ S q => evalPairs_nil (q [] [] n h0 k h rfl rfl S)
theorem PRS.cons {x : Str} {j : Nat} {p : Pos} {e : PySem.Expr} {keys : List (Option PySem.Expr)} {values : List PySem.Expr} {V : Value → Nw → Prop} {P : Nw → List (Str × Value) → Prop} (he : EVg c m n e V) (hr : ∀ v n1, V v n1 → PRS c m n1 keys values fun n' l => P n' ((x, v) :: l)) :
    PRS c m n (some (.Constant (.str x) j p) :: keys) (e :: values) P :=
  fun pos h k Q S q => evalPairs_cons (EVs.const h k _ S fun t h1 k1 S1 => wpAny_bind (he h1 k1 _ S1 fun v n1 h2 k2 hv S2 => wpAny_bind (wpAny_standAt (wpAny_pure (hr v n1 hv pos h2 k2 _ S2 fun vs l n' h3 k3 hp e1 e2 S3 => q ((.str x t, v) :: vs) ((x, v) :: l) n' h3 k3 hp (by rw [← e1]; rfl) e2 S3)))))
theorem EVg.dictS {keys : List (Option PySem.Expr)} {values : List PySem.Expr} {p : Pos} {P : Value → Nw → Prop} (H : Ok c r)
    (h : ∀ d o, PRS c m ((d, o) :: n) keys values fun n' l => (l.map Prod.fst).Nodup ∧ ∃ n2, n' = (d, o) :: n2 ∧ ∀ o', o'.IsDictOf (SKw c.w) l → P (.ref d) ((d, o') :: n2))
    (hq : autoParam (strLits keys = true) rflT) (hall : autoParam (keys.all (·.isSome) = true) rflT) (hl : autoParam (keys.length = values.length) rflT) (h0 : keys ≠ [] := by exact List.cons_ne_nil _ _) (hlen : keys.length ≤ 15 := by exact Nat.le_of_ble_eq_true rfl) : EVg c m n (.Dict keys values p) P := by
  intro h1 k Q S q
  obtain ⟨mg, mb, T⟩ := H.T
  refine kdn_str hq S.F S.N T.nolimit hall hl h0 hlen fun d h' o F' N' l1 hs hd => ?_
  have S' : c.St m ((d, o) :: n) h' := ⟨F', N', List.nodup_cons.mpr ⟨fun hm => by
    obtain ⟨p, hp, e⟩ := List.mem_map.mp hm
    have := l1 p hp
    rw [e] at this; exact Nat.lt_irrefl _ this, S.D⟩⟩
  refine h d o p h' k _ S' fun vs l n' h2 k2 hP e1 e2 S2 => ?_
  obtain ⟨hnd, n2, rfl, hP'⟩ := hP
  subst e1
  refine kdn_made_str (s := c.sh h2 k2) S2.F S2.N (UpdF.at (i := 0) rfl S2.D) hd e2 hnd fun h3 o' F3 N3 hd' => q _ _ h3 _ (hP' o' hd') ⟨F3, N3, ?_⟩
  exact S2.D
inductive SetaH (c : Cx) (m : Lo) (o : PySem.Expr) (x : Str) (ax dx : Addr) (L : List (Str × Value)) (rest : List Stmt) (Q : Flow → Shared → Prop) (v : Value) (n1 : Nw) : Prop
  | mk (ho : EVx c m n1 o (.ref ax)) (z1 z2 : Nat) (es : List DictEntry) (k : Nat) (h1 : n1[z1]? = some (ax, instObj 353 dx)) (h2 : n1[z2]? = some (dx, dictOf es k)) (hE : EL es L) (h : ∀ es' k', EL es' (L ++ [(x, v)]) → RUN c m (n1.set z2 (dx, dictOf es' k')) rest Q) : SetaH c m o x ax dx L rest Q v n1
theorem RUN.seta {o e : PySem.Expr} {x : Str} {p p' : Pos} {rest : List Stmt} {V : Value → Nw → Prop} {ax dx : Addr} {L : List (Str × Value)} (H : Ok c r) (he : EVg c m n e V)
    (h : ∀ v n1, V v n1 → SetaH c m o x ax dx L rest Q v n1)
    (hx : (L.find? fun p => p.1 == x) = none) (hL : L.length ≤ 900) (ht : takerIn (KO c.w.params) 353 x = some none)
    (h1 : findIn (KO c.w.params) (.ref 353) "__setattr__" = some (some (.builtin "object.__setattr__"))) (h2 : plainOver (KO c.w.params) 353 = true) (h3 : hasDictIn (KO c.w.params) 353 = true)
    (hs : autoParam (swapsWith e (some (.Attribute o x p')) p.line c.env = pure false) rflT) : RUN c m n (.Assign [.Attribute o x p'] e p :: rest) Q := by
  intro h0 k0 S
  refine wpAny_execs_cons (plainObj_wpAny_Assign_Attribute (he h0 k0 _ S fun v n1 h5 k5 hv S5 => ?_) hs)
  obtain ⟨ho, z1, z2, es, k, hz1, hz2, hE, hr⟩ := h v n1 hv
  refine ho h5 k5 _ S5 fun h6 k6 S6 => ?_
  refine set_dict (s := c.sh h6 k6) S6.F H.X S6.N (InstAt.of_news S6.N (List.mem_of_getElem? hz1) (List.mem_of_getElem? hz2)) rfl h1 h2 ht h3 (by rw [hE.get]; rfl) rfl (Upd.at hz2 S6.D) ?_ fun h7 F7 N7 => hr _ _ (hE.put hx) h7 _ ⟨F7, N7, by rw [ks_set hz2]; exact S6.D⟩
  rw [(hE.put (hsh := PyData.keyHash c.w.params x) (t := (c.sh h6 k6).toks + 1) (v := v) hx).len, List.length_append, List.length_singleton]
  omega
theorem EVg.inst {f e : PySem.Expr} {es : List PySem.Expr} {p : Pos} {C fI : Addr} {G : Heap → Prop} {P : Addr → Addr → Nw → Prop} (r' : Nat) (H : Ok c r) (hr : r' + 1 < r) (hf : EVx c m n f (.ref C)) (hk : keepIn (KO c.w.params) (.ref C) = true)
    (hm : makesIn (KO c.w.params) C = true) (hi : findIn (KO c.w.params) (.ref C) "__init__" = some (some (.ref fI))) (hfn : PySem.W.isFn (KO c.w.params) (.ref fI) = true)
    (ha : ARG c m n (e :: es) fun vs => ∀ x dx, CTn c.w r' fI (.ref x :: vs) [(x, instObj C dx), (dx, dictOf [] 0)] G fun v n' => v = .none ∧ P x dx n') (hG : G c.g) (hGk : ∀ h h', (∀ b o, h.get? b = some o → h'.get? b = some o) → G h → G h')
    (h0 : autoParam (eval (f.Call (e :: es) [] p) c.env = (eval f c.env >>= fun fv => callWith p fv [] (backTo p (starEach (e :: es) c.env)) (backToKw p (keywordEach [] c.env)))) rflT)
    (hs : autoParam (starEach (e :: es) c.env = (false, eval e c.env) :: starEach es c.env) rflT) (hs2 : autoParam (((backTo p (starEach es c.env)).any fun x => x.1) = false) rflT) : EVg c m n (.Call f (e :: es) [] p) fun v n' => ∃ x dx n1, v = .ref x ∧ P x dx n1 ∧ n' = n1 ++ n := by
  intro h k Q S q
  refine Call_ (hf h k _ S fun h1 k1 S1 => callWith_K (H.X.keeps S1.F.keep) hk (ha p h1 k1 _ S1 fun vs h2 k2 hc S2 => ⟨H.X.keeps S2.F.keep, ?_⟩) hs hs2) h0
  refine call_cls (s := c.sh h2 k2) S2.F H.X S2.N hm hi hfn fun x dx h3 F3 N3 l1 l2 => ?_
  have S3 : c.St m ((x, instObj C dx) :: (dx, dictOf [] 0) :: n) h3 := ⟨F3, N3, List.nodup_cons.mpr ⟨fun hm => ?_, List.nodup_cons.mpr ⟨fun hm => ?_, S2.D⟩⟩⟩
  · obtain ⟨dp, un, base, outer, mean, mg, mb, eA, C', ob⟩ := H.stand _ _ F3 (r' + 1) hr
    have hend : ∀ n' h' k', P x dx n' → Kp (ks [(x, instObj C dx), (dx, dictOf [] 0)]) h3 h' → (ks n').Nodup → (∀ p ∈ n', h'.get? p.1 = some p.2 ∧ (p.1 ∈ ks [(x, instObj C dx), (dx, dictOf [] 0)] ∨ h3.get? p.1 = none)) → Q (.ref x) (c.sh h' k') := fun n' h' k' hP kp d q2 => by
      have := St.call (is := [0, 1]) S3 (n' := n') (h' := h')
      rw [pick01, rest01] at this
      exact q _ _ h' k' ⟨x, dx, n', rfl, hP, rfl⟩ (this kp d q2)
    have hu : ((top dp un outer).under (.builtin "type.__call__" ⟨.ref C :: ([] ++ vs), []⟩)) = top (dp + 1) (un + 1) outer := rfl
    rw [eA, hu]
    have C2 : At c.w (dp + 1) (un + 1) base outer mean mg mb h3 r' := ⟨C'.X, C'.T, Below.any C'.B rfl, by have := C'.dp; omega, by have := C'.un; omega⟩
    refine hc x dx (dp + 1) (un + 1) base outer mean mg mb (c.sh h3 k2) _ C2 (fun p hp => ob p (S3.N p ?_)) ?_ (hGk c.g _ (fun b o e => hideAll_get _ (S3.F.keep b o e) fun hb => ?_) hG) fun v n' h' k' hP kp d q2 => ⟨hP.1, hend n' h' k' hP.2 kp d q2⟩
    · rcases List.mem_cons.mp hp with rfl | hp
      · exact .head _
      · rw [List.mem_singleton.mp hp]; exact .tail _ (.head _)
    · have := S3.D
      exact (List.nodup_append.mp (show ((([(x, instObj C dx), (dx, dictOf [] 0)] : Nw).map Prod.fst) ++ n.map Prod.fst).Nodup from this)).1
    · obtain ⟨p, hp, rfl⟩ := List.mem_map.mp hb
      have : c.g.get? p.1 = none := by
        rcases List.mem_cons.mp hp with rfl | hp
        · exact (S3.N _ (.head _)).2.2
        · rw [List.mem_singleton.mp hp]; exact (S3.N _ (.tail _ (.head _))).2.2
      rw [this] at e; cases e
  · rcases List.mem_cons.mp hm with e | hm
    · rw [show x = dx from e] at l2; exact Nat.lt_irrefl _ l2
    · obtain ⟨p, hp, e⟩ := List.mem_map.mp hm
      have := Nat.lt_trans (l1 p hp) l2
      rw [e] at this; exact Nat.lt_irrefl _ this
  · obtain ⟨p, hp, e⟩ := List.mem_map.mp hm
    have := l1 p hp
    rw [e] at this; exact Nat.lt_irrefl _ this
end
section
variable {w : World} {r : Nat} {f : Addr} {vs : List Value} {cells : Nw} {G : Heap → Prop} {P : Value → Nw → Prop} {name qual : Str} {params : Arguments} {body : List Stmt} {scope : Scope} {dV kV doc pm cdv ct oc : Value} {an od : Option Addr} {osl : Array (Option Value)} {binds : List (Str × Value)}
theorem CTn.mkB (binds : List (Str × Value)) (ho : (KO w.params).lookup f = some ⟨oc, od, .func (fnOf name qual params body scope dV kV doc pm an cdv ct), osl⟩) (hcd : codeIn (KO w.params) cdv qual = true)
    (hbind : ∀ s : Shared, (KO w.params).In s.heap → BindsTo s (fnOf name qual params body scope dV kV doc pm an cdv ct) ⟨vs, []⟩ binds) (hloc : (binds.all fun x => decide (scope.names.lookup x.1 = some .local)) = true) (hGk : ∀ h h', (∀ b o, h.get? b = some o → h'.get? b = some o) → G h → G h')
    (h : ∀ A L g s E, let c : Cx := ⟨w, A, envX qual scope L f cdv [], g, s, E⟩; Ok c r → G g → let QQ : Flow → Shared → Prop := (Pn c P); RUN c (fun y => binds.reverse.lookup y) cells body QQ)
    (hco : autoParam (scope.isCoroutine = false) rflT) (hgen : autoParam (scope.isGenerator = false) rflT) (hk : autoParam (scope.kind = .function) rflT)
    (hcell : autoParam (∀ x ∈ scope.names, x.2 ≠ .cell) decT) : CTn w r f vs cells G P := by
  intro dp un base outer mean mg mb s R C hc hD hG ret
  refine enter (binds := binds) C hc ho hcd (hbind s (C.X.keeps C.B.stays)) (locs hloc) (fun g L h₁ F N B X T hk1 hlt => ?_) hco hgen hk hcell
  have hGg : G g := hGk _ _ (fun b o e => hk1 b o (of_hideAll _ e) fun hb => by rw [hideAll_none _ hb] at e; cases e) hG
  refine wpAny_mono (h ((top dp un outer).deeper (envOf qual scope L f cdv)) L g s _ ⟨X, ⟨mg, mb, topRead_of T⟩, hk, rfl, rfl, rfl, (fun _ => by passes_own), fun h' m' F' r' hr => ⟨dp + 1, un + 3, base, envOf qual scope L f cdv :: outer, mean, mg, mb, rfl, ?_, fun p hp => Own.inner (cells := [p]) (news := [p]) (L := L) (h := h') B (fun q hq => by obtain rfl := List.mem_singleton.mp hq; exact hp) rfl (fun q hq => hq) p (.head _)⟩⟩ hGg h₁ _ ⟨F, N, hD⟩) (fun fl s' P => ?_) (fun _ _ e => e)
  · exact At.inner (s := { s with heap := h' }) C B F' (by omega) (by omega) hk
  · obtain ⟨v, m', n', h', k, hP, S', rfl, rfl⟩ := P
    refine ret _ n' h' k hP (fun b o e hb => S'.F.keep _ _ (hk1 b o e hb)) S'.D fun p hp => ⟨(S'.N p hp).1, ?_⟩
    by_cases q : p.1 ∈ ks cells
    · exact .inl q
    · cases e : s.heap.get? p.1 with
      | none => exact .inr rfl
      | some o => have := hk1 _ _ e q; rw [(S'.N p hp).2.2] at this; cases this
end
end Mine
end
section
open PySem PySem.W PySem.Calls PyProof.Rows PySem.Spec
namespace Mine
section
variable {c : Cx} {m : Lo} {n : Nw} {r : Nat} {Q : Flow → Shared → Prop}
theorem EVx.attr {x y : Str} {p p' : Pos} {aw ad : Addr} {es : List DictEntry} {k z1 z2 : Nat} {v : Value} (H : Ok c r) (hx : EVx c m n (.Name x p') (.ref aw)) (h1 : n[z1]? = some (aw, instObj 353 ad)) (h2 : n[z2]? = some (ad, dictOf es k)) (hl : getL y es = some (some v))
    (hp : plainGet (KO c.w.params) 353 y = true) (hh : hasDictIn (KO c.w.params) 353 = true) (hf : findIn (KO c.w.params) (.ref 353) y = some (Option.none : Option Value)) (hv : autoParam (handedIn v = true) rflT) : EVx c m n (.Attribute (.Name x p') y p) v :=
  fun h k0 Q S q => Attribute_Name_ (hx h k0 _ S fun h1' k1 S1 => get_own S1.F H.X (ox := instObj 353 ad) (C := 353) ⟨S1.get h1, rfl, rfl, S1.get h2⟩ hp hh hf rfl hl hv (q _ _ S1))
theorem CND.inI {a b : PySem.Expr} {p : Pos} {d : Addr} {o : Obj} {i : Nat} {key : Int} {kvs : List (Int × Value)} {z : Bool} (ha : EVi c m n a key) (hb : EVx c m n b (.ref d)) (e : n[i]? = some (d, o)) (hd : o.IsDictOf (IKw c.w) kvs) (lo : (d == sysModules) = false) (hv : (valueAt kvs key).isSome = z) (hm : autoParam (behindInMarks .In b = false) rflT) : CND c m n (.Compare a [.In] [b] p) z :=
  fun h k Q S q => wpAny_isTrue_Compare1 (ha h k _ S fun t h1 k1 S1 => hb h1 k1 _ S1 fun h2 k2 S2 => kda_in (knd := IKw c.w) S2.N (List.mem_of_getElem? e) hd lo (intKind_is _ _ _ _) z hv (wpAny_truthy_bool (q _ _ S2))) hm
theorem CND.lninI {a b : PySem.Expr} {p : Pos} {d : Addr} {o : Obj} {i : Nat} {key : Int} {kvs : List (Int × Value)} {z : Bool} (ha : EVi c m n a key) (hb : EVx c m n b (.ref d)) (e : n[i]? = some (d, o)) (hd : o.IsDictOf (IKw c.w) kvs) (lo : (d == sysModules) = false) (hv : (valueAt kvs key).isSome = z) (hm : autoParam (behindInMarks .NotIn b = false) rflT) : CND c m n (.Compare a [.NotIn] [b] p) (!z) :=
  fun h k Q S q => wpAny_isTrue_Compare1 (ha h k _ S fun t h1 k1 S1 => hb h1 k1 _ S1 fun h2 k2 S2 => wpAny_notIn_of (knd := IKw c.w) (intKind_is _ _ _ _) lo (kda_dict S2.N (List.mem_of_getElem? e) hd).mapOf (by rw [hv]; exact wpAny_truthy_bool (q _ _ S2))) hm
theorem CND.lnin {a b : PySem.Expr} {p : Pos} {d : Addr} {o : Obj} {i : Nat} {key : Str} {kvs : List (Str × Value)} {z : Bool} (ha : EVs c m n a key) (hb : EVx c m n b (.ref d)) (e : n[i]? = some (d, o)) (hd : o.IsDictOf (SKw c.w) kvs) (lo : (d == sysModules) = false) (hv : (valueAt kvs key).isSome = z) (hm : autoParam (behindInMarks .NotIn b = false) rflT) : CND c m n (.Compare a [.NotIn] [b] p) (!z) :=
  fun h k Q S q => wpAny_isTrue_Compare1 (ha h k _ S fun t h1 k1 S1 => hb h1 k1 _ S1 fun h2 k2 S2 => wpAny_notIn_of (knd := SKw c.w) (strKind_is _ _ _ _) lo (kda_dict S2.N (List.mem_of_getElem? e) hd).mapOf (by rw [hv]; exact wpAny_truthy_bool (q _ _ S2))) hm
theorem CND.ints {a b : PySem.Expr} {p : Pos} {x : Str} {ys : List Str} (ha : EVs c m n a x) (hb : EVg c m n b fun v n' => ∃ D vs k, v = .ref D ∧ n' = (D, tupO vs k) :: n ∧ StrsAre vs ys) (hm : autoParam (behindInMarks .In b = false) rflT) : CND c m n (.Compare a [.In] [b] p) (ys.any fun z => z == x) :=
  fun h k Q S q => wpAny_isTrue_Compare1 (ha h k _ S fun t1 h1 k1 S1 => hb h1 k1 _ S1 fun v n2 h2 k2 hv S2 => by
    obtain ⟨D, vs, kk, rfl, rfl, hy⟩ := hv
    exact in_tuple_strs (S2.isTup (i := 0) rfl) (by simpa using hy) (wpAny_truthy_bool (q _ _ (S2.sub (List.sublist_cons_self _ _))))) hm
theorem EVg.tups {e1 e2 : Str} {p p1 p2 : Pos} {j j1 j2 : Nat} (hs1 : autoParam (starEach [.Constant (.str e1) j1 p1, .Constant (.str e2) j2 p2] c.env = (false, PySem.eval (.Constant (.str e1) j1 p1) c.env) :: starEach [.Constant (.str e2) j2 p2] c.env) rflT) (hs2 : autoParam (starEach [.Constant (.str e2) j2 p2] c.env = (false, PySem.eval (.Constant (.str e2) j2 p2) c.env) :: starEach [] c.env) rflT) :
    EVg c m n (.Tuple [.Constant (.str e1) j1 p1, .Constant (.str e2) j2 p2] j p) fun v n' => ∃ D vs k, v = .ref D ∧ n' = (D, tupO vs k) :: n ∧ StrsAre vs [e1, e2] :=
  EVg.tup (P := fun n1 vs => n1 = n ∧ StrsAre vs [e1, e2]) (ARGg.s EVs.const (fun t1 => ARGg.s EVs.const (fun t2 => ARGg.nil ⟨rfl, .cons _ _ (.cons _ _ .nil)⟩) hs2) hs1) fun n1 vs hv => by
    obtain ⟨rfl, hy⟩ := hv
    have hl : vs.length ≤ sizeLine := by
      cases hy with
      | cons _ _ h1 => cases h1 with
        | cons _ _ h2 => cases h2; exact Nat.le_of_ble_eq_true rfl
    exact ⟨hl, fun D => ⟨D, vs, _, rfl, rfl, hy⟩⟩
theorem EVx.ditemI {a b : PySem.Expr} {p : Pos} {d : Addr} {key : Int} {o : Obj} {kvs : List (Int × Value)} {i : Nat} {v : Value} (ha : EVx c m n a (.ref d)) (hb : EVi c m n b key) (e : n[i]? = some (d, o)) (hd : o.IsDictOf (IKw c.w) kvs) (hv : valueAt kvs key = some v)
    (hs : autoParam (∀ t, subscripted b false (Value.ref d) (.int key t) = operate [.ref d, .int key t] (getItem (.ref d) (.int key t))) irflT) : EVx c m n (.Subscript a b p) v :=
  fun h k Q S q => Subscript_ (ha h k _ S fun h1 k1 S1 => hb h1 k1 _ S1 fun t h2 k2 S2 => it_dict (knd := IKw c.w) (kda_dict (s := c.sh h2 k2) S2.N (List.mem_of_getElem? e) hd) (intKind_is _ _ _ _) hv (fun k' => q _ k' S2) (hs t))
theorem RUN.setdI_x {o i e : PySem.Expr} {p p' : Pos} {rest : List Stmt} {d : Addr} {ob : Obj} {kvs : List (Int × Value)} {z : Nat} {key : Int} {v : Value} (he : EVx c m n e v) (ho : EVx c m n o (.ref d)) (hi : EVi c m n i key) (hz : n[z]? = some (d, ob)) (hd : ob.IsDictOf (IKw c.w) kvs) (hl : kvs.length ≤ sizeLine)
    (h : ∀ ob', ob'.IsDictOf (IKw c.w) (stored kvs key v) → let n' := n.set z (d, ob'); RUN c m n' rest Q) (hs : autoParam (swapsWith e (some (o.Subscript i p')) p.line c.env = pure false) rflT) : RUN c m n (.Assign [.Subscript o i p'] e p :: rest) Q :=
  fun h0' k0 S => wpAny_execs_cons (wpAny_Assign_Subscript (he h0' k0 _ S fun h2 k2 S2 => ho h2 k2 _ S2 fun h3 k3 S3 => hi h3 k3 _ S3 fun u h4 k4 S4 =>
    kda_set (knd := IKw c.w) S4.F S4.N (UpdF.at hz S4.D) hd (intKind_is _ _ _ _) hl fun h5 o5 F5 N5 d5 => h o5 d5 h5 _ ⟨F5, N5, by rw [ks_set hz]; exact S4.D⟩) hs)
theorem ITR.dictI {e : PySem.Expr} {x : Str} {p : Pos} {d : Addr} {o : Obj} {z : Nat} {kvs : List (Int × Value)} (H : Ok c r) (he : EVx c m n e (.ref d)) (hz : n[z]? = some (d, o)) (hd : o.IsDictOf (IKw c.w) kvs) (lo : (d == sysModules) = false) :
    ITR c m n e (.Name x p) kvs.length (fun i v _ => ∃ k x, kvs[i]? = some (k, x) ∧ ∃ t, v = .int k t) [(d, o)] := by
  intro h k Q S q
  refine he h k _ S fun h1 k1 S1 => ?_
  obtain ⟨ep, hat⟩ := (kda_dict (s := c.sh h1 k1) (knd := IKw c.w) S1.N (List.mem_of_getElem? hz) hd).dictAt
  have hlt : d < h1.objs.size := Heap.lt_size (S1.get hz)
  have up : ∀ b o, h1.get? b = some o → (h1.push { cls := .type "dict_keyiterator", data := .fields #[.ref d, rawInt 0, rawInt kvs.length, rawInt ep] }).get? b = some o := fun b o e => Heap.get?_push_of_some _ e
  refine wpAny_pyIter_dict lo hat ?_
  have W := Walks.dictKeys (prog := PySem.Challenge.rw_sm0006_01.row.prog) (w := c.w) (knd := IKw c.w) (A := c.A) H.hh h1.objs.size d (Nat.ne_of_lt hlt) kvs ep
  have K2 := KTurns.ofWalks (target := .Name x p) W (fun i v s Q E st q => letGo_keyiter st.1 q)
  have K1 : KTurns PySem.Challenge.rw_sm0006_01.row.prog c.w c.A (.Name x p) h1.objs.size [h1.objs.size, d] [h1.objs.size] kvs.length (fun i v _ => ∃ k x, kvs[i]? = some (k, x) ∧ ∃ t, v = .int k t) _ _ :=
    ⟨K2.sub, K2.frame, K2.item, fun i v s Q E hm hQ => K2.go i v s Q E hm fun h' hP => hQ h' (by obtain ⟨k, x, hx, hk⟩ := hP; exact ⟨k, x, hx, Value.isInt_shape hk⟩), K2.done⟩
  refine q _ _ _ (S1.grow fun b o e => Heap.get?_push_of_some _ e) (ITat.new (x := []) S1 (wr := [h1.objs.size]) (by simp) nd1 K1 W.self ?_ ?_ (fun b hb => ?_) ?_)
  · intro i h2 st b hb
    rw [List.mem_singleton.mp hb]
    obtain ⟨o, ho, _⟩ := st.1
    exact ⟨o, ho⟩
  · exact ⟨⟨_, Heap.get?_push_size _ rfl, rfl, rfl⟩, hat.push _⟩
  · have hb' : b = h1.objs.size ∨ b = d := by simpa using hb
    rcases hb' with rfl | rfl
    · exact .inl (List.mem_singleton.mpr rfl)
    · exact .inr ⟨_, List.mem_singleton.mpr rfl⟩
  · intro p hp
    rw [List.mem_singleton.mp hp]
    exact List.mem_of_getElem? hz
theorem Ok.units (H : Ok c r) (hr : 0 < r) {h : Heap} (S : c.St m n h) : c.A.units + 64 < cLine := by
  obtain ⟨dp, un, base, outer, mean, mg, mb, eA, C, _⟩ := H.stand _ _ S.F 0 hr
  rw [eA]
  have := C.un
  show un + 64 < 9900
  omega
theorem CND.neb {a b : PySem.Expr} {p : Pos} {bs : List Bool} (H : Ok c r) (hr : 0 < r) {V : Value → Nw → Prop} (ha : EVg c m n a V) (hb : ∀ v n1, V v n1 → ∃ l k, ∃ z : Nat, v = .ref l ∧ n1[z]? = some (l, lstO (bs.map Value.bool) k) ∧ EVg c m n1 b fun v' n2 => ∃ l' k', ∃ z1 z2 : Nat, v' = .ref l' ∧ n2[z1]? = some (l, lstO (bs.map Value.bool) k) ∧ n2[z2]? = some (l', lstO (bs.map Value.bool) k') ∧ List.Sublist n n2) (hm : autoParam (behindInMarks .NotEq b = false) rflT) : CND c m n (.Compare a [.NotEq] [b] p) false :=
  fun h k Q S q => wpAny_isTrue_Compare1 (ha h k _ S fun v n1 h1 k1 hv S1 => by
    obtain ⟨l, kk, z, rfl, hz, he⟩ := hb v n1 hv
    refine he h1 k1 _ S1 fun v' n2 h2 k2 hv2 S2 => ?_
    obtain ⟨l', k', z1, z2, rfl, hz1, hz2, hs⟩ := hv2
    exact ne_bools (S2.isList hz1) (S2.isList hz2) rfl rfl (H.units hr S2) (wpAny_truthy_bool (q _ _ (S2.sub hs)))) hm
theorem EVg.lst0 {p : Pos} : EVg c m n (.List [] p) fun v n' => ∃ D, v = .ref D ∧ n' = (D, lstO [] 0) :: n :=
  EVg.lst (P := fun n1 vs => n1 = n ∧ vs = []) (ARGg.nil ⟨rfl, rfl⟩) fun n1 vs hv => by
    obtain ⟨rfl, rfl⟩ := hv
    exact ⟨Nat.le_of_ble_eq_true rfl, fun D => ⟨D, rfl, rfl⟩⟩
theorem CND.noneL {a : PySem.Expr} {p p2 : Pos} (H : Ok c r) (hr : 0 < r) (ha : EVg c m n a fun v n' => ∃ D, v = .ref D ∧ n' = (D, lstO [] 0) :: n) : CND c m n (.Compare a [.NotEq] [.List [] p2] p) false :=
  CND.neb (bs := []) H hr ha fun v n1 hv => by
    obtain ⟨D, rfl, rfl⟩ := hv
    refine ⟨D, 0, 0, rfl, rfl, EVg.mono EVg.lst0 fun v' n2 hv2 => ?_⟩
    obtain ⟨D2, rfl, rfl⟩ := hv2
    exact ⟨D2, 0, 1, 0, rfl, rfl, rfl, (List.sublist_cons_self _ _).trans (List.sublist_cons_self _ _)⟩
end
end Mine
end
section
open PySem PySem.W PySem.Calls PyProof.Rows PySem.Spec
namespace Mine
section
variable {c : Cx} {fs : List Addr} {m : Lo} {n : Nw} {r : Nat} {Q : Flow → Shared → Prop}
theorem EVi.ifb {e a b : PySem.Expr} {p : Pos} {z : Bool} {x y : Int} (hc : CND c m n e z) (ha : EVi c m n a x) (hb : EVi c m n b y) : EVi c m n (.IfExp e a b p) (bif z then x else y) := by
  cases z
  · exact EVi.ife_f hc hb
  · exact EVi.ife_t hc ha
theorem EVx.ifb {e a b : PySem.Expr} {p : Pos} {z : Bool} {x y v : Value} (hc : CND c m n e z) (ha : EVx c m n a x) (hb : EVx c m n b y) (hv : (bif z then x else y) = v) : EVx c m n (.IfExp e a b p) v := by
  subst hv
  cases z
  · exact EVx.ife_f hc hb
  · exact EVx.ife_t hc ha
theorem EVs.ifb {e a b : PySem.Expr} {p : Pos} {z : Bool} {x y : Str} (hc : CND c m n e z) (ha : EVs c m n a x) (hb : EVs c m n b y) : EVs c m n (.IfExp e a b p) (bif z then x else y) := by
  cases z
  · exact EVs.ife_f hc hb
  · exact EVs.ife_t hc ha
theorem EVg.ifb {e a b : PySem.Expr} {p : Pos} {z : Bool} {P : Value → Nw → Prop} (hc : CND c m n e z) (ha : z = true → EVg c m n a P) (hb : z = false → EVg c m n b P) : EVg c m n (.IfExp e a b p) P := by
  cases z
  · exact EVg.ife_f hc (hb rfl)
  · exact EVg.ife_t hc (ha rfl)
theorem ARGg.gc {e : PySem.Expr} {es : List PySem.Expr} {P : Nw → List Value → Prop} (he : EVg c m n e fun v n1 => ARGg c m n1 es fun n' vs => P n' (v :: vs)) (hs : starEach (e :: es) c.env = (false, eval e c.env) :: starEach es c.env) : ARGg c m n (e :: es) P :=
  ARGg.g he (fun _ _ h => h) hs
theorem RUN.unpc {elts es : List PySem.Expr} {j j' : Nat} {p p3 p' : Pos} {rest : List Stmt} (H : Ok c r)
    (ha : ARGg c m n es fun n1 vs => vs.length = elts.length ∧ TAS c ((assignEach elts c.env).map (·.2)) vs m n1 fun m2 n3 => RUN c m2 n3 rest Q)
    (hz : autoParam (Nat.ble elts.length sizeLine = true) rflT)
    (hn : autoParam ((assignEach elts c.env).length = elts.length) rflT) (hst : autoParam ((assignEach elts c.env).findIdx? (·.1) = none) rflT)
    (h1 : autoParam (swapsWithSole [.Tuple elts j p3] (.Tuple es j' p') p.line c.env = pure false) rflT) (h2 : autoParam (swappedStores [.Tuple elts j p3] (.Tuple es j' p') c.env = pure none) rflT) : RUN c m n (.Assign [.Tuple elts j p3] (.Tuple es j' p') p :: rest) Q :=
  RUN.unpg H (EVg.tup ha fun n1 vs hv => ⟨hv.1 ▸ Nat.le_of_ble_eq_true hz, fun D => (⟨D, vs, 0, n1, rfl, rfl, hv.1, hv.2⟩ : UnpH c m ((assignEach elts c.env).map (·.2)) elts.length (fun m2 n3 => RUN c m2 n3 rest Q) (.ref D) _)⟩) (fun _ _ h => h) hn hst h1 h2
theorem RUN.let_qc {x : Str} {p p' : Pos} {e : PySem.Expr} {rest : List Stmt} (O : OkT c fs r) (hl : c.env.kindOf x = some .local)
    (he : EVq c fs m n e fun v n' => ∀ g2, KtsTurn fs c.g g2 → let m2 := upd m x v; RUN (c.at g2) m2 n' rest Q) (hs : autoParam (swapsWith e (some (.Name x p')) p.line c.env = pure false) rflT) : RUN c m n (.Assign [.Name x p'] e p :: rest) Q :=
  RUN.let_q O he hl (fun g2 _ _ T h => h g2 T) hs
theorem RUN.set_gc {o i : PySem.Expr} {p p' : Pos} {e : PySem.Expr} {rest : List Stmt} (he : EVg c m n e fun v n1 => TGA c (.Subscript o i p') v m n1 fun m2 n2 => RUN c m2 n2 rest Q)
    (hs : autoParam (swapsWith e (some (o.Subscript i p')) p.line c.env = pure false) rflT) : RUN c m n (.Assign [.Subscript o i p'] e p :: rest) Q := RUN.set_g he (fun _ _ h => h) hs
theorem EVg.xc {e : PySem.Expr} {v : Value} {V : Value → Nw → Prop} (h : EVx c m n e v) (hV : V v n) : EVg c m n e V := fun h0 k _ S q => h h0 k _ S fun h1 k1 S1 => q v n h1 k1 hV S1
theorem EVg.ic {e : PySem.Expr} {v : Int} {V : Value → Nw → Prop} (h : EVi c m n e v) (hV : ∀ t, V (.int v t) n) : EVg c m n e V := fun h0 k _ S q => h h0 k _ S fun t h1 k1 S1 => q _ n h1 k1 (hV t) S1
theorem RUN.exc {e : PySem.Expr} {p : Pos} {rest : List Stmt} (he : EVg c m n e fun _ n1 => RUN c m n1 rest Q) (hi : autoParam (interactive c.env = false) rflT) (hs : autoParam (swapsWith e none p.line c.env = pure false) rflT) : RUN c m n (.Expr e p :: rest) Q :=
  RUN.ex he (fun _ _ h => h) hi hs
theorem RUN.let_gc {x : Str} {p p' : Pos} {e : PySem.Expr} {rest : List Stmt} (H : Ok c r) (hl : c.env.kindOf x = some .local) (he : EVg c m n e fun v n' => let m' := upd m x v; RUN c m' n' rest Q)
    (hs : autoParam (swapsWith e (some (.Name x p')) p.line c.env = pure false) rflT) : RUN c m n (.Assign [.Name x p'] e p :: rest) Q := RUN.let_g H he hl (fun _ _ h => h) hs
theorem EVg.lstc {es : List PySem.Expr} {p : Pos} {V : Value → Nw → Prop} (ha : ARGg c m n es fun n1 vs => Nat.ble vs.length sizeLine = true ∧ ∀ D, V (.ref D) ((D, lstO vs 0) :: n1)) : EVg c m n (.List es p) V :=
  EVg.lst ha fun _ _ hv => ⟨Nat.le_of_ble_eq_true hv.1, hv.2⟩
theorem EVg.tupc {es : List PySem.Expr} {p : Pos} {j : Nat} {V : Value → Nw → Prop} (ha : ARGg c m n es fun n1 vs => Nat.ble vs.length sizeLine = true ∧ ∀ D, V (.ref D) ((D, tupO vs 0) :: n1)) : EVg c m n (.Tuple es j p) V :=
  EVg.tup ha fun _ _ hv => ⟨Nat.le_of_ble_eq_true hv.1, hv.2⟩
inductive SubH (c : Cx) (m : Lo) (y : PySem.Expr) (k : Int) (V : Value → Nw → Prop) (v : Value) (n1 : Nw) : Prop
  | mk (z : Int) (t : Tok) (e : v = .int z t) (h : ∀ t2, V (.int (z - k) t2) n1) (hy : EVi c m n1 y k) : SubH c m y k V v n1
theorem EVg.subc {x y : PySem.Expr} {p : Pos} {V : Value → Nw → Prop} {k : Int} (ha : EVg c m n x (SubH c m y k V)) : EVg c m n (.BinOp x .Sub y p) V :=
  fun h k0 Q S q => wpAny_BinOp (ha h k0 _ S fun u n' h1 k1 hv S1 => by
    obtain ⟨z, t, rfl, hV, he⟩ := hv
    exact he h1 k1 _ S1 fun t2 h2 k2 S2 => sub_int (q _ n' h2 _ (hV _) S2))
inductive AddH (k : Int) (V : Value → Nw → Prop) (v : Value) (n1 : Nw) : Prop
  | mk (z : Int) (t : Tok) (e : v = .int z t) (h : ∀ t2, V (.int (k + z) t2) n1) : AddH k V v n1
theorem EVg.addc {x y : PySem.Expr} {p : Pos} {V : Value → Nw → Prop} {k : Int} (ha : EVi c m n x k) (hb : EVg c m n y (AddH k V)) : EVg c m n (.BinOp x .Add y p) V :=
  fun h k0 Q S q => wpAny_BinOp (ha h k0 _ S fun t h1 k1 S1 => hb h1 k1 _ S1 fun u n' h2 k2 hv S2 => by
    obtain ⟨z, t2, rfl, hV⟩ := hv
    exact add_int (q _ n' h2 _ (hV _) S2))
inductive RetH (P : Value → Nw → Prop) (v : Value) (n' : Nw) : Prop
  | mk (n2 n3 : Nw) (hp : n3.Perm n') (hs : List.Sublist n2 n3) (h : P v n2) : RetH P v n'
theorem RUN.ret_qc {e : PySem.Expr} {rest : List Stmt} {p : Pos} {P : Value → Nw → Prop} (he : EVq c fs m n e (RetH P)) (hq : ∀ u s', Pq c fs P (.ret u) s' → Q (.ret u) s') : RUN c m n (.Return (some e) p :: rest) Q :=
  fun h0 k S => wpAny_execs_cons (wpAny_Return_some (he h0 k _ S fun g2 v n' h1 k1 T hv S1 => hq _ _ (by
    obtain ⟨n2, n3, hp, hs, hP'⟩ := hv
    exact ⟨g2, T, v, m, n2, h1, k1, hP', (S1.perm hp).sub hs, rfl, rfl⟩)))
theorem EVq.eqc {x y : PySem.Expr} {op : CmpOp} {p : Pos} {u v : Str} {z : Bool} {V : Value → Nw → Prop} (hx : EVq c fs m n x fun v' n' => ∃ t, v' = .str u t ∧ V (.bool z) n') (hy : ∀ g2 n', EVs (c.at g2) m n' y v) (ho : CS op u v z) (hm : autoParam (behindInMarks op y = false) rflT) :
    EVq c fs m n (.Compare x [op] [y] p) V :=
  fun h k Q S q => wpAny_Compare1 (hx h k _ S fun g2 v' n' h1 k1 T hv S1 => by
    obtain ⟨t, rfl, hV⟩ := hv
    exact hy g2 n' h1 k1 _ S1 fun t2 h2 k2 S2 => ho _ _ _ t t2 _ _ (q g2 _ n' h2 k2 T hV S2)) hm
end
section
variable {w : World} {A : Around} {cn : Str} {sc : Scope} {L a : Addr} {ccd : Value} {cl : List (Str × Addr)} {g : Heap} {s : Shared} {E : Value → Shared → Prop} {fs : List Addr} {r : Nat} {m : Lo} {wa : WAddr} {b room : Int}
theorem kp_code {x : Addr} : ∀ h h' : Heap, (∀ b' o, h.get? b' = some o → h'.get? b' = some o) → (WRO w wa b room h ∧ h.CodeRec (.ref x) QL) → (WRO w wa b room h' ∧ h'.CodeRec (.ref x) QL) :=
  fun h h' k G => ⟨WRO.kp h h' k G.1, let ⟨x, o, vs, t, e, ho, d⟩ := G.2; ⟨x, o, vs, t, e, k _ _ ho, d⟩⟩
theorem EVq.codeOk {F cs : Nw} {z : Nat} {ps : Array Value} {x : Str} {params : Arguments} {body : PySem.Expr} {scope : Scope} {pos p1 p2 : Pos} {clos : List (Str × Addr)} {V : Value → Nw → Prop} (is : List Nat) (r' : Nat)
    (O : OkT ⟨w, A, envX cn sc L a ccd cl, g, s, E⟩ fs r) (hr : r' + 1 < r) (HG : WRO w wa b room g ∧ CodeHd g 413 409) (hf : EVx ⟨w, A, envX cn sc L a ccd cl, g, s, E⟩ m (F ++ cs) (.Name x p1) (.ref 386)) (hk : keepIn (KO w.params) (.ref 386) = true) (hcd : ccd = .ref 413) (hz : F[z]? = some (409, tabObj ps)) (TB : TabOk ps cs)
    (hq : (cn ++ Str.ofString ".<locals>.") ++ Str.ofString "<lambda>" = QL) (hcl : closureFor scope (envX cn sc L a ccd cl) = pure clos) (hdef : defaultsOf params (envX cn sc L a ccd cl) = ([], []))
    (hi : (is.all fun i => decide (i < 0 + (F.length + 1))) = true) (hi0 : is.any (Nat.beq 0) = true)
    (h : ∀ f lam c' ps' cs' A2 L2 g3 s2 E2, let K : Cx := ⟨w, A2, envX QL scope L2 f (.ref c') clos, g3, s2, E2⟩; Ok K r' → WRO w wa b room g3 → TabOk ps' cs' →
      EVg K (fun y => ([] : List (Str × Value)).reverse.lookup y) (pick is 0 ((f, lam) :: F.set z (409, tabObj ps'))) body fun _ n' => CalR is ((f, lam) :: F.set z (409, tabObj ps')) n' fun a2 => ∀ t, V (.str (Str.ofString "") t) (a2 ++ cs'))
    (hco : autoParam (scope.isCoroutine = false) rflT) (hgen : autoParam (scope.isGenerator = false) rflT) (hkd : autoParam (scope.kind = .function) rflT) (hcell : autoParam (∀ x ∈ scope.names, x.2 ≠ .cell) decT)
    (hb : ∀ pm c' ctv, bindArgs (kla_fn (Str.ofString "<lambda>") QL params body scope clos pm (.ref c') ctv) ⟨[], []⟩ = pure [])
    (h0 : autoParam (eval (PySem.Expr.Call (.Name x p1) [.Lambda params body scope pos] [] p2) (envX cn sc L a ccd cl) = (eval (.Name x p1) (envX cn sc L a ccd cl) >>= fun fv => callWith p2 fv [] (backTo p2 (starEach [.Lambda params body scope pos] (envX cn sc L a ccd cl))) (backToKw p2 (keywordEach [] (envX cn sc L a ccd cl))))) rflT)
    (hs : autoParam (starEach [.Lambda params body scope pos] (envX cn sc L a ccd cl) = (false, eval (.Lambda params body scope pos) (envX cn sc L a ccd cl)) :: starEach [] (envX cn sc L a ccd cl)) rflT) (hs2 : autoParam (((backTo p2 (starEach [] (envX cn sc L a ccd cl))).any fun x => x.1) = false) rflT) :
    EVq ⟨w, A, envX cn sc L a ccd cl, g, s, E⟩ fs m (F ++ cs) (.Call (.Name x p1) [.Lambda params body scope pos] [] p2) V := by
  refine EVq.callP is (r' + 1) O hr hf hk (ARGg.g (EVg.lam O HG.2 hcd hz TB hq hcl hdef) (fun u n1 hv => ?_) hs) h0 hs hs2
  obtain ⟨f, lam, c', pm, ctv, ps', cs', hl, rfl, rfl, TB', hci⟩ := hv
  have hm : (f, lam) ∈ pick is 0 ((f, lam) :: F.set z (409, tabObj ps')) := by
    unfold pick
    rw [hi0]
    exact List.Mem.head _
  refine ARGg.nil ⟨(f, lam) :: F.set z (409, tabObj ps'), cs', _, fun h => WRO w wa b room h ∧ h.CodeRec (.ref c') QL, fun _ => True, rfl, by simpa using hi, CTn.q (t_code_ok (isFn hl hm) kp_code (CTn.lam hl hm (fun h G => G.2) kp_code (fun A2 L2 g3 s2 E2 K HG' => h f lam c' ps' cs' A2 L2 g3 s2 E2 K HG'.1 TB') (hb pm c' ctv) hco hgen hkd hcell)), fun h S => ⟨⟨WRO.kp _ _ (hide_g S) HG.1, hide_code S hci (fun p hp => hp)⟩, fun _ _ => trivial⟩, fun v n' hP => ?_⟩
  obtain ⟨⟨t, rfl⟩, _, a2, e0, e1, e2, hV⟩ := hP
  exact ⟨a2, e0, e1, e2, hV t⟩
theorem EVq.codeX {F cs : Nw} {z : Nat} {ps : Array Value} {x u : Str} {params : Arguments} {body : PySem.Expr} {scope : Scope} {pos p1 p2 : Pos} {clos : List (Str × Addr)} {V : Value → Nw → Prop} (is : List Nat) (r' : Nat)
    (O : OkT ⟨w, A, envX cn sc L a ccd cl, g, s, E⟩ fs r) (hr : r' + 1 < r) (HG : WRO w wa b room g ∧ CodeHd g 413 409) (hf : EVx ⟨w, A, envX cn sc L a ccd cl, g, s, E⟩ m (F ++ cs) (.Name x p1) (.ref 386)) (hk : keepIn (KO w.params) (.ref 386) = true) (hcd : ccd = .ref 413) (hz : F[z]? = some (409, tabObj ps)) (TB : TabOk ps cs)
    (hq : (cn ++ Str.ofString ".<locals>.") ++ Str.ofString "<lambda>" = QL) (hcl : closureFor scope (envX cn sc L a ccd cl) = pure clos) (hdef : defaultsOf params (envX cn sc L a ccd cl) = ([], []))
    (hi : (is.all fun i => decide (i < 0 + (F.length + 1))) = true) (hi0 : is.any (Nat.beq 0) = true)
    (h : ∀ f lam c' ps' A2 L2 g3 s2 E2, let K : Cx := ⟨w, A2, envX QL scope L2 f (.ref c') clos, g3, s2, E2⟩; Ok K r' → Thr K (pick is 0 ((f, lam) :: F.set z (409, tabObj ps'))) u → WRO w wa b room g3 →
      EXr K (fun y => ([] : List (Str × Value)).reverse.lookup y) (pick is 0 ((f, lam) :: F.set z (409, tabObj ps'))) body)
    (hV : ∀ f lam ps' cs' t, TabOk ps' cs' → V (.str u t) (((f, lam) :: F.set z (409, tabObj ps')) ++ cs'))
    (hco : autoParam (scope.isCoroutine = false) rflT) (hgen : autoParam (scope.isGenerator = false) rflT) (hkd : autoParam (scope.kind = .function) rflT) (hcell : autoParam (∀ x ∈ scope.names, x.2 ≠ .cell) decT)
    (hb : ∀ pm c' ctv, bindArgs (kla_fn (Str.ofString "<lambda>") QL params body scope clos pm (.ref c') ctv) ⟨[], []⟩ = pure [])
    (h0 : autoParam (eval (PySem.Expr.Call (.Name x p1) [.Lambda params body scope pos] [] p2) (envX cn sc L a ccd cl) = (eval (.Name x p1) (envX cn sc L a ccd cl) >>= fun fv => callWith p2 fv [] (backTo p2 (starEach [.Lambda params body scope pos] (envX cn sc L a ccd cl))) (backToKw p2 (keywordEach [] (envX cn sc L a ccd cl))))) rflT)
    (hs : autoParam (starEach [.Lambda params body scope pos] (envX cn sc L a ccd cl) = (false, eval (.Lambda params body scope pos) (envX cn sc L a ccd cl)) :: starEach [] (envX cn sc L a ccd cl)) rflT) (hs2 : autoParam (((backTo p2 (starEach [] (envX cn sc L a ccd cl))).any fun x => x.1) = false) rflT) :
    EVq ⟨w, A, envX cn sc L a ccd cl, g, s, E⟩ fs m (F ++ cs) (.Call (.Name x p1) [.Lambda params body scope pos] [] p2) V := by
  refine EVq.callP is (r' + 1) O hr hf hk (ARGg.g (EVg.lam O HG.2 hcd hz TB hq hcl hdef) (fun u' n1 hv => ?_) hs) h0 hs hs2
  obtain ⟨f, lam, c', pm, ctv, ps', cs', hl, rfl, rfl, TB', hci⟩ := hv
  have hm : (f, lam) ∈ pick is 0 ((f, lam) :: F.set z (409, tabObj ps')) := by
    unfold pick
    rw [hi0]
    exact List.Mem.head _
  refine ARGg.nil ⟨(f, lam) :: F.set z (409, tabObj ps'), cs', _, fun h => WRO w wa b room h ∧ h.CodeRec (.ref c') QL, fun _ => True, rfl, by simpa using hi, t_code_x (isFn hl hm) kp_code (CTr.lam hl hm (fun h G => G.2) kp_code (fun A2 L2 g3 s2 E2 K HT HG' => h f lam c' ps' A2 L2 g3 s2 E2 K HT HG'.1) (hb pm c' ctv) hco hgen hkd hcell), fun h S => ⟨⟨WRO.kp _ _ (hide_g S) HG.1, hide_code S hci (fun p hp => hp)⟩, fun _ _ => trivial⟩, fun v n' hP => ?_⟩
  obtain ⟨⟨t, rfl⟩, rfl⟩ := hP
  exact ⟨(f, lam) :: F.set z (409, tabObj ps'), by simpa using hi, rfl, rfl, hV f lam ps' cs' t TB'⟩
end
end Mine
end
section
open PySem PySem.W PySem.Calls PyProof.Rows
namespace Mine
theorem t_get {w : World} {a : WAddr} {b room : Int} {i : Bool} {oc of : Obj} {ub tx : Str} {rn k : Int} {tc tn tf : Tok} {txt : List Nat} (hb : BITS b) (hcn : Chan w oc b ub rn) (hbk : of.IsDictOf (SKw w) [("BANK", .str tx tf)]) (h1 : 1 ≤ k) (h2 : k ≤ 32767) (htx : tx = S txt) (htl : txt.length < 100) (hin : (k - 1) * (octs b + 1) + (octs b + 1) ≤ txt.length) : CTn w 2 166 [.ref a.w, .int (chn i) tc, .int k tn] [(a.c i, oc), (a.fl, of)] (WRO w a b room) (fun v n' => v = .none ∧ ∃ oc', Chan w oc' b (S ((txt.drop ((k - 1) * (octs b + 1)).toNat).take (octs b + 1).toNat)) k ∧ n' = [(a.c i, oc'), (a.fl, of)]) := by
  refine' CTn.mk [((Str.ofString "world"), .ref a.w), ((Str.ofString "channel"), .int (chn i) tc), ((Str.ofString "number"), .int k tn)] ?ho ?hcd ?hb ?hl WRO.kp ?h ?c2 ?c3 ?c4 ?c5
  case ho => with_unfolding_all rfl
  case hcd => kernel_rfl
  case hb => exact fun s => BindsTo.of_eq rfl
  case hl => rfl
  case c2 => rfl
  case c3 => rfl
  case c4 => rfl
  case c5 => decide
  case h =>
    intro A L g s E c H HG
    intro QQ
    have hob := octs_pos hb
    have hcn2 := hcn
    obtain ⟨x1, x2, x3, x4, x5, x6, hd⟩ := hcn2
    refine RUN.let_g H (EVg.chanR H (by decide) HG hcn (EVx.glob H (by kernel_rfl) rfl rfl) (EVx.name H rfl rfl rfl) (EVi.of (EVx.name H rfl rfl rfl))) rfl fun v n' hv => ?_
    obtain ⟨rfl, D, o, rfl⟩ := hv
    intro m1
    refine RUN.let3 H (P := fun n1 vs => n1 = [(D, o), (a.c i, oc), (a.fl, of)] ∧ vs = [.int k tn, .int (octs b + 1) x4, .str tx tf]) (ARGg.x (EVx.ofg (EVg.callR (ad := 159) [1] 1 H (by decide) (EVx.glob H (by kernel_rfl) rfl rfl) (by kernel_rfl) trivial (fun _ _ _ h => h) (ARG.x (EVx.name H rfl rfl rfl) (ARG.x (EVx.name H rfl rfl rfl) (ARG.nil (t_told_n h1 h2)) rfl) rfl))) (ARGg.x (EVx.ditem (i := 1) (EVx.name H rfl rfl rfl) EVs.const rfl hd rfl) (ARGg.x (EVx.ditem (i := 2) (EVx.wfiles H HG (EVx.name H rfl rfl rfl)) (EVs.of (EVx.ditem (i := 1) (EVx.name H rfl rfl rfl) EVs.const rfl hd rfl)) rfl hbk rfl) (ARGg.nil ⟨rfl, rfl⟩) rfl) rfl) rfl) rfl rfl rfl (fun n1 vs hv => ?_)
    obtain ⟨rfl, rfl⟩ := hv
    refine ⟨_, _, _, rfl, fun m2 hm => ?_⟩
    subst hm
    refine RUN.let_i H (EVi.mul (EVi.sub (EVi.of (EVx.name H rfl rfl rfl)) EVi.const) (EVi.of (EVx.name H rfl rfl rfl)) (IntMulOk.of_right (intBits_le_64 (by omega) (by omega)))) rfl fun t1 => ?_
    intro m3
    have hB : 0 ≤ (k - 1) * (octs b + 1) := Int.mul_nonneg (by omega) (by omega)
    refine RUN.if_f (CND.eq (CND.ci (EVi.of (EVx.name H rfl rfl rfl)) (EVi.bi (EVx.built H (by kernel_rfl) boot_len (by decide) rfl rfl) (ARG.s (EVs.of (EVx.name H rfl rfl rfl)) (fun _ => ARG.nil (b_lens rfl (by rw [htx, S_len]; omega))) rfl)) CI.ge) (decide_eq_false (by rw [htx, S_len]; omega))) ?_
    have e1 : (Txt.slice tx (some ((k - 1) * (octs b + 1))) (some ((k - 1) * (octs b + 1) + (octs b + 1)))).length ≤ 1000 := by
      rw [htx, slice_SS hB (by omega) (by omega), S_len, List.length_take, List.length_drop]; exact Nat.le_trans (Nat.min_le_right ..) (Nat.le_trans (Nat.sub_le ..) (Nat.le_of_lt (Nat.lt_trans htl (by decide))))
    have e2 : (Txt.mul (⟨#[(0 : Int).toNat]⟩ : Str) (octs b + 1)).length ≤ 10 := by
      show (Txt.mul (S [0]) _).length ≤ _
      rw [mul_S, S_len, List.length_replicate]; omega
    refine RUN.setd_s (z := 1) (EVs.sl_ns (EVs.add (EVs.sl_ss (EVs.of (EVx.name H rfl rfl rfl)) (EVi.of (EVx.name H rfl rfl rfl)) (EVi.add (EVi.of (EVx.name H rfl rfl rfl)) (EVi.of (EVx.name H rfl rfl rfl))) (by rw [htx, S_len]; unfold sizeLine; omega)) (EVs.mul (EVs.bi (EVx.built H (by kernel_rfl) boot_chr (by decide) rfl rfl) (ARG.i EVi.const (fun _ => ARG.nil (b_chr (by decide) (by decide))) rfl)) (EVi.of (EVx.name H rfl rfl rfl)) (by decide +kernel) (by omega) (by omega)) (by unfold sizeLine; omega)) (EVi.of (EVx.name H rfl rfl rfl)) (by rw [PySem.Str.length_append]; unfold sizeLine; omega)) (EVx.name H rfl rfl rfl) EVs.const rfl hd (Nat.le_of_ble_eq_true rfl) fun t2 ob' d' => ?_
    intro n1
    refine RUN.setd_x (z := 1) (EVx.name H rfl rfl rfl) (EVx.name H rfl rfl rfl) EVs.const rfl d' (Nat.le_of_ble_eq_true rfl) fun ob2 d2 => ?_
    intro n2
    exact RUN.end_s (n2 := [(a.c i, ob2), (a.fl, of)]) (List.sublist_cons_self _ _) ⟨rfl, ob2, get_eq htx hB (by omega) hin ▸ ⟨_, _, _, _, _, _, d2⟩, rfl⟩
end Mine
end
section
open PySem PySem.W PySem.Calls PyProof.Rows
namespace Mine
theorem t_put_i {w : World} {a : WAddr} {b room : Int} {i : Bool} {oc of : Obj} {ub tx : Str} {rn k : Int} {tc tn tf tr : Tok} {txt bl : List Nat} (hb : BITS b) (hcn : Chan w oc b ub rn) (hbk : of.IsDictOf (SKw w) [("BANK", .str tx tf)]) (h1 : 1 ≤ k) (h2 : k ≤ 32767) (htx : tx = S txt) (htl : txt.length < 100) (hub : ub = S bl) (hbl : (bl.length : Int) = octs b + 1) (hin : ((k - 1) * (octs b + 1)) + (octs b + 1) ≤ txt.length) (hrm : ((k - 1) * (octs b + 1)) + (octs b + 1) ≤ room) : CTn w 2 173 [.ref a.w, .int (chn i) tc, .int k tn, .int room tr] [(a.c i, oc), (a.fl, of)] (WRO w a b room) (fun v n' => v = .none ∧ ∃ oc' of', Chan w oc' b ub k ∧ Bank w of' (S (txt.take (((k - 1) * (octs b + 1))).toNat ++ bl ++ txt.drop (((k - 1) * (octs b + 1)) + (octs b + 1)).toNat)) ∧ n' = [(a.c i, oc'), (a.fl, of')]) := by
  refine' CTn.mk [((Str.ofString "world"), .ref a.w), ((Str.ofString "channel"), .int (chn i) tc), ((Str.ofString "number"), .int k tn), ((Str.ofString "room"), .int room tr)] ?ho ?hcd ?hb ?hl WRO.kp ?h ?c2 ?c3 ?c4 ?c5
  case ho => with_unfolding_all rfl
  case hcd => kernel_rfl
  case hb => exact fun s => BindsTo.of_eq rfl
  case hl => rfl
  case c2 => rfl
  case c3 => rfl
  case c4 => rfl
  case c5 => decide
  case h =>
    intro A L g s E c H HG
    intro QQ
    have hob := octs_pos hb
    have hcn2 := hcn
    obtain ⟨x1, x2, x3, x4, x5, x6, hd⟩ := hcn2
    refine RUN.let_g H (EVg.chanR H (by decide) HG hcn (EVx.glob H (by kernel_rfl) rfl rfl) (EVx.name H rfl rfl rfl) (EVi.of (EVx.name H rfl rfl rfl))) rfl fun v n' hv => ?_
    obtain ⟨rfl, D, o, rfl⟩ := hv
    intro m1
    refine RUN.let3 H (P := fun n1 vs => n1 = [(D, o), (a.c i, oc), (a.fl, of)] ∧ vs = [.int k tn, .int (octs b + 1) x4, .str tx tf]) (ARGg.x (EVx.ofg (EVg.callR (ad := 159) [1] 1 H (by decide) (EVx.glob H (by kernel_rfl) rfl rfl) (by kernel_rfl) trivial (fun _ _ _ h => h) (ARG.x (EVx.name H rfl rfl rfl) (ARG.x (EVx.name H rfl rfl rfl) (ARG.nil (t_told_n h1 h2)) rfl) rfl))) (ARGg.x (EVx.ditem (i := 1) (EVx.name H rfl rfl rfl) EVs.const rfl hd rfl) (ARGg.x (EVx.ditem (i := 2) (EVx.wfiles H HG (EVx.name H rfl rfl rfl)) (EVs.of (EVx.ditem (i := 1) (EVx.name H rfl rfl rfl) EVs.const rfl hd rfl)) rfl hbk rfl) (ARGg.nil ⟨rfl, rfl⟩) rfl) rfl) rfl) rfl rfl rfl (fun n1 vs hv => ?_)
    obtain ⟨rfl, rfl⟩ := hv
    refine ⟨_, _, _, rfl, fun m2 hm => ?_⟩
    subst hm
    refine RUN.let_i H (EVi.mul (EVi.sub (EVi.of (EVx.name H rfl rfl rfl)) EVi.const) (EVi.of (EVx.name H rfl rfl rfl)) (IntMulOk.of_right (intBits_le_64 (by omega) (by omega)))) rfl fun t1 => ?_
    intro m3
    have hB : 0 ≤ ((k - 1) * (octs b + 1)) := Int.mul_nonneg (by omega) (by omega)
    have hl : (tx.length : Int) = txt.length := by rw [htx, S_len]
    have hubl : ub.length ≤ 10 := by rw [hub, S_len]; omega
    refine RUN.if_f (CND.eq (CND.ci (EVi.add (EVi.of (EVx.name H rfl rfl rfl)) (EVi.of (EVx.name H rfl rfl rfl))) (EVi.of (EVx.name H rfl rfl rfl)) CI.gt) (decide_eq_false (by omega))) ?_
    have e2 : (Txt.mul (⟨#[(0 : Int).toNat]⟩ : Str) (((k - 1) * (octs b + 1)) - tx.length)).length ≤ 10 := by
      show (Txt.mul (S [0]) _).length ≤ _
      rw [mul_S, S_len, List.length_replicate]; omega
    refine RUN.let_s H (EVs.eq (EVs.add (EVs.of (EVx.name H rfl rfl rfl)) (EVs.mul (EVs.bi (EVx.built H (by kernel_rfl) boot_chr (by decide) rfl rfl) (ARG.i EVi.const (fun _ => ARG.nil (b_chr (by decide) (by decide))) rfl)) (EVi.sub (EVi.of (EVx.name H rfl rfl rfl)) (EVi.bi (EVx.built H (by kernel_rfl) boot_len (by decide) rfl rfl) (ARG.s (EVs.of (EVx.name H rfl rfl rfl)) (fun _ => ARG.nil (b_lens rfl (by omega))) rfl))) (by decide +kernel) (by omega) (by omega)) (by unfold sizeLine; omega)) (pad_nil (B := ((k - 1) * (octs b + 1))) (by omega))) rfl fun t2 => ?_
    intro m4
    have e3 : (Txt.slice tx none (some ((k - 1) * (octs b + 1)))).length ≤ 100 := by rw [htx, slice_NS hB (by omega), S_len]; exact Nat.le_trans (List.length_take_le' ..) (Nat.le_of_lt htl)
    have e4 : (Txt.slice tx (some (((k - 1) * (octs b + 1)) + (octs b + 1))) none).length ≤ 100 := by rw [htx, slice_SN (by omega) hin, S_len, List.length_drop]; exact Nat.le_trans (Nat.sub_le ..) (Nat.le_of_lt htl)
    refine RUN.setd_s (z := 2) (EVs.eq (EVs.add (EVs.add (EVs.sl_ns (EVs.of (EVx.name H rfl rfl rfl)) (EVi.of (EVx.name H rfl rfl rfl)) (by unfold sizeLine; omega)) (EVs.of (EVx.ditem (i := 1) (EVx.name H rfl rfl rfl) EVs.const rfl hd rfl)) (by unfold sizeLine; omega)) (EVs.sl_sn (EVs.of (EVx.name H rfl rfl rfl)) (EVi.add (EVi.of (EVx.name H rfl rfl rfl)) (EVi.of (EVx.name H rfl rfl rfl))) (by unfold sizeLine; omega)) (by rw [PySem.Str.length_append]; unfold sizeLine; omega)) (put_eq htx hub hB (by omega) hin)) (EVx.wfiles H HG (EVx.name H rfl rfl rfl)) (EVs.of (EVx.ditem (i := 1) (EVx.name H rfl rfl rfl) EVs.const rfl hd rfl)) rfl hbk (Nat.le_of_ble_eq_true rfl) fun t3 of' d3 => ?_
    intro n1
    refine RUN.setd_x (z := 1) (EVx.name H rfl rfl rfl) (EVx.name H rfl rfl rfl) EVs.const rfl hd (Nat.le_of_ble_eq_true rfl) fun ob2 d2 => ?_
    intro n2
    exact RUN.end_s (n2 := [(a.c i, ob2), (a.fl, of')]) (List.sublist_cons_self _ _) ⟨rfl, ob2, of', ⟨_, _, _, _, _, _, d2⟩, ⟨_, d3⟩, rfl⟩
theorem t_put_0 {w : World} {a : WAddr} {b room : Int} {i : Bool} {oc of : Obj} {ub tx : Str} {rn : Int} {tc tf tr : Tok} {txt bl : List Nat} (hb : BITS b) (hcn : Chan w oc b ub rn) (hbk : of.IsDictOf (SKw w) [("BANK", .str tx tf)]) (h1 : 0 ≤ rn) (h2 : rn < 32767) (htx : tx = S txt) (htl : txt.length < 100) (hub : ub = S bl) (hbl : (bl.length : Int) = octs b + 1) (hin : (((rn + 1) - 1) * (octs b + 1)) = txt.length) (hrm : (((rn + 1) - 1) * (octs b + 1)) + (octs b + 1) ≤ room) : CTn w 2 173 [.ref a.w, .int (chn i) tc, .none, .int room tr] [(a.c i, oc), (a.fl, of)] (WRO w a b room) (fun v n' => v = .none ∧ ∃ oc' of', Chan w oc' b ub (rn + 1) ∧ Bank w of' (S (txt ++ bl)) ∧ n' = [(a.c i, oc'), (a.fl, of')]) := by
  refine' CTn.mk [((Str.ofString "world"), .ref a.w), ((Str.ofString "channel"), .int (chn i) tc), ((Str.ofString "number"), .none), ((Str.ofString "room"), .int room tr)] ?ho ?hcd ?hb ?hl WRO.kp ?h ?c2 ?c3 ?c4 ?c5
  case ho => with_unfolding_all rfl
  case hcd => kernel_rfl
  case hb => exact fun s => BindsTo.of_eq rfl
  case hl => rfl
  case c2 => rfl
  case c3 => rfl
  case c4 => rfl
  case c5 => decide
  case h =>
    intro A L g s E c H HG
    intro QQ
    have hob := octs_pos hb
    have hcn2 := hcn
    obtain ⟨x1, x2, x3, x4, x5, x6, hd⟩ := hcn2
    refine RUN.let_g H (EVg.chanR H (by decide) HG hcn (EVx.glob H (by kernel_rfl) rfl rfl) (EVx.name H rfl rfl rfl) (EVi.of (EVx.name H rfl rfl rfl))) rfl fun v n' hv => ?_
    obtain ⟨rfl, D, o, rfl⟩ := hv
    intro m1
    refine RUN.let3 H (P := fun n1 vs => n1 = [(D, o), (a.c i, oc), (a.fl, of)] ∧ ∃ v0, (∃ t9, v0 = .int (rn + 1) t9) ∧ vs = [v0, .int (octs b + 1) x4, .str tx tf]) (ARGg.g (EVg.callR (ad := 159) [1] 1 H (by decide) (EVx.glob H (by kernel_rfl) rfl rfl) (by kernel_rfl) trivial (fun _ _ _ h => h) (ARG.x (EVx.name H rfl rfl rfl) (ARG.x (EVx.name H rfl rfl rfl) (ARG.nil (t_told_0 hcn h1 h2)) rfl) rfl)) (fun v0 n0 hv0 =>  by obtain ⟨q1, rfl⟩ := hv0; exact (ARGg.x (EVx.ditem (i := 1) (EVx.name H rfl rfl rfl) EVs.const rfl hd rfl) (ARGg.x (EVx.ditem (i := 2) (EVx.wfiles H HG (EVx.name H rfl rfl rfl)) (EVs.of (EVx.ditem (i := 1) (EVx.name H rfl rfl rfl) EVs.const rfl hd rfl)) rfl hbk rfl) (ARGg.nil ⟨rfl, _, q1, rfl⟩) rfl) rfl)) rfl) rfl rfl rfl (fun n1 vs hv => ?_)
    obtain ⟨rfl, v0, ⟨t9, rfl⟩, rfl⟩ := hv
    refine ⟨_, _, _, rfl, fun m2 hm => ?_⟩
    subst hm
    refine RUN.let_i H (EVi.mul (EVi.sub (EVi.of (EVx.name H rfl rfl rfl)) EVi.const) (EVi.of (EVx.name H rfl rfl rfl)) (IntMulOk.of_right (intBits_le_64 (by omega) (by omega)))) rfl fun t1 => ?_
    intro m3
    have hB : 0 ≤ (((rn + 1) - 1) * (octs b + 1)) := Int.mul_nonneg (by omega) (by omega)
    have hl : (tx.length : Int) = txt.length := by rw [htx, S_len]
    have hubl : ub.length ≤ 10 := by rw [hub, S_len]; omega
    refine RUN.if_f (CND.eq (CND.ci (EVi.add (EVi.of (EVx.name H rfl rfl rfl)) (EVi.of (EVx.name H rfl rfl rfl))) (EVi.of (EVx.name H rfl rfl rfl)) CI.gt) (decide_eq_false (by omega))) ?_
    have e2 : (Txt.mul (⟨#[(0 : Int).toNat]⟩ : Str) ((((rn + 1) - 1) * (octs b + 1)) - tx.length)).length ≤ 10 := by
      show (Txt.mul (S [0]) _).length ≤ _
      rw [mul_S, S_len, List.length_replicate]; omega
    refine RUN.let_s H (EVs.eq (EVs.add (EVs.of (EVx.name H rfl rfl rfl)) (EVs.mul (EVs.bi (EVx.built H (by kernel_rfl) boot_chr (by decide) rfl rfl) (ARG.i EVi.const (fun _ => ARG.nil (b_chr (by decide) (by decide))) rfl)) (EVi.sub (EVi.of (EVx.name H rfl rfl rfl)) (EVi.bi (EVx.built H (by kernel_rfl) boot_len (by decide) rfl rfl) (ARG.s (EVs.of (EVx.name H rfl rfl rfl)) (fun _ => ARG.nil (b_lens rfl (by omega))) rfl))) (by decide +kernel) (by omega) (by omega)) (by unfold sizeLine; omega)) (pad_nil (B := (((rn + 1) - 1) * (octs b + 1))) (by omega))) rfl fun t2 => ?_
    intro m4
    have e3 : (Txt.slice tx none (some (((rn + 1) - 1) * (octs b + 1)))).length ≤ 100 := by rw [htx, slice_NS hB (by omega), S_len]; exact Nat.le_trans (List.length_take_le' ..) (Nat.le_of_lt htl)
    have e4 : (Txt.slice tx (some ((((rn + 1) - 1) * (octs b + 1)) + (octs b + 1))) none).length ≤ 100 := by rw [htx, slice_beyond (by omega), S_len]; simp
    refine RUN.setd_s (z := 2) (EVs.eq (EVs.add (EVs.add (EVs.sl_ns (EVs.of (EVx.name H rfl rfl rfl)) (EVi.of (EVx.name H rfl rfl rfl)) (by unfold sizeLine; omega)) (EVs.of (EVx.ditem (i := 1) (EVx.name H rfl rfl rfl) EVs.const rfl hd rfl)) (by unfold sizeLine; omega)) (EVs.sl_sn (EVs.of (EVx.name H rfl rfl rfl)) (EVi.add (EVi.of (EVx.name H rfl rfl rfl)) (EVi.of (EVx.name H rfl rfl rfl))) (by unfold sizeLine; omega)) (by rw [PySem.Str.length_append]; unfold sizeLine; omega)) (app_eq htx hub (by omega) hin)) (EVx.wfiles H HG (EVx.name H rfl rfl rfl)) (EVs.of (EVx.ditem (i := 1) (EVx.name H rfl rfl rfl) EVs.const rfl hd rfl)) rfl hbk (Nat.le_of_ble_eq_true rfl) fun t3 of' d3 => ?_
    intro n1
    refine RUN.setd_x (z := 1) (EVx.name H rfl rfl rfl) (EVx.name H rfl rfl rfl) EVs.const rfl hd (Nat.le_of_ble_eq_true rfl) fun ob2 d2 => ?_
    intro n2
    exact RUN.end_s (n2 := [(a.c i, ob2), (a.fl, of')]) (List.sublist_cons_self _ _) ⟨rfl, ob2, of', ⟨_, _, _, _, _, _, d2⟩, ⟨_, d3⟩, rfl⟩
end Mine
end
section
open PySem PySem.W PySem.Calls PyProof.Rows
namespace Mine
theorem t_get_x {w : World} {a : WAddr} {b room : Int} {i : Bool} {oc of : Obj} {ub tx : Str} {rn k : Int} {tc tn tf : Tok} {txt : List Nat} (hb : BITS b) (hcn : Chan w oc b ub rn) (hbk : of.IsDictOf (SKw w) [("BANK", .str tx tf)]) (h1 : 1 ≤ k) (h2 : k ≤ 32767) (htx : tx = S txt) (htl : txt.length < 100) (hin : txt.length ≤ (k - 1) * (octs b + 1)) : CTr w 5 166 [.ref a.w, .int (chn i) tc, .int k tn] [(a.c i, oc), (a.fl, of)] (WRO w a b room) (Str.ofString "EF") := by
  refine' CTr.mk [((Str.ofString "world"), .ref a.w), ((Str.ofString "channel"), .int (chn i) tc), ((Str.ofString "number"), .int k tn)] ?ho ?hcd ?hb ?hl WRO.kp ?h ?c2 ?c3 ?c4 ?c5
  case ho => with_unfolding_all rfl
  case hcd => kernel_rfl
  case hb => exact fun s => BindsTo.of_eq rfl
  case hl => rfl
  case c2 => rfl
  case c3 => rfl
  case c4 => rfl
  case c5 => decide
  case h =>
    intro A L g s E c H HT HG
    intro QQ
    have hob := octs_pos hb
    have hcn2 := hcn
    obtain ⟨x1, x2, x3, x4, x5, x6, hd⟩ := hcn2
    refine RUN.let_g H (EVg.chanR H (by decide) HG hcn (EVx.glob H (by kernel_rfl) rfl rfl) (EVx.name H rfl rfl rfl) (EVi.of (EVx.name H rfl rfl rfl))) rfl fun v n' hv => ?_
    obtain ⟨rfl, D, o, rfl⟩ := hv
    intro m1
    refine RUN.let3 H (P := fun n1 vs => n1 = [(D, o), (a.c i, oc), (a.fl, of)] ∧ vs = [.int k tn, .int (octs b + 1) x4, .str tx tf]) (ARGg.x (EVx.ofg (EVg.callR (ad := 159) [1] 1 H (by decide) (EVx.glob H (by kernel_rfl) rfl rfl) (by kernel_rfl) trivial (fun _ _ _ h => h) (ARG.x (EVx.name H rfl rfl rfl) (ARG.x (EVx.name H rfl rfl rfl) (ARG.nil (t_told_n h1 h2)) rfl) rfl))) (ARGg.x (EVx.ditem (i := 1) (EVx.name H rfl rfl rfl) EVs.const rfl hd rfl) (ARGg.x (EVx.ditem (i := 2) (EVx.wfiles H HG (EVx.name H rfl rfl rfl)) (EVs.of (EVx.ditem (i := 1) (EVx.name H rfl rfl rfl) EVs.const rfl hd rfl)) rfl hbk rfl) (ARGg.nil ⟨rfl, rfl⟩) rfl) rfl) rfl) rfl rfl rfl (fun n1 vs hv => ?_)
    obtain ⟨rfl, rfl⟩ := hv
    refine ⟨_, _, _, rfl, fun m2 hm => ?_⟩
    subst hm
    refine RUN.let_i H (EVi.mul (EVi.sub (EVi.of (EVx.name H rfl rfl rfl)) EVi.const) (EVi.of (EVx.name H rfl rfl rfl)) (IntMulOk.of_right (intBits_le_64 (by omega) (by omega)))) rfl fun t1 => ?_
    intro m3
    exact RUN.if_t (CND.eq (CND.ci (EVi.of (EVx.name H rfl rfl rfl)) (EVi.bi (EVx.built H (by kernel_rfl) boot_len (by decide) rfl rfl) (ARG.s (EVs.of (EVx.name H rfl rfl rfl)) (fun _ => ARG.nil (b_lens rfl (by rw [htx, S_len]; omega))) rfl)) CI.ge) (decide_eq_true (by rw [htx, S_len]; omega))) (RUN.raise H HT (fun p hp => List.mem_cons_of_mem _ hp) (by decide) (EVx.glob H (by kernel_rfl) rfl rfl))
theorem t_put_x {w : World} {a : WAddr} {b room : Int} {i : Bool} {oc of : Obj} {ub tx : Str} {rn k : Int} {tc tn tf tr : Tok} {txt : List Nat} (hb : BITS b) (hcn : Chan w oc b ub rn) (hbk : of.IsDictOf (SKw w) [("BANK", .str tx tf)]) (h1 : 1 ≤ k) (h2 : k ≤ 32767) (hin : room < (k - 1) * (octs b + 1) + (octs b + 1)) : CTr w 5 173 [.ref a.w, .int (chn i) tc, .int k tn, .int room tr] [(a.c i, oc), (a.fl, of)] (WRO w a b room) (Str.ofString "OM") := by
  refine' CTr.mk [((Str.ofString "world"), .ref a.w), ((Str.ofString "channel"), .int (chn i) tc), ((Str.ofString "number"), .int k tn), ((Str.ofString "room"), .int room tr)] ?ho ?hcd ?hb ?hl WRO.kp ?h ?c2 ?c3 ?c4 ?c5
  case ho => with_unfolding_all rfl
  case hcd => kernel_rfl
  case hb => exact fun s => BindsTo.of_eq rfl
  case hl => rfl
  case c2 => rfl
  case c3 => rfl
  case c4 => rfl
  case c5 => decide
  case h =>
    intro A L g s E c H HT HG
    intro QQ
    have hob := octs_pos hb
    have hcn2 := hcn
    obtain ⟨x1, x2, x3, x4, x5, x6, hd⟩ := hcn2
    refine RUN.let_g H (EVg.chanR H (by decide) HG hcn (EVx.glob H (by kernel_rfl) rfl rfl) (EVx.name H rfl rfl rfl) (EVi.of (EVx.name H rfl rfl rfl))) rfl fun v n' hv => ?_
    obtain ⟨rfl, D, o, rfl⟩ := hv
    intro m1
    refine RUN.let3 H (P := fun n1 vs => n1 = [(D, o), (a.c i, oc), (a.fl, of)] ∧ vs = [.int k tn, .int (octs b + 1) x4, .str tx tf]) (ARGg.x (EVx.ofg (EVg.callR (ad := 159) [1] 1 H (by decide) (EVx.glob H (by kernel_rfl) rfl rfl) (by kernel_rfl) trivial (fun _ _ _ h => h) (ARG.x (EVx.name H rfl rfl rfl) (ARG.x (EVx.name H rfl rfl rfl) (ARG.nil (t_told_n h1 h2)) rfl) rfl))) (ARGg.x (EVx.ditem (i := 1) (EVx.name H rfl rfl rfl) EVs.const rfl hd rfl) (ARGg.x (EVx.ditem (i := 2) (EVx.wfiles H HG (EVx.name H rfl rfl rfl)) (EVs.of (EVx.ditem (i := 1) (EVx.name H rfl rfl rfl) EVs.const rfl hd rfl)) rfl hbk rfl) (ARGg.nil ⟨rfl, rfl⟩) rfl) rfl) rfl) rfl rfl rfl (fun n1 vs hv => ?_)
    obtain ⟨rfl, rfl⟩ := hv
    refine ⟨_, _, _, rfl, fun m2 hm => ?_⟩
    subst hm
    refine RUN.let_i H (EVi.mul (EVi.sub (EVi.of (EVx.name H rfl rfl rfl)) EVi.const) (EVi.of (EVx.name H rfl rfl rfl)) (IntMulOk.of_right (intBits_le_64 (by omega) (by omega)))) rfl fun t1 => ?_
    intro m3
    exact RUN.if_t (CND.eq (CND.ci (EVi.add (EVi.of (EVx.name H rfl rfl rfl)) (EVi.of (EVx.name H rfl rfl rfl))) (EVi.of (EVx.name H rfl rfl rfl)) CI.gt) (decide_eq_true (by omega))) (RUN.raise H HT (fun p hp => List.mem_cons_of_mem _ hp) (by decide) (EVx.glob H (by kernel_rfl) rfl rfl))
end Mine
end
section
open PySem PySem.W PySem.Calls PyProof.Rows
namespace Mine
theorem oct_rng {b : Int} (hb : BITS b) : Builtin.Range.small 0 (octs b) 1 = true ∧ Builtin.Range.rangeSize 0 (octs b) 1 = (((octs b).toNat : Nat) : Int) := by rcases hb with rfl | rfl | rfl <;> exact ⟨by decide +kernel, by decide +kernel⟩
noncomputable abbrev octS (v : Int) (i : Nat) : List Str := (List.range i).map fun j => (⟨#[(v / 256 ^ j % 256).toNat]⟩ : Str)
theorem octS_S (v : Int) (i : Nat) : octS v (i + 1) = octS v i ++ [(⟨#[(v / 256 ^ i % 256).toNat]⟩ : Str)] := by simp [octS, List.range_succ]
theorem oct_shr (v : Int) (i : Nat) : (v / 256 ^ i).fdiv (2 ^ (8 : Int).toNat) = v / 256 ^ (i + 1) := by
  rw [show (2 : Int) ^ (8 : Int).toNat = 256 from rfl, Int.fdiv_eq_ediv_of_nonneg _ (by decide), Int.pow_succ, Int.ediv_ediv_of_nonneg (Int.pow_nonneg (by decide))]
theorem oct_join {b v : Int} (hb : BITS b) : Txt.join (Str.ofString "") (octS v (octs b).toNat) = S (octL b v) := by
  have j := join_S ((List.range (octs b).toNat).map fun j => [(v / 256 ^ j % 256).toNat])
  have e : ((List.range (octs b).toNat).map fun j => [(v / 256 ^ j % 256).toNat]).map S = octS v (octs b).toNat := by rw [List.map_map]; rfl
  rw [e] at j
  rw [j]
  rcases hb with rfl | rfl | rfl
  · show S [(v / 256 ^ 0 % 256).toNat] = _
    rw [show v / 256 ^ 0 = v by simp]; rfl
  · show S [(v / 256 ^ 0 % 256).toNat, (v / 256 ^ 1 % 256).toNat] = _
    rw [show v / 256 ^ 0 = v by simp, show v / 256 ^ 1 = v / 256 by simp]; rfl
  · show S [(v / 256 ^ 0 % 256).toNat, (v / 256 ^ 1 % 256).toNat] = _
    rw [show v / 256 ^ 0 = v by simp, show v / 256 ^ 1 = v / 256 by simp]; rfl
theorem octS_sum (v : Int) (i : Nat) : ((octS v i).map fun x => x.length).sum + (octS v i).length = 2 * i := by
  induction i with
  | zero => rfl
  | succ i ih => rw [octS_S, List.map_append, List.sum_append, List.length_append]; simp only [List.map_cons, List.map_nil, List.sum_cons, List.sum_nil, List.length_cons, List.length_nil]; show _ + (1 + 0) + (_ + 1) = _; omega
theorem t_to {w : World} {v b : Int} {tv tb : Tok} (hb : BITS b) : CTn w 1 314 [.int v tv, .int (octs b) tb] [] (fun _ => True) (fun u n' => (∃ t, u = .str (S (octL b v)) t) ∧ n' = []) := by
  refine' CTn.mk [((Str.ofString "number"), .int v tv), ((Str.ofString "many"), .int (octs b) tb)] ?ho ?hcd ?hb ?hl (fun _ _ _ h => h) ?h ?c2 ?c3 ?c4 ?c5
  case ho => with_unfolding_all rfl
  case hcd => kernel_rfl
  case hb => exact fun s => BindsTo.of_eq rfl
  case hl => rfl
  case c2 => rfl
  case c3 => rfl
  case c4 => rfl
  case c5 => decide
  case h =>
    intro A L g s E c H HG
    intro QQ
    refine RUN.let_g (V := fun v n' => ∃ l, v = .ref l ∧ n' = [(l, lstO [] 0)]) H (EVg.lst (P := fun n1 vs => n1 = [] ∧ vs = []) (ARGg.nil ⟨rfl, rfl⟩) (fun n1 vs hv => by obtain ⟨rfl, rfl⟩ := hv; exact ⟨Nat.zero_le _, fun D => ⟨D, rfl, rfl⟩⟩)) rfl fun v0 n0 hv => ?_
    obtain ⟨l, rfl, rfl⟩ := hv
    intro m1
    let J : Nat → Lo → Nw → Prop := fun i m1 n1 => ∃ k vs tx, m1 (Str.ofString "found") = some (.ref l) ∧ m1 (Str.ofString "number") = some (.int (v / 256 ^ i) tx) ∧ n1 = [(l, lstO vs k)] ∧ StrsAre vs (octS v i) ∧ vs.length = i
    refine RUN.for_w J H (ITR.rng (N := (octs b).toNat) H (EVr.r1 (EVx.built H (by kernel_rfl) boot_range (by decide) rfl rfl) (EVi.of (EVx.name H rfl rfl rfl)) (oct_rng hb).1 (oct_rng hb).2)) ⟨0, [], tv, rfl, by show some _ = some _; rw [Int.pow_zero, Int.ediv_one], rfl, .nil, rfl⟩ (fun _ _ _ _ p hp => nomatch hp) (fun i T v' m2 n2 h2 hi hJ hV S2 => ?_) (fun m1 n1 hJ => ?_)
    · obtain ⟨k, vs, tx, e1, e2, rfl, hy, hl⟩ := hJ
      obtain ⟨t, rfl⟩ := hV
      refine ⟨_, TGT.name H rfl, ?_⟩
      refine RUN.append (z := 0) (EVx.name H e1 rfl rfl) (EVs.bi (EVx.built H (by kernel_rfl) boot_chr (by decide) rfl rfl) (ARG.i (EVi.and255 (EVi.of (EVx.name H e2 rfl rfl)) EVi.const) (fun _ => ARG.nil (b_chr (Int.emod_nonneg _ (by decide)) (by have := Int.emod_lt_of_pos (v / 256 ^ i) (show (0 : Int) < 256 by decide); omega))) rfl)) rfl (by have := octs_pos hb; unfold sizeLine; omega) (fun t2 => ?_) (fun _ _ _ q => MethodCall_ (wpAny_mono q (fun _ _ z => z _) (fun _ _ z => z))) rfl rfl rfl
      intro n3
      refine RUN.let_i H (EVi.shr (EVi.of (EVx.name H e2 rfl rfl)) EVi.const (by decide)) rfl fun t3 => ?_
      intro m3
      exact RUN.turnW (n2 := [(l, lstO (vs ++ [.str _ t2]) (k + 1))]) (List.Sublist.refl _) ⟨k + 1, _, t3, e1, by show some _ = some _; rw [oct_shr], rfl, by rw [octS_S]; exact StrsAre.snoc hy _ _, by simp [hl]⟩
    · obtain ⟨k, vs, tx, e1, e2, rfl, hy, hl⟩ := hJ
      exact RUN.ret_nss (List.nil_sublist _) (EVs.eq (EVs.join (z := 0) (EVx.name H e1 rfl rfl) rfl hy (by decide +kernel) (by rw [octS_sum]; have := octs_pos hb; omega) (fun _ _ _ q => MethodCall_ (wpAny_mono q (fun _ _ z => z _) (fun _ _ z => z))) rfl) (oct_join hb)) (fun t => ⟨⟨t, rfl⟩, rfl⟩)
end Mine
end
section
open PySem PySem.W PySem.Calls PyProof.Rows
namespace Mine
theorem t_wo_i {w : World} {b x : Int} {tx tb : Tok} (hb : BITS b) (hf : fitsB b x = true) : CTi w 2 79 [.int x tx, .int b tb] (x) := by
  refine' CTi.mk [((Str.ofString "value"), .int x tx), ((Str.ofString "bits"), .int b tb)] ?ho ?hcd ?hb ?hl ?h ?c2 ?c3 ?c4 ?c5
  case ho => with_unfolding_all rfl
  case hcd => kernel_rfl
  case hb => exact fun s => BindsTo.of_eq rfl
  case hl => rfl
  case c2 => rfl
  case c3 => rfl
  case c4 => rfl
  case c5 => decide
  case h =>
    intro A L g s E c H
    intro QQ
    exact RUN.if_f (CND.of (EVx.bi (EVx.built H (by kernel_rfl) boot_isinstance (by decide) rfl rfl) (ARG.i (EVi.of (EVx.name H rfl rfl rfl)) (fun _ => (ARG.x (EVx.built H (by kernel_rfl) (by decide +kernel) (by decide) rfl rfl) (ARG.nil ii_str) rfl)) rfl))) (RUN.let_x H (EVx.ife_f (CND.of (EVx.bi (EVx.built H (by kernel_rfl) boot_isinstance (by decide) rfl rfl) (ARG.i (EVi.of (EVx.name H rfl rfl rfl)) (fun _ => (ARG.x (EVx.built H (by kernel_rfl) (by decide +kernel) (by decide) rfl rfl) (ARG.nil ii_tup) rfl)) rfl))) (EVx.name H rfl rfl rfl)) rfl (RUN.if_f (CND.eq (CND.not (CND.of (EVx.call (a := 72) 1 H (by decide) (EVx.glob H (by kernel_rfl) rfl rfl) (by kernel_rfl) (ARG.i (EVi.of (EVx.name H rfl rfl rfl)) (fun t0 => (ARG.i (EVi.of (EVx.name H rfl rfl rfl)) (fun t1 => ARG.nil (t_fits hb)) rfl)) rfl)))) (by rw [hf]; rfl)) (RUN.ret_i (EVi.of (EVx.name H rfl rfl rfl)))))
theorem t_mki {w : World} {a : WAddr} {b room x : Int} {l : Addr} {tx : Tok} {k : Nat} (hb : BITS b) (hf : fitsB b x = true) : CTn w 3 328 [.ref a.w, .ref l] [(l, lstO [.int x tx] k)] (WRO w a b room) (fun u n' => (∃ t, u = .str (S (octL b x)) t) ∧ n' = [(l, lstO [.int x tx] k)]) := by
  refine' CTn.mk [((Str.ofString "world"), .ref a.w), ((Str.ofString "args"), .ref l)] ?ho ?hcd ?hb ?hl WRO.kp ?h ?c2 ?c3 ?c4 ?c5
  case ho => with_unfolding_all rfl
  case hcd => kernel_rfl
  case hb => exact fun s => BindsTo.of_eq rfl
  case hl => rfl
  case c2 => rfl
  case c3 => rfl
  case c4 => rfl
  case c5 => decide
  case h =>
    intro A L g s E c H HG
    intro QQ
    exact RUN.ret_ns (EVs.ofg (EVg.callR (ad := 314) [] 1 H (by decide) (EVx.glob H (by kernel_rfl) rfl rfl) (by kernel_rfl) trivial (fun _ _ _ h => h) (ARG.i (EVi.call (a := 79) 2 H (by decide) (EVx.glob H (by kernel_rfl) rfl rfl) (by kernel_rfl) (ARG.x (EVx.item (i := 0) (j := 0) (EVx.name H rfl rfl rfl) EVi.const rfl (by decide) (by decide) rfl) (ARG.i (EVi.wbits H HG (EVx.name H rfl rfl rfl)) (fun _ => ARG.nil (t_wo_i hb hf)) rfl) rfl)) (fun _ => ARG.i (EVi.call (a := 307) 1 H (by decide) (EVx.glob H (by kernel_rfl) rfl rfl) (by kernel_rfl) (ARG.i (EVi.wbits H HG (EVx.name H rfl rfl rfl)) (fun _ => ARG.nil (t_octb hb)) rfl)) (fun _ => ARG.nil (t_to hb)) rfl) rfl))) (fun t => ⟨⟨t, rfl⟩, rfl⟩)
end Mine
end
section
open PySem PySem.W PySem.Calls PyProof.Rows
namespace Mine
theorem ten_mul {cc e : Int} (h0 : 0 ≤ e) (h1 : e ≤ 5) : IntMulOk cc (10 ^ e.toNat) := by
  obtain ⟨n, rfl⟩ := Int.eq_ofNat_of_zero_le h0
  exact IntMulOk.of_right ((show ∀ n, n ≤ 5 → Builtin.Int.intBits ((10 : Int) ^ n) ≤ 64 by decide +kernel) n (Int.ofNat_le.mp h1))
theorem t_near {w : World} {p : Addr} {cc e : Int} {t1 t2 : Tok} {k : Nat} (h0 : 0 ≤ e) (h1 : e ≤ 5) : CTn w 1 65 [.ref p] [(p, tupO [.int cc t1, .int e t2] k)] (fun _ => True) (fun u n' => (∃ t, u = .int (cc * 10 ^ e.toNat) t) ∧ n' = [(p, tupO [.int cc t1, .int e t2] k)]) := by
  refine' CTn.mk [((Str.ofString "value"), .ref p)] ?ho ?hcd ?hb ?hl (fun _ _ _ h => h) ?h ?c2 ?c3 ?c4 ?c5
  case ho => with_unfolding_all rfl
  case hcd => kernel_rfl
  case hb => exact fun s => BindsTo.of_eq rfl
  case hl => rfl
  case c2 => rfl
  case c3 => rfl
  case c4 => rfl
  case c5 => decide
  case h =>
    intro A L g s E c H HG
    intro QQ
    refine RUN.unp2 H (EVx.name H rfl rfl rfl) (fun h S => S.isTup (i := 0) rfl) rfl rfl ?_ (fun _ _ _ q => Assign_Tuple q)
    intro m1
    exact RUN.if_t (CND.eq (CND.ci (EVi.of (EVx.name H rfl rfl rfl)) EVi.const CI.ge) (decide_eq_true h0)) (RUN.ret_n' _ (EVi.mul (EVi.of (EVx.name H rfl rfl rfl)) (EVi.pow EVi.const (EVi.of (EVx.name H rfl rfl rfl)) h0 (by omega) (by decide)) (ten_mul h0 h1)) (fun t => ⟨⟨t, rfl⟩, rfl⟩) (fun _ _ h => h))
end Mine
end
section
open PySem PySem.W PySem.Calls PyProof.Rows
namespace Mine
theorem t_wo_x {w : World} {p : Addr} {cc e b : Int} {t1 t2 tb : Tok} {k : Nat} (hb : BITS b) (h0 : 0 ≤ e) (h1 : e ≤ 5) (hf : fitsB b (cc * 10 ^ e.toNat) = false) : CTr w 5 79 [.ref p, .int b tb] [(p, tupO [.int cc t1, .int e t2] k)] (fun _ => True) (Str.ofString "OV") := by
  refine' CTr.mk [((Str.ofString "value"), .ref p), ((Str.ofString "bits"), .int b tb)] ?ho ?hcd ?hb ?hl (fun _ _ _ h => h) ?h ?c2 ?c3 ?c4 ?c5
  case ho => with_unfolding_all rfl
  case hcd => kernel_rfl
  case hb => exact fun s => BindsTo.of_eq rfl
  case hl => rfl
  case c2 => rfl
  case c3 => rfl
  case c4 => rfl
  case c5 => decide
  case h =>
    intro A L g s E c H HT HG
    intro QQ
    refine RUN.if_f (CND.of (EVx.bih (EVx.built H (by kernel_rfl) boot_isinstance (by decide) rfl rfl) (ARG.x (EVx.name H rfl rfl rfl) (ARG.x (EVx.built (v := .type "str") H (by kernel_rfl) (by decide +kernel) (by decide) rfl rfl) (ARG.nil (b_isit (i := 0) H rfl (by kernel_rfl))) rfl) rfl))) ?_
    refine RUN.let_i H (EVi.ife_t (CND.of (EVx.bih (EVx.built H (by kernel_rfl) boot_isinstance (by decide) rfl rfl) (ARG.x (EVx.name H rfl rfl rfl) (ARG.x (EVx.built (v := .type "tuple") H (by kernel_rfl) (by decide +kernel) (by decide) rfl rfl) (ARG.nil (b_isit (i := 0) H rfl (by kernel_rfl))) rfl) rfl))) (EVi.ofg (EVg.callR (ad := 65) [0] 1 H (by decide) (EVx.glob H (by kernel_rfl) rfl rfl) (by kernel_rfl) trivial (fun _ _ _ h => h) (ARG.x (EVx.name H rfl rfl rfl) (ARG.nil (t_near h0 h1)) rfl)))) rfl fun t3 => ?_
    intro m1
    exact RUN.if_t (CND.eq (CND.not (CND.of (EVx.call (a := 72) 1 H (by decide) (EVx.glob H (by kernel_rfl) rfl rfl) (by kernel_rfl) (ARG.i (EVi.of (EVx.name H rfl rfl rfl)) (fun t0 => (ARG.i (EVi.of (EVx.name H rfl rfl rfl)) (fun t1 => ARG.nil (t_fits hb)) rfl)) rfl)))) (by rw [hf]; rfl)) (RUN.raise H HT (fun q hq => hq) (by decide) (EVx.glob H (by kernel_rfl) rfl rfl))
end Mine
end
section
open PySem PySem.W PySem.Calls PyProof.Rows
namespace Mine
theorem t_figures {w : World} {v : Int} {tv : Tok} (h9 : v < 1000000) : CTn w 1 44 [.int v tv] [] (fun _ => True) (fun u n' => ∃ (k : Int) (t : Tok), 1 ≤ k ∧ k ≤ 6 ∧ u = .int k t ∧ n' = []) := by
  refine' CTn.mk [((Str.ofString "number"), .int v tv)] ?ho ?hcd ?hb ?hl (fun _ _ _ h => h) ?h ?c2 ?c3 ?c4 ?c5
  case ho => with_unfolding_all rfl
  case hcd => kernel_rfl
  case hb => exact fun s => BindsTo.of_eq rfl
  case hl => rfl
  case c2 => rfl
  case c3 => rfl
  case c4 => rfl
  case c5 => decide
  case h =>
    intro A L g s E c H HG
    intro QQ
    refine RUN.unp2g (P := fun v1 v2 => ∃ t1 t2, v1 = .int 1 t1 ∧ v2 = .int 10 t2) H (EVg.tup (P := fun n1 vs => n1 = [] ∧ ∃ t1 t2, vs = [.int 1 t1, .int 10 t2]) (ARGg.i EVi.const (fun t1 => ARGg.i EVi.const (fun t2 => ARGg.nil ⟨rfl, t1, t2, rfl⟩) rfl) rfl) (fun n1 vs hv => by obtain ⟨rfl, t1, t2, rfl⟩ := hv; exact ⟨Nat.le_of_ble_eq_true rfl, fun D => ⟨D, _, _, rfl, rfl, t1, t2, rfl, rfl⟩⟩)) rfl rfl (fun v1 v2 hv => ?_) (fun _ _ _ q => Assign_Tuple q)
    obtain ⟨t1, t2, rfl, rfl⟩ := hv
    intro m1
    refine RUN.while (fun k m1 n1 => ∃ (j : Nat) (a1 a2 : Tok), k = 7 - j ∧ 1 ≤ j ∧ j ≤ 6 ∧ m1 (Str.ofString "number") = some (.int v tv) ∧ m1 (Str.ofString "many") = some (.int j a1) ∧ m1 (Str.ofString "bound") = some (.int (10 ^ j) a2) ∧ n1 = []) 6 H ⟨1, t1, t2, rfl, by omega, by omega, rfl, rfl, rfl, rfl⟩ (fun k m1 n1 hI => ?_)
    obtain ⟨j, a1, a2, rfl, j1, j6, e1, e2, e3, rfl⟩ := hI
    by_cases q : (10 : Int) ^ j ≤ v
    · refine .inl ⟨CND.eq (CND.ci (EVi.of (EVx.name H e3 rfl rfl)) (EVi.of (EVx.name H e1 rfl rfl)) CI.le) (decide_eq_true q), ?_⟩
      have j5 : j ≤ 5 := by
        rcases Nat.lt_or_ge j 6 with z | z
        · omega
        · exfalso
          have : j = 6 := by omega
          subst this
          have : (10 : Int) ^ 6 = 1000000 := by decide
          omega
      refine RUN.aug (z := 10 ^ (j + 1)) H rfl e3 EVi.const (fun t u s Q q => imul_int (by rw [Int.pow_succ] at q; exact q _ _) (IntMulOk.of_right (by decide +kernel))) fun t3 => ?_
      intro m2
      refine RUN.aug (z := ((j + 1 : Nat) : Int)) H rfl (show m2 _ = _ from e2) EVi.const (fun t u s Q q => iadd_int (q _ _)) fun t4 => ?_
      intro m3
      exact RUN.wturn (j := 7 - (j + 1)) (by omega) ⟨j + 1, t4, t3, rfl, by omega, by omega, e1, rfl, rfl, rfl⟩
    · exact .inr ⟨CND.eq (CND.ci (EVi.of (EVx.name H e3 rfl rfl)) (EVi.of (EVx.name H e1 rfl rfl)) CI.le) (decide_eq_false q), RUN.ret_n (EVi.of (EVx.name H e2 rfl rfl)) (fun t => ⟨j, t, by omega, by omega, rfl, rfl⟩)⟩
end Mine
end
section
open PySem PySem.W PySem.Calls PyProof.Rows
namespace Mine
section
variable {c : Cx} {m : Lo} {n : Nw} {r : Nat}
theorem EVg.subi {a b : PySem.Expr} {p : Pos} {y : Int} {K : Int → Prop} {f : Int → Int} (ha : EVg c m n a fun u n' => ∃ k t, K k ∧ u = .int (f k) t ∧ n' = n) (hb : EVi c m n b y) : EVg c m n (.BinOp a .Sub b p) fun u n' => ∃ k t, K k ∧ u = .int (f k - y) t ∧ n' = n :=
  fun h k Q S q => wpAny_BinOp (ha h k _ S fun u n' h1 k1 hv S1 => by
    obtain ⟨k, t, hK, rfl, rfl⟩ := hv
    exact hb h1 k1 _ S1 fun u h2 k2 S2 => sub_int (q _ _ h2 _ ⟨k, _, hK, rfl, rfl⟩ S2))
theorem EVg.addi {a b : PySem.Expr} {p : Pos} {x : Int} {K : Int → Prop} (ha : EVi c m n a x) (hb : EVg c m n b fun u n' => ∃ k t, K k ∧ u = .int k t ∧ n' = n) : EVg c m n (.BinOp a .Add b p) fun u n' => ∃ k t, K k ∧ u = .int (x + k) t ∧ n' = n :=
  fun h k Q S q => wpAny_BinOp (ha h k _ S fun t0 h1 k1 S1 => hb h1 k1 _ S1 fun u n' h2 k2 hv S2 => by
    obtain ⟨k, t, hK, rfl, rfl⟩ := hv
    exact add_int (q _ _ h2 _ ⟨k, _, hK, rfl, rfl⟩ S2))
theorem EVg.figs {f e : PySem.Expr} {p : Pos} {v : Int} (H : Ok c r) (hr : 1 < r) (hf : EVx c m n f (.ref 44)) (he : EVi c m n e v) (h9 : v < 1000000)
    (h0 : autoParam (eval (f.Call [e] [] p) c.env = (eval f c.env >>= fun fv => callWith p fv [] (backTo p (starEach [e] c.env)) (backToKw p (keywordEach [] c.env)))) rflT)
    (hs : autoParam (starEach [e] c.env = (false, eval e c.env) :: starEach [] c.env) rflT) : EVg c m n (.Call f [e] [] p) fun u n' => ∃ k t, (1 ≤ k ∧ k ≤ 6) ∧ u = .int k t ∧ n' = n := by
  have pn : ∀ (k : Nat) (l : Nw), pick [] k l = [] := fun k l => pick_ge l (by simp)
  have rn : ∀ (k : Nat) (l : Nw), rest [] k l = l := fun k l => rest_ge l (by simp)
  refine EVg.mono (EVg.call [] 1 H hr hf (by kernel_rfl) (ARG.i he (fun t => ARG.nil (by rw [pn]; exact t_figures h9)) hs) trivial (fun _ _ _ h => h) h0 hs rfl) fun v n' hv => ?_
  obtain ⟨n2, ⟨k, t, h1, h2, rfl, rfl⟩, rfl⟩ := hv
  rw [rn]
  exact ⟨k, t, ⟨h1, h2⟩, rfl, rfl⟩
end
noncomputable def DecOf (x : Int) (u : Value) (n' : Nw) : Prop := ∃ p cc e t1 t2, u = .ref p ∧ n' = [(p, tupO [.int cc t1, .int e t2] 0)] ∧ 0 ≤ e ∧ e ≤ 5 ∧ cc * 10 ^ e.toNat = x
theorem dec_sign {x X sz e : Int} (hX : X = if x < 0 then -x else x) (h : sz * 10 ^ e.toNat = X) : (if x < 0 then -sz else sz) * 10 ^ e.toNat = x := by
  split at hX
  · rename_i q; rw [if_pos q, Int.neg_mul, h, hX]; omega
  · rename_i q; rw [if_neg q, h, hX]
theorem t_made {w : World} {x : Int} {tx t0 t9 : Tok} (h0 : x ≠ 0) (h1 : -300000 < x) (h2 : x < 300000) : CTn w 3 58 [.int x tx, .int 0 t0, .int 9 t9] [] (fun _ => True) (DecOf x) := by
  refine' CTn.mk [((Str.ofString "coefficient"), .int x tx), ((Str.ofString "exponent"), .int 0 t0), ((Str.ofString "digits"), .int 9 t9)] ?ho ?hcd ?hb ?hl (fun _ _ _ h => h) ?h ?c2 ?c3 ?c4 ?c5
  case ho => with_unfolding_all rfl
  case hcd => kernel_rfl
  case hb => exact fun s => BindsTo.of_eq rfl
  case hl => rfl
  case c2 => rfl
  case c3 => rfl
  case c4 => rfl
  case c5 => decide
  case h =>
    intro A L g s E c H HG
    intro QQ
    obtain ⟨X, hX⟩ : ∃ X, (if x < 0 then -x else x) = X := ⟨_, rfl⟩
    refine RUN.let_i H (EVi.eq (EVi.bi (EVx.built H (by kernel_rfl) boot_abs (by decide) rfl rfl) (ARG.i (EVi.of (EVx.name H rfl rfl rfl)) (fun _ => ARG.nil b_abs) rfl)) hX) rfl fun t1 => ?_
    intro m1
    have hX0 : 0 < X ∧ X < 300000 := by rw [← hX]; constructor <;> split <;> omega
    refine RUN.let_g H (EVg.subi (f := fun k => k) (EVg.figs H (by decide) (EVx.glob H (by kernel_rfl) rfl rfl) (EVi.of (EVx.name H rfl rfl rfl)) (by omega)) (EVi.of (EVx.name H rfl rfl rfl))) rfl fun v n' hv => ?_
    obtain ⟨k, t2, hk, rfl, rfl⟩ := hv
    intro m2
    refine RUN.if_f (CND.eq (CND.ci (EVi.of (EVx.name H rfl rfl rfl)) EVi.const CI.gt) (decide_eq_false (by omega))) ?_
    refine RUN.if_f (CND.eq (CND.ci (EVi.of (EVx.name H rfl rfl rfl)) EVi.const CI.eq) (by rw [beq_eq_false_iff_ne]; omega)) ?_
    refine RUN.while (fun k m1 n1 => ∃ (sz e : Int) (a1 a2 : Tok), k = sz.toNat ∧ (0 < sz ∧ sz < 300000 ∧ 0 ≤ e ∧ e ≤ 5 ∧ sz * 10 ^ e.toNat = X) ∧ m1 (Str.ofString "size") = some (.int sz a1) ∧ m1 (Str.ofString "exponent") = some (.int e a2) ∧ m1 (Str.ofString "coefficient") = some (.int x tx) ∧ n1 = []) X.toNat H ⟨X, 0, t1, t0, rfl, ⟨hX0.1, hX0.2, by decide, by decide, by simp⟩, rfl, rfl, rfl, rfl⟩ (fun k m1 n1 hI => ?_)
    obtain ⟨sz, e, a1, a2, rfl, hs, e1, e2, e3, rfl⟩ := hI
    by_cases q : sz.fmod 10 = 0
    · have hd := div10 hX0.2 hs q
      refine .inl ⟨CND.eq (CND.ci (EVi.mod (EVi.of (EVx.name H e1 rfl rfl)) EVi.const (by decide)) EVi.const CI.eq) (by rw [q]; rfl), ?_⟩
      refine RUN.let2 H (P := fun vs => ∃ t1 t2, vs = [.int (sz.fdiv 10) t1, .int (e + 1) t2]) (ARG.i (EVi.fdiv (EVi.of (EVx.name H e1 rfl rfl)) EVi.const (by decide) (PyProof.noPylong_small (by decide))) (fun t1 => ARG.i (EVi.add (EVi.of (EVx.name H e2 rfl rfl)) EVi.const) (fun t2 => ARG.nil ⟨t1, t2, rfl⟩) rfl) rfl) rfl rfl (fun vs hv => ?_)
      obtain ⟨t3, t4, rfl⟩ := hv
      refine ⟨_, _, rfl, fun m3 hm => ?_⟩
      subst hm
      exact RUN.wturn (div10m hs.1) ⟨_, _, t3, t4, rfl, hd, rfl, rfl, e3, rfl⟩
    · refine .inr ⟨CND.eq (CND.ci (EVi.mod (EVi.of (EVx.name H e1 rfl rfl)) EVi.const (by decide)) EVi.const CI.eq) (by rw [beq_eq_false_iff_ne]; exact q), ?_⟩
      refine RUN.let_g H (EVg.subi (f := fun k => e + k) (EVg.addi (EVi.of (EVx.name H e2 rfl rfl)) (EVg.figs H (by decide) (EVx.glob H (by kernel_rfl) rfl rfl) (EVi.of (EVx.name H e1 rfl rfl)) (by omega))) EVi.const) rfl fun v n' hv => ?_
      obtain ⟨k, t2, hk, rfl, rfl⟩ := hv
      intro m3
      refine RUN.if_f (CND.eq (CND.ci (EVi.of (EVx.name H rfl rfl rfl)) (EVi.of (EVx.glob H (by with_unfolding_all rfl) rfl rfl)) CI.gt) (decide_eq_false (by omega))) ?_
      refine RUN.if_f (CND.eq (CND.ci (EVi.of (EVx.name H rfl rfl rfl)) (EVi.neg (EVi.of (EVx.glob H (by with_unfolding_all rfl) rfl rfl))) CI.lt) (decide_eq_false (by omega))) ?_
      refine RUN.ret_g (EVg.tup (P := fun n1 vs => n1 = [] ∧ ∃ t1 t2, vs = [.int (if x < 0 then -sz else sz) t1, .int e t2]) (ARGg.i ?_ (fun t1 => ARGg.i (EVi.of (EVx.name H (show m3 _ = _ from e2) rfl rfl)) (fun t2 => ARGg.nil ⟨rfl, t1, t2, rfl⟩) rfl) rfl) (fun n1 vs hv => ?_))
      · by_cases q2 : x < 0
        · rw [if_pos q2]; exact EVi.ife_t (CND.eq (CND.ci (EVi.of (EVx.name H (show m3 _ = _ from e3) rfl rfl)) EVi.const CI.lt) (decide_eq_true q2)) (EVi.neg (EVi.of (EVx.name H (show m3 _ = _ from e1) rfl rfl)))
        · rw [if_neg q2]; exact EVi.ife_f (CND.eq (CND.ci (EVi.of (EVx.name H (show m3 _ = _ from e3) rfl rfl)) EVi.const CI.lt) (decide_eq_false q2)) (EVi.of (EVx.name H (show m3 _ = _ from e1) rfl rfl))
      · obtain ⟨rfl, t1, t2, rfl⟩ := hv
        exact ⟨Nat.le_of_ble_eq_true rfl, fun D => ⟨D, _, _, t1, t2, rfl, rfl, hs.2.2.1, hs.2.2.2.1, dec_sign hX.symm hs.2.2.2.2⟩⟩
theorem t_set_t {w : World} {b x : Int} {tb tx td : Tok} (hb : BITS b) (h0 : x ≠ 0) (h1 : -300000 < x) (h2 : x < 300000) (hf : fitsB b (x) = false) : CTn w 4 251 [.int x tx, .int b tb, .int 9 td] [] (fun _ => True) (DecOf x) := by
  refine' CTn.mk [((Str.ofString "number"), .int x tx), ((Str.ofString "bits"), .int b tb), ((Str.ofString "digits"), .int 9 td)] ?ho ?hcd ?hb ?hl (fun _ _ _ h => h) ?h ?c2 ?c3 ?c4 ?c5
  case ho => with_unfolding_all rfl
  case hcd => kernel_rfl
  case hb => exact fun s => BindsTo.of_eq rfl
  case hl => rfl
  case c2 => rfl
  case c3 => rfl
  case c4 => rfl
  case c5 => decide
  case h =>
    intro A L g s E c H HG
    intro QQ
    exact RUN.ret_g (EVg.ife_f (CND.of (EVx.call (a := 72) 1 H (by decide) (EVx.glob H (by kernel_rfl) rfl rfl) (by kernel_rfl) (ARG.i (EVi.of (EVx.name H rfl rfl rfl)) (fun t0 => (ARG.i (EVi.of (EVx.name H rfl rfl rfl)) (fun t1 => ARG.nil (hf ▸ t_fits hb)) rfl)) rfl))) (EVg.mono (EVg.call (a := 58) [] 3 H (by decide) (EVx.glob H (by kernel_rfl) rfl rfl) (by kernel_rfl) (ARG.i (EVi.of (EVx.name H rfl rfl rfl)) (fun _ => ARG.i EVi.const (fun _ => ARG.i (EVi.of (EVx.name H rfl rfl rfl)) (fun _ => ARG.nil (t_made h0 h1 h2)) rfl) rfl) rfl) trivial (fun _ _ _ h => h)) (fun v n' hv => by obtain ⟨n2, h, rfl⟩ := hv; have e : n2 ++ rest [] 0 [] = n2 := List.append_nil n2; rw [e]; exact h)))
theorem t_wr_add_t {w : World} {b x y : Int} {to tb tx ty td : Tok} (hb : BITS b) (h0 : (x + y) ≠ 0) (h1 : -300000 < (x + y)) (h2 : (x + y) < 300000) (hf : fitsB b ((x + y)) = false) : CTn w 5 258 [.str (Str.ofString "+") to, .int x tx, .int y ty, .int b tb, .int 9 td] [] (fun _ => True) (DecOf (x + y)) := by
  refine' CTn.mk [((Str.ofString "op"), .str (Str.ofString "+") to), ((Str.ofString "a"), .int x tx), ((Str.ofString "b"), .int y ty), ((Str.ofString "bits"), .int b tb), ((Str.ofString "digits"), .int 9 td)] ?ho ?hcd ?hb ?hl (fun _ _ _ h => h) ?h ?c2 ?c3 ?c4 ?c5
  case ho => with_unfolding_all rfl
  case hcd => kernel_rfl
  case hb => exact fun s => BindsTo.of_eq rfl
  case hl => rfl
  case c2 => rfl
  case c3 => rfl
  case c4 => rfl
  case c5 => decide
  case h =>
    intro A L g s E c H HG
    intro QQ
    exact RUN.if_t (CND.cs (EVs.of (EVx.name H rfl rfl rfl)) EVs.const (CS.eq rfl)) (RUN.ret_g' (P := DecOf (x + y)) (EVg.mono (EVg.call (a := 251) [] 4 H (by decide) (EVx.glob H (by kernel_rfl) rfl rfl) (by kernel_rfl) (ARG.i (EVi.add (EVi.of (EVx.name H rfl rfl rfl)) (EVi.of (EVx.name H rfl rfl rfl))) (fun _ => ARG.i (EVi.of (EVx.name H rfl rfl rfl)) (fun _ => ARG.i (EVi.of (EVx.name H rfl rfl rfl)) (fun _ => ARG.nil (t_set_t hb h0 h1 h2 hf)) rfl) rfl) rfl) trivial (fun _ _ _ h => h)) (fun v n' hv => by obtain ⟨n2, h, rfl⟩ := hv; have e : n2 ++ rest [] 0 [] = n2 := List.append_nil n2; rw [e]; exact h)) (fun _ _ h => h))
theorem t_wr_sub_t {w : World} {b x y : Int} {to tb tx ty td : Tok} (hb : BITS b) (h0 : (x - y) ≠ 0) (h1 : -300000 < (x - y)) (h2 : (x - y) < 300000) (hf : fitsB b ((x - y)) = false) : CTn w 5 258 [.str (Str.ofString "-") to, .int x tx, .int y ty, .int b tb, .int 9 td] [] (fun _ => True) (DecOf (x - y)) := by
  refine' CTn.mk [((Str.ofString "op"), .str (Str.ofString "-") to), ((Str.ofString "a"), .int x tx), ((Str.ofString "b"), .int y ty), ((Str.ofString "bits"), .int b tb), ((Str.ofString "digits"), .int 9 td)] ?ho ?hcd ?hb ?hl (fun _ _ _ h => h) ?h ?c2 ?c3 ?c4 ?c5
  case ho => with_unfolding_all rfl
  case hcd => kernel_rfl
  case hb => exact fun s => BindsTo.of_eq rfl
  case hl => rfl
  case c2 => rfl
  case c3 => rfl
  case c4 => rfl
  case c5 => decide
  case h =>
    intro A L g s E c H HG
    intro QQ
    exact RUN.if_f (CND.cs (EVs.of (EVx.name H rfl rfl rfl)) EVs.const (CS.eq rfl)) (RUN.ret_g (EVg.mono (EVg.call (a := 251) [] 4 H (by decide) (EVx.glob H (by kernel_rfl) rfl rfl) (by kernel_rfl) (ARG.i (EVi.ife_t (CND.cs (EVs.of (EVx.name H rfl rfl rfl)) EVs.const (CS.eq rfl)) (EVi.sub (EVi.of (EVx.name H rfl rfl rfl)) (EVi.of (EVx.name H rfl rfl rfl)))) (fun _ => ARG.i (EVi.of (EVx.name H rfl rfl rfl)) (fun _ => ARG.i (EVi.of (EVx.name H rfl rfl rfl)) (fun _ => ARG.nil (t_set_t hb h0 h1 h2 hf)) rfl) rfl) rfl) trivial (fun _ _ _ h => h)) (fun v n' hv => by obtain ⟨n2, h, rfl⟩ := hv; have e : n2 ++ rest [] 0 [] = n2 := List.append_nil n2; rw [e]; exact h)))
theorem t_rk_add_t {w : World} {b x y : Int} {to tb tx ty td : Tok} (hb : BITS b) (h0 : (x + y) ≠ 0) (h1 : -300000 < (x + y)) (h2 : (x + y) < 300000) (hf : fitsB b ((x + y)) = false) : CTn w 6 300 [.str (Str.ofString "+") to, .int x tx, .int y ty, .int b tb, .int 9 td] [] (fun _ => True) (DecOf (x + y)) := by
  refine' CTn.mk [((Str.ofString "op"), .str (Str.ofString "+") to), ((Str.ofString "a"), .int x tx), ((Str.ofString "b"), .int y ty), ((Str.ofString "bits"), .int b tb), ((Str.ofString "digits"), .int 9 td)] ?ho ?hcd ?hb ?hl (fun _ _ _ h => h) ?h ?c2 ?c3 ?c4 ?c5
  case ho => with_unfolding_all rfl
  case hcd => kernel_rfl
  case hb => exact fun s => BindsTo.of_eq rfl
  case hl => rfl
  case c2 => rfl
  case c3 => rfl
  case c4 => rfl
  case c5 => decide
  case h =>
    intro A L g s E c H HG
    intro QQ
    exact RUN.let2 H (ARG.x (EVx.call (a := 244) 1 H (by decide) (EVx.glob H (by kernel_rfl) rfl rfl) (by kernel_rfl) (ARG.i (EVi.of (EVx.name H rfl rfl rfl)) (fun t0 => ARG.nil (t_isw)) rfl)) (ARG.x (EVx.call (a := 244) 1 H (by decide) (EVx.glob H (by kernel_rfl) rfl rfl) (by kernel_rfl) (ARG.i (EVi.of (EVx.name H rfl rfl rfl)) (fun t0 => ARG.nil (t_isw)) rfl)) (ARG.nil rfl) rfl) rfl) rfl rfl (fun vs hv => ⟨_, _, hv.symm, fun m' hm => by
      subst hm
      exact RUN.if_f (CND.cs (EVs.of (EVx.name H rfl rfl rfl)) EVs.const (CS.eq rfl)) (RUN.if_f (CND.bo (CNB.of (CND.cs (EVs.of (EVx.name H rfl rfl rfl)) EVs.const (CS.eq rfl)) (CNB.of (CND.cs (EVs.of (EVx.name H rfl rfl rfl)) EVs.const (CS.eq rfl)) CNB.on))) (RUN.if_t (CND.bo (CNB.at (CND.cs (EVs.of (EVx.name H rfl rfl rfl)) EVs.const (CS.ne rfl)) (CNB.at (CND.of (EVx.name H rfl rfl rfl)) (CNB.at (CND.of (EVx.name H rfl rfl rfl)) CNB.an)))) (RUN.ret_g' (P := DecOf (x + y)) (EVg.mono (EVg.call (a := 258) [] 5 H (by decide) (EVx.glob H (by kernel_rfl) rfl rfl) (by kernel_rfl) (ARG.s (EVs.of (EVx.name H rfl rfl rfl)) (fun _ => ARG.i (EVi.of (EVx.name H rfl rfl rfl)) (fun _ => ARG.i (EVi.of (EVx.name H rfl rfl rfl)) (fun _ => ARG.i (EVi.of (EVx.name H rfl rfl rfl)) (fun _ => ARG.i (EVi.of (EVx.name H rfl rfl rfl)) (fun _ => ARG.nil (t_wr_add_t hb h0 h1 h2 hf)) rfl) rfl) rfl) rfl) rfl) trivial (fun _ _ _ h => h)) (fun v n' hv => by obtain ⟨n2, h, rfl⟩ := hv; have e : n2 ++ rest [] 0 [] = n2 := List.append_nil n2; rw [e]; exact h)) (fun _ _ h => h))))⟩)
theorem t_rk_sub_t {w : World} {b x y : Int} {to tb tx ty td : Tok} (hb : BITS b) (h0 : (x - y) ≠ 0) (h1 : -300000 < (x - y)) (h2 : (x - y) < 300000) (hf : fitsB b ((x - y)) = false) : CTn w 6 300 [.str (Str.ofString "-") to, .int x tx, .int y ty, .int b tb, .int 9 td] [] (fun _ => True) (DecOf (x - y)) := by
  refine' CTn.mk [((Str.ofString "op"), .str (Str.ofString "-") to), ((Str.ofString "a"), .int x tx), ((Str.ofString "b"), .int y ty), ((Str.ofString "bits"), .int b tb), ((Str.ofString "digits"), .int 9 td)] ?ho ?hcd ?hb ?hl (fun _ _ _ h => h) ?h ?c2 ?c3 ?c4 ?c5
  case ho => with_unfolding_all rfl
  case hcd => kernel_rfl
  case hb => exact fun s => BindsTo.of_eq rfl
  case hl => rfl
  case c2 => rfl
  case c3 => rfl
  case c4 => rfl
  case c5 => decide
  case h =>
    intro A L g s E c H HG
    intro QQ
    exact RUN.let2 H (ARG.x (EVx.call (a := 244) 1 H (by decide) (EVx.glob H (by kernel_rfl) rfl rfl) (by kernel_rfl) (ARG.i (EVi.of (EVx.name H rfl rfl rfl)) (fun t0 => ARG.nil (t_isw)) rfl)) (ARG.x (EVx.call (a := 244) 1 H (by decide) (EVx.glob H (by kernel_rfl) rfl rfl) (by kernel_rfl) (ARG.i (EVi.of (EVx.name H rfl rfl rfl)) (fun t0 => ARG.nil (t_isw)) rfl)) (ARG.nil rfl) rfl) rfl) rfl rfl (fun vs hv => ⟨_, _, hv.symm, fun m' hm => by
      subst hm
      exact RUN.if_f (CND.cs (EVs.of (EVx.name H rfl rfl rfl)) EVs.const (CS.eq rfl)) (RUN.if_f (CND.bo (CNB.of (CND.cs (EVs.of (EVx.name H rfl rfl rfl)) EVs.const (CS.eq rfl)) (CNB.of (CND.cs (EVs.of (EVx.name H rfl rfl rfl)) EVs.const (CS.eq rfl)) CNB.on))) (RUN.if_t (CND.bo (CNB.at (CND.cs (EVs.of (EVx.name H rfl rfl rfl)) EVs.const (CS.ne rfl)) (CNB.at (CND.of (EVx.name H rfl rfl rfl)) (CNB.at (CND.of (EVx.name H rfl rfl rfl)) CNB.an)))) (RUN.ret_g' (P := DecOf (x - y)) (EVg.mono (EVg.call (a := 258) [] 5 H (by decide) (EVx.glob H (by kernel_rfl) rfl rfl) (by kernel_rfl) (ARG.s (EVs.of (EVx.name H rfl rfl rfl)) (fun _ => ARG.i (EVi.of (EVx.name H rfl rfl rfl)) (fun _ => ARG.i (EVi.of (EVx.name H rfl rfl rfl)) (fun _ => ARG.i (EVi.of (EVx.name H rfl rfl rfl)) (fun _ => ARG.i (EVi.of (EVx.name H rfl rfl rfl)) (fun _ => ARG.nil (t_wr_sub_t hb h0 h1 h2 hf)) rfl) rfl) rfl) rfl) rfl) trivial (fun _ _ _ h => h)) (fun v n' hv => by obtain ⟨n2, h, rfl⟩ := hv; have e : n2 ++ rest [] 0 [] = n2 := List.append_nil n2; rw [e]; exact h)) (fun _ _ h => h))))⟩)
end Mine
end
section
open PySem PySem.W PySem.Calls PyProof.Rows
namespace Mine
noncomputable def fromF (l : List Nat) (i : Nat) : Int := (l.reverse.take i).foldl (fun (a : Int) (x : Nat) => a * 256 + (x : Int)) 0
noncomputable def fromL (l : List Nat) : Int := if l.getLast?.getD 0 > 127 then fromF l l.length - 256 ^ l.length else fromF l l.length
noncomputable def LL (l : List Nat) : Prop := (l.length = 1 ∨ l.length = 2) ∧ ∀ x ∈ l, x < 256
theorem LL.cases {l : List Nat} (h : LL l) : (∃ x, x < 256 ∧ l = [x]) ∨ ∃ x y, x < 256 ∧ y < 256 ∧ l = [x, y] := by
  obtain ⟨h1 | h1, h2⟩ := h
  · obtain ⟨x, rfl⟩ := List.length_eq_one_iff.mp h1
    exact .inl ⟨x, h2 x (by simp), rfl⟩
  · match l, h1 with
    | [x, y], _ => exact .inr ⟨x, y, h2 x (by simp), h2 y (by simp), rfl⟩
theorem fromF_bd {l : List Nat} (h : LL l) (i : Nat) : 0 ≤ fromF l i ∧ fromF l i < 65536 := by
  rcases h.cases with ⟨x, hx, rfl⟩ | ⟨x, y, hx, hy, rfl⟩
  · match i with
    | 0 => exact ⟨Int.le_refl 0, show (0 : Int) < 65536 by decide⟩
    | i + 1 => unfold fromF; simp; omega
  · match i with
    | 0 => exact ⟨Int.le_refl 0, show (0 : Int) < 65536 by decide⟩
    | 1 => show 0 ≤ ((0 : Int) * 256 + y) ∧ ((0 : Int) * 256 + y) < 65536; omega
    | i + 2 => unfold fromF; simp; omega
theorem fromF_S {l : List Nat} {i x : Nat} (h : l.reverse[i]? = some x) : fromF l (i + 1) = fromF l i * 256 + x := by
  unfold fromF
  rw [List.take_add_one, h]
  simp
theorem from_shl {l : List Nat} (h : LL l) (i : Nat) : (Builtin.Int.intBits (fromF l i) : Int) + 8 ≤ 2 ^ 27 := by
  have := fromF_bd h i
  have := intBits_le_64 (k := fromF l i) (by omega) (by omega)
  omega
theorem from_rev {l : List Nat} (h : LL l) : ∀ u, Txt.sliceBy (S l) none none (-1, u) = S l.reverse := by
  intro u
  rcases h.cases with ⟨x, hx, rfl⟩ | ⟨x, y, hx, hy, rfl⟩ <;> with_unfolding_all rfl
theorem from_len {l : List Nat} (h : LL l) : ((S l).length : Int) = (l.length : Int) ∧ (l.length : Int) ≤ 2 ∧ 0 < (l.length : Int) := by
  obtain ⟨h1 | h1, _⟩ := h <;> exact ⟨by simp [Str.length], by omega, by omega⟩
theorem from_item {l : List Nat} (h : LL l) : (((Txt.item (S l) (-1)).cps.getD 0 0 : Nat) : Int) = (l.getLast?.getD 0 : Nat) ∧ (Txt.item (S l) (-1)).length = 1 := by
  rcases h.cases with ⟨x, hx, rfl⟩ | ⟨x, y, hx, hy, rfl⟩ <;> exact ⟨rfl, rfl⟩
theorem from_pw {l : List Nat} (h : LL l) : (1 : Int) * 2 ^ (8 * (l.length : Int)).toNat = 256 ^ l.length ∧ (0 : Int) ≤ 8 * (l.length : Int) ∧ (Builtin.Int.intBits 1 : Int) + 8 * (l.length : Int) ≤ 2 ^ 27 := by
  obtain ⟨h1 | h1, _⟩ := h <;> rw [h1] <;> decide +kernel
theorem from_2 {v : Int} (h : -32768 ≤ v ∧ v < 32768) : (if (v / 256 % 256).toNat > 127 then (((0 : Int) * 256 + ((v / 256 % 256).toNat : Nat)) * 256 + ((v % 256).toNat : Nat)) - 256 ^ 2 else (((0 : Int) * 256 + ((v / 256 % 256).toNat : Nat)) * 256 + ((v % 256).toNat : Nat))) = v := by
  split <;> omega
theorem ll_2 {b v : Int} (h : octL b v = [(v % 256).toNat, (v / 256 % 256).toNat]) : LL (octL b v) := by
  rw [h]
  exact ⟨.inr rfl, List.forall_mem_cons.mpr ⟨em_lt v, List.forall_mem_singleton.mpr (em_lt _)⟩⟩
theorem from_oct {b v : Int} (hb : BITS b) (hf : fitsB b v = true) : fromL (octL b v) = v ∧ LL (octL b v) := by
  rcases hb with rfl | rfl | rfl
  · have := fits8 hf
    refine ⟨?_, .inl rfl, List.forall_mem_singleton.mpr (em_lt v)⟩
    show (if (v % 256).toNat > 127 then ((0 : Int) * 256 + ((v % 256).toNat : Nat)) - 256 ^ 1 else ((0 : Int) * 256 + ((v % 256).toNat : Nat))) = v
    split <;> omega
  · have := fits12 hf
    exact ⟨from_2 ⟨Int.le_trans (by decide) this.1, Int.lt_trans this.2 (by decide)⟩, ll_2 rfl⟩
  · exact ⟨from_2 (fits16 hf), ll_2 rfl⟩
theorem t_fromL {w : World} {l : List Nat} {tu : Tok} (h : LL l) : CTi w 1 321 [.str (S l) tu] (fromL l) := by
  refine' CTi.mk [((Str.ofString "text"), .str (S l) tu)] ?ho ?hcd ?hb ?hl ?h ?c2 ?c3 ?c4 ?c5
  case ho => with_unfolding_all rfl
  case hcd => kernel_rfl
  case hb => exact fun s => BindsTo.of_eq rfl
  case hl => rfl
  case c2 => rfl
  case c3 => rfl
  case c4 => rfl
  case c5 => decide
  case h =>
    intro A L g s E c H
    intro QQ
    exact by
      refine RUN.let_i H EVi.const rfl fun t0 => ?_
      intro m1
      let J0 : Nat → Lo → Nw → Prop := fun i m n => (∃ t, m (Str.ofString "found") = some (.int (fromF l i) t)) ∧ m (Str.ofString "text") = some (.str (S l) tu) ∧ n = []
      refine RUN.for_w J0 H (ITR.str H (EVs.rev (EVs.of (EVx.name H rfl rfl rfl)) (EVi.neg EVi.const) (by have := from_len h; unfold sizeLine; omega) (from_rev h))) ⟨⟨t0, rfl⟩, rfl, rfl⟩ (fun _ _ _ _ p hp => nomatch hp) (fun i T v m2 n2 h2 hi hJ hV S2 => ?_) (fun m2 n2 hJ => ?_)
      · obtain ⟨⟨tf, e1⟩, e2, rfl⟩ := hJ
        obtain ⟨x, t, hx, rfl⟩ := hV
        have hx' : l.reverse[i]? = some x := by simpa using hx
        have hm : x < 256 := h.2 x (List.mem_reverse.mp (List.mem_of_getElem? hx'))
        refine ⟨_, TGT.name H rfl, ?_⟩
        refine RUN.let_i H (EVi.bor (EVi.shl (EVi.of (EVx.name H e1 rfl rfl)) EVi.const (by decide) (from_shl h i)) (EVi.bi (EVx.built H (by kernel_rfl) boot_ord (by decide) rfl rfl) (ARG.x (EVx.name H rfl rfl rfl) (ARG.nil (b_ord rfl (v := (x : Int)) rfl)) rfl)) (by omega) (by omega)) rfl fun t3 => ?_
        intro m3
        exact RUN.turnW (n2 := []) (List.Sublist.refl _) ⟨⟨t3, by rw [fromF_S hx']; rfl⟩, e2, rfl⟩
      · obtain ⟨⟨tf, e1⟩, e2, rfl⟩ := hJ
        have e1 : ∃ tf, m2 (Str.ofString "found") = some (.int (fromF l l.length) tf) := ⟨tf, by rw [e1]; simp⟩
        obtain ⟨tf, e1⟩ := e1
        have hw := from_pw h
        by_cases q : l.getLast?.getD 0 > 127
        · exact RUN.ret_i (EVi.eq (EVi.ife_t (CND.bo (CNB.at (CND.eq (CND.ci (EVi.bi (EVx.built H (by kernel_rfl) boot_len (by decide) rfl rfl) (ARG.x (EVx.name H e2 rfl rfl) (ARG.nil (b_lens (from_len h).1 (by have := from_len h; omega))) rfl)) EVi.const CI.gt) (decide_eq_true (from_len h).2.2)) (CNB.at (CND.eq (CND.ci (EVi.bi (EVx.built H (by kernel_rfl) boot_ord (by decide) rfl rfl) (ARG.s (EVs.ch (EVs.of (EVx.name H e2 rfl rfl)) (EVi.neg EVi.const) (by decide) (by have := from_len h; omega) (by have := from_len h; omega)) (fun _ => ARG.nil (b_ord (from_item h).2 (from_item h).1)) rfl)) EVi.const CI.gt) (decide_eq_true (by omega))) CNB.an))) (EVi.sub (EVi.of (EVx.name H e1 rfl rfl)) (EVi.shl EVi.const (EVi.mul EVi.const (EVi.bi (EVx.built H (by kernel_rfl) boot_len (by decide) rfl rfl) (ARG.x (EVx.name H e2 rfl rfl) (ARG.nil (b_lens (from_len h).1 (by have := from_len h; omega))) rfl)) (IntMulOk.of_right (intBits_le_64 (by have := from_len h; omega) (by have := from_len h; omega)))) hw.2.1 hw.2.2))) (by rw [hw.1]; exact (if_pos q).symm))
        · exact RUN.ret_i (EVi.eq (EVi.ife_f (CND.bo (CNB.at (CND.eq (CND.ci (EVi.bi (EVx.built H (by kernel_rfl) boot_len (by decide) rfl rfl) (ARG.x (EVx.name H e2 rfl rfl) (ARG.nil (b_lens (from_len h).1 (by have := from_len h; omega))) rfl)) EVi.const CI.gt) (decide_eq_true (from_len h).2.2)) (CNB.af (CND.eq (CND.ci (EVi.bi (EVx.built H (by kernel_rfl) boot_ord (by decide) rfl rfl) (ARG.s (EVs.ch (EVs.of (EVx.name H e2 rfl rfl)) (EVi.neg EVi.const) (by decide) (by have := from_len h; omega) (by have := from_len h; omega)) (fun _ => ARG.nil (b_ord (from_item h).2 (from_item h).1)) rfl)) EVi.const CI.gt) (decide_eq_false (by omega)))))) (EVi.of (EVx.name H e1 rfl rfl))) (if_neg q).symm)
theorem t_from {w : World} {b v : Int} {u : Str} {tu : Tok} (hb : BITS b) (hf : fitsB b v = true) (hu : u = S (octL b v)) : CTi w 1 321 [.str u tu] v := by
  have := t_fromL (w := w) (tu := tu) (from_oct hb hf).2
  rw [(from_oct hb hf).1] at this
  rw [hu]; exact this
end Mine
end
section
open PySem PySem.W PySem.Calls PyProof.Rows
namespace Mine
theorem ii_sstr {w : World} {A : Around} {E : Value → Shared → Prop} {u : Str} {t : Tok} : ∀ (s : Shared) (Q : Value → Shared → Prop), (∀ k, Q (.bool true) { s with toks := k }) → wpAny (model PySem.Challenge.rw_sm0006_01.row.prog w) A (call (.builtin "isinstance") [.str u t, .type "str"]) Q E s := fun s _ q => IsiPair.str_str (q s.toks)
theorem octL_take {b v : Int} (hb : BITS b) : Txt.slice (S (octL b v)) none (some (octs b)) = S (octL b v) := by
  have := octL_len (v := v) hb
  have := octs_pos hb
  rw [slice_NS (by omega) (by omega), List.take_of_length_le (by omega)]
theorem t_txt {w : World} {u : Str} {tu : Tok}  : CTx w 1 93 [.str u tu] (.str u tu) := by
  refine' CTx.mk [((Str.ofString "value"), .str u tu)] ?ho ?hcd ?hb ?hl ?h ?c2 ?c3 ?c4 ?c5
  case ho => with_unfolding_all rfl
  case hcd => kernel_rfl
  case hb => exact fun s => BindsTo.of_eq rfl
  case hl => rfl
  case c2 => rfl
  case c3 => rfl
  case c4 => rfl
  case c5 => decide
  case h =>
    intro A L g s E c H
    intro QQ
    exact RUN.if_f (CND.eq (CND.not (CND.of (EVx.bi (EVx.built H (by kernel_rfl) boot_isinstance (by decide) rfl rfl) (ARG.x (EVx.name H rfl rfl rfl) ((ARG.x (EVx.built H (by kernel_rfl) (by decide +kernel) (by decide) rfl rfl) (ARG.nil ii_sstr) rfl)) rfl)))) rfl) (RUN.ret_x (EVx.name H rfl rfl rfl))
theorem t_cvi {w : World} {a : WAddr} {b room v : Int} {l : Addr} {u : Str} {tu : Tok} {k : Nat} (hb : BITS b) (hf : fitsB b v = true) (hu : u = S (octL b v)) : CTn w 3 335 [.ref a.w, .ref l] [(l, lstO [.str u tu] k)] (WRO w a b room) (fun u' n' => (∃ t, u' = .int v t) ∧ n' = [(l, lstO [.str u tu] k)]) := by
  refine' CTn.mk [((Str.ofString "world"), .ref a.w), ((Str.ofString "args"), .ref l)] ?ho ?hcd ?hb ?hl WRO.kp ?h ?c2 ?c3 ?c4 ?c5
  case ho => with_unfolding_all rfl
  case hcd => kernel_rfl
  case hb => exact fun s => BindsTo.of_eq rfl
  case hl => rfl
  case c2 => rfl
  case c3 => rfl
  case c4 => rfl
  case c5 => decide
  case h =>
    intro A L g s E c H HG
    intro QQ
    have hob := octs_pos hb
    have hle := octL_len (v := v) hb
    refine RUN.let2 H (P := fun vs => ∃ t, vs = [.str u tu, .int (octs b) t]) (ARG.x (EVx.call (a := 93) 1 H (by decide) (EVx.glob H (by kernel_rfl) rfl rfl) (by kernel_rfl) (ARG.x (EVx.item (i := 0) (j := 0) (EVx.name H rfl rfl rfl) EVi.const rfl (by decide) (by decide) rfl) (ARG.nil t_txt) rfl)) (ARG.i (EVi.call (a := 307) 1 H (by decide) (EVx.glob H (by kernel_rfl) rfl rfl) (by kernel_rfl) (ARG.i (EVi.wbits H HG (EVx.name H rfl rfl rfl)) (fun _ => ARG.nil (t_octb hb)) rfl)) (fun t => ARG.nil ⟨t, rfl⟩) rfl) rfl) rfl rfl (fun vs hv => ?_)
    obtain ⟨t9, rfl⟩ := hv
    refine ⟨_, _, rfl, fun m1 hm => ?_⟩
    subst hm
    refine RUN.if_f (CND.eq (CND.ci (EVi.bi (EVx.built H (by kernel_rfl) boot_len (by decide) rfl rfl) (ARG.s (EVs.of (EVx.name H rfl rfl rfl)) (fun _ => ARG.nil (b_lens rfl (by rw [hu, S_len]; omega))) rfl)) (EVi.of (EVx.name H rfl rfl rfl)) CI.lt) (decide_eq_false (by rw [hu, S_len]; omega))) ?_
    exact RUN.ret_n (EVi.call (a := 79) 2 H (by decide) (EVx.glob H (by kernel_rfl) rfl rfl) (by kernel_rfl) (ARG.i (EVi.call (a := 321) 1 H (by decide) (EVx.glob H (by kernel_rfl) rfl rfl) (by kernel_rfl) (ARG.s (EVs.eq (EVs.sl_ns (EVs.of (EVx.name H rfl rfl rfl)) (EVi.of (EVx.name H rfl rfl rfl)) (by rw [hu, S_len]; unfold sizeLine; omega)) (by rw [hu]; exact octL_take hb)) (fun _ => ARG.nil (t_from hb hf rfl)) rfl)) (fun _ => ARG.i (EVi.wbits H HG (EVx.name H rfl rfl rfl)) (fun _ => ARG.nil (t_wo_i hb hf)) rfl) rfl)) (fun t => ⟨⟨t, rfl⟩, rfl⟩)
section
variable {c : Cx} {m : Lo} {n : Nw} {r : Nat}
theorem EVg.chan4 {f e1 e2 : PySem.Expr} {es : List PySem.Expr} {p p2 : Pos} {j' : Nat} {a : WAddr} {b room : Int} {i : Bool} {oc : Obj} {ub : Str} {rn : Int} {tl : Nw} (H : Ok c r) (hr : 1 < r) (HG : WRO c.w a b room c.g) (hcn : Chan c.w oc b ub rn) (hf : EVx c m ((a.c i, oc) :: tl) f (.ref 119)) (h1 : EVx c m ((a.c i, oc) :: tl) e1 (.ref a.w)) (h2 : EVi c m ((a.c i, oc) :: tl) e2 (chn i))
    (h3 : ARGg c m ((a.c i, oc) :: tl) es fun n1 vs => n1 = (a.c i, oc) :: tl ∧ ∃ t1 t2 t3 t4, vs = [.str (Str.ofString "I") t1, .str (Str.ofString "O") t2, .str (Str.ofString "A") t3, .str (Str.ofString "R") t4])
    (h0 : autoParam (eval (f.Call [e1, e2, .Tuple es j' p2] [] p) c.env = (eval f c.env >>= fun fv => callWith p fv [] (backTo p (starEach [e1, e2, .Tuple es j' p2] c.env)) (backToKw p (keywordEach [] c.env)))) rflT)
    (hs1 : autoParam (starEach [e1, e2, .Tuple es j' p2] c.env = (false, eval e1 c.env) :: starEach [e2, .Tuple es j' p2] c.env) rflT)
    (hs2 : autoParam (starEach [e2, .Tuple es j' p2] c.env = (false, eval e2 c.env) :: starEach [.Tuple es j' p2] c.env) rflT)
    (hs3 : autoParam (((backTo p (starEach [e2, .Tuple es j' p2] c.env)).any fun x => x.1) = false) rflT) :
    EVg c m ((a.c i, oc) :: tl) (f.Call [e1, e2, .Tuple es j' p2] [] p) fun v n' => v = .ref (a.c i) ∧ ∃ D o, n' = (D, o) :: (a.c i, oc) :: tl := by
  refine EVg.callA [0, 1] 1 H hr hf (by kernel_rfl) HG WRO.kp (ARGg.x h1 (ARGg.i h2 (fun t => ?_) hs2) hs1) h0 hs1 hs3
  refine ARGg.g (V := fun v n1 => ∃ D t1 t2 t3 t4, v = .ref D ∧ n1 = (D, tupO [.str (Str.ofString "I") t1, .str (Str.ofString "O") t2, .str (Str.ofString "A") t3, .str (Str.ofString "R") t4] 0) :: (a.c i, oc) :: tl) (EVg.tup h3 fun n1 vs hv => ?_) (fun v n1 hv => ARGg.nil ?_) rfl
  · obtain ⟨rfl, t1, t2, t3, t4, rfl⟩ := hv
    exact ⟨Nat.le_of_ble_eq_true rfl, fun D => ⟨D, t1, t2, t3, t4, rfl, rfl⟩⟩
  · obtain ⟨D, t1, t2, t3, t4, rfl, rfl⟩ := hv
    rw [pick01, rest01]
    intro dp un base outer mean mg mb s R C hc hd hG ret
    exact t_chan (room := room) (kq := 0) hcn (.cons _ _ (.cons _ _ (.cons _ _ (.cons _ _ .nil)))) (by decide +kernel) dp un base outer mean mg mb s R C hc hd hG fun v n' h' k' hP kp d q => ret _ _ h' k' (by obtain ⟨rfl, rfl⟩ := hP; exact ⟨rfl, D, _, rfl⟩) kp d q
end
theorem t_place {w : World} {a : WAddr} {b room : Int} {i : Bool} {oc : Obj} {ub : Str} {rn : Int} {tc : Tok} (hcn : Chan w oc b ub rn) : CTn w 2 126 [.ref a.w, .int (chn i) tc] [(a.c i, oc)] (WRO w a b room) (fun u' n' => (∃ t, u' = .int rn t) ∧ n' = [(a.c i, oc)]) := by
  refine' CTn.mk [((Str.ofString "world"), .ref a.w), ((Str.ofString "channel"), .int (chn i) tc)] ?ho ?hcd ?hb ?hl WRO.kp ?h ?c2 ?c3 ?c4 ?c5
  case ho => with_unfolding_all rfl
  case hcd => kernel_rfl
  case hb => exact fun s => BindsTo.of_eq rfl
  case hl => rfl
  case c2 => rfl
  case c3 => rfl
  case c4 => rfl
  case c5 => decide
  case h =>
    intro A L g s E c H HG
    intro QQ
    have hcn2 := hcn
    obtain ⟨x1, x2, x3, x4, x5, x6, hd⟩ := hcn2
    refine RUN.let_g H (EVg.chan4 H (by decide) HG hcn (EVx.glob H (by kernel_rfl) rfl rfl) (EVx.name H rfl rfl rfl) (EVi.of (EVx.name H rfl rfl rfl)) (ARGg.s EVs.const (fun _ => ARGg.s EVs.const (fun _ => ARGg.s EVs.const (fun _ => ARGg.s EVs.const (fun _ => ARGg.nil ⟨rfl, _, _, _, _, rfl⟩) rfl) rfl) rfl) rfl)) rfl fun v n' hv => ?_
    obtain ⟨rfl, D, o, rfl⟩ := hv
    intro m1
    exact RUN.ret_nis (n2 := [(a.c i, oc)]) (List.sublist_cons_self _ _) (EVi.ife_t (CND.cs (EVs.of (EVx.ditem (i := 1) (EVx.name H rfl rfl rfl) EVs.const rfl hd rfl)) EVs.const (CS.eq rfl)) (EVi.of (EVx.ditem (i := 1) (EVx.name H rfl rfl rfl) EVs.const rfl hd rfl))) (fun t => ⟨⟨t, rfl⟩, rfl⟩)
end Mine
end
section
open PySem PySem.W PySem.Calls PyProof.Rows
namespace Mine
theorem rec_eq {v : Int} {i : Nat} : (v.fdiv (256 ^ (0 + (i : Int) * 1).toNat)).fmod 256 = v / 256 ^ i % 256 := by
  have e : (0 + (i : Int) * 1).toNat = i := by omega
  rw [e, Int.fdiv_eq_ediv_of_nonneg _ (Int.pow_nonneg (by decide)), Int.fmod_eq_emod_of_nonneg _ (by decide)]
theorem rec_pw {i : Nat} (h : i < 2) : (256 : Int) ^ (0 + (i : Int) * 1).toNat ≠ 0 ∧ ((256 : Int) ^ (0 + (i : Int) * 1).toNat).natAbs < 1073741824 ∧ (0 : Int) ≤ 0 + (i : Int) * 1 ∧ 0 + (i : Int) * 1 ≤ 1000000 := by
  have : i = 0 ∨ i = 1 := by omega
  rcases this with rfl | rfl <;> decide
theorem rec_bd {v : Int} {i : Nat} : 0 ≤ v / 256 ^ i % 256 ∧ v / 256 ^ i % 256 ≤ 1114111 := by
  have := Int.emod_nonneg (v / 256 ^ i) (show (256 : Int) ≠ 0 by decide)
  have := Int.emod_lt_of_pos (v / 256 ^ i) (show (0 : Int) < 256 by decide)
  omega
theorem t_rec {w : World} {b at_ v : Int} {ta tv to : Tok} (hb : BITS b) (h1 : 0 ≤ at_) (h2 : at_ < 100) : CTn w 2 369 [.int at_ ta, .int v tv, .int (octs b) to] [] (fun _ => True) (fun u n' => (∃ t, u = .str (S (recL b at_.toNat v)) t) ∧ n' = []) := by
  refine' CTn.mkC [((Str.ofString "at"), .int at_ ta), ((Str.ofString "number"), .int v tv), ((Str.ofString "octets"), .int (octs b) to)] ?ho ?hcd ?hb ?hkind ?hnd (fun _ _ _ h => h) ?h ?c2 ?c3 ?c4
  case ho => with_unfolding_all rfl
  case hcd => kernel_rfl
  case hb => exact fun s => BindsTo.of_eq rfl
  case hkind => rfl
  case hnd => decide +kernel
  case c2 => rfl
  case c3 => rfl
  case c4 => rfl
  case h =>
    intro A L g s E cl c H HG Y
    intro QQ
    obtain ⟨o1, rfl, d1⟩ := CellsAre.one Y
    have d1 : o1.data = .cell (some (.int v tv)) := d1
    have hob := octs_pos hb
    refine RUN.ret_nss (n2 := []) (List.nil_sublist _) (EVs.eq (EVs.add (EVs.bi (EVx.built H (by kernel_rfl) boot_chr (by decide) rfl rfl) (ARG.i (EVi.add EVi.const (EVi.of (EVx.name H rfl rfl rfl))) (fun _ => ARG.nil (b_chr (by omega) (by omega))) rfl)) (EVs.ofgs (v := S (octL b v)) (EVg.join (V := fun u n1 => ∃ D ys k, u = .ref D ∧ n1 = [(D, lstO ys k), (L + 1, o1)] ∧ StrsAre ys (octS v (octs b).toNat)) ?_ (by decide +kernel) (fun u n1 hv => ?_) (fun _ _ _ q => MethodCall_ (wpAny_mono q (fun _ _ z => z _) (fun _ _ z => z))) rfl)) ?_) ?_) (fun t => ⟨⟨t, rfl⟩, rfl⟩)
    · refine EVg.comp (N := (octs b).toNat) (fun i ys n1 => n1 = [(L + 1, o1)] ∧ StrsAre ys (octS v i)) H (ITR.rng H (EVr.r1 (EVx.built (v := .type "range") H (by kernel_rfl) (by decide +kernel) (by decide) rfl rfl) (EVi.of (EVx.name H rfl rfl rfl)) (oct_rng hb).1 (oct_rng hb).2)) ⟨rfl, .nil⟩ (fun _ _ _ _ p hp => nomatch hp) ?_ (by unfold sizeLine; omega) (fun D ys n1 hJ => ?_) rfl
      · intro C g' E' K gs i vv ys n1 T m1 h hi hJ hV S1
        obtain ⟨rfl, hy⟩ := hJ
        obtain ⟨t, rfl⟩ := hV
        refine ⟨_, true, TGT.name K rfl, TST.nil, fun _ => ?_, fun z => nomatch z⟩
        refine EVg.mono (EVg.s (EVs.bi (EVx.built K (by kernel_rfl) boot_chr (by decide) rfl rfl) (ARG.i (EVi.eq (EVi.mod (EVi.fdiv (EVi.of (EVx.cell (z := 0) K rfl rfl d1 rfl rfl)) (EVi.pow EVi.const (EVi.of (EVx.name K rfl rfl rfl)) (rec_pw (by omega)).2.2.1 (rec_pw (by omega)).2.2.2 (by decide)) (rec_pw (by omega)).1 (PyProof.noPylong_small (rec_pw (by omega)).2.1)) EVi.const (by decide)) rec_eq) (fun _ => ARG.nil (b_chr rec_bd.1 rec_bd.2)) rfl))) fun y n3 hv => ?_
        obtain ⟨⟨t2, rfl⟩, rfl⟩ := hv
        exact ⟨_, List.Sublist.refl _, rfl, by rw [octS_S]; exact StrsAre.snoc hy _ _⟩
      · obtain ⟨rfl, hy⟩ := hJ
        exact ⟨D, ys, _, rfl, rfl, hy⟩
    · obtain ⟨D, ys, k, rfl, rfl, hy⟩ := hv
      exact ⟨D, ys, _, k, 0, rfl, rfl, hy, by rw [octS_sum]; omega, fun t => ⟨⟨t, by rw [oct_join hb]⟩, List.sublist_cons_self _ _⟩⟩
    · have e1 : (S (octL b v)).length ≤ 2 := by have := octL_len (v := v) hb; rw [S_len]; omega
      have e2 : ((⟨#[(65 + at_).toNat]⟩ : Str)).length = 1 := rfl
      rw [e2]; unfold sizeLine; omega
    · have e : (65 + at_).toNat = 65 + at_.toNat := Int.toNat_add (by decide) (by assumption)
      rw [e]; exact S_app [65 + at_.toNat] _
end Mine
end
section
open PySem PySem.W PySem.Calls PyProof.Rows
namespace Mine
noncomputable abbrev recS (b : Int) (led : List Int) (i : Nat) : List Str := (List.range i).map fun j => S (recL b j (led.getD j 0))
theorem recS_S {b : Int} {led : List Int} {i : Nat} : recS b led (i + 1) = recS b led i ++ [S (recL b i (led.getD i 0))] := by simp [recS, List.range_succ]
theorem recs_get {b : Int} : ∀ {k : Nat} {l : List Int}, recs b k l = (List.range l.length).map fun j => recL b (k + j) (l.getD j 0)
  | _, [] => rfl
  | k, v :: r => by
    rw [recs, recs_get, List.length_cons, List.range_succ_eq_map, List.map_cons, List.map_map]
    congr 1
    apply List.map_congr_left
    intro j _
    show _ = recL b (k + (j + 1)) (r.getD j 0)
    rw [show k + 1 + j = k + (j + 1) by omega]
theorem recS_join {b : Int} {led : List Int} : Txt.join (Str.ofString "") (recS b led led.length) = S (txtF b 0 led) := by
  rw [← recs_flat, ← join_S, recs_get, List.map_map]
  congr 1
  apply List.map_congr_left
  intro j _
  show _ = S (recL b (0 + j) _)
  rw [Nat.zero_add]
theorem recS_sum {b : Int} (hb : BITS b) {led : List Int} (i : Nat) : ((recS b led i).map fun x => x.length).sum + (recS b led i).length ≤ 4 * i := by
  induction i with
  | zero => exact Nat.le_refl _
  | succ i ih =>
    rw [recS_S, List.map_append, List.sum_append, List.length_append]
    simp only [List.map_cons, List.map_nil, List.sum_cons, List.sum_nil, List.length_cons, List.length_nil]
    have := octs_pos hb
    have h2 : zN b ≤ 3 := by show (octs b).toNat + 1 ≤ 3; omega
    have : (S (recL b i (led.getD i 0))).length ≤ 3 := by rw [S_len, recL_len hb]; exact h2
    omega
theorem t_text {w : World} {b : Int} {lg : Addr} {lvs : List Value} {kg : Nat} {led : List Int} {to : Tok} (hb : BITS b) (hi : IntsAre lvs led) (hl : led.length < 10) : CTn w 3 374 [.ref lg, .int (octs b) to] [(lg, lstO lvs kg)] (fun _ => True) (fun u n' => (∃ t, u = .str (S (txtF b 0 led)) t) ∧ n' = [(lg, lstO lvs kg)]) := by
  refine' CTn.mkC [((Str.ofString "ledger"), .ref lg), ((Str.ofString "octets"), .int (octs b) to)] ?ho ?hcd ?hb ?hkind ?hnd (fun _ _ _ h => h) ?h ?c2 ?c3 ?c4
  case ho => with_unfolding_all rfl
  case hcd => kernel_rfl
  case hb => exact fun s => BindsTo.of_eq rfl
  case hkind => rfl
  case hnd => decide +kernel
  case c2 => rfl
  case c3 => rfl
  case c4 => rfl
  case h =>
    intro A L g s E cl c H HG Y
    intro QQ
    obtain ⟨o1, rfl, d1⟩ := CellsAre.one Y
    have d1 : o1.data = .cell (some (.int (octs b) to)) := d1
    have hlen := hi.length
    refine RUN.ret_nss (n2 := [(lg, lstO lvs kg)]) (List.sublist_cons_self _ _) (EVs.ofgs (v := S (txtF b 0 led)) (EVg.join (V := fun u n1 => ∃ D ys k, u = .ref D ∧ n1 = [(D, lstO ys k), (L + 1, o1), (lg, lstO lvs kg)] ∧ StrsAre ys (recS b led led.length)) ?_ (by decide +kernel) (fun u n1 hv => ?_) (fun _ _ _ q => MethodCall_ (wpAny_mono q (fun _ _ z => z _) (fun _ _ z => z))) rfl)) (fun t => ⟨⟨t, rfl⟩, rfl⟩)
    · refine EVg.comp (N := lvs.length) (fun i ys n1 => n1 = [(L + 1, o1), (lg, lstO lvs kg)] ∧ StrsAre ys (recS b led i)) H (ITR.enum (z := 1) H (EVx.built (v := .type "enumerate") H (by kernel_rfl) (by decide +kernel) (by decide) rfl rfl) (EVx.name H rfl rfl rfl) rfl) ⟨rfl, .nil⟩ (fun _ _ _ hJ p hp => by obtain ⟨rfl, _⟩ := hJ; rw [List.mem_singleton.mp hp]; exact List.mem_cons_of_mem _ (List.mem_singleton.mpr rfl)) ?_ (by unfold sizeLine; omega) (fun D ys n1 hJ => ?_) rfl
      · intro C g' E' K gs i vv ys n1 T m1 h hi' hJ hV S1
        obtain ⟨rfl, hy⟩ := hJ
        obtain ⟨T9, t, x, rfl, hx, hT⟩ := hV
        obtain ⟨t2, e2⟩ := ints_get hi (k := i) (by omega)
        rw [e2] at hx
        cases hx
        refine ⟨_, true, TGT.tup K S1 hT (TGS.cons (TGT.name K rfl) (TGS.cons (TGT.name K rfl) TGS.nil)), TST.nil, fun _ => ?_, fun z => nomatch z⟩
        refine EVg.mono (EVg.callRT (ad := 369) [] 2 K (by decide) (EVx.glob K (by kernel_rfl) rfl rfl) (by kernel_rfl) trivial (fun _ _ _ h => h) (ARG.i (EVi.of (EVx.name K rfl rfl rfl)) (fun _ => ARG.i (EVi.of (EVx.name K (show _ = some _ from rfl) rfl rfl)) (fun _ => ARG.i (EVi.of (EVx.cell (z := 0) K rfl rfl d1 rfl rfl)) (fun _ => ARG.nil (t_rec hb (by omega) (by omega))) rfl) rfl) rfl)) fun y n3 hv => ?_
        obtain ⟨⟨t2, rfl⟩, rfl⟩ := hv
        exact ⟨_, List.Sublist.refl _, rfl, by rw [recS_S]; exact StrsAre.snoc hy _ _⟩
      · obtain ⟨rfl, hy⟩ := hJ
        exact ⟨D, ys, _, rfl, rfl, by rw [← hlen]; exact hy⟩
    · obtain ⟨D, ys, k, rfl, rfl, hy⟩ := hv
      exact ⟨D, ys, _, k, 0, rfl, rfl, hy, by have := recS_sum hb (led := led) led.length; omega, fun t => ⟨⟨t, by rw [recS_join]⟩, List.sublist_cons_self _ _⟩⟩
end Mine
end
section
open PySem PySem.W PySem.Calls PyProof.Rows
namespace Mine
theorem txtF_oct {b : Int} (hb : BITS b) {led : List Int} {i : Nat} (h : i < led.length) : ((txtF b 0 led).drop (i * zN b + 1)).take (octs b).toNat = octL b led[i] := by
  have e := txtF_get hb (k := 0) h
  have e2 := congrArg (fun l => List.drop 1 l) e
  simp only [List.drop_take, List.drop_drop] at e2
  rw [show zN b - 1 = (octs b).toNat from Nat.add_sub_cancel ..] at e2
  rw [e2]; rfl
noncomputable def signed (o x : Int) : Int := if 2 * x < 256 ^ o.toNat then x else x - 256 ^ o.toNat
theorem signed1 {b v : Int} (hb : BITS b) (ho : octs b = 1) (hf : fitsB b v = true) : signed 1 (v % 256) = v := by
  have e : (256 : Int) ^ (1 : Int).toNat = 256 := rfl
  unfold signed; rw [e]
  rcases hb with rfl | rfl | rfl
  · simp [fitsB] at hf; split <;> omega
  · cases ho
  · cases ho
theorem signed2 {b v : Int} (hb : BITS b) (ho : octs b = 2) (hf : fitsB b v = true) : signed 2 (v % 256 + v / 256 % 256 * 256) = v := by
  have e : (256 : Int) ^ (2 : Int).toNat = 65536 := rfl
  unfold signed; rw [e]
  rcases hb with rfl | rfl | rfl
  · cases ho
  · simp [fitsB] at hf; split <;> omega
  · simp [fitsB] at hf; split <;> omega
theorem rng_size {b : Int} (hb : BITS b) {led : List Int} : Builtin.Range.rangeSize 0 ((txtF b 0 led).length : Int) (octs b + 1) = ((led.length : Nat) : Int) := by
  rw [txtF_len hb]
  have hz := z_eq hb
  have := octs_pos hb
  rw [hz]
  unfold Builtin.Range.rangeSize
  generalize led.length = n
  have hz2 : zN b = 2 ∨ zN b = 3 := by show (octs b).toNat + 1 = 2 ∨ (octs b).toNat + 1 = 3; omega
  rcases hz2 with e | e <;> rw [e] <;> simp <;> omega
theorem rng_small {b : Int} (hb : BITS b) {led : List Int} (hl : led.length < 10) : Builtin.Range.small 0 ((txtF b 0 led).length : Int) (octs b + 1) = true := by
  have := text_lt hb hl
  have := octs_pos hb
  have hL : ∀ x : Int, -1000 < x → x < 1000 → Builtin.Range.rangeFitsLong x = true := fun x h1 h2 => by
    simp [Builtin.Range.rangeFitsLong]; omega
  unfold Builtin.Range.small
  rw [rng_size hb, if_pos (by omega), hL 0 (by decide) (by decide), hL _ (by omega) (by omega), hL (octs b + 1) (by omega) (by omega), hL (led.length : Int) (by omega) (by omega), hL ((txtF b 0 led).length + (octs b + 1 - 1)) (by omega) (by omega)]
  simp
theorem sum_take {led : List Int} {i : Nat} (h : i < led.length) : (led.take (i + 1)).sum = (led.take i).sum + led[i] := by
  rw [List.take_add_one, List.getElem?_eq_getElem h, List.sum_append]
  simp
theorem slice_oct {b o : Int} {led : List Int} {i : Nat} {tx : Str} {l : List Nat} (hb : BITS b) (ho : octs b = o) (hi : i < led.length) (htx : tx = S (txtF b 0 led)) (h : ((txtF b 0 led).drop (i * zN b + 1)).take (octs b).toNat = l) :
    Txt.slice tx (some (0 + (i : Int) * (o + 1) + 1)) (some (0 + (i : Int) * (o + 1) + 1 + o)) = S l := by
  subst htx ho
  have hz := z_eq hb
  have hob := octs_pos hb
  have hle : (i + 1) * zN b ≤ led.length * zN b := Nat.mul_le_mul_right _ hi
  have e0 : (0 : Int) + (i : Int) * (octs b + 1) + 1 = ((i * zN b + 1 : Nat) : Int) := by rw [hz]; simp
  have hl := txtF_len (l := led) (k := 0) hb
  rw [e0, slice_SS (by omega) (by omega) (by rw [hl]; rw [Nat.add_mul] at hle; omega)]
  rw [← h, show (((i * zN b + 1 : Nat) : Int) + octs b - ((i * zN b + 1 : Nat) : Int)) = octs b by omega, Int.toNat_natCast]
end Mine
end
section
open PySem PySem.W PySem.Calls PyProof.Rows
namespace Mine
noncomputable def chS (i : Bool) : Str := if i then Str.ofString "2" else Str.ofString "1"
theorem fieldN_eq {y : Nat} {l : List Nat} {ub : Str} (hub : ub = S (y :: l)) : Txt.slice ub (some 0) (some (0 + 1)) = S [y] := by
  rw [hub, slice_SS (by decide) (by decide) (by rw [List.length_cons]; omega)]; rfl
theorem ub_len {b v : Int} {y : Nat} {ub : Str} (hb : BITS b) (hub : ub = S (y :: octL b v)) : ub.length ≤ 3 := by
  have := octL_len (v := v) hb
  have := octs_pos hb
  rw [hub, S_len, List.length_cons]; omega
theorem fdM {w : World} {a : WAddr} {b room : Int} {i : Bool} {u : Str} (hu : u = nmM i) : ∀ g, WRO w a b room g → ∃ p t1 t2 t3 k, valueAt ([(Str.ofString "N1$", .ref (a.p false)), (Str.ofString "M1$", .ref (a.q false)), (Str.ofString "N2$", .ref (a.p true)), (Str.ofString "M2$", .ref (a.q true))] : List (Str × Value)) u = some (.ref p) ∧ g.get? p = some (tupO [.int (chn i) t1, .int 1 t2, .int (octs b) t3] k) := fun g W => by
  obtain ⟨t1, t2, t3, k, h⟩ := W.tq i
  exact ⟨a.q i, t1, t2, t3, k, by subst hu; cases i <;> rfl, h⟩
theorem fdN {w : World} {a : WAddr} {b room : Int} {i : Bool} {u : Str} (hu : u = nmN i) : ∀ g, WRO w a b room g → ∃ p t1 t2 t3 k, valueAt ([(Str.ofString "N1$", .ref (a.p false)), (Str.ofString "M1$", .ref (a.q false)), (Str.ofString "N2$", .ref (a.p true)), (Str.ofString "M2$", .ref (a.q true))] : List (Str × Value)) u = some (.ref p) ∧ g.get? p = some (tupO [.int (chn i) t1, .int 0 t2, .int 1 t3] k) := fun g W => by
  obtain ⟨t1, t2, t3, k, h⟩ := W.tp i
  exact ⟨a.p i, t1, t2, t3, k, by subst hu; cases i <;> rfl, h⟩
theorem t_ftM {w : World} {a : WAddr} {b room v : Int} {i : Bool} {oc : Obj} {u ub : Str} {rn : Int} {y0 : Nat} {tu : Tok} (hb : BITS b) (hcn : Chan w oc b ub rn) (hu : u = nmM i) (hub : ub = S (y0 :: octL b v)) : CTn w 1 138 [.ref a.w, .str u tu] [(a.c i, oc)] (WRO w a b room) (fun v' n' => (∃ t, v' = .str (S (octL b v)) t) ∧ n' = [(a.c i, oc)]) := by
  have := t_ft (a := a) (room := room) (tu := tu) hcn (Nat.le_trans (ub_len hb hub) (by decide)) (fdM hu)
  rw [fieldM_eq hb hub] at this
  exact this
theorem t_ftN {w : World} {a : WAddr} {b room v : Int} {i : Bool} {oc : Obj} {u ub : Str} {rn : Int} {y0 : Nat} {tu : Tok} (hb : BITS b) (hcn : Chan w oc b ub rn) (hu : u = nmN i) (hub : ub = S (y0 :: octL b v)) : CTn w 1 138 [.ref a.w, .str u tu] [(a.c i, oc)] (WRO w a b room) (fun v' n' => (∃ t, v' = .str (S [y0]) t) ∧ n' = [(a.c i, oc)]) := by
  have := t_ft (a := a) (room := room) (tu := tu) hcn (Nat.le_trans (ub_len hb hub) (by decide)) (fdN hu)
  rw [fieldN_eq hub] at this
  exact this
theorem t_mki_x {w : World} {a : WAddr} {b room cc e : Int} {l p : Addr} {t1 t2 : Tok} {k k2 : Nat} (hb : BITS b) (h0 : 0 ≤ e) (h1 : e ≤ 5) (hf : fitsB b (cc * 10 ^ e.toNat) = false) : CTr w 6 328 [.ref a.w, .ref l] [(l, lstO [.ref p] k2), (p, tupO [.int cc t1, .int e t2] k)] (WRO w a b room) (Str.ofString "OV") := by
  refine' CTr.mk [((Str.ofString "world"), .ref a.w), ((Str.ofString "args"), .ref l)] ?ho ?hcd ?hb ?hl WRO.kp ?h ?c2 ?c3 ?c4 ?c5
  case ho => with_unfolding_all rfl
  case hcd => kernel_rfl
  case hb => exact fun s => BindsTo.of_eq rfl
  case hl => rfl
  case c2 => rfl
  case c3 => rfl
  case c4 => rfl
  case c5 => decide
  case h =>
    intro A L g s E c H HT HG
    intro QQ
    exact RUN.ret_r (EXr.args (a := 314) H (EVx.glob H (by kernel_rfl) rfl rfl) (by kernel_rfl) (ARGr.here (EXr.call (a := 79) [1] 5 H HT (fun q hq => hq) (by decide) (EVx.glob H (by kernel_rfl) rfl rfl) (by kernel_rfl) (ARG.x (EVx.item (i := 0) (j := 0) (EVx.name H rfl rfl rfl) EVi.const rfl (by decide) (by decide) rfl) (ARG.i (EVi.wbits H HG (EVx.name H rfl rfl rfl)) (fun _ => ARG.nil (t_wo_x hb h0 h1 hf)) rfl) rfl) trivial (fun _ _ _ h => h))))
theorem t_rk_i {w : World} {b x y z d : Int} {s : Bool} {to tb tx ty td : Tok} (hb : BITS b) (hz : z = bif s then x - y else x + y) (hf : fitsB b z = true) : CTi w 4 300 [.str (bif s then Str.ofString "-" else Str.ofString "+") to, .int x tx, .int y ty, .int b tb, .int d td] z := by
  subst hz
  cases s
  · exact t_rk_add_i hb hf
  · exact t_rk_sub_i hb hf
theorem t_rk_t {w : World} {b x y z : Int} {s : Bool} {to tb tx ty td : Tok} (hb : BITS b) (hz : z = bif s then x - y else x + y) (h0 : z ≠ 0) (h1 : -300000 < z) (h2 : z < 300000) (hf : fitsB b z = false) : CTn w 6 300 [.str (bif s then Str.ofString "-" else Str.ofString "+") to, .int x tx, .int y ty, .int b tb, .int 9 td] [] (fun _ => True) (DecOf z) := by
  subst hz
  cases s
  · exact t_rk_add_t hb h0 h1 h2 hf
  · exact t_rk_sub_t hb h0 h1 h2 hf
theorem t_sum_i {w : World} {a : WAddr} {b room v y z : Int} {i s : Bool} {oc : Obj} {ub : Str} {rn : Int} {y0 : Nat} {tc to ty : Tok} (hb : BITS b) (hcn : Chan w oc b ub rn) (hub : ub = S (y0 :: octL b v)) (hv : fitsB b v = true) (hz : z = bif s then v - y else v + y) (hf : fitsB b z = true) : CTn w 5 400 [.ref a.w, .int (chn i) tc, .str (bif s then Str.ofString "-" else Str.ofString "+") to, .int y ty] [(a.c i, oc)] (WRO w a b room) (fun u' n' => (∃ t, u' = .str (S (octL b z)) t) ∧ n' = [(a.c i, oc)]) := by
  refine' CTn.mk [((Str.ofString "world"), .ref a.w), ((Str.ofString "channel"), .int (chn i) tc), ((Str.ofString "op"), .str (bif s then Str.ofString "-" else Str.ofString "+") to), ((Str.ofString "amount"), .int y ty)] ?ho ?hcd ?hb ?hl WRO.kp ?h ?c2 ?c3 ?c4 ?c5
  case ho => with_unfolding_all rfl
  case hcd => kernel_rfl
  case hb => exact fun s => BindsTo.of_eq rfl
  case hl => rfl
  case c2 => rfl
  case c3 => rfl
  case c4 => rfl
  case c5 => decide
  case h =>
    intro A L g s E c H HG
    intro QQ
    have hv0 := hv
    refine RUN.let_i H (v := v) (EVi.ofgs (EVg.callA (a := 335) [0] 3 H (by decide) (EVx.glob H (by kernel_rfl) rfl rfl) (by kernel_rfl) HG WRO.kp (ARGg.x (EVx.name H rfl rfl rfl) (ARGg.g (V := fun u n1 => ∃ l t, u = .ref l ∧ n1 = [(l, lstO [.str (S (octL b v)) t] 0), (a.c i, oc)]) (EVg.lst (P := fun n1 vs => n1 = [(a.c i, oc)] ∧ ∃ t, vs = [.str (S (octL b v)) t]) (ARGg.s (EVs.ofg (EVg.callR (ad := 138) [0] 1 H (by decide) (EVx.glob H (by kernel_rfl) rfl rfl) (by kernel_rfl) HG WRO.kp (ARG.x (EVx.name H rfl rfl rfl) (ARG.s (EVs.eq (EVs.add (EVs.add EVs.const (EVs.stri (EVx.built (v := .type "str") H (by kernel_rfl) (by decide +kernel) (by decide) rfl rfl) (EVi.of (EVx.name H rfl rfl rfl)) (by cases i <;> decide) (u := chS i) (by cases i <;> decide +kernel)) (by cases i <;> decide +kernel)) EVs.const (by cases i <;> decide +kernel)) (by cases i <;> decide +kernel : _ = nmM i)) (fun _ => ARG.nil (t_ftM hb hcn rfl hub)) rfl) rfl))) (fun t => ARGg.nil ⟨rfl, t, rfl⟩) rfl) (fun n1 vs hv => ?_)) (fun u n1 hv => ARGg.nil ?_) rfl) rfl))) rfl fun t1 => ?_
    · obtain ⟨rfl, t, rfl⟩ := hv
      exact ⟨Nat.le_of_ble_eq_true rfl, fun D => ⟨D, t, rfl, rfl⟩⟩
    · obtain ⟨l, t, rfl, rfl⟩ := hv
      exact CTn.mono (t_cvi hb hv0 rfl) fun u n' h => by obtain ⟨h, rfl⟩ := h; exact ⟨h, List.sublist_cons_self _ _⟩
    intro m1
    refine RUN.ret_nss (n2 := [(a.c i, oc)]) (List.Sublist.refl _) (EVs.ofgs (v := S (octL b z)) (EVg.callA (a := 328) [0] 3 H (by decide) (EVx.glob H (by kernel_rfl) rfl rfl) (by kernel_rfl) HG WRO.kp (ARGg.x (EVx.name H rfl rfl rfl) (ARGg.g (V := fun u n1 => ∃ l t, u = .ref l ∧ n1 = [(l, lstO [.int z t] 0), (a.c i, oc)]) (EVg.lst (P := fun n1 vs => n1 = [(a.c i, oc)] ∧ ∃ t, vs = [.int z t]) (ARGg.i (EVi.call (a := 300) 4 H (by decide) (EVx.glob H (by kernel_rfl) rfl rfl) (by kernel_rfl) (ARG.s (EVs.of (EVx.name H rfl rfl rfl)) (fun _ => ARG.i (EVi.of (EVx.name H rfl rfl rfl)) (fun _ => ARG.i (EVi.of (EVx.name H rfl rfl rfl)) (fun _ => ARG.i (EVi.wbits H HG (EVx.name H rfl rfl rfl)) (fun _ => ARG.i (EVi.wdigits H HG (EVx.name H rfl rfl rfl)) (fun _ => ARG.nil (t_rk_i hb hz hf)) rfl) rfl) rfl) rfl) rfl)) (fun t => ARGg.nil ⟨rfl, t, rfl⟩) rfl) (fun n1 vs hv => ?_)) (fun u n1 hv => ARGg.nil ?_) rfl) rfl))) (fun t => ⟨⟨t, rfl⟩, rfl⟩)
    · obtain ⟨rfl, t, rfl⟩ := hv
      exact ⟨Nat.le_of_ble_eq_true rfl, fun D => ⟨D, t, rfl, rfl⟩⟩
    · obtain ⟨l, t, rfl, rfl⟩ := hv
      exact CTn.mono (t_mki hb hf) fun u n' h => by obtain ⟨h, rfl⟩ := h; exact ⟨h, List.sublist_cons_self _ _⟩
theorem t_sum_x {w : World} {a : WAddr} {b room v y z : Int} {i s : Bool} {oc : Obj} {ub : Str} {rn : Int} {y0 : Nat} {tc to ty : Tok} (hb : BITS b) (hcn : Chan w oc b ub rn) (hub : ub = S (y0 :: octL b v)) (hv : fitsB b v = true) (hz : z = bif s then v - y else v + y) (hf : fitsB b z = false) (h0 : z ≠ 0) (h1 : -300000 < z) (h2 : z < 300000) : CTr w 8 400 [.ref a.w, .int (chn i) tc, .str (bif s then Str.ofString "-" else Str.ofString "+") to, .int y ty] [(a.c i, oc)] (WRO w a b room) (Str.ofString "OV") := by
  refine' CTr.mk [((Str.ofString "world"), .ref a.w), ((Str.ofString "channel"), .int (chn i) tc), ((Str.ofString "op"), .str (bif s then Str.ofString "-" else Str.ofString "+") to), ((Str.ofString "amount"), .int y ty)] ?ho ?hcd ?hb ?hl WRO.kp ?h ?c2 ?c3 ?c4 ?c5
  case ho => with_unfolding_all rfl
  case hcd => kernel_rfl
  case hb => exact fun s => BindsTo.of_eq rfl
  case hl => rfl
  case c2 => rfl
  case c3 => rfl
  case c4 => rfl
  case c5 => decide
  case h =>
    intro A L g s E c H HT HG
    intro QQ
    have hv0 := hv
    refine RUN.let_i H (v := v) (EVi.ofgs (EVg.callA (a := 335) [0] 3 H (by decide) (EVx.glob H (by kernel_rfl) rfl rfl) (by kernel_rfl) HG WRO.kp (ARGg.x (EVx.name H rfl rfl rfl) (ARGg.g (V := fun u n1 => ∃ l t, u = .ref l ∧ n1 = [(l, lstO [.str (S (octL b v)) t] 0), (a.c i, oc)]) (EVg.lst (P := fun n1 vs => n1 = [(a.c i, oc)] ∧ ∃ t, vs = [.str (S (octL b v)) t]) (ARGg.s (EVs.ofg (EVg.callR (ad := 138) [0] 1 H (by decide) (EVx.glob H (by kernel_rfl) rfl rfl) (by kernel_rfl) HG WRO.kp (ARG.x (EVx.name H rfl rfl rfl) (ARG.s (EVs.eq (EVs.add (EVs.add EVs.const (EVs.stri (EVx.built (v := .type "str") H (by kernel_rfl) (by decide +kernel) (by decide) rfl rfl) (EVi.of (EVx.name H rfl rfl rfl)) (by cases i <;> decide) (u := chS i) (by cases i <;> decide +kernel)) (by cases i <;> decide +kernel)) EVs.const (by cases i <;> decide +kernel)) (by cases i <;> decide +kernel : _ = nmM i)) (fun _ => ARG.nil (t_ftM hb hcn rfl hub)) rfl) rfl))) (fun t => ARGg.nil ⟨rfl, t, rfl⟩) rfl) (fun n1 vs hv => ?_)) (fun u n1 hv => ARGg.nil ?_) rfl) rfl))) rfl fun t1 => ?_
    · obtain ⟨rfl, t, rfl⟩ := hv
      exact ⟨Nat.le_of_ble_eq_true rfl, fun D => ⟨D, t, rfl, rfl⟩⟩
    · obtain ⟨l, t, rfl, rfl⟩ := hv
      exact CTn.mono (t_cvi hb hv0 rfl) fun u n' h => by obtain ⟨h, rfl⟩ := h; exact ⟨h, List.sublist_cons_self _ _⟩
    intro m1
    refine RUN.ret_r (EXr.callA (a := 328) [0, 1] 6 H HT (by decide) (EVx.glob H (by kernel_rfl) rfl rfl) (by kernel_rfl) (ARGg.x (EVx.name H rfl rfl rfl) (ARGg.g (V := fun u n1 => ∃ l p cc e t1 t2, u = .ref l ∧ n1 = [(l, lstO [.ref p] 0), (p, tupO [.int cc t1, .int e t2] 0), (a.c i, oc)] ∧ 0 ≤ e ∧ e ≤ 5 ∧ cc * 10 ^ e.toNat = z) (EVg.lst (P := fun n1 vs => ∃ p cc e t1 t2, vs = [.ref p] ∧ n1 = [(p, tupO [.int cc t1, .int e t2] 0), (a.c i, oc)] ∧ 0 ≤ e ∧ e ≤ 5 ∧ cc * 10 ^ e.toNat = z) (ARGg.g (V := fun u n1 => ∃ p cc e t1 t2, u = .ref p ∧ n1 = [(p, tupO [.int cc t1, .int e t2] 0), (a.c i, oc)] ∧ 0 ≤ e ∧ e ≤ 5 ∧ cc * 10 ^ e.toNat = z) (EVg.mono (EVg.call (a := 300) [] 6 H (by decide) (EVx.glob H (by kernel_rfl) rfl rfl) (by kernel_rfl) (ARG.s (EVs.of (EVx.name H rfl rfl rfl)) (fun _ => ARG.i (EVi.of (EVx.name H rfl rfl rfl)) (fun _ => ARG.i (EVi.of (EVx.name H rfl rfl rfl)) (fun _ => ARG.i (EVi.wbits H HG (EVx.name H rfl rfl rfl)) (fun _ => ARG.i (EVi.wdigits H HG (EVx.name H rfl rfl rfl)) (fun _ => ARG.nil (t_rk_t hb hz h0 h1 h2 hf)) rfl) rfl) rfl) rfl) rfl) trivial (fun _ _ _ h => h)) (fun u n1 hv => by obtain ⟨n2, ⟨p, cc, e, t1, t2, rfl, rfl, h⟩, rfl⟩ := hv; exact ⟨p, cc, e, t1, t2, rfl, rfl, h⟩)) (fun u n1 hv => ARGg.nil ?_) rfl) (fun n1 vs hv => ?_)) (fun u n1 hv => ARGg.nil ?_) rfl) rfl) HG WRO.kp)
    · obtain ⟨p, cc, e, t1, t2, rfl, rfl, h⟩ := hv
      exact ⟨p, cc, e, t1, t2, rfl, rfl, h⟩
    · obtain ⟨p, cc, e, t1, t2, rfl, rfl, h⟩ := hv
      exact ⟨Nat.le_of_ble_eq_true rfl, fun D => ⟨D, p, cc, e, t1, t2, rfl, rfl, h⟩⟩
    · obtain ⟨l, p, cc, e, t1, t2, rfl, rfl, e0, e5, e9⟩ := hv
      exact ⟨t_mki_x hb e0 e5 (by rw [e9]; exact hf), fun q hq => List.mem_cons_of_mem _ (List.mem_cons_of_mem _ hq)⟩
end Mine
end
section
open PySem PySem.W PySem.Calls PyProof.Rows
namespace Mine
theorem setM_e {y o : Int} {u z : Nat} {bl xl : List Nat} (ho : o = 1 ∨ o = 2) (hbl : (bl.length : Int) = o) : Txt.slice (S (z :: bl)) none (some 1) ++ S xl ++ Txt.slice (S (z :: bl)) (some (1 + o)) none = S (z :: xl) := by
  rw [slice_NS (by decide) (by rw [List.length_cons]; omega), slice_SN (by omega) (by rw [List.length_cons]; omega), S_app, S_app]
  have e : (1 + o).toNat = (z :: bl).length := by rw [List.length_cons]; omega
  rw [e, List.drop_length]
  simp
theorem setN_e {z : Nat} {bl xl : List Nat} : Txt.slice (S (z :: bl)) none (some 0) ++ S xl ++ Txt.slice (S (z :: bl)) (some (0 + 1)) none = S (xl ++ bl) := by
  rw [slice_NS (by decide) (by rw [List.length_cons]; omega), slice_SN (by decide) (by rw [List.length_cons]; omega), S_app, S_app]
  simp
theorem t_spM {w : World} {a : WAddr} {b room : Int} {i : Bool} {oc : Obj} {nm u ub : Str} {rn : Int} {z : Nat} {bl xl : List Nat} {tn tu : Tok} (hb : BITS b) (hcn : Chan w oc b ub rn) (hn : nm = nmM i) (hub : ub = S (z :: bl)) (hbl : (bl.length : Int) = octs b) (hu : u = S xl) (hxl : (xl.length : Int) = octs b) : CTn w 2 152 [.ref a.w, .str nm tn, .str u tu, .bool false] [(a.c i, oc)] (WRO w a b room) (fun v n' => v = .none ∧ ∃ oc', Chan w oc' b (S (z :: xl)) rn ∧ n' = [(a.c i, oc')]) := by
  have hob := octs_pos hb
  have := t_sp (a := a) (room := room) (tn := tn) (tu := tu) (u := u) (z := 1) (y := octs b) hcn (by rw [hub, S_len, List.length_cons]; omega) (by rw [hu, S_len]; exact hxl) (by omega) (fdM hn)
    (by rw [hub, slice_NS (by decide) (by rw [List.length_cons]; omega), S_len, List.length_take, List.length_cons]; omega) (by rw [hub, slice_SN (by omega) (by rw [List.length_cons]; omega), S_len, List.length_drop, List.length_cons]; omega)
  rw [hub, hu, setM_e (y := 0) (u := 0) (by omega) hbl] at this
  rw [hu]; exact this
theorem t_spN {w : World} {a : WAddr} {b room : Int} {i : Bool} {oc : Obj} {nm u ub : Str} {rn : Int} {z x : Nat} {bl : List Nat} {tn tu : Tok} (hb : BITS b) (hcn : Chan w oc b ub rn) (hn : nm = nmN i) (hub : ub = S (z :: bl)) (hbl : (bl.length : Int) = octs b) (hu : u = S [x]) : CTn w 2 152 [.ref a.w, .str nm tn, .str u tu, .bool false] [(a.c i, oc)] (WRO w a b room) (fun v n' => v = .none ∧ ∃ oc', Chan w oc' b (S (x :: bl)) rn ∧ n' = [(a.c i, oc')]) := by
  have hob := octs_pos hb
  have := t_sp (a := a) (room := room) (tn := tn) (tu := tu) (u := u) (z := 0) (y := 1) hcn (by rw [hub, S_len, List.length_cons]; omega) (by rw [hu, S_len]; rfl) (by omega) (fdN hn)
    (by rw [hub, slice_NS (by decide) (by rw [List.length_cons]; omega), S_len, List.length_take, List.length_cons]; omega) (by rw [hub, slice_SN (by decide) (by rw [List.length_cons]; omega), S_len, List.length_drop, List.length_cons]; omega)
  rw [hub, hu, setN_e] at this
  rw [hu]; exact this
theorem t_kept_i {w : World} {a : WAddr} {b room v y k z : Int} {i s : Bool} {oc of : Obj} {ub tx : Str} {rn : Int} {y0 : Nat} {tc tk tf to ty : Tok} {txt : List Nat} (hb : BITS b) (hcn : Chan w oc b ub rn) (hbk : of.IsDictOf (SKw w) [("BANK", .str tx tf)]) (h1 : 1 ≤ k + 1) (h2 : k + 1 ≤ 32767) (htx : tx = S txt) (htl : txt.length < 100) (hub : ub = S (y0 :: octL b v)) (hv : fitsB b v = true) (hz : z = bif s then v - y else v + y) (hf : fitsB b z = true) (hin : (k + 1 - 1) * (octs b + 1) + (octs b + 1) ≤ txt.length) (hrm : (k + 1 - 1) * (octs b + 1) + (octs b + 1) ≤ room) : CTn w 6 407 [.ref a.w, .int (chn i) tc, .int k tk, .str (bif s then Str.ofString "-" else Str.ofString "+") to, .int y ty] [(a.c i, oc), (a.fl, of)] (WRO w a b room) (fun u n' => u = .none ∧ ∃ oc' of', Chan w oc' b (S (y0 :: octL b z)) (k + 1) ∧ Bank w of' (S (txt.take ((k + 1 - 1) * (octs b + 1)).toNat ++ (y0 :: octL b z) ++ txt.drop ((k + 1 - 1) * (octs b + 1) + (octs b + 1)).toNat)) ∧ n' = [(a.c i, oc'), (a.fl, of')]) := by
  refine' CTn.mk [((Str.ofString "world"), .ref a.w), ((Str.ofString "channel"), .int (chn i) tc), ((Str.ofString "spot"), .int k tk), ((Str.ofString "op"), .str (bif s then Str.ofString "-" else Str.ofString "+") to), ((Str.ofString "amount"), .int y ty)] ?ho ?hcd ?hb ?hl WRO.kp ?h ?c2 ?c3 ?c4 ?c5
  case ho => with_unfolding_all rfl
  case hcd => kernel_rfl
  case hb => exact fun s => BindsTo.of_eq rfl
  case hl => rfl
  case c2 => rfl
  case c3 => rfl
  case c4 => rfl
  case c5 => decide
  case h =>
    intro A L g s E c H HG
    intro QQ
    have hob := octs_pos hb
    have hl1 := octL_len (v := v) hb
    have hl2 := octL_len (v := z) hb
    refine RUN.ex (EVg.call (a := 152) [0] 2 H (by decide) (EVx.glob H (by kernel_rfl) rfl rfl) (by kernel_rfl) (ARG.x (EVx.name H rfl rfl rfl) (ARG.s (EVs.eq (EVs.add (EVs.add EVs.const (EVs.stri (EVx.built (v := .type "str") H (by kernel_rfl) (by decide +kernel) (by decide) rfl rfl) (EVi.of (EVx.name H rfl rfl rfl)) (by cases i <;> decide) (u := chS i) (by cases i <;> decide +kernel)) (by cases i <;> decide +kernel)) EVs.const (by cases i <;> decide +kernel)) (by cases i <;> decide +kernel : _ = nmM i)) (fun _ => ARG.s (EVs.ofg (EVg.callR (ad := 400) [0] 5 H (by decide) (EVx.glob H (by kernel_rfl) rfl rfl) (by kernel_rfl) HG WRO.kp (ARG.x (EVx.name H rfl rfl rfl) (ARG.i (EVi.of (EVx.name H rfl rfl rfl)) (fun _ => ARG.s (EVs.of (EVx.name H rfl rfl rfl)) (fun _ => ARG.i (EVi.of (EVx.name H rfl rfl rfl)) (fun _ => ARG.nil (t_sum_i hb hcn hub hv hz hf)) rfl) rfl) rfl) rfl))) (fun _ => ARG.x EVx.bool (ARG.nil (t_spM hb hcn rfl hub hl1 rfl hl2)) rfl) rfl) rfl) rfl) HG WRO.kp) (fun v1 n1 hv1 => ?_)
    obtain ⟨n2, ⟨rfl, oc1, hc1, rfl⟩, rfl⟩ := hv1
    refine RUN.ex (EVg.call (a := 173) [0, 1] 2 H (by decide) (EVx.glob H (by kernel_rfl) rfl rfl) (by kernel_rfl) (ARG.x (EVx.name H rfl rfl rfl) (ARG.i (EVi.of (EVx.name H rfl rfl rfl)) (fun _ => ARG.i (EVi.add (EVi.of (EVx.name H rfl rfl rfl)) EVi.const) (fun _ => ARG.i (EVi.wroom H HG (EVx.name H rfl rfl rfl)) (fun _ => ARG.nil (t_put_i (bl := y0 :: octL b z) hb hc1 hbk h1 h2 htx htl rfl (by rw [List.length_cons]; omega) hin hrm)) rfl) rfl) rfl) rfl) HG WRO.kp) (fun v1 n1 hv1 => ?_)
    obtain ⟨n2, ⟨rfl, oc2, of2, hc2, hf2, rfl⟩, rfl⟩ := hv1
    exact RUN.end_n ⟨rfl, oc2, of2, hc2, hf2, rfl⟩
theorem t_kept_x {w : World} {a : WAddr} {b room v y k z : Int} {i s : Bool} {oc of : Obj} {ub : Str} {rn : Int} {y0 : Nat} {tc tk to ty : Tok} (hb : BITS b) (hcn : Chan w oc b ub rn) (hub : ub = S (y0 :: octL b v)) (hv : fitsB b v = true) (hz : z = bif s then v - y else v + y) (hf : fitsB b z = false) (h0 : z ≠ 0) (h3 : -300000 < z) (h4 : z < 300000) : CTr w 9 407 [.ref a.w, .int (chn i) tc, .int k tk, .str (bif s then Str.ofString "-" else Str.ofString "+") to, .int y ty] [(a.c i, oc), (a.fl, of)] (WRO w a b room) (Str.ofString "OV") := by
  refine' CTr.mk [((Str.ofString "world"), .ref a.w), ((Str.ofString "channel"), .int (chn i) tc), ((Str.ofString "spot"), .int k tk), ((Str.ofString "op"), .str (bif s then Str.ofString "-" else Str.ofString "+") to), ((Str.ofString "amount"), .int y ty)] ?ho ?hcd ?hb ?hl WRO.kp ?h ?c2 ?c3 ?c4 ?c5
  case ho => with_unfolding_all rfl
  case hcd => kernel_rfl
  case hb => exact fun s => BindsTo.of_eq rfl
  case hl => rfl
  case c2 => rfl
  case c3 => rfl
  case c4 => rfl
  case c5 => decide
  case h =>
    intro A L g s E c H HT HG
    intro QQ
    exact RUN.ex_r (EXr.args (a := 152) H (EVx.glob H (by kernel_rfl) rfl rfl) (by kernel_rfl) (ARGr.g (EVg.x (EVx.name H rfl rfl rfl)) fun u1 n1 hv1 => by obtain ⟨rfl, rfl⟩ := hv1; exact ARGr.g (EVg.s (EVs.eq (EVs.add (EVs.add EVs.const (EVs.stri (EVx.built (v := .type "str") H (by kernel_rfl) (by decide +kernel) (by decide) rfl rfl) (EVi.of (EVx.name H rfl rfl rfl)) (by cases i <;> decide) (u := chS i) (by cases i <;> decide +kernel)) (by cases i <;> decide +kernel)) EVs.const (by cases i <;> decide +kernel)) (by cases i <;> decide +kernel : _ = nmM i))) fun u2 n2 hv2 => by obtain ⟨_, rfl⟩ := hv2; exact ARGr.here (EXr.call (a := 400) [0] 8 H HT (fun q hq => hq) (by decide) (EVx.glob H (by kernel_rfl) rfl rfl) (by kernel_rfl) (ARG.x (EVx.name H rfl rfl rfl) (ARG.i (EVi.of (EVx.name H rfl rfl rfl)) (fun _ => ARG.s (EVs.of (EVx.name H rfl rfl rfl)) (fun _ => ARG.i (EVi.of (EVx.name H rfl rfl rfl)) (fun _ => ARG.nil (t_sum_x hb hcn hub hv hz hf h0 h3 h4)) rfl) rfl) rfl) rfl) HG WRO.kp)))
end Mine
end
section
open PySem PySem.W PySem.Calls PyProof.Rows
namespace Mine
structure HA where
  tr : Addr
  sc : Addr
  lg : Addr
  ck : Addr
  hl : Addr
  bk : Addr
  kl : Bool → Addr
noncomputable abbrev HA.bank (A : HA) (f0 le : Int) (t1 t2 : Tok) : List (Str × Value) := [(Str.ofString "ledger", .ref A.lg), (Str.ofString "clerks", .ref A.ck), (Str.ofString "held", .ref A.hl), (Str.ofString "first", .int f0 t1), (Str.ofString "less", .int le t2)]
noncomputable abbrev HA.cks (A : HA) : List Value := [.ref (A.kl false), .ref (A.kl true)]
noncomputable abbrev HN (a : WAddr) (i : Bool) (A : HA) (n c0 x1 x2 am hv : Int) (tn t0 t1 t2 t3 t4 : Tok) (kt kv kk kg kc kh : Nat) (vs lvs hvs : List Value) (obk oc of : Obj) (ps : Array Value) : Nw :=
  [(A.tr, lstO [.ref A.sc, .int n tn] kt), (A.sc, lstO vs kv), (A.kl i, lstO [.int c0 t0, .int x1 t1, .int x2 t2, .int am t3, .int hv t4] kk), (A.lg, lstO lvs kg), (A.ck, lstO A.cks kc), (A.hl, lstO hvs kh), (A.bk, obk), (a.c i, oc), (a.fl, of), (409, tabObj ps)]
noncomputable def HQF (a : WAddr) (i : Bool) (A : HA) (L : Addr) (o_world o_chan o_sc o_ck o_lg o_hl o_bk o_many o_clerk o_amount o_spot o_tr o_kl o_fl o_ch o_tab : Obj) : Nw :=
  [(L + 1 + 1 + 1 + 1 + 1 + 1, o_spot), (L + 1 + 1 + 1 + 1 + 1, o_many), (L + 1 + 1 + 1 + 1, o_clerk), (L + 1 + 1 + 1, o_amount), (L + 1 + 1, o_chan), (L + 1, o_world), (A.tr, o_tr), (A.sc, o_sc), (A.kl i, o_kl), (A.lg, o_lg), (A.ck, o_ck), (A.hl, o_hl), (A.bk, o_bk), (a.c i, o_ch), (a.fl, o_fl), (409, o_tab)]
inductive HS (w : World) (a : WAddr) (b : Int) (i : Bool) (A : HA) (f0 n c0 x1 x2 am hv sp nu le : Int) (led : List Int) (vs hvs : List Value) (cs T : Nw) (N : Nw) : Prop
  | mk (tn t0 t1 t2 t3 t4 : Tok) (kt kv kk kg kc kh : Nat) (lvs : List Value) (obk oc of : Obj) (ps : Array Value) (u1 u2 : Tok) (e : N = HN a i A n c0 x1 x2 am hv tn t0 t1 t2 t3 t4 kt kv kk kg kc kh vs lvs hvs obk oc of ps ++ T) (h1 : IntsAre lvs led) (h2 : obk.IsDictOf (SKw w) (A.bank f0 le u1 u2)) (h3 : Chan w oc b (S (yOf sp :: octL b nu)) (sp + 1)) (h4 : Bank w of (S (txtF b 0 led))) (h5 : TabOk ps cs) : HS w a b i A f0 n c0 x1 x2 am hv sp nu le led vs hvs cs T N
theorem chn_0 {i : Bool} : 0 ≤ chn i - 1 := by cases i <;> decide
theorem chn_9 {i : Bool} : chn i - 1 < 2 ^ 63 := by cases i <;> decide
theorem kset {v : Value} : ∀ {l : List Value} {k : Nat}, k < l.length → ki_setL l k v = some (l.set k v)
  | [], _, h => absurd h (Nat.not_lt_zero _)
  | _ :: _, 0, _ => rfl
  | _ :: r, k + 1, h => by
    unfold ki_setL
    rw [kset (l := r) (k := k) (by simpa using h)]
    rfl
theorem kset_chn {i : Bool} {v : Value} {l : List Value} (h : l.length = 2) : ki_setL l (chn i - 1).toNat v = some (l.set (chn i - 1).toNat v) :=
  kset (by cases i <;> simp [chn, h])
theorem Pq.up {c : Cx} {fs : List Addr} {g2 : Heap} {P : Value → Nw → Prop} {f : Flow} {s' : Shared} (T : KtsTurn fs c.g g2) (h : Pq (c.at g2) fs P f s') : Pq c fs P f s' := let ⟨g3, T3, x⟩ := h; ⟨g3, T.trans T3, x⟩
theorem wro_turn {w : World} {a : WAddr} {b room : Int} {g g2 : Heap} {fs : List Addr} (W : WRO w a b room g) (T : KtsTurn fs g g2) (hF : ∀ x ∈ a.all, x ∉ fs) : WRO w a b room g2 :=
  W.move (S := fs) (fun x o e n => T.other x o e n) fun x hx hm => hF x (by unfold WAddr.all; simp at hm ⊢; rcases hm with h | h | h | h | h | h | h | h <;> simp [h]) hx
theorem code_turn {c : Cx} {fs : List Addr} {r : Nat} {g2 : Heap} (O : OkT c fs r) (C : CodeHd c.g 413 409) (T : KtsTurn fs c.g g2) : CodeHd g2 413 409 := by
  obtain ⟨o, vs, file, tf, flags, tg, inF, text, tt, e, hc, hd, r⟩ := C
  refine ⟨o, vs, file, tf, flags, tg, inF, text, tt, T.other _ _ e fun hm => ?_, hc, hd, r⟩
  obtain ⟨o', ho', hd'⟩ := O.st _ hm
  rw [e] at ho'; cases ho'
  exact hd' _ hd
inductive HP (w : World) (a : WAddr) (b : Int) (i : Bool) (A : HA) (f0 n sp nu le : Int) (led : List Int) (vs hvs : List Value) (v : Value) (N : Nw) : Prop
  | mk (hv : v = .bool true) (n' c0' x1' x2' am' hv' sp' nu' le' : Int) (led' : List Int) (hvs' : List Value) (ext cs' : Nw)
    (h1 : ClOK b led.length c0' x1' x2' am' hv' sp' nu') (h2 : ChOK b led.length sp' nu') (h3 : LedOK b led') (h4 : led'.length = led.length) (h5 : led'.sum - led.sum = le - le') (h6 : n ≤ n') (h7 : n' ≤ n + 3)
    (h8 : (hvs' = hvs ∧ ext = [] ∧ sp' = sp ∧ nu' = nu) ∨ ∃ p t t' k, hvs' = hvs.set (chn i - 1).toNat (.ref p) ∧ ext = [(p, tupO [.int sp' t, .int nu' t'] k)])
    (h9 : HS w a b i A f0 n' c0' x1' x2' am' hv' sp' nu' le' led' vs hvs' cs' (ext ++ cs') N) : HP w a b i A f0 n sp nu le led vs hvs v N
theorem fits_bd {b v : Int} (hb : BITS b) (h : fitsB b v = true) : -32769 < v ∧ v < 32769 := by
  rcases hb with rfl | rfl | rfl <;> simp [fitsB] at h <;> omega
theorem fits_0 {b : Int} (hb : BITS b) : fitsB b 0 = true := by rcases hb with rfl | rfl | rfl <;> decide
theorem fits_n0 {b v : Int} (hb : BITS b) (h : fitsB b v = false) : v ≠ 0 := fun e => by rw [e, fits_0 hb] at h; cases h
theorem sum_z {a g z l d n : Int} (h : z = n - d) : a - g + z - a = l - (l + d + g - n) := by omega
theorem z_bd {nu am : Int} {s : Bool} (a0 : -32769 < nu) (a1 : nu < 32769) (b0 : -30 ≤ am) (b1 : am < 60) : -300000 < (bif s then nu - am else nu + am) ∧ (bif s then nu - am else nu + am) < 300000 := by
  cases s <;> dsimp only [cond] <;> omega
noncomputable def fI : Stmt → List Stmt
  | .If _ b .. => b
  | _ => []
noncomputable def fT : Stmt → List PySem.Expr
  | .Assign [.Tuple es ..] .. => es
  | _ => []
noncomputable abbrev HC (w : World) (A' : Around) (L : Addr) (g : Heap) (sh : Shared) (E : Value → Shared → Prop) : Cx := ⟨w, A', envOfC (Str.ofString "_law_half") (fS (dS 66)) L 414 (.ref 413), g, sh, E⟩
theorem cl_get {b M c0 x1 x2 am hv X : Int} {s : Bool} (h : 0 ≤ x1 ∧ x1 ≤ M ∧ 0 ≤ x2 ∧ x2 ≤ M ∧ -30 ≤ am ∧ am < 60) (hX : X = bif s then x2 else x1) (q : X < M) (hc0 : c0 = bif s then 2 else 0) : ClOK b M (c0 + 1) x1 x2 am hv X hv := by
  subst hc0
  cases s <;> subst hX
  · exact ⟨.inr (.inl rfl), fun _ => h, fun _ => ⟨q, rfl, rfl⟩, fun e => by cases e⟩
  · exact ⟨.inr (.inr (.inr rfl)), fun _ => h, fun e => (by cases e), fun _ => ⟨q, rfl, rfl⟩⟩
theorem cl_end {b M c0 x1 x2 am hv sp nu : Int} {s : Bool} (h : s = true → 0 ≤ x1 ∧ x1 ≤ M ∧ 0 ≤ x2 ∧ x2 ≤ M ∧ -30 ≤ am ∧ am < 60) (hc0 : c0 = bif s then 2 else 0) : ClOK b M c0 x1 (bif s then x1 else x2) am hv sp nu := by
  subst hc0
  cases s
  · exact ⟨.inl rfl, fun e => absurd rfl e, fun e => (by cases e), fun e => by cases e⟩
  · exact ⟨.inr (.inr (.inl rfl)), fun _ => let ⟨y1, y2, _, _, y5⟩ := h rfl; ⟨y1, y2, y1, y2, y5⟩, fun e => (by cases e), fun e => by cases e⟩
theorem half_even {w : World} {a : WAddr} {b room : Int} {i s : Bool} {A : HA} {f0 n0 n c0 x1 x2 am hv sp nu le X : Int} {tc tM tn t0 t1 t2 t3 t4 tX : Tok} {kt kv kk kg kc kh : Nat} {led : List Int} {vs lvs hvs : List Value} {obk oc of q1 q2 q3 q4 q5 q6 : Obj} {ps : Array Value} {u1 u2 tf : Tok} {cs : Nw} {A' : Around} {L : Addr} {g : Heap} {sh : Shared} {E : Value → Shared → Prop} {fs : List Addr} {m : Lo} (hb : BITS b) (hi : IntsAre lvs led) (hL : LedOK b led) (hbd : obk.IsDictOf (SKw w) (A.bank f0 le u1 u2)) (hcn : Chan w oc b (S (yOf sp :: octL b nu)) (sp + 1)) (hbk : of.IsDictOf (SKw w) [("BANK", .str (S (txtF b 0 led)) tf)]) (TB : TabOk ps cs) (hH : ChOK b led.length sp nu) (hroom : room = (led.length : Int) * (octs b + 1)) (hhl : hvs.length = 2) (hn : n0 ≤ n) (hn' : n ≤ n0 + 3) (O : OkT (HC w A' L g sh E) fs 12) (HG : WRO w a b room g ∧ CodeHd g 413 409) (HF : ∀ x ∈ a.all, x ∉ fs) (d1 : q1.data = .cell none) (e2 : q2.data = .cell (some (.int (lvs.length : Int) tM))) (e3 : q3.data = .cell (some (.ref (A.kl i)))) (d4 : q4.data = .cell none) (e5 : q5.data = .cell (some (.int (chn i) tc))) (e6 : q6.data = .cell (some (.ref a.w))) (hm1 : m (Str.ofString "bank") = some (.ref A.bk)) (hm2 : m (Str.ofString "ledger") = some (.ref A.lg)) (hc0 : c0 = bif s then 2 else 0) (hX0 : 0 ≤ X) (hX1 : X ≤ led.length) (hXs : X = bif s then x2 else x1) (hT : tX = bif s then t2 else t1) (hB : 0 ≤ x1 ∧ x1 ≤ led.length ∧ 0 ≤ x2 ∧ x2 ≤ led.length ∧ -30 ≤ am ∧ am < 60) :
    RUN (HC w A' L g sh E) m (HQF a i A L q6 q5 (lstO vs kv) (lstO A.cks kc) (lstO lvs kg) (lstO hvs kh) obk q2 q3 q4 q1 (lstO [.ref A.sc, .int n tn] kt) (lstO [.int (c0) t0, .int x1 t1, .int x2 t2, .int am t3, .int hv t4] kk) of oc (tabObj ps) ++ cs) ((fB (dS 66)).drop 2) (Pq (HC w A' L g sh E) fs (HP w a b i A f0 n0 sp nu le led vs hvs)) := by
  have hlv := hi.length
  have hL9 := hL.2.1
  have htl := text_lt hb hL9
  have hend := text_end (b := b) (led := led) hb
  have hrm : room < ((led.length : Int) + 1 - 1) * (octs b + 1) + (octs b + 1) := by
    have := octs_pos hb
    rw [hroom, Int.add_sub_cancel]; omega
  let G0 : Nw := HQF a i A L q6 q5 (lstO vs kv) (lstO A.cks kc) (lstO lvs kg) (lstO hvs kh) obk q2 q3 q4 q1 (lstO [.ref A.sc, .int n tn] kt) (lstO [.int (c0) t0, .int x1 t1, .int x2 t2, .int am t3, .int hv t4] kk) of oc (tabObj ps)
  show RUN _ m (G0 ++ cs) _ _
  refine RUN.unpc O.now (ARGg.x (EVx.ifb (z := !s) (CND.eq (CND.ci (EVi.of (EVx.item (i := 8) (j := 0) (EVx.cell (z := 2) O.now rfl rfl e3 rfl rfl) EVi.const rfl (by decide) (by decide) rfl)) EVi.const CI.lt) (by rw [hc0]; cases s <;> rfl)) (EVx.item (i := 8) (j := 1) (EVx.cell (z := 2) O.now rfl rfl e3 rfl rfl) EVi.const rfl (by decide) (by decide) rfl) (EVx.item (i := 8) (j := 2) (EVx.cell (z := 2) O.now rfl rfl e3 rfl rfl) EVi.const rfl (by decide) (by decide) rfl) (v := .int X tX) (by subst hXs hT; cases s <;> rfl)) (ARGg.x (EVx.item (i := 8) (j := 3) (EVx.cell (z := 2) O.now rfl rfl e3 rfl rfl) EVi.const rfl (by decide) (by decide) rfl) (ARGg.nil ⟨rfl, TAS.cons (TGA.cell (z := 0) O.now rfl rfl d1 rfl fun q1' e1 => TAS.cons (TGA.cell (z := 3) O.now rfl rfl d4 rfl fun q4' e4 => TAS.nil ?_))⟩) rfl) rfl)
  let F0 : Nw := (G0.set 0 (L + 1 + 1 + 1 + 1 + 1 + 1, q1')).set 3 (L + 1 + 1 + 1, q4')
  show RUN _ m (F0 ++ cs) _ _
  refine RUN.if_t (CND.eq (CND.ci (EVi.mod (EVi.of (EVx.item (i := 8) (j := 0) (EVx.cell (z := 2) O.now rfl rfl e3 rfl rfl) EVi.const rfl (by decide) (by decide) rfl)) EVi.const (by decide)) EVi.const CI.eq) (by rw [hc0]; cases s <;> rfl)) ?_
  by_cases qX : X < (led.length : Int)
  · have hXn : X.toNat < led.length := (Int.toNat_lt hX0).mpr qX
    have hX63 : X < 2 ^ 63 := Int.lt_trans qX (Int.lt_trans (Int.ofNat_lt.mpr hL9) (by decide))
    obtain ⟨tl, hget⟩ := ints_get hi hXn
    refine RUN.let_qc O rfl (EVq.codeOk (wa := a) (b := b) (room := room) (F := F0) (z := 15) [0, 1, 5, 6, 14, 15] 3 O (by decide) HG (EVx.glob O.now (by kernel_rfl) rfl rfl) (by kernel_rfl) rfl rfl TB rfl rfl rfl rfl rfl (fun f lam c' ps' cs' A2 L2 g3 s2 E2 K HW TB' => ?_) (hb := (fun _ _ _ => rfl)))
    refine EVg.callP (a := pick [0, 1, 5, 6, 14, 15] 0 ((f, lam) :: F0.set 15 (409, tabObj ps'))) (T := []) [4, 5] 2 K (by decide) (EVx.glob K (by kernel_rfl) rfl rfl) (by kernel_rfl) HW WRO.kp (ARG.x (EVx.free (z := 3) K rfl rfl e6 rfl rfl rfl) (ARG.i (EVi.of (EVx.free (z := 2) K rfl rfl e5 rfl rfl rfl)) (fun _ => ARG.i (EVi.add (EVi.of (EVx.free (z := 1) K rfl rfl e1 rfl rfl rfl)) EVi.const) (fun _ => ARG.nil (t_get hb hcn hbk (by omega) (by omega) rfl htl (text_fit hb hX0 qX))) rfl) rfl) rfl) (fun v n' hP => ?_)
    obtain ⟨rfl, oc', hc', rfl⟩ := hP
    rw [text_get hb hX0 qX, ← yOf_pos hX0] at hc'
    refine ⟨(pick [0, 1, 5, 6, 14, 15] 0 ((f, lam) :: F0.set 15 (409, tabObj ps'))).set 4 (a.c i, oc'), rfl, rfl, rfl, ?_⟩
    let F1 : Nw := (F0.set 15 (409, tabObj ps')).set 13 (a.c i, oc')
    refine ⟨(f, lam) :: F1, rfl, rfl, rfl, fun t g2 T => ?_⟩
    intro m2
    have O2 := O.at T
    refine RUN.drop (List.sublist_cons_self _ _) ?_
    show RUN _ m2 (F1 ++ cs') _ _
    refine RUN.if_f (CND.eq (CND.ci (EVi.of (EVx.cell (z := 0) O2.now rfl rfl e1 rfl rfl)) (EVi.of (EVx.cell (z := 1) O2.now rfl rfl e2 rfl rfl)) CI.eq) (by rw [beq_eq_false_iff_ne]; omega)) ?_
    refine RUN.unpc O2.now (ARGg.i (EVi.add (EVi.of (EVx.item (i := 8) (j := 0) (EVx.cell (z := 2) O2.now rfl rfl e3 rfl rfl) EVi.const rfl (by decide) (by decide) rfl)) EVi.const) (fun b9 => ARGg.x (EVx.item (i := 9) (j := X) (EVx.name O2.now hm2 rfl rfl) (EVi.of (EVx.cell (z := 0) O2.now rfl rfl e1 rfl rfl)) rfl hX0 hX63 hget) (ARGg.gc (EVg.tupc (ARGg.x (EVx.cell (z := 0) O2.now rfl rfl e1 rfl rfl) (ARGg.x (EVx.item (i := 9) (j := X) (EVx.name O2.now hm2 rfl rfl) (EVi.of (EVx.cell (z := 0) O2.now rfl rfl e1 rfl rfl)) rfl hX0 hX63 hget) (ARGg.nil ⟨rfl, fun p => ARGg.nil ⟨rfl, ?_⟩⟩) rfl) rfl)) rfl) rfl) rfl)
    refine TAS.cons (TGA.item (z := 9) (j := 0) (EVx.cell (z := 3) O2.now rfl rfl e3 rfl rfl) EVi.const rfl (by decide) (by decide) rfl (TAS.cons (TGA.item (z := 9) (j := 4) (EVx.cell (z := 3) O2.now rfl rfl e3 rfl rfl) EVi.const rfl (by decide) (by decide) rfl (TAS.cons (TGA.item (z := 12) (j := chn i - 1) (EVx.ditem (i := 13) (EVx.name O2.now hm1 rfl rfl) EVs.const rfl hbd rfl) (EVi.sub (EVi.of (EVx.cell (z := 5) O2.now rfl rfl e5 rfl rfl)) EVi.const) rfl chn_0 chn_9 (kset_chn hhl) (TAS.nil ?_))))))
    let F2 : Nw := (F1.set 8 (A.kl i, lstO [.int (c0 + 1) b9, .int x1 t1, .int x2 t2, .int am t3, .int (led.getD X.toNat 0) tl] kk)).set 11 (A.hl, lstO (hvs.set (chn i - 1).toNat (.ref p)) kh)
    show RUN _ m2 ((p, tupO [.int X tX, .int (led.getD X.toNat 0) tl] 0) :: (F2 ++ cs')) _ _
    refine RUN.ret_qc (EVg.q (EVg.xc (EVx.cs (EVs.of (EVx.name O2.now rfl rfl rfl)) EVs.const (CS.eq rfl)) ⟨F2.drop 6 ++ ([(p, tupO [.int X tX, .int (led.getD X.toNat 0) tl] 0)] ++ cs'), F2 ++ (p, tupO [.int X tX, .int (led.getD X.toNat 0) tl] 0) :: cs', List.perm_middle, List.sublist_append_right (F2.take 6) _, ?_⟩)) (fun u s' Y => Pq.up T Y)
    exact ⟨rfl, _, _, _, _, _, _, X, _, le, led, _, [(p, tupO [.int X tX, .int (led.getD X.toNat 0) tl] 0)], cs', cl_get hB hXs qX hc0, .inr ⟨hX0, qX, hL.get hX0 qX⟩, hL, rfl, (Int.sub_self _).trans (Int.sub_self _).symm, hn, hn', .inr ⟨p, _, _, _, rfl, rfl⟩, ⟨_, _, _, _, _, _, _, _, _, _, _, _, _, _, _, _, _, _, _, rfl, hi, hbd, hc', ⟨tf, hbk⟩, TB'⟩⟩
  · have qX2 : X = (led.length : Int) := by omega
    refine RUN.let_qc O rfl (EVq.codeX (wa := a) (b := b) (room := room) (F := F0) (z := 15) [0, 1, 5, 6, 14, 15] 6 O (by decide) HG (EVx.glob O.now (by kernel_rfl) rfl rfl) (by kernel_rfl) rfl rfl TB rfl rfl rfl rfl rfl (u := (Str.ofString "EF")) (fun f lam c' ps' A2 L2 g3 s2 E2 K HT HW => ?_) (fun f lam ps' cs' t TB' g2 T => ?_) (hb := (fun _ _ _ => rfl)))
    · exact EXr.call (a := 166) [4, 5] 5 K HT (fun q hq => hq) (by decide) (EVx.glob K (by kernel_rfl) rfl rfl) (by kernel_rfl) (ARG.x (EVx.free (z := 3) K rfl rfl e6 rfl rfl rfl) (ARG.i (EVi.of (EVx.free (z := 2) K rfl rfl e5 rfl rfl rfl)) (fun _ => ARG.i (EVi.add (EVi.of (EVx.free (z := 1) K rfl rfl e1 rfl rfl rfl)) EVi.const) (fun _ => ARG.nil (t_get_x hb hcn hbk (by omega) (by omega) rfl htl (by rw [qX2]; exact Int.le_of_eq hend))) rfl) rfl) rfl) HW WRO.kp
    intro m2
    have O2 := O.at T
    have HG2 : WRO w a b room g2 ∧ CodeHd g2 413 409 := ⟨wro_turn HG.1 T HF, code_turn O HG.2 T⟩
    refine RUN.drop (List.sublist_cons_self _ _) ?_
    let F1 : Nw := F0.set 15 (409, tabObj ps')
    show RUN _ m2 (F1 ++ cs') _ _
    refine RUN.if_t (CND.eq (CND.ci (EVi.of (EVx.cell (z := 0) O2.now rfl rfl e1 rfl rfl)) (EVi.of (EVx.cell (z := 1) O2.now rfl rfl e2 rfl rfl)) CI.eq) (by rw [beq_iff_eq]; omega)) ?_
    have tail : ∀ x t' Q', x = (bif s then x1 else x2) → (∀ u s', Pq (HC w A' L g sh E) fs (HP w a b i A f0 n0 sp nu le led vs hvs) (.ret u) s' → Q' (.ret u) s') → RUN ((HC w A' L g sh E).at g2) m2 (F1.set 8 (A.kl i, lstO [.int (c0) t0, .int x1 t1, .int x t', .int am t3, .int hv t4] kk) ++ cs') [nthS (fI (nthS (fI (nthS (fB (dS 66)) 3)) 1)) 1] Q' := by
      intro x t' Q' hx hQ
      subst hx
      let F2 : Nw := F1.set 8 (A.kl i, lstO [.int (c0) t0, .int x1 t1, .int (bif s then x1 else x2) t', .int am t3, .int hv t4] kk)
      show RUN _ m2 (F2 ++ cs') _ _
      refine RUN.ret_qc (EVq.and_t (EVx.cs (EVs.of (EVx.name O2.now rfl rfl rfl)) EVs.const (CS.eq rfl)) (EVq.eqc (z := true) (EVq.codeX (wa := a) (b := b) (room := room) (F := F2) (z := 15) [0, 2, 5, 6, 14, 15] 6 O2 (by decide) HG2 (EVx.glob O2.now (by kernel_rfl) rfl rfl) (by kernel_rfl) rfl rfl TB' rfl rfl rfl rfl rfl (u := (Str.ofString "OM")) (fun f lam c' ps2 A2 L2 g3 s2 E2 K HT HW => ?_) (fun f lam ps2 cs2 t TB2 => ⟨t, rfl, ?_⟩) (hb := (fun _ _ _ => rfl))) (fun _ _ => EVs.const) (CS.eq rfl))) (fun u s' Y => hQ _ _ (Pq.up T Y))
      · exact EXr.call (a := 173) [4, 5] 5 K HT (fun q hq => hq) (by decide) (EVx.glob K (by kernel_rfl) rfl rfl) (by kernel_rfl) (ARG.x (EVx.free (z := 3) K rfl rfl e6 rfl rfl rfl) (ARG.i (EVi.of (EVx.free (z := 2) K rfl rfl e5 rfl rfl rfl)) (fun _ => ARG.i (EVi.add (EVi.of (EVx.free (z := 1) K rfl rfl e2 rfl rfl rfl)) EVi.const) (fun _ => ARG.i (EVi.wroom K HW (EVx.free (z := 3) K rfl rfl e6 rfl rfl rfl)) (fun _ => ARG.nil (t_put_x (txt := []) hb hcn hbk (by omega) (by omega) (by rw [hlv]; exact hrm))) rfl) rfl) rfl) rfl) HW WRO.kp
      let F3 : Nw := F2.set 15 (409, tabObj ps2)
      refine ⟨F3.drop 6 ++ ([] ++ cs2), (f, lam) :: (F3 ++ cs2), List.Perm.refl _, List.sublist_append_right ((f, lam) :: F3.take 6) _, ?_⟩
      exact ⟨rfl, _, _, _, _, _, _, sp, nu, le, led, hvs, [], cs2, cl_end (fun _ => hB) hc0, hH, hL, rfl, (Int.sub_self _).trans (Int.sub_self _).symm, hn, hn', .inl ⟨rfl, rfl, rfl, rfl⟩, ⟨_, _, _, _, _, _, _, _, _, _, _, _, _, _, _, _, _, _, _, rfl, hi, hbd, hcn, ⟨tf, hbk⟩, TB2⟩⟩
    cases s
    · refine RUN.if_f (CND.eq (CND.ci (EVi.of (EVx.item (i := 8) (j := 0) (EVx.cell (z := 2) O2.now rfl rfl e3 rfl rfl) EVi.const rfl (by decide) (by decide) rfl)) EVi.const CI.eq) (by rw [hc0]; rfl)) ?_
      exact tail x2 t2 _ rfl (fun _ _ Y => Y)
    · refine RUN.if_t (CND.eq (CND.ci (EVi.of (EVx.item (i := 8) (j := 0) (EVx.cell (z := 2) O2.now rfl rfl e3 rfl rfl) EVi.const rfl (by decide) (by decide) rfl)) EVi.const CI.eq) (by rw [hc0]; rfl)) ?_
      refine RUN.set_gc (EVg.xc (EVx.item (i := 8) (j := 1) (EVx.cell (z := 2) O2.now rfl rfl e3 rfl rfl) EVi.const rfl (by decide) (by decide) rfl) ?_)
      refine TGA.item (z := 8) (j := 2) (EVx.cell (z := 2) O2.now rfl rfl e3 rfl rfl) EVi.const rfl (by decide) (by decide) rfl ?_
      refine RUN.fall ?_
      exact tail x1 t1 _ rfl (fun _ _ Y => Y)
theorem cl_kept {b M c0 x1 x2 am hv sp nu : Int} {s : Bool} (h : 0 ≤ x1 ∧ x1 ≤ M ∧ 0 ≤ x2 ∧ x2 ≤ M ∧ -30 ≤ am ∧ am < 60) (hc0 : c0 = bif s then 1 else 3) : ClOK b M (Int.fmod (c0 + 1) 4) x1 x2 am hv sp nu := by
  subst hc0
  cases s
  · exact ⟨.inl rfl, fun e => absurd rfl e, fun e => (by cases e), fun e => by cases e⟩
  · exact ⟨.inr (.inr (.inl rfl)), fun _ => h, fun e => (by cases e), fun e => by cases e⟩
theorem half_odd {w : World} {a : WAddr} {b room : Int} {i s : Bool} {A : HA} {f0 n0 n c0 x1 x2 am hv sp nu le X : Int} {tc tM tn t0 t1 t2 t3 t4 tX : Tok} {kt kv kk kg kc kh : Nat} {led : List Int} {vs lvs hvs : List Value} {obk oc of q1 q2 q3 q4 q5 q6 : Obj} {ps : Array Value} {u1 u2 tf : Tok} {cs : Nw} {A' : Around} {L : Addr} {g : Heap} {sh : Shared} {E : Value → Shared → Prop} {fs : List Addr} {m : Lo} (hb : BITS b) (hi : IntsAre lvs led) (hL : LedOK b led) (hbd : obk.IsDictOf (SKw w) (A.bank f0 le u1 u2)) (hcn : Chan w oc b (S (yOf sp :: octL b nu)) (sp + 1)) (hbk : of.IsDictOf (SKw w) [("BANK", .str (S (txtF b 0 led)) tf)]) (TB : TabOk ps cs) (hH : ChOK b led.length sp nu) (hroom : room = (led.length : Int) * (octs b + 1)) (hhl : hvs.length = 2) (hn : n0 ≤ n) (hn' : n ≤ n0 + 3) (O : OkT (HC w A' L g sh E) fs 12) (HG : WRO w a b room g ∧ CodeHd g 413 409) (HF : ∀ x ∈ a.all, x ∉ fs) (d1 : q1.data = .cell none) (e2 : q2.data = .cell (some (.int (lvs.length : Int) tM))) (e3 : q3.data = .cell (some (.ref (A.kl i)))) (d4 : q4.data = .cell none) (e5 : q5.data = .cell (some (.int (chn i) tc))) (e6 : q6.data = .cell (some (.ref a.w))) (hm1 : m (Str.ofString "bank") = some (.ref A.bk)) (hm2 : m (Str.ofString "ledger") = some (.ref A.lg)) (hc0 : c0 = bif s then 1 else 3) (hvn : nu = hv) (hX0 : 0 ≤ X) (qX : X < led.length) (hXs : X = bif s then x1 else x2) (hT : tX = bif s then t1 else t2) (hsp : sp = X) (hB : 0 ≤ x1 ∧ x1 ≤ led.length ∧ 0 ≤ x2 ∧ x2 ≤ led.length ∧ -30 ≤ am ∧ am < 60) :
    RUN (HC w A' L g sh E) m (HQF a i A L q6 q5 (lstO vs kv) (lstO A.cks kc) (lstO lvs kg) (lstO hvs kh) obk q2 q3 q4 q1 (lstO [.ref A.sc, .int n tn] kt) (lstO [.int (c0) t0, .int x1 t1, .int x2 t2, .int am t3, .int hv t4] kk) of oc (tabObj ps) ++ cs) ((fB (dS 66)).drop 2) (Pq (HC w A' L g sh E) fs (HP w a b i A f0 n0 sp nu le led vs hvs)) := by
  subst hvn hsp
  have hlv := hi.length
  have hL9 := hL.2.1
  have htl := text_lt hb hL9
  have hend := text_end (b := b) (led := led) hb
  have hs : (c0 == 1) = s := by rw [hc0]; cases s <;> rfl
  have hnu : fitsB b nu = true := by
    rcases hH with ⟨e, _⟩ | ⟨_, _, e⟩
    · omega
    · exact e
  have hnb := fits_bd hb hnu
  have hfr := text_fit (led := led) hb hX0 qX
  rw [hend, show (led.length : Int) + 1 - 1 = led.length from Int.add_sub_cancel .., ← hroom] at hfr
  have hz : -300000 < (bif s then nu - am else nu + am) ∧ (bif s then nu - am else nu + am) < 300000 := z_bd hnb.1 hnb.2 hB.2.2.2.2.1 hB.2.2.2.2.2
  have hXn : sp.toNat < led.length := (Int.toNat_lt hX0).mpr qX
  have hX63 : sp < 2 ^ 63 := Int.lt_trans qX (Int.lt_trans (Int.ofNat_lt.mpr hL9) (by decide))
  obtain ⟨tl, hget⟩ := ints_get hi hXn
  let G0 : Nw := HQF a i A L q6 q5 (lstO vs kv) (lstO A.cks kc) (lstO lvs kg) (lstO hvs kh) obk q2 q3 q4 q1 (lstO [.ref A.sc, .int n tn] kt) (lstO [.int (c0) t0, .int x1 t1, .int x2 t2, .int am t3, .int nu t4] kk) of oc (tabObj ps)
  show RUN _ m (G0 ++ cs) _ _
  refine RUN.unpc O.now (ARGg.x (EVx.ifb (z := s) (CND.eq (CND.ci (EVi.of (EVx.item (i := 8) (j := 0) (EVx.cell (z := 2) O.now rfl rfl e3 rfl rfl) EVi.const rfl (by decide) (by decide) rfl)) EVi.const CI.lt) (by rw [hc0]; cases s <;> rfl)) (EVx.item (i := 8) (j := 1) (EVx.cell (z := 2) O.now rfl rfl e3 rfl rfl) EVi.const rfl (by decide) (by decide) rfl) (EVx.item (i := 8) (j := 2) (EVx.cell (z := 2) O.now rfl rfl e3 rfl rfl) EVi.const rfl (by decide) (by decide) rfl) (v := .int sp tX) (by subst hXs hT; cases s <;> rfl)) (ARGg.x (EVx.item (i := 8) (j := 3) (EVx.cell (z := 2) O.now rfl rfl e3 rfl rfl) EVi.const rfl (by decide) (by decide) rfl) (ARGg.nil ⟨rfl, TAS.cons (TGA.cell (z := 0) O.now rfl rfl d1 rfl fun q1' e1 => TAS.cons (TGA.cell (z := 3) O.now rfl rfl d4 rfl fun q4' e4 => TAS.nil ?_))⟩) rfl) rfl)
  let F0 : Nw := (G0.set 0 (L + 1 + 1 + 1 + 1 + 1 + 1, q1')).set 3 (L + 1 + 1 + 1, q4')
  show RUN _ m (F0 ++ cs) _ _
  refine RUN.if_f (CND.eq (CND.ci (EVi.mod (EVi.of (EVx.item (i := 8) (j := 0) (EVx.cell (z := 2) O.now rfl rfl e3 rfl rfl) EVi.const rfl (by decide) (by decide) rfl)) EVi.const (by decide)) EVi.const CI.eq) (by rw [hc0]; cases s <;> rfl)) ?_
  refine RUN.let_i O.now (v := (bif s then nu - am else nu + am)) (EVi.ifb (CND.eq (CND.ci (EVi.of (EVx.item (i := 8) (j := 0) (EVx.cell (z := 2) O.now rfl rfl e3 rfl rfl) EVi.const rfl (by decide) (by decide) rfl)) EVi.const CI.eq) hs) (EVi.sub (EVi.of (EVx.item (i := 8) (j := 4) (EVx.cell (z := 2) O.now rfl rfl e3 rfl rfl) EVi.const rfl (by decide) (by decide) rfl)) (EVi.of (EVx.cell (z := 3) O.now rfl rfl e4 rfl rfl))) (EVi.add (EVi.of (EVx.item (i := 8) (j := 4) (EVx.cell (z := 2) O.now rfl rfl e3 rfl rfl) EVi.const rfl (by decide) (by decide) rfl)) (EVi.of (EVx.cell (z := 3) O.now rfl rfl e4 rfl rfl)))) rfl fun tz => ?_
  intro m3
  by_cases hf : fitsB b (bif s then nu - am else nu + am) = true
  · refine RUN.let_qc O rfl (EVq.codeOk (wa := a) (b := b) (room := room) (F := F0) (z := 15) [0, 1, 3, 4, 5, 6, 9, 14, 15] 7 O (by decide) HG (EVx.glob O.now (by kernel_rfl) rfl rfl) (by kernel_rfl) rfl rfl TB rfl rfl rfl rfl rfl (fun f lam c' ps' cs' A2 L2 g3 s2 E2 K HW TB' => ?_) (hb := (fun _ _ _ => rfl)))
    refine EVg.callP (a := pick [0, 1, 3, 4, 5, 6, 9, 14, 15] 0 ((f, lam) :: F0.set 15 (409, tabObj ps'))) (T := []) [7, 8] 6 K (by decide) (EVx.glob K (by kernel_rfl) rfl rfl) (by kernel_rfl) HW WRO.kp (ARG.x (EVx.free (z := 5) K rfl rfl e6 rfl rfl rfl) (ARG.i (EVi.of (EVx.free (z := 4) K rfl rfl e5 rfl rfl rfl)) (fun _ => ARG.i (EVi.of (EVx.free (z := 1) K rfl rfl e1 rfl rfl rfl)) (fun _ => ARG.s (EVs.ifb (CND.eq (CND.ci (EVi.of (EVx.item (i := 6) (j := 0) (EVx.free (z := 2) K rfl rfl e3 rfl rfl rfl) EVi.const rfl (by decide) (by decide) rfl)) EVi.const CI.eq) hs) EVs.const EVs.const) (fun _ => ARG.i (EVi.of (EVx.free (z := 3) K rfl rfl e4 rfl rfl rfl)) (fun _ => ARG.nil (t_kept_i (s := s) hb hcn hbk (by omega) (by omega) rfl htl rfl hnu rfl hf (text_fit hb hX0 qX) hfr)) rfl) rfl) rfl) rfl) rfl) (fun v n' hP => ?_)
    obtain ⟨rfl, oc', of', hc', hf', rfl⟩ := hP
    rw [yOf_pos hX0, text_put hb hX0 qX] at hf'
    refine ⟨((pick [0, 1, 3, 4, 5, 6, 9, 14, 15] 0 ((f, lam) :: F0.set 15 (409, tabObj ps'))).set 7 (a.c i, oc')).set 8 (a.fl, of'), rfl, rfl, rfl, ?_⟩
    let F1 : Nw := ((F0.set 15 (409, tabObj ps')).set 13 (a.c i, oc')).set 14 (a.fl, of')
    refine ⟨(f, lam) :: F1, rfl, rfl, rfl, fun t g2 T => ?_⟩
    intro m2
    have O2 := O.at T
    have HG2 : WRO w a b room g2 ∧ CodeHd g2 413 409 := ⟨wro_turn HG.1 T HF, code_turn O HG.2 T⟩
    refine RUN.drop (List.sublist_cons_self _ _) ?_
    show RUN _ m2 (F1 ++ cs') _ _
    refine RUN.if_f (CND.eq (CND.not (CND.of (EVx.ofg (EVg.callRT (ad := 393) [] 1 O2.now (by decide) (EVx.glob O2.now (by kernel_rfl) rfl rfl) (by kernel_rfl) HG2.1 WRO.kp (ARG.i (EVi.of (EVx.name O2.now rfl rfl rfl)) (fun _ => ARG.x (EVx.cell (z := 5) O2.now rfl rfl e6 rfl rfl) (ARG.nil (t_lfits hb)) rfl) rfl))))) (by rw [hf]; rfl)) ?_
    refine RUN.set_gc (EVg.ic (EVi.sub (EVi.add (EVi.add (EVi.of (EVx.ditem (i := 12) (EVx.name O2.now hm1 rfl rfl) EVs.const rfl hbd rfl)) (EVi.ifb (CND.eq (CND.ci (EVi.of (EVx.item (i := 8) (j := 0) (EVx.cell (z := 2) O2.now rfl rfl e3 rfl rfl) EVi.const rfl (by decide) (by decide) rfl)) EVi.const CI.eq) hs) (EVi.of (EVx.cell (z := 3) O2.now rfl rfl e4 rfl rfl)) (EVi.sub EVi.const (EVi.of (EVx.cell (z := 3) O2.now rfl rfl e4 rfl rfl))))) (EVi.of (EVx.item (i := 9) (j := sp) (EVx.name O2.now hm2 rfl rfl) (EVi.of (EVx.cell (z := 0) O2.now rfl rfl e1 rfl rfl)) rfl hX0 hX63 hget))) (EVi.of (EVx.item (i := 8) (j := 4) (EVx.cell (z := 2) O2.now rfl rfl e3 rfl rfl) EVi.const rfl (by decide) (by decide) rfl))) fun tle => ?_)
    refine TGA.ditem (z := 12) (EVx.name O2.now hm1 rfl rfl) EVs.const rfl hbd (Nat.le_of_ble_eq_true rfl) (fun ob2 hb2 => ?_)
    have hb3 : ob2.IsDictOf (SKw w) (A.bank f0 (le + (bif s then am else 0 - am) + led.getD sp.toNat 0 - nu) u1 tle) := hb2
    let F2 : Nw := F1.set 12 (A.bk, ob2)
    show RUN _ m2 (F2 ++ cs') _ _
    refine RUN.unpc O2.now (ARGg.x (EVx.name O2.now rfl rfl rfl) (ARGg.i (EVi.mod (EVi.add (EVi.of (EVx.item (i := 8) (j := 0) (EVx.cell (z := 2) O2.now rfl rfl e3 rfl rfl) EVi.const rfl (by decide) (by decide) rfl)) EVi.const) EVi.const (by decide)) (fun b9 => ARGg.gc (EVg.tupc (ARGg.x (EVx.cell (z := 0) O2.now rfl rfl e1 rfl rfl) (ARGg.x (EVx.name O2.now rfl rfl rfl) (ARGg.nil ⟨rfl, fun p => ARGg.nil ⟨rfl, ?_⟩⟩) rfl) rfl)) rfl) rfl) rfl)
    refine TAS.cons (TGA.item (z := 10) (j := sp) (EVx.name O2.now hm2 rfl rfl) (EVi.of (EVx.cell (z := 1) O2.now rfl rfl e1 rfl rfl)) rfl hX0 hX63 (kset (hlv.symm ▸ hXn)) (TAS.cons (TGA.item (z := 9) (j := 0) (EVx.cell (z := 3) O2.now rfl rfl e3 rfl rfl) EVi.const rfl (by decide) (by decide) rfl (TAS.cons (TGA.item (z := 12) (j := chn i - 1) (EVx.ditem (i := 13) (EVx.name O2.now hm1 rfl rfl) EVs.const rfl hb3 rfl) (EVi.sub (EVi.of (EVx.cell (z := 5) O2.now rfl rfl e5 rfl rfl)) EVi.const) rfl chn_0 chn_9 (kset_chn hhl) (TAS.nil ?_))))))
    let F3 : Nw := ((F2.set 9 (A.lg, lstO (lvs.set sp.toNat (.int (bif s then nu - am else nu + am) tz)) kg)).set 8 (A.kl i, lstO [.int (Int.fmod (c0 + 1) 4) b9, .int x1 t1, .int x2 t2, .int am t3, .int nu t4] kk)).set 11 (A.hl, lstO (hvs.set (chn i - 1).toNat (.ref p)) kh)
    show RUN _ m2 ((p, tupO [.int sp tX, .int (bif s then nu - am else nu + am) tz] 0) :: (F3 ++ cs')) _ _
    refine RUN.ret_qc (EVg.q (EVg.xc (EVx.cs (EVs.of (EVx.name O2.now rfl rfl rfl)) EVs.const (CS.eq rfl)) ⟨F3.drop 6 ++ ([(p, tupO [.int sp tX, .int (bif s then nu - am else nu + am) tz] 0)] ++ cs'), F3 ++ (p, tupO [.int sp tX, .int (bif s then nu - am else nu + am) tz] 0) :: cs', List.perm_middle, List.sublist_append_right (F3.take 6) _, ?_⟩)) (fun u s' Y => Pq.up T Y)
    have hsum : (led.set sp.toNat (bif s then nu - am else nu + am)).sum - led.sum = le - (le + (bif s then am else 0 - am) + led.getD sp.toNat 0 - nu) := by
      rw [sum_set hXn]
      exact sum_z (by
        cases s
        · show nu + am = nu - (0 - am)
          rw [Int.zero_sub, Int.sub_neg]
        · rfl)
    exact ⟨rfl, _, _, _, _, _, _, sp, (bif s then nu - am else nu + am), (le + (bif s then am else 0 - am) + led.getD sp.toNat 0 - nu), led.set sp.toNat (bif s then nu - am else nu + am), _, [(p, tupO [.int sp tX, .int (bif s then nu - am else nu + am) tz] 0)], cs', cl_kept hB hc0, .inr ⟨hX0, qX, hf⟩, hL.set hf, List.length_set .., hsum, hn, hn', .inr ⟨p, _, _, _, rfl, rfl⟩, ⟨_, _, _, _, _, _, _, _, _, _, _, _, _, _, _, _, _, _, _, rfl, ints_set hi, hb3, hc', hf', TB'⟩⟩
  · have hf : fitsB b (bif s then nu - am else nu + am) = false := by simpa using hf
    refine RUN.let_qc O rfl (EVq.codeX (wa := a) (b := b) (room := room) (F := F0) (z := 15) [0, 1, 3, 4, 5, 6, 9, 14, 15] 10 O (by decide) HG (EVx.glob O.now (by kernel_rfl) rfl rfl) (by kernel_rfl) rfl rfl TB rfl rfl rfl rfl rfl (u := (Str.ofString "OV")) (fun f lam c' ps' A2 L2 g3 s2 E2 K HT HW => ?_) (fun f lam ps' cs' t TB' g2 T => ?_) (hb := (fun _ _ _ => rfl)))
    · exact EXr.call (a := 407) [7, 8] 9 K HT (fun q hq => hq) (by decide) (EVx.glob K (by kernel_rfl) rfl rfl) (by kernel_rfl) (ARG.x (EVx.free (z := 5) K rfl rfl e6 rfl rfl rfl) (ARG.i (EVi.of (EVx.free (z := 4) K rfl rfl e5 rfl rfl rfl)) (fun _ => ARG.i (EVi.of (EVx.free (z := 1) K rfl rfl e1 rfl rfl rfl)) (fun _ => ARG.s (EVs.ifb (CND.eq (CND.ci (EVi.of (EVx.item (i := 6) (j := 0) (EVx.free (z := 2) K rfl rfl e3 rfl rfl rfl) EVi.const rfl (by decide) (by decide) rfl)) EVi.const CI.eq) hs) EVs.const EVs.const) (fun _ => ARG.i (EVi.of (EVx.free (z := 3) K rfl rfl e4 rfl rfl rfl)) (fun _ => ARG.nil (t_kept_x (s := s) hb hcn rfl hnu rfl hf (fits_n0 hb hf) hz.1 hz.2)) rfl) rfl) rfl) rfl) rfl) HW WRO.kp
    intro m2
    have O2 := O.at T
    have HG2 : WRO w a b room g2 ∧ CodeHd g2 413 409 := ⟨wro_turn HG.1 T HF, code_turn O HG.2 T⟩
    refine RUN.drop (List.sublist_cons_self _ _) ?_
    let F1 : Nw := F0.set 15 (409, tabObj ps')
    show RUN _ m2 (F1 ++ cs') _ _
    refine RUN.if_t (CND.eq (CND.not (CND.of (EVx.ofg (EVg.callRT (ad := 393) [] 1 O2.now (by decide) (EVx.glob O2.now (by kernel_rfl) rfl rfl) (by kernel_rfl) HG2.1 WRO.kp (ARG.i (EVi.of (EVx.name O2.now rfl rfl rfl)) (fun _ => ARG.x (EVx.cell (z := 5) O2.now rfl rfl e6 rfl rfl) (ARG.nil (t_lfits hb)) rfl) rfl))))) (by rw [hf]; rfl)) ?_
    have tail : ∀ cz b9 x t', ClOK b led.length cz x1 x am nu sp nu → TAS ((HC w A' L g sh E).at g2) ((assignEach (fT (nthS (fI (nthS (fB (dS 66)) 6)) 0)) (HC w A' L g sh E).env).map (·.2)) [.int cz b9, .int x t'] m2 (F1 ++ cs') fun m4 n4 => RUN ((HC w A' L g sh E).at g2) m4 n4 [nthS (fI (nthS (fB (dS 66)) 6)) 1] (((HC w A' L g sh E).at g2).aft ((fB (dS 66)).drop 7) (Pq (HC w A' L g sh E) fs (HP w a b i A f0 n0 sp nu le led vs hvs))) := by
      intro cz b9 x t' hc
      refine TAS.cons (TGA.item (z := 8) (j := 0) (EVx.cell (z := 2) O2.now rfl rfl e3 rfl rfl) EVi.const rfl (by decide) (by decide) rfl (TAS.cons (TGA.item (z := 8) (j := 2) (EVx.cell (z := 2) O2.now rfl rfl e3 rfl rfl) EVi.const rfl (by decide) (by decide) rfl (TAS.nil ?_))))
      let F2 : Nw := F1.set 8 (A.kl i, lstO [.int (cz) b9, .int x1 t1, .int x t', .int am t3, .int nu t4] kk)
      show RUN _ m2 (F2 ++ cs') _ _
      refine RUN.ret_qc (EVg.q (EVg.xc (EVx.cs (EVs.of (EVx.name O2.now rfl rfl rfl)) EVs.const (CS.eq rfl)) ⟨F2.drop 6 ++ ([] ++ cs'), F2 ++ cs', List.Perm.refl _, List.sublist_append_right (F2.take 6) _, ?_⟩)) (fun u s' Y => Pq.up T Y)
      exact ⟨rfl, _, _, _, _, _, _, sp, nu, le, led, hvs, [], cs', hc, hH, hL, rfl, (Int.sub_self _).trans (Int.sub_self _).symm, hn, hn', .inl ⟨rfl, rfl, rfl, rfl⟩, ⟨_, _, _, _, _, _, _, _, _, _, _, _, _, _, _, _, _, _, _, rfl, hi, hbd, hcn, ⟨tf, hbk⟩, TB'⟩⟩
    refine RUN.unpg O2.now (EVg.ifb (CND.eq (CND.ci (EVi.of (EVx.item (i := 8) (j := 0) (EVx.cell (z := 2) O2.now rfl rfl e3 rfl rfl) EVi.const rfl (by decide) (by decide) rfl)) EVi.const CI.eq) hs) (fun hs1 => EVg.tupc (ARGg.i EVi.const (fun b9 => ARGg.x (EVx.item (i := 8) (j := 2) (EVx.cell (z := 2) O2.now rfl rfl e3 rfl rfl) EVi.const rfl (by decide) (by decide) rfl) (ARGg.nil ⟨rfl, fun D => ⟨D, _, 0, _, rfl, rfl, rfl, tail 0 b9 x2 t2 ⟨.inl rfl, fun e => absurd rfl e, fun e => (by cases e), fun e => by cases e⟩⟩⟩) rfl) rfl)) (fun hs0 => EVg.tupc (ARGg.i EVi.const (fun b9 => ARGg.x (EVx.item (i := 8) (j := 1) (EVx.cell (z := 2) O2.now rfl rfl e3 rfl rfl) EVi.const rfl (by decide) (by decide) rfl) (ARGg.nil ⟨rfl, fun D => ⟨D, _, 0, _, rfl, rfl, rfl, tail 2 b9 x1 t1 ⟨.inr (.inr (.inl rfl)), fun _ => ⟨hB.1, hB.2.1, hB.1, hB.2.1, hB.2.2.2.2⟩, fun e => (by cases e), fun e => by cases e⟩⟩⟩) rfl) rfl))) (fun _ _ h => h)
theorem t_half {w : World} {a : WAddr} {b room : Int} {i : Bool} {A : HA} {f0 n c0 x1 x2 am hv sp nu le : Int} {tc tn t0 t1 t2 t3 t4 : Tok} {kt kv kk kg kc kh : Nat} {led ns : List Int} {vs lvs hvs : List Value} {obk oc of : Obj} {ps : Array Value} {u1 u2 tf : Tok} {cs : Nw} (hb : BITS b) (hi : IntsAre lvs led) (hL : LedOK b led) (hbd : obk.IsDictOf (SKw w) (A.bank f0 le u1 u2)) (hcn : Chan w oc b (S (yOf sp :: octL b nu)) (sp + 1)) (hbk : of.IsDictOf (SKw w) [("BANK", .str (S (txtF b 0 led)) tf)]) (TB : TabOk ps cs) (hvi : IntsAre vs ns) (hns : ns.length < 100) (hn0 : 0 ≤ n) (hn1 : n < 990) (hC : ClOK b led.length c0 x1 x2 am hv sp nu) (hH : ChOK b led.length sp nu) (hroom : room = (led.length : Int) * (octs b + 1)) (hhl : hvs.length = 2) : CTq w 12 414 [.ref a.w, .ref A.bk, .int (chn i) tc, .ref A.tr] (HN a i A n c0 x1 x2 am hv tn t0 t1 t2 t3 t4 kt kv kk kg kc kh vs lvs hvs obk oc of ps ++ cs) (fun h => WRO w a b room h ∧ CodeHd h 413 409) (fun fr => ∀ x ∈ a.all, x ∉ fr) (HP w a b i A f0 n sp nu le led vs hvs) := by
  refine' CTq.mkC [((Str.ofString "world"), .ref a.w), ((Str.ofString "bank"), .ref A.bk), ((Str.ofString "channel"), .int (chn i) tc), ((Str.ofString "tray"), .ref A.tr)] ?ho ?hcd ?hb ?hkind ?hnd (fun h h' k W => ⟨WRO.kp h h' k W.1, W.2.keeps k⟩) ?h ?c2 ?c3 ?c4
  case ho => with_unfolding_all rfl
  case hcd => kernel_rfl
  case hb => exact fun s => BindsTo.of_eq rfl
  case hkind => rfl
  case hnd => decide +kernel
  case c2 => rfl
  case c3 => rfl
  case c4 => rfl
  case h =>
    intro A' L g s E fs cl c O HG HF Y
    intro QQ
    obtain ⟨q1, q2, q3, q4, q5, q6, rfl, d1, d2, d3, d4, d5, d6⟩ := kc_six Y
    have e5 : q5.data = .cell (some (.int (chn i) tc)) := d5
    have e6 : q6.data = .cell (some (.ref a.w)) := d6
    have hlv := hi.length
    have hL9 := hL.2.1
    have hL0 := hL.1
    let F0 : Nw := HQF a i A L q6 q5 (lstO vs kv) (lstO A.cks kc) (lstO lvs kg) (lstO hvs kh) obk q2 q3 q4 q1 (lstO [.ref A.sc, .int n tn] kt) (lstO [.int (c0) t0, .int x1 t1, .int x2 t2, .int am t3, .int hv t4] kk) of oc (tabObj ps)
    show RUN c _ (F0 ++ cs) _ _
    refine RUN.unpc O.now (ARGg.x (EVx.ditem (i := 12) (EVx.name O.now rfl rfl rfl) EVs.const rfl hbd rfl) (ARGg.x (EVx.item (i := 10) (j := chn i - 1) (EVx.ditem (i := 12) (EVx.name O.now rfl rfl rfl) EVs.const rfl hbd rfl) (EVi.sub (EVi.of (EVx.cell (z := 4) O.now rfl rfl e5 rfl rfl)) EVi.const) rfl chn_0 chn_9 (show A.cks[(chn i - 1).toNat]? = some (.ref (A.kl i)) by cases i <;> rfl)) (ARGg.i (EVi.bi (EVx.built O.now (by kernel_rfl) boot_len (by decide) rfl rfl) (ARG.x (EVx.ditem (i := 12) (EVx.name O.now rfl rfl rfl) EVs.const rfl hbd rfl) (ARG.nil (b_len (i := 9) rfl rfl (by omega))) rfl)) (fun tM => ARGg.nil ⟨rfl, TAS.cons (TGA.name O.now rfl ?_)⟩) rfl) rfl) rfl)
    intro m1
    refine TAS.cons (TGA.cell (z := 2) O.now rfl rfl d3 rfl fun q3' e3 => TAS.cons (TGA.cell (z := 1) O.now rfl rfl d2 rfl fun q2' e2 => TAS.nil ?_))
    let F1 : Nw := (F0.set 2 (L + 1 + 1 + 1 + 1, q3')).set 1 (L + 1 + 1 + 1 + 1 + 1, q2')
    show RUN c m1 (F1 ++ cs) _ _
    rcases hC.c with h | h | h | h
    · refine RUN.if_t (CND.eq (CND.ci (EVi.of (EVx.item (i := 8) (j := 0) (EVx.cell (z := 2) O.now rfl rfl e3 rfl rfl) EVi.const rfl (by decide) (by decide) rfl)) EVi.const CI.eq) (by rw [h]; rfl)) ?_
      refine RUN.unpc O.now (ARGg.gc (EVg.callP (T := cs) [6, 7] 2 O.now (by decide) (EVx.glob O.now (by kernel_rfl) rfl rfl) (by kernel_rfl) trivial (fun _ _ _ h => h) (ARG.x (EVx.name O.now rfl rfl rfl) (ARG.i (EVi.add (EVi.of (EVx.cell (z := 1) O.now rfl rfl e2 rfl rfl)) EVi.const) (fun _ => ARG.nil (t_pulled hvi hns (by omega) (by omega) (by omega))) rfl) rfl) (fun v n' hP => ?_)) rfl)
      obtain ⟨z1, b1, tn1, y1, y2, rfl, rfl⟩ := hP
      let F2 : Nw := F1.set 6 (A.tr, lstO [.ref A.sc, .int (n + 1) tn1] kt)
      refine ⟨F2, rfl, rfl, rfl, ARGg.gc (EVg.callP (T := cs) [6, 7] 2 O.now (by decide) (EVx.glob O.now (by kernel_rfl) rfl rfl) (by kernel_rfl) trivial (fun _ _ _ h => h) (ARG.x (EVx.name O.now rfl rfl rfl) (ARG.i (EVi.add (EVi.of (EVx.cell (z := 1) O.now rfl rfl e2 rfl rfl)) EVi.const) (fun _ => ARG.nil (t_pulled hvi hns (by omega) (by omega) (by omega))) rfl) rfl) (fun v n' hP => ?_)) rfl⟩
      obtain ⟨z2, b2, tn2, y3, y4, rfl, rfl⟩ := hP
      let F3 : Nw := F1.set 6 (A.tr, lstO [.ref A.sc, .int (n + 1 + 1) tn2] kt)
      refine ⟨F3, rfl, rfl, rfl, ARGg.gc (EVg.subc (k := 30) (EVg.callP (T := cs) [6, 7] 2 O.now (by decide) (EVx.glob O.now (by kernel_rfl) rfl rfl) (by kernel_rfl) trivial (fun _ _ _ h => h) (ARG.x (EVx.name O.now rfl rfl rfl) (ARG.i EVi.const (fun _ => ARG.nil (t_pulled hvi hns (by omega) (by omega) (by omega))) rfl) rfl) (fun v n' hP => ?_))) rfl⟩
      obtain ⟨z3, b0, tn3, y5, y6, rfl, rfl⟩ := hP
      let F4 : Nw := F1.set 6 (A.tr, lstO [.ref A.sc, .int (n + 1 + 1 + 1) tn3] kt)
      refine ⟨F4, rfl, rfl, rfl, ⟨z3, b0, rfl, fun b3 => ARGg.nil ⟨rfl, ?_⟩, EVi.const⟩⟩
      refine TAS.cons (TGA.item (z := 8) (j := 1) (EVx.cell (z := 2) O.now rfl rfl e3 rfl rfl) EVi.const rfl (by decide) (by decide) rfl (TAS.cons (TGA.item (z := 8) (j := 2) (EVx.cell (z := 2) O.now rfl rfl e3 rfl rfl) EVi.const rfl (by decide) (by decide) rfl (TAS.cons (TGA.item (z := 8) (j := 3) (EVx.cell (z := 2) O.now rfl rfl e3 rfl rfl) EVi.const rfl (by decide) (by decide) rfl (TAS.nil ?_))))))
      refine RUN.fall ?_
      let F5 : Nw := F4.set 8 (A.kl i, lstO [.int (c0) t0, .int z1 b1, .int z2 b2, .int (z3 - 30) b3, .int hv t4] kk)
      show RUN c m1 (F5 ++ cs) _ _
      exact half_even (s := false) (n0 := n) hb hi hL hbd hcn hbk TB hH hroom hhl (by omega) (by omega) O HG HF d1 e2 e3 d4 e5 e6 rfl rfl h y1 (by omega) rfl rfl ⟨y1, by omega, y3, by omega, by omega, by omega⟩
    · obtain ⟨y1, y2, y3, y4, y5, y6⟩ := hC.x (by rw [h]; decide)
      obtain ⟨qX, hs, hn⟩ := hC.o1 h
      refine RUN.if_f (CND.eq (CND.ci (EVi.of (EVx.item (i := 8) (j := 0) (EVx.cell (z := 2) O.now rfl rfl e3 rfl rfl) EVi.const rfl (by decide) (by decide) rfl)) EVi.const CI.eq) (by rw [h]; rfl)) ?_
      exact half_odd (s := true) (n0 := n) hb hi hL hbd hcn hbk TB hH hroom hhl (by omega) (by omega) O HG HF d1 e2 e3 d4 e5 e6 rfl rfl h hn y1 qX rfl rfl hs ⟨y1, y2, y3, y4, y5, y6⟩
    · obtain ⟨y1, y2, y3, y4, y5, y6⟩ := hC.x (by rw [h]; decide)
      refine RUN.if_f (CND.eq (CND.ci (EVi.of (EVx.item (i := 8) (j := 0) (EVx.cell (z := 2) O.now rfl rfl e3 rfl rfl) EVi.const rfl (by decide) (by decide) rfl)) EVi.const CI.eq) (by rw [h]; rfl)) ?_
      exact half_even (s := true) (n0 := n) hb hi hL hbd hcn hbk TB hH hroom hhl (by omega) (by omega) O HG HF d1 e2 e3 d4 e5 e6 rfl rfl h y3 y4 rfl rfl ⟨y1, y2, y3, y4, y5, y6⟩
    · obtain ⟨y1, y2, y3, y4, y5, y6⟩ := hC.x (by rw [h]; decide)
      obtain ⟨qX, hs, hn⟩ := hC.o3 h
      refine RUN.if_f (CND.eq (CND.ci (EVi.of (EVx.item (i := 8) (j := 0) (EVx.cell (z := 2) O.now rfl rfl e3 rfl rfl) EVi.const rfl (by decide) (by decide) rfl)) EVi.const CI.eq) (by rw [h]; rfl)) ?_
      exact half_odd (s := false) (n0 := n) hb hi hL hbd hcn hbk TB hH hroom hhl (by omega) (by omega) O HG HF d1 e2 e3 d4 e5 e6 rfl rfl h hn y3 qX rfl rfl hs ⟨y1, y2, y3, y4, y5, y6⟩
end Mine
end
section
open PySem PySem.W PySem.Calls PyProof.Rows
namespace Mine
section
variable {c : Cx} {m : Lo} {n1 T : Nw} {r : Nat}
theorem EXr.callT {f e : PySem.Expr} {es : List PySem.Expr} {p : Pos} {ad : Addr} {G : Heap → Prop} {cells : Nw} {u : Str} (is : List Nat) (r' : Nat) (H : Ok c r) (hT : Thr c cells u) (hcs : ∀ p ∈ cells, p ∈ n1 ++ T) (hr : r' < r) (hf : EVx c m (n1 ++ T) f (.ref ad)) (hk : keepIn (KO c.w.params) (.ref ad) = true)
    (ha : ARG c m (n1 ++ T) (e :: es) fun vs => CTr c.w r' ad vs (pick is 0 n1) G u) (hG : G c.g) (hGk : ∀ h h', (∀ b o, h.get? b = some o → h'.get? b = some o) → G h → G h') (hi : autoParam ((is.all fun i => decide (i < 0 + n1.length)) = true) rflT)
    (h0 : autoParam (PySem.eval (f.Call (e :: es) [] p) c.env = (PySem.eval f c.env >>= fun fv => callWith p fv [] (backTo p (starEach (e :: es) c.env)) (backToKw p (keywordEach [] c.env)))) rflT)
    (hs : autoParam (starEach (e :: es) c.env = (false, PySem.eval e c.env) :: starEach es c.env) rflT) (hs2 : autoParam (((backTo p (starEach es c.env)).any fun x => x.1) = false) rflT) : EXr c m (n1 ++ T) (.Call f (e :: es) [] p) :=
  EXr.call is r' H hT hcs hr hf hk (by rw [pick_app n1 T hi]; exact ha) hG hGk h0 hs hs2
theorem Cx.St.mem {n cells : Nw} {h : Heap} (S : c.St m n h) (q : ∀ p ∈ cells, p ∈ n) (d : (cells.map Prod.fst).Nodup) : c.St m cells h := ⟨S.F, fun p hp => S.N p (q p hp), d⟩
end
inductive TrP (w : World) (a : WAddr) (b : Int) (i : Bool) (led : List Int) (x1 x2 am : Int) (u : Value) (N : Nw) : Prop
  | mk (e : u = .bool (fitsB b ((led.getD x1.toNat 0) - am) && fitsB b ((led.getD x2.toNat 0) + am))) (oc' of' : Obj) (ub' : Str) (rn' : Int) (h1 : Chan w oc' b ub' rn') (h2 : Bank w of' (S (txtF b 0 (if (fitsB b ((led.getD x1.toNat 0) - am) && fitsB b ((led.getD x2.toNat 0) + am)) = true then ((led.set x1.toNat ((led.getD x1.toNat 0) - am)).set x2.toNat ((led.getD x2.toNat 0) + am)) else led)))) (hN : N = [(a.c i, oc'), (a.fl, of')]) : TrP w a b i led x1 x2 am u N
theorem getD_set_ne {l : List Int} {i j : Nat} {z : Int} (h : i ≠ j) : (l.set i z).getD j 0 = l.getD j 0 := by
  rw [List.getD_eq_getElem?_getD, List.getElem?_set_ne h, List.getD_eq_getElem?_getD]
inductive TrX (b x1 x2 am : Int) (t1 t2 : Tok) (led : List Int) (s : Bool) : Prop
  | mk (X V Z : Int) (tX : Tok) (eX : X = bif s then x1 else x2) (eT : tX = bif s then t1 else t2) (eV : V = led.getD X.toNat 0) (eZ : Z = bif s then V - am else V + am) (h0 : 0 ≤ X) (h1 : X < led.length) (hv : fitsB b V = true) (z0 : -300000 < Z) (z1 : Z < 300000) : TrX b x1 x2 am t1 t2 led s
theorem two_turns {k : Nat} {v : Value} {p1 p2 : Addr} (hk : k < 2) (hV : [Value.ref p1, Value.ref p2][k]? = some v) : ∃ s : Bool, k = (bif s then 0 else 1) ∧ v = .ref (bif s then p1 else p2) :=
  match k, hk, hV with
  | 0, _, h => ⟨true, rfl, (Option.some.inj h).symm⟩
  | 1, _, h => ⟨false, rfl, (Option.some.inj h).symm⟩
theorem t_transfer {w : World} {a : WAddr} {b room x1 x2 am : Int} {i : Bool} {oc of : Obj} {ub : Str} {rn : Int} {tc t1 t2 t3 tf : Tok} {led : List Int} (hb : BITS b) (hcn : Chan w oc b ub rn) (hbk : of.IsDictOf (SKw w) [("BANK", .str (S (txtF b 0 led)) tf)]) (hL : LedOK b led) (hx1 : 0 ≤ x1) (hy1 : x1 < led.length) (hx2 : 0 ≤ x2) (hy2 : x2 < led.length) (hne : x1 ≠ x2) (ha1 : -31 < am) (ha2 : am < 61) (hroom : room = (led.length : Int) * (octs b + 1)) : CTq w 9 428 [.ref a.w, .int (chn i) tc, .int x1 t1, .int x2 t2, .int am t3] [(a.c i, oc), (a.fl, of)] (WRO w a b room) (fun _ => True) (TrP w a b i led x1 x2 am) := by
  refine' CTq.mkT [((Str.ofString "world"), .ref a.w), ((Str.ofString "channel"), .int (chn i) tc), ((Str.ofString "one"), .int x1 t1), ((Str.ofString "other"), .int x2 t2), ((Str.ofString "amount"), .int am t3)] ?ho ?hcd ?hb ?hl WRO.kp ?h ?hx ?ex ?q ?c2 ?c3 ?c4 ?c5
  case ho => with_unfolding_all rfl
  case hcd => kernel_rfl
  case hb => exact fun s => BindsTo.of_eq rfl
  case hl => rfl
  case hx => exact fun _ => rfl
  case ex => kernel_rfl
  case q => kernel_rfl
  case c2 => rfl
  case c3 => rfl
  case c4 => rfl
  case c5 => decide
  case h =>
    intro A L g s E fs c O hC HG _
    intro QQ
    have hob := octs_pos hb
    have hL9 := hL.2.1
    have htl := text_lt hb hL.2.1
    have hnd : (([(a.c i, oc), (a.fl, of)] : Nw).map Prod.fst).Nodup := by
      have := WRO.cf HG
      cases i
      · simp [this.1.1]
      · simp [this.2.1]
    refine RUN.let_gc O.now rfl (EVg.lstc (ARGg.gc (EVg.tupc (ARGg.x (EVx.name O.now rfl rfl rfl) (ARGg.s EVs.const (fun s1 => ARGg.nil ⟨rfl, fun p1 => ?_⟩) rfl) rfl)) rfl))
    refine ARGg.gc (EVg.tupc (ARGg.x (EVx.name O.now rfl rfl rfl) (ARGg.s EVs.const (fun s2 => ARGg.nil ⟨rfl, fun p2 => ARGg.nil ⟨rfl, fun st => ?_⟩⟩) rfl) rfl)) rfl
    intro m1
    let N : Obj → Obj → Nw := fun oc of => [(st, lstO [.ref p1, .ref p2] 0), (p2, tupO [.int x2 t2, .str (Str.ofString "+") s2] 0), (p1, tupO [.int x1 t1, .str (Str.ofString "-") s1] 0), (a.c i, oc), (a.fl, of)]
    show RUN c m1 (N oc of) _ _
    have hbX : ∀ s, TrX b x1 x2 am t1 t2 led s := by
      intro s
      cases s
      · have := fits_bd hb (hL.get hx2 hy2)
        exact ⟨x2, _, _, t2, rfl, rfl, rfl, rfl, hx2, hy2, hL.get hx2 hy2, by dsimp only [cond]; omega, by dsimp only [cond]; omega⟩
      · have := fits_bd hb (hL.get hx1 hy1)
        exact ⟨x1, _, _, t1, rfl, rfl, rfl, rfl, hx1, hy1, hL.get hx1 hy1, by dsimp only [cond]; omega, by dsimp only [cond]; omega⟩
    refine RUN.try_b O hC (fun E' hT OE => ?_) (by passes_own)
    have OE := OE.now
    let J2 : Nat → Lo → Nw → Prop := fun k m n => (m (Str.ofString "world") = some (.ref a.w) ∧ m (Str.ofString "channel") = some (.int (chn i) tc) ∧ m (Str.ofString "amount") = some (.int am t3) ∧ m (Str.ofString "steps") = some (.ref st)) ∧ (1 ≤ k → fitsB b ((led.getD x1.toNat 0) - am) = true) ∧ (2 ≤ k → fitsB b ((led.getD x2.toNat 0) + am) = true) ∧ ∃ oc' ub' rn', Chan w oc' b ub' rn' ∧ n = N oc' of
    refine RUN.for_w J2 OE (ITR.lst (z := 0) OE (EVx.name OE rfl rfl rfl) rfl) ⟨⟨rfl, rfl, rfl, rfl⟩, fun q => absurd q (by decide), fun q => absurd q (by decide), oc, ub, rn, hcn, rfl⟩ (fun _ _ _ hJ p hp => by obtain ⟨_, _, _, oc', ub', rn', _, rfl⟩ := hJ; rw [List.mem_singleton.mp hp]; exact .head _) (fun k T v m2 n2 h2 hk hJ hV S2 => ?_) (fun m2 n2 hJ => ?_)
    · obtain ⟨⟨l1, l2, l3, l4⟩, f1, f2, oc', ub', rn', hc', rfl⟩ := hJ
      obtain ⟨s, rfl, rfl⟩ := two_turns hk hV
      obtain ⟨X, V, Z, tX, eX, eT, eV, eZ, hX0, hX1, hvX, hz1, hz2⟩ := hbX s
      refine ⟨_, TGT.tup OE S2 (vs := [.int X tX, .str (bif s then Str.ofString "-" else Str.ofString "+") (bif s then s1 else s2)]) (by subst eX eT; cases s; exact S2.isTup (i := 1) rfl; exact S2.isTup (i := 2) rfl) (TGS.cons (TGT.name OE rfl) (TGS.cons (TGT.name OE rfl) TGS.nil)), ?_⟩
      refine RUN.exc (EVg.callP (a := N oc' of) (T := T) [3, 4] 2 OE (by decide) (EVx.glob OE (by kernel_rfl) rfl rfl) (by kernel_rfl) HG WRO.kp (ARG.x (EVx.name OE l1 rfl rfl) (ARG.i (EVi.of (EVx.name OE l2 rfl rfl)) (fun _ => ARG.i (EVi.add (EVi.of (EVx.name OE rfl rfl rfl)) EVi.const) (fun _ => ARG.nil (t_get hb hc' hbk (by omega) (by omega) rfl htl (text_fit hb hX0 hX1))) rfl) rfl) rfl) (fun v n' hP => ?_))
      obtain ⟨rfl, oc1, hc1, rfl⟩ := hP
      rw [text_get hb hX0 hX1, ← eV] at hc1
      refine ⟨N oc1 of, rfl, rfl, rfl, ?_⟩
      by_cases f9 : fitsB b Z = true
      · refine RUN.exc (EVg.callP (a := N oc1 of) (T := T) [3] 5 OE (by decide) (EVx.glob OE (by kernel_rfl) rfl rfl) (by kernel_rfl) HG WRO.kp (ARG.x (EVx.name OE l1 rfl rfl) (ARG.i (EVi.of (EVx.name OE l2 rfl rfl)) (fun _ => ARG.s (EVs.of (EVx.name OE rfl rfl rfl)) (fun _ => ARG.i (EVi.of (EVx.name OE l3 rfl rfl)) (fun _ => ARG.nil (t_sum_i (s := s) hb hc1 rfl hvX eZ f9)) rfl) rfl) rfl) rfl) (fun v n' hP => ?_))
        obtain ⟨_, rfl⟩ := hP
        exact ⟨N oc1 of, rfl, rfl, rfl, RUN.turnW (n2 := N oc1 of) (List.Sublist.refl _) ⟨⟨l1, l2, l3, l4⟩, (by subst eZ eV eX; cases s; exact fun _ => f1 (by decide); exact fun _ => f9), (by subst eZ eV eX; cases s; exact fun _ => f9; exact fun q => absurd q (by decide)), oc1, _, _, hc1, rfl⟩⟩
      · have f9 : fitsB b Z = false := by simpa using f9
        have f8 : (fitsB b ((led.getD x1.toNat 0) - am) && fitsB b ((led.getD x2.toNat 0) + am)) = false := by
          subst eZ eV eX
          cases s
          · exact Bool.and_eq_false_iff.mpr (.inr f9)
          · exact Bool.and_eq_false_iff.mpr (.inl f9)
        refine RUN.ex_r (EXr.callT (n1 := N oc1 of) (T := T) (cells := [(a.c i, oc1), (a.fl, of)]) [3] 8 OE (hT _ _ fun g2 m' n' T2 hcs h k S3 => ?_) (fun p hp => List.mem_append_left _ (List.mem_cons_of_mem _ (List.mem_cons_of_mem _ (List.mem_cons_of_mem _ hp)))) (by decide) (EVx.glob OE (by kernel_rfl) rfl rfl) (by kernel_rfl) (ARG.x (EVx.name OE l1 rfl rfl) (ARG.i (EVi.of (EVx.name OE l2 rfl rfl)) (fun _ => ARG.s (EVs.of (EVx.name OE rfl rfl rfl)) (fun _ => ARG.i (EVi.of (EVx.name OE l3 rfl rfl)) (fun _ => ARG.nil (t_sum_x (s := s) hb hc1 rfl hvX eZ f9 (fits_n0 hb f9) hz1 hz2)) rfl) rfl) rfl) rfl) HG WRO.kp)
        exact ⟨g2, T2, .bool false, m', [(a.c i, oc1), (a.fl, of)], h, k, ⟨congrArg Value.bool f8.symm, oc1, of, _, _, hc1, by rw [f8]; exact ⟨tf, hbk⟩, rfl⟩, S3.mem hcs hnd, rfl, rfl⟩
    · obtain ⟨⟨l1, l2, l3, l4⟩, f1, f2, oc', ub', rn', hc', rfl⟩ := hJ
      have f1 := f1 (show 1 ≤ 2 by decide)
      have f2 := f2 (show 2 ≤ 2 by decide)
      refine RUN.fallE ?_
      let tl : Nat → List Int := fun k => match k with
        | 0 => led
        | 1 => led.set x1.toNat ((led.getD x1.toNat 0) - am)
        | _ => (led.set x1.toNat ((led.getD x1.toNat 0) - am)).set x2.toNat ((led.getD x2.toNat 0) + am)
      let J3 : Nat → Lo → Nw → Prop := fun k m n => (m (Str.ofString "world") = some (.ref a.w) ∧ m (Str.ofString "channel") = some (.int (chn i) tc) ∧ m (Str.ofString "amount") = some (.int am t3) ∧ m (Str.ofString "steps") = some (.ref st)) ∧ ∃ oc' of' ub' rn', Chan w oc' b ub' rn' ∧ Bank w of' (S (txtF b 0 (tl k))) ∧ n = N oc' of'
      refine RUN.for_w J3 O.now (ITR.lst (z := 0) O.now (EVx.name O.now l4 rfl rfl) rfl) ⟨⟨l1, l2, l3, l4⟩, oc', of, ub', rn', hc', ⟨tf, hbk⟩, rfl⟩ (fun _ _ _ hJ p hp => by obtain ⟨_, oc', of', ub', rn', _, _, rfl⟩ := hJ; rw [List.mem_singleton.mp hp]; exact .head _) (fun k T v m2 n2 h2 hk hJ hV S2 => ?_) (fun m2 n2 hJ => ?_)
      · obtain ⟨⟨l1, l2, l3, l4⟩, oc', of', ub', rn', hc', ⟨tf', hf'⟩, rfl⟩ := hJ
        obtain ⟨s, rfl, rfl⟩ := two_turns hk hV
        obtain ⟨X, V, Z, tX, eX, eT, eV, eZ, hX0, hX1, hvX, hz1, hz2⟩ := hbX s
        have f9 : fitsB b Z = true := by subst eZ eV eX; cases s; exact f2; exact f1
        have hlen : (tl (bif s then 0 else 1)).length = led.length := by cases s; exact List.length_set ..; rfl
        have hgv : (tl (bif s then 0 else 1)).getD X.toNat 0 = V := by
          subst eV eX
          cases s
          · exact getD_set_ne (i := x1.toNat) (j := x2.toNat) (by omega)
          · rfl
        have hnx : (tl (bif s then 0 else 1)).set X.toNat Z = tl ((bif s then 0 else 1) + 1) := by subst eZ eV eX; cases s <;> rfl
        generalize tl (bif s then 0 else 1) = cur at hf' hlen hgv hnx
        have hX2 : X < cur.length := by rw [hlen]; exact hX1
        have htl1 := text_lt hb (led := cur) (by rw [hlen]; exact hL9)
        have hfr := text_fit hb hX0 hX2
        have hfr2 := hfr
        rw [text_end hb, hlen, show (led.length : Int) + 1 - 1 = led.length from Int.add_sub_cancel .., ← hroom] at hfr2
        refine ⟨_, TGT.tup O.now S2 (vs := [.int X tX, .str (bif s then Str.ofString "-" else Str.ofString "+") (bif s then s1 else s2)]) (by subst eX eT; cases s; exact S2.isTup (i := 1) rfl; exact S2.isTup (i := 2) rfl) (TGS.cons (TGT.name O.now rfl) (TGS.cons (TGT.name O.now rfl) TGS.nil)), ?_⟩
        refine RUN.exc (EVg.callP (a := N oc' of') (T := T) [3, 4] 2 O.now (by decide) (EVx.glob O.now (by kernel_rfl) rfl rfl) (by kernel_rfl) HG WRO.kp (ARG.x (EVx.name O.now l1 rfl rfl) (ARG.i (EVi.of (EVx.name O.now l2 rfl rfl)) (fun _ => ARG.i (EVi.add (EVi.of (EVx.name O.now rfl rfl rfl)) EVi.const) (fun _ => ARG.nil (t_get hb hc' hf' (by omega) (by omega) rfl htl1 hfr)) rfl) rfl) rfl) (fun v n' hP => ?_))
        obtain ⟨rfl, oc1, hc1, rfl⟩ := hP
        rw [text_get hb hX0 hX2, hgv] at hc1
        refine ⟨N oc1 of', rfl, rfl, rfl, ?_⟩
        refine RUN.exc (EVg.callP (a := N oc1 of') (T := T) [3, 4] 6 O.now (by decide) (EVx.glob O.now (by kernel_rfl) rfl rfl) (by kernel_rfl) HG WRO.kp (ARG.x (EVx.name O.now l1 rfl rfl) (ARG.i (EVi.of (EVx.name O.now l2 rfl rfl)) (fun _ => ARG.i (EVi.of (EVx.name O.now rfl rfl rfl)) (fun _ => ARG.s (EVs.of (EVx.name O.now rfl rfl rfl)) (fun _ => ARG.i (EVi.of (EVx.name O.now l3 rfl rfl)) (fun _ => ARG.nil (t_kept_i (s := s) hb hc1 hf' (by omega) (by omega) rfl htl1 rfl hvX eZ f9 hfr hfr2)) rfl) rfl) rfl) rfl) rfl) (fun v n' hP => ?_))
        obtain ⟨rfl, oc2, of2, hc2, hf2, rfl⟩ := hP
        rw [text_put hb hX0 hX2, hnx] at hf2
        exact ⟨N oc2 of2, rfl, rfl, rfl, RUN.turnW (n2 := N oc2 of2) (List.Sublist.refl _) ⟨⟨l1, l2, l3, l4⟩, oc2, of2, _, _, hc2, hf2, rfl⟩⟩
      · obtain ⟨⟨l1, l2, l3, l4⟩, oc', of', ub', rn', hc', hf', rfl⟩ := hJ
        exact RUN.pn (RUN.ret_nxs (n2 := [(a.c i, oc'), (a.fl, of')]) (List.sublist_append_right ((N oc' of').take 3) _) EVx.bool ⟨by rw [f1, f2]; rfl, oc', of', ub', rn', hc', by rw [f1, f2]; exact hf', rfl⟩)
end Mine
end
section
open PySem PySem.W PySem.Calls PyProof.Rows
namespace Mine
theorem IntsAre.snocM {vs : List Value} {ns : List Int} (h : IntsAre vs ns) (v : Int) (t : Tok) : IntsAre (vs ++ [.int v t]) (ns ++ [v]) := by
  induction h with
  | nil => exact .cons _ _ .nil
  | cons y t' _ ih => exact .cons _ _ ih
noncomputable abbrev numS (l : List Nat) (i : Nat) : List Int := (List.range i).map fun j => ((l.getD j 0 : Nat) : Int) * 256 ^ j
theorem numS_S {l : List Nat} {i : Nat} : numS l (i + 1) = numS l i ++ [((l.getD i 0 : Nat) : Int) * 256 ^ i] := by simp [numS, List.range_succ]
theorem two_oct {r q : Int} (a0 : 0 ≤ r) (a1 : r < 256) (b0 : 0 ≤ q) (b1 : q < 256) : 0 ≤ r * 1 + (q * 256 + 0) ∧ r * 1 + (q * 256 + 0) < 65536 := by omega
theorem num_bd {b v : Int} (hb : BITS b) : 0 ≤ (numS (octL b v) (octs b).toNat).sum ∧ (numS (octL b v) (octs b).toNat).sum < 65536 := by
  have r := em0 v
  have q := em0 (v / 256)
  rw [← emN] at r q
  rcases hb with rfl | rfl | rfl
  · show 0 ≤ (((v % 256).toNat : Nat) : Int) * 1 + 0 ∧ (((v % 256).toNat : Nat) : Int) * 1 + 0 < 65536
    rw [Int.mul_one, Int.add_zero]
    exact ⟨r.1, Int.lt_trans r.2 (by decide)⟩
  · exact two_oct r.1 r.2 q.1 q.2
  · exact two_oct r.1 r.2 q.1 q.2
theorem num_signed {b v : Int} (hb : BITS b) (hf : fitsB b v = true) : signed (octs b) (numS (octL b v) (octs b).toNat).sum = v := by
  rcases hb with rfl | rfl | rfl
  · have e : (numS (octL 8 v) (octs 8).toNat).sum = v % 256 := by
      show (((v % 256).toNat : Nat) : Int) * 1 + 0 = _; rw [emN, Int.mul_one, Int.add_zero]
    rw [e]; exact signed1 (.inl rfl) rfl hf
  · have e : (numS (octL 12 v) (octs 12).toNat).sum = v % 256 + v / 256 % 256 * 256 := by
      show (((v % 256).toNat : Nat) : Int) * 1 + ((((v / 256 % 256).toNat : Nat) : Int) * 256 + 0) = _; rw [emN, emN, Int.mul_one, Int.add_zero]
    rw [e]; exact signed2 (.inr (.inl rfl)) rfl hf
  · have e : (numS (octL 16 v) (octs 16).toNat).sum = v % 256 + v / 256 % 256 * 256 := by
      show (((v % 256).toNat : Nat) : Int) * 1 + ((((v / 256 % 256).toNat : Nat) : Int) * 256 + 0) = _; rw [emN, emN, Int.mul_one, Int.add_zero]
    rw [e]; exact signed2 (.inr (.inr rfl)) rfl hf
theorem num_pw {i : Nat} (h : i < 2) {x : Nat} : (0 : Int) ≤ i ∧ (i : Int) ≤ 1000000 ∧ (256 : Int) ^ (i : Int).toNat = 256 ^ i ∧ IntMulOk (x : Int) (256 ^ (i : Int).toNat) := by
  have : i = 0 ∨ i = 1 := by omega
  rcases this with rfl | rfl <;> exact ⟨by decide, by decide, rfl, IntMulOk.of_right (intBits_le_64 (by decide) (by decide))⟩
theorem octL_sz {b v : Int} (hb : BITS b) : (S (octL b v)).cps.size = (octs b).toNat := by
  have := octL_len (v := v) hb
  show (octL b v).toArray.size = _
  simp; omega
theorem t_total {w : World} {b : Int} {tx : Str} {led : List Int} {tt to : Tok} (hb : BITS b) (hL : LedOK b led) (htx : tx = S (txtF b 0 led)) : CTi w 1 379 [.str tx tt, .int (octs b) to] (led.sum) := by
  refine' CTi.mk [((Str.ofString "text"), .str tx tt), ((Str.ofString "octets"), .int (octs b) to)] ?ho ?hcd ?hb ?hl ?h ?c2 ?c3 ?c4 ?c5
  case ho => with_unfolding_all rfl
  case hcd => kernel_rfl
  case hb => exact fun s => BindsTo.of_eq rfl
  case hl => rfl
  case c2 => rfl
  case c3 => rfl
  case c4 => rfl
  case c5 => decide
  case h =>
    intro A L g s E c H
    intro QQ
    exact by
      have hob := octs_pos hb
      have htl := text_lt hb hL.2.1
      have hLl := hL.2.1
      refine RUN.let_i H EVi.const rfl fun t0 => ?_
      intro m1
      let J1 : Nat → Lo → Nw → Prop := fun i m n => (∃ t, m (Str.ofString "found") = some (.int (led.take i).sum t)) ∧ m (Str.ofString "text") = some (.str tx tt) ∧ m (Str.ofString "octets") = some (.int (octs b) to) ∧ n = []
      refine RUN.for_w J1 H (ITR.rng (N := led.length) H (EVr.r3 (EVx.built (v := .type "range") H (by kernel_rfl) (by decide +kernel) (by decide) rfl rfl) EVi.const (EVi.bi (EVx.built H (by kernel_rfl) boot_len (by decide) rfl rfl) (ARG.s (EVs.of (EVx.name H rfl rfl rfl)) (fun _ => ARG.nil (b_lens (v := ((txtF b 0 led).length : Int)) (by rw [htx, S_len]) (by omega))) rfl)) (EVi.add (EVi.of (EVx.name H rfl rfl rfl)) EVi.const) (by omega) (PyProof.noPylong_small (by omega)) (rng_small hb hL.2.1) (rng_size hb))) ⟨⟨t0, rfl⟩, rfl, rfl, rfl⟩ (fun _ _ _ _ p hp => nomatch hp) (fun i T v m2 n2 h2 hi hJ hV S2 => ?_) (fun m2 n2 hJ => ?_)
      · obtain ⟨⟨tf, e1⟩, e2, e3, rfl⟩ := hJ
        obtain ⟨t, rfl⟩ := hV
        have hv : fitsB b led[i] = true := hL.2.2 _ (List.getElem_mem hi)
        have hsl := slice_oct (o := octs b) hb rfl hi htx (txtF_oct hb hi)
        refine ⟨_, TGT.name H rfl, ?_⟩
        refine RUN.let_s H (EVs.eq (EVs.sl_ss (EVs.of (EVx.name H e2 rfl rfl)) (EVi.add (EVi.of (EVx.name H rfl rfl rfl)) EVi.const) (EVi.add (EVi.add (EVi.of (EVx.name H rfl rfl rfl)) EVi.const) (EVi.of (EVx.name H e3 rfl rfl))) (by rw [htx, S_len]; unfold sizeLine; omega)) hsl) rfl fun t1 => ?_
        intro m3
        refine RUN.let_i H (v := (numS (octL b led[i]) (octs b).toNat).sum) (EVi.ofgs (EVg.sum (V := fun u n1 => ∃ D ys k, u = .ref D ∧ n1 = (D, lstO ys k) :: ([] ++ T) ∧ IntsAre ys (numS (octL b led[i]) (octs b).toNat)) H (EVx.built H (by kernel_rfl) boot_sum (by decide) rfl rfl) ?_ (fun u n1 hv => ?_))) rfl fun t2 => ?_
        · refine EVg.comp (N := (S (octL b led[i])).cps.size) (fun i' ys n1 => n1 = [] ++ T ∧ IntsAre ys (numS (octL b led[i]) i') ∧ ys.length = i') H (ITR.enumS H (EVx.built (v := .type "enumerate") H (by kernel_rfl) (by decide +kernel) (by decide) rfl rfl) (EVs.of (EVx.name H rfl rfl rfl))) ⟨rfl, .nil, rfl⟩ (fun _ _ _ _ p hp => nomatch hp) ?_ (by rw [octL_sz hb]; unfold sizeLine; omega) (fun D ys n1 hJ => ?_) rfl
          · intro C g' E' K gs i' vv ys n1 T' m4 h hi' hJ hV S4
            obtain ⟨rfl, hy, hyl⟩ := hJ
            obtain ⟨T9, t, x', rfl, ⟨x, u9, hx, rfl⟩, hT⟩ := hV
            rw [octL_sz hb] at hi'
            have hx' : (octL b led[i]).getD i' 0 = x := by
              have : (octL b led[i])[i']? = some x := by simpa using hx
              rw [List.getD_eq_getElem?_getD, this]; rfl
            refine ⟨_, true, TGT.tup K S4 hT (TGS.cons (TGT.name K rfl) (TGS.cons (TGT.name K rfl) TGS.nil)), TST.nil, fun _ => ?_, fun z => nomatch z⟩
            refine EVg.mono (EVg.i (EVi.eq (EVi.mul (EVi.bi (EVx.built K (by kernel_rfl) boot_ord (by decide) rfl rfl) (ARG.x (EVx.name K (show _ = some _ from rfl) rfl rfl) (ARG.nil (b_ord rfl (v := (x : Int)) rfl)) rfl)) (EVi.pow EVi.const (EVi.of (EVx.name K rfl rfl rfl)) (num_pw (by omega) (x := x)).1 (num_pw (by omega) (x := x)).2.1 (by decide)) (num_pw (by omega)).2.2.2) (congrArg ((x : Int) * ·) (num_pw (by omega) (x := x)).2.2.1))) fun y n3 hv => ?_
            obtain ⟨⟨t2, rfl⟩, rfl⟩ := hv
            exact ⟨_, List.Sublist.refl _, rfl, by rw [numS_S, hx']; exact IntsAre.snocM hy _ _, by simp [hyl]⟩
          · obtain ⟨rfl, hy, hyl⟩ := hJ
            exact ⟨D, ys, _, rfl, rfl, by rw [← octL_sz (v := led[i]) hb]; exact hy⟩
        · obtain ⟨D, ys, k, rfl, rfl, hy⟩ := hv
          exact ⟨D, ys, _, k, 0, rfl, rfl, hy, fun t => ⟨⟨t, rfl⟩, List.sublist_cons_self _ _⟩⟩
        · intro m4
          have hs := num_signed hb hv
          have hn := num_bd (v := led[i]) hb
          have hte := sum_take hi
          refine RUN.let_i H (v := (led.take (i + 1)).sum) ?_ rfl fun t3 => RUN.turnW (n2 := []) (List.Sublist.refl _) ⟨⟨t3, rfl⟩, e2, e3, rfl⟩
          unfold signed at hs
          by_cases q : 2 * (numS (octL b led[i]) (octs b).toNat).sum < 256 ^ (octs b).toNat
          · rw [if_pos q] at hs
            exact EVi.eq (EVi.add (EVi.of (EVx.name H e1 rfl rfl)) (EVi.ife_t (CND.eq (CND.ci (EVi.mul EVi.const (EVi.of (EVx.name H rfl rfl rfl)) (IntMulOk.of_right (intBits_le_64 (by omega) (by omega)))) (EVi.pow EVi.const (EVi.of (EVx.name H e3 rfl rfl)) (by omega) (by omega) (by decide)) CI.lt) (decide_eq_true q)) (EVi.of (EVx.name H rfl rfl rfl)))) (by rw [hte, hs])
          · rw [if_neg q] at hs
            exact EVi.eq (EVi.add (EVi.of (EVx.name H e1 rfl rfl)) (EVi.ife_f (CND.eq (CND.ci (EVi.mul EVi.const (EVi.of (EVx.name H rfl rfl rfl)) (IntMulOk.of_right (intBits_le_64 (by omega) (by omega)))) (EVi.pow EVi.const (EVi.of (EVx.name H e3 rfl rfl)) (by omega) (by omega) (by decide)) CI.lt) (decide_eq_false q)) (EVi.sub (EVi.of (EVx.name H rfl rfl rfl)) (EVi.pow EVi.const (EVi.of (EVx.name H e3 rfl rfl)) (by omega) (by omega) (by decide))))) (by rw [hte, hs])
      · obtain ⟨⟨tf, e1⟩, e2, e3, rfl⟩ := hJ
        exact RUN.ret_i (EVi.eq (EVi.of (EVx.name H e1 rfl rfl)) (by rw [List.take_length]))
end Mine
end
section
open PySem PySem.W PySem.Calls PyProof.Rows
namespace Mine
theorem due_pos {b sp nu : Int} (h : ¬ sp < 0) : S (yOf sp :: octL b nu) = S (recL b sp.toNat nu) := by
  rw [yOf_pos (by omega)]; rfl
theorem due_neg {b sp nu : Int} (hb : BITS b) (h : sp < 0) (hn : nu = 0) : S (yOf sp :: octL b nu) = Txt.mul (⟨#[(0 : Int).toNat]⟩ : Str) (octs b + 1) := by
  rw [show (⟨#[(0 : Int).toNat]⟩ : Str) = S [0] from rfl, hn, mul_S, yOf, if_pos h]
  rcases hb with rfl | rfl | rfl <;> rfl
theorem t_stands {w : World} {a : WAddr} {b room : Int} {A : HA} {f0 le sp0 nu0 sp1 nu1 : Int} {s0 u0 s1 u1 v1 v2 to tf : Tok} {kg kh k0 k1 : Nat} {p0 p1 : Addr} {lvs : List Value} {led : List Int} {obk oc0 oc1 of : Obj} (hb : BITS b) (hi : IntsAre lvs led) (hL : LedOK b led) (hbd : obk.IsDictOf (SKw w) (A.bank f0 le v1 v2)) (hc0 : Chan w oc0 b (S (yOf sp0 :: octL b nu0)) (sp0 + 1)) (hc1 : Chan w oc1 b (S (yOf sp1 :: octL b nu1)) (sp1 + 1)) (hbk : of.IsDictOf (SKw w) [("BANK", .str (S (txtF b 0 led)) tf)]) (hH0 : ChOK b led.length sp0 nu0) (hH1 : ChOK b led.length sp1 nu1) (hsum : led.sum = f0 - le) : CTn w 4 421 [.ref a.w, .ref A.bk, .int (octs b) to] [(A.lg, lstO lvs kg), (A.hl, lstO [.ref p0, .ref p1] kh), (A.bk, obk), (p0, tupO [.int sp0 s0, .int nu0 u0] k0), (p1, tupO [.int sp1 s1, .int nu1 u1] k1), (a.c false, oc0), (a.c true, oc1), (a.fl, of)] (WRO w a b room) (fun u n' => u = .bool true ∧ n' = [(A.lg, lstO lvs kg), (A.hl, lstO [.ref p0, .ref p1] kh), (A.bk, obk), (p0, tupO [.int sp0 s0, .int nu0 u0] k0), (p1, tupO [.int sp1 s1, .int nu1 u1] k1), (a.c false, oc0), (a.c true, oc1), (a.fl, of)]) := by
  refine' CTn.mk [((Str.ofString "world"), .ref a.w), ((Str.ofString "bank"), .ref A.bk), ((Str.ofString "octets"), .int (octs b) to)] ?ho ?hcd ?hb ?hl WRO.kp ?h ?c2 ?c3 ?c4 ?c5
  case ho => with_unfolding_all rfl
  case hcd => kernel_rfl
  case hb => exact fun s => BindsTo.of_eq rfl
  case hl => rfl
  case c2 => rfl
  case c3 => rfl
  case c4 => rfl
  case c5 => decide
  case h =>
    intro A' L g s E c H HG
    intro QQ
    have hob := octs_pos hb
    have hL9 := hL.2.1
    have htl := text_lt hb hL.2.1
    refine RUN.let_s H (EVs.of (EVx.ditem (i := 7) (EVx.wfiles H HG (EVx.name H rfl rfl rfl)) EVs.const rfl hbk rfl)) rfl fun t1 => ?_
    intro m1
    refine RUN.if_f (CND.bo (CNB.of (CND.cs (EVs.of (EVx.name H rfl rfl rfl)) (EVs.ofg (EVg.callR (ad := 374) [0] 3 H (by decide) (EVx.glob H (by kernel_rfl) rfl rfl) (by kernel_rfl) trivial (fun _ _ _ h => h) (ARG.x (EVx.ditem (i := 2) (EVx.name H rfl rfl rfl) EVs.const rfl hbd rfl) (ARG.i (EVi.of (EVx.name H rfl rfl rfl)) (fun _ => ARG.nil (t_text hb hi hL9)) rfl) rfl))) (CS.ne (by simp))) (CNB.of (CND.eq (CND.ci (EVi.call (a := 379) 1 H (by decide) (EVx.glob H (by kernel_rfl) rfl rfl) (by kernel_rfl) (ARG.s (EVs.of (EVx.name H rfl rfl rfl)) (fun _ => ARG.i (EVi.of (EVx.name H rfl rfl rfl)) (fun _ => ARG.nil (t_total hb hL rfl)) rfl) rfl)) (EVi.sub (EVi.of (EVx.ditem (i := 2) (EVx.name H rfl rfl rfl) EVs.const rfl hbd rfl)) (EVi.of (EVx.ditem (i := 2) (EVx.name H rfl rfl rfl) EVs.const rfl hbd rfl))) CI.ne) (by rw [hsum]; simp)) CNB.on))) ?_
    let J4 : Nat → Lo → Nw → Prop := fun k m n => m (Str.ofString "world") = some (.ref a.w) ∧ m (Str.ofString "octets") = some (.int (octs b) to) ∧ n = [(A.lg, lstO lvs kg), (A.hl, lstO [.ref p0, .ref p1] kh), (A.bk, obk), (p0, tupO [.int sp0 s0, .int nu0 u0] k0), (p1, tupO [.int sp1 s1, .int nu1 u1] k1), (a.c false, oc0), (a.c true, oc1), (a.fl, of)]
    refine RUN.for_w J4 H (ITR.enum (z := 1) H (EVx.built (v := .type "enumerate") H (by kernel_rfl) (by decide +kernel) (by decide) rfl rfl) (EVx.ditem (i := 2) (EVx.name H rfl rfl rfl) EVs.const rfl hbd rfl) rfl) ⟨rfl, rfl, rfl⟩ (fun _ _ _ hJ p hp => by obtain ⟨_, _, rfl⟩ := hJ; rw [List.mem_singleton.mp hp]; exact .tail _ (.head _)) (fun k T v m2 n2 h2 hk hJ hV S2 => ?_) (fun m2 n2 hJ => ?_)
    · have hk2 : k = 0 ∨ k = 1 := by have : k < 2 := hk; omega
      rcases hk2 with rfl | rfl
      · skip
        obtain ⟨l1, l3, rfl⟩ := hJ
        obtain ⟨T9, t, x, rfl, hx, hT⟩ := hV
        obtain rfl : x = .ref p0 := by simpa using hx.symm
        refine ⟨_, TGT.tup H S2 hT (TGS.cons (TGT.name H rfl) (TGS.cons (TGT.tup H S2 (S2.isTup (i := 3) rfl) (TGS.cons (TGT.name H rfl) (TGS.cons (TGT.name H rfl) TGS.nil))) TGS.nil)), ?_⟩
        refine RUN.let_s H (v := S (yOf sp0 :: octL b nu0)) ?_ rfl fun td => ?_
        · by_cases q : sp0 < 0
          · have e0 : nu0 = 0 := by rcases hH0 with ⟨_, e⟩ | ⟨e, _⟩ <;> omega
            exact EVs.ife_t (CND.eq (CND.ci (EVi.of (EVx.name H rfl rfl rfl)) EVi.const CI.lt) (decide_eq_true q)) (EVs.eq (EVs.mul (EVs.bi (EVx.built H (by kernel_rfl) boot_chr (by decide) rfl rfl) (ARG.i EVi.const (fun _ => ARG.nil (b_chr (by decide) (by decide))) rfl)) (EVi.add (EVi.of (EVx.name H l3 rfl rfl)) EVi.const) (by decide +kernel) (by omega) (by omega)) (due_neg hb q e0).symm)
          · have e0 : sp0 < led.length := by rcases hH0 with ⟨e, _⟩ | ⟨_, e, _⟩ <;> omega
            exact EVs.ife_f (CND.eq (CND.ci (EVi.of (EVx.name H rfl rfl rfl)) EVi.const CI.lt) (decide_eq_false q)) (EVs.eq (EVs.ofg (EVg.callRT (ad := 369) [] 2 H (by decide) (EVx.glob H (by kernel_rfl) rfl rfl) (by kernel_rfl) trivial (fun _ _ _ h => h) (ARG.i (EVi.of (EVx.name H rfl rfl rfl)) (fun _ => ARG.i (EVi.of (EVx.name H rfl rfl rfl)) (fun _ => ARG.i (EVi.of (EVx.name H l3 rfl rfl)) (fun _ => ARG.nil (t_rec hb (by omega) (by omega))) rfl) rfl) rfl))) (due_pos q).symm)
        intro m3
        refine RUN.let_s H (v := chS false ++ Str.ofString "$") (EVs.add (EVs.stri (EVx.built (v := .type "str") H (by kernel_rfl) (by decide +kernel) (by decide) rfl rfl) (EVi.add (EVi.of (EVx.name H rfl rfl rfl)) EVi.const) (by decide) (u := chS false) (by decide +kernel)) EVs.const (by decide +kernel)) rfl fun tt => ?_
        intro m4
        refine RUN.if_f (CND.bo (CNB.of (CND.cs (EVs.add (EVs.ofg (EVg.callRT (ad := 138) [5] 1 H (by decide) (EVx.glob H (by kernel_rfl) rfl rfl) (by kernel_rfl) HG WRO.kp (ARG.x (EVx.name H l1 rfl rfl) (ARG.s (EVs.eq (EVs.add EVs.const (EVs.of (EVx.name H rfl rfl rfl)) (by decide +kernel)) (by decide +kernel : _ = nmN false)) (fun _ => ARG.nil (t_ftN hb hc0 rfl rfl)) rfl) rfl))) (EVs.ofg (EVg.callRT (ad := 138) [5] 1 H (by decide) (EVx.glob H (by kernel_rfl) rfl rfl) (by kernel_rfl) HG WRO.kp (ARG.x (EVx.name H l1 rfl rfl) (ARG.s (EVs.eq (EVs.add EVs.const (EVs.of (EVx.name H rfl rfl rfl)) (by decide +kernel)) (by decide +kernel : _ = nmM false)) (fun _ => ARG.nil (t_ftM hb hc0 rfl rfl)) rfl) rfl))) (by rw [S_len, S_len]; have := octL_len (v := nu0) hb; unfold sizeLine; simp; omega)) (EVs.of (EVx.name H rfl rfl rfl)) (CS.ne (by rw [S_app]; simp))) (CNB.of (CND.eq (CND.ci (EVi.ofg (EVg.callRT (ad := 126) [5] 2 H (by decide) (EVx.glob H (by kernel_rfl) rfl rfl) (by kernel_rfl) HG WRO.kp (ARG.x (EVx.name H l1 rfl rfl) (ARG.i (EVi.eq (EVi.add (EVi.of (EVx.name H rfl rfl rfl)) EVi.const) (show _ = chn false from rfl)) (fun _ => ARG.nil (t_place hc0)) rfl) rfl))) (EVi.add (EVi.of (EVx.name H rfl rfl rfl)) EVi.const) CI.ne) (by simp)) CNB.on))) ?_
        exact RUN.turnW (n2 := [(A.lg, lstO lvs kg), (A.hl, lstO [.ref p0, .ref p1] kh), (A.bk, obk), (p0, tupO [.int sp0 s0, .int nu0 u0] k0), (p1, tupO [.int sp1 s1, .int nu1 u1] k1), (a.c false, oc0), (a.c true, oc1), (a.fl, of)]) (List.Sublist.refl _) ⟨l1, l3, rfl⟩
      · skip
        obtain ⟨l1, l3, rfl⟩ := hJ
        obtain ⟨T9, t, x, rfl, hx, hT⟩ := hV
        obtain rfl : x = .ref p1 := by simpa using hx.symm
        refine ⟨_, TGT.tup H S2 hT (TGS.cons (TGT.name H rfl) (TGS.cons (TGT.tup H S2 (S2.isTup (i := 4) rfl) (TGS.cons (TGT.name H rfl) (TGS.cons (TGT.name H rfl) TGS.nil))) TGS.nil)), ?_⟩
        refine RUN.let_s H (v := S (yOf sp1 :: octL b nu1)) ?_ rfl fun td => ?_
        · by_cases q : sp1 < 0
          · have e0 : nu1 = 0 := by rcases hH1 with ⟨_, e⟩ | ⟨e, _⟩ <;> omega
            exact EVs.ife_t (CND.eq (CND.ci (EVi.of (EVx.name H rfl rfl rfl)) EVi.const CI.lt) (decide_eq_true q)) (EVs.eq (EVs.mul (EVs.bi (EVx.built H (by kernel_rfl) boot_chr (by decide) rfl rfl) (ARG.i EVi.const (fun _ => ARG.nil (b_chr (by decide) (by decide))) rfl)) (EVi.add (EVi.of (EVx.name H l3 rfl rfl)) EVi.const) (by decide +kernel) (by omega) (by omega)) (due_neg hb q e0).symm)
          · have e0 : sp1 < led.length := by rcases hH1 with ⟨e, _⟩ | ⟨_, e, _⟩ <;> omega
            exact EVs.ife_f (CND.eq (CND.ci (EVi.of (EVx.name H rfl rfl rfl)) EVi.const CI.lt) (decide_eq_false q)) (EVs.eq (EVs.ofg (EVg.callRT (ad := 369) [] 2 H (by decide) (EVx.glob H (by kernel_rfl) rfl rfl) (by kernel_rfl) trivial (fun _ _ _ h => h) (ARG.i (EVi.of (EVx.name H rfl rfl rfl)) (fun _ => ARG.i (EVi.of (EVx.name H rfl rfl rfl)) (fun _ => ARG.i (EVi.of (EVx.name H l3 rfl rfl)) (fun _ => ARG.nil (t_rec hb (by omega) (by omega))) rfl) rfl) rfl))) (due_pos q).symm)
        intro m3
        refine RUN.let_s H (v := chS true ++ Str.ofString "$") (EVs.add (EVs.stri (EVx.built (v := .type "str") H (by kernel_rfl) (by decide +kernel) (by decide) rfl rfl) (EVi.add (EVi.of (EVx.name H rfl rfl rfl)) EVi.const) (by decide) (u := chS true) (by decide +kernel)) EVs.const (by decide +kernel)) rfl fun tt => ?_
        intro m4
        refine RUN.if_f (CND.bo (CNB.of (CND.cs (EVs.add (EVs.ofg (EVg.callRT (ad := 138) [6] 1 H (by decide) (EVx.glob H (by kernel_rfl) rfl rfl) (by kernel_rfl) HG WRO.kp (ARG.x (EVx.name H l1 rfl rfl) (ARG.s (EVs.eq (EVs.add EVs.const (EVs.of (EVx.name H rfl rfl rfl)) (by decide +kernel)) (by decide +kernel : _ = nmN true)) (fun _ => ARG.nil (t_ftN hb hc1 rfl rfl)) rfl) rfl))) (EVs.ofg (EVg.callRT (ad := 138) [6] 1 H (by decide) (EVx.glob H (by kernel_rfl) rfl rfl) (by kernel_rfl) HG WRO.kp (ARG.x (EVx.name H l1 rfl rfl) (ARG.s (EVs.eq (EVs.add EVs.const (EVs.of (EVx.name H rfl rfl rfl)) (by decide +kernel)) (by decide +kernel : _ = nmM true)) (fun _ => ARG.nil (t_ftM hb hc1 rfl rfl)) rfl) rfl))) (by rw [S_len, S_len]; have := octL_len (v := nu1) hb; unfold sizeLine; simp; omega)) (EVs.of (EVx.name H rfl rfl rfl)) (CS.ne (by rw [S_app]; simp))) (CNB.of (CND.eq (CND.ci (EVi.ofg (EVg.callRT (ad := 126) [6] 2 H (by decide) (EVx.glob H (by kernel_rfl) rfl rfl) (by kernel_rfl) HG WRO.kp (ARG.x (EVx.name H l1 rfl rfl) (ARG.i (EVi.eq (EVi.add (EVi.of (EVx.name H rfl rfl rfl)) EVi.const) (show _ = chn true from rfl)) (fun _ => ARG.nil (t_place hc1)) rfl) rfl))) (EVi.add (EVi.of (EVx.name H rfl rfl rfl)) EVi.const) CI.ne) (by simp)) CNB.on))) ?_
        exact RUN.turnW (n2 := [(A.lg, lstO lvs kg), (A.hl, lstO [.ref p0, .ref p1] kh), (A.bk, obk), (p0, tupO [.int sp0 s0, .int nu0 u0] k0), (p1, tupO [.int sp1 s1, .int nu1 u1] k1), (a.c false, oc0), (a.c true, oc1), (a.fl, of)]) (List.Sublist.refl _) ⟨l1, l3, rfl⟩
    · obtain ⟨l1, l3, rfl⟩ := hJ
      exact RUN.ret_nx EVx.bool ⟨rfl, rfl⟩
end Mine
end
section
open PySem PySem.W PySem.Calls PyProof.Rows
namespace Mine
theorem sign_bank {i : Nat} {v : Value} (h : SignAt (Str.ofString "BANK") i v) : ∃ k u, v = .str ⟨#[k]⟩ u ∧ (33 ≤ (k : Int) ∧ (k : Int) ≤ 126) := by
  obtain ⟨k, u, hk, rfl⟩ := h
  refine ⟨k, u, rfl, ?_⟩
  have hs : (Str.ofString "BANK").cps = #[66, 65, 78, 75] := by decide +kernel
  rw [hs] at hk
  match i, hk with
  | 0, hk => cases hk; decide
  | 1, hk => cases hk; decide
  | 2, hk => cases hk; decide
  | 3, hk => cases hk; decide
  | n + 4, hk => rw [Array.getElem?_eq_none (by show 4 ≤ n + 4; omega)] at hk; cases hk
theorem t_check {w : World} {tn : Tok}  : CTn w 1 98 [.str (Str.ofString "BANK") tn] [] (fun _ => True) (fun u n' => (∃ t, u = .str (Str.ofString "BANK") t) ∧ n' = []) := by
  refine' CTn.mk [((Str.ofString "name"), .str (Str.ofString "BANK") tn)] ?ho ?hcd ?hb ?hl (fun _ _ _ h => h) ?h ?c2 ?c3 ?c4 ?c5
  case ho => with_unfolding_all rfl
  case hcd => kernel_rfl
  case hb => exact fun s => BindsTo.of_eq rfl
  case hl => rfl
  case c2 => rfl
  case c3 => rfl
  case c4 => rfl
  case c5 => decide
  case h =>
    intro A L g s E c H HG
    intro QQ
    refine RUN.if_f (CND.bo (CNB.of (CND.eq (CND.not (CND.chain EVi.const (EVi.bi (EVx.built H (by kernel_rfl) boot_len (by decide) rfl rfl) (ARG.x (EVx.name H rfl rfl rfl) (ARG.nil (b_lens (v := 4) (by decide +kernel) (by decide))) rfl)) (EVi.of (EVx.glob H (by with_unfolding_all rfl) rfl rfl)) CI.le CI.le)) rfl) (CNB.of (CND.noneL H (by decide) ?_) CNB.on))) (RUN.ret_g (EVg.mono (EVg.x (EVx.name H rfl rfl rfl)) fun u n' hv => ?_))
    · refine EVg.comp (N := (Str.ofString "BANK").cps.size) (fun _ ys n1 => ys = [] ∧ n1 = []) H (ITR.str H (EVs.of (EVx.name H rfl rfl rfl))) ⟨rfl, rfl⟩ (fun _ _ _ _ p hp => nomatch hp) ?_ (by decide +kernel) (fun D ys n1 hJ => ?_) rfl
      · intro C g' E' K gs i vv ys n1 T m1 h hi hJ hV S1
        obtain ⟨rfl, rfl⟩ := hJ
        obtain ⟨k, u, rfl, hk1, hk2⟩ := sign_bank hV
        exact ⟨_, false, TGT.name K rfl, TST.one (CND.bo (CNB.of (CND.eq (CND.ci (EVi.bi (EVx.built K (by kernel_rfl) boot_ord (by decide) rfl rfl) (ARG.x (EVx.name K rfl rfl rfl) (ARG.nil (b_ord rfl (v := (k : Int)) rfl)) rfl)) EVi.const CI.lt) (decide_eq_false (by omega))) (CNB.of (CND.eq (CND.ci (EVi.bi (EVx.built K (by kernel_rfl) boot_ord (by decide) rfl rfl) (ARG.x (EVx.name K rfl rfl rfl) (ARG.nil (b_ord rfl (v := (k : Int)) rfl)) rfl)) EVi.const CI.gt) (decide_eq_false (by omega))) CNB.on))), (fun z => nomatch z), fun _ => ⟨rfl, rfl⟩⟩
      · obtain ⟨rfl, rfl⟩ := hJ
        exact ⟨D, rfl, rfl⟩
    · obtain ⟨rfl, rfl⟩ := hv
      exact ⟨⟨_, rfl⟩, rfl⟩
theorem t_chanL {w : World} {x dx op D ch : Addr} {es : List DictEntry} {k kq : Nat} {oop oc : Obj} {b ci rn : Int} {ub : Str} {tc : Tok} {ms : List Value} {ys : List Str} {kvs : List (Int × Value)} (ho : getL (Str.ofString "open") es = some (some (.ref op))) (hop : oop.IsDictOf (IKw w) kvs) (lo : (op == sysModules) = false) (hv : valueAt kvs ci = some (.ref ch)) (hcn : Chan w oc b ub rn) (hy : StrsAre ms ys) (hR : (ys.any fun z => z == (Str.ofString "R")) = true) : CTn w 1 119 [.ref x, .int ci tc, .ref D] [(D, tupO ms kq), (x, instObj 353 dx), (dx, dictOf es k), (op, oop), (ch, oc)] (fun _ => True) (fun v n' => v = .ref ch ∧ n' = [(D, tupO ms kq), (x, instObj 353 dx), (dx, dictOf es k), (op, oop), (ch, oc)]) := by
  refine' CTn.mk [((Str.ofString "world"), .ref x), ((Str.ofString "channel"), .int ci tc), ((Str.ofString "modes"), .ref D)] ?ho ?hcd ?hb ?hl (fun _ _ _ h => h) ?h ?c2 ?c3 ?c4 ?c5
  case ho => with_unfolding_all rfl
  case hcd => kernel_rfl
  case hb => exact fun s => BindsTo.of_eq rfl
  case hl => rfl
  case c2 => rfl
  case c3 => rfl
  case c4 => rfl
  case c5 => decide
  case h =>
    intro A L g s E c H HG
    intro QQ
    obtain ⟨x1, x2, x3, x4, x5, x6, hd⟩ := hcn
    refine RUN.if_f (CND.eq (CND.lninI (i := 3) (EVi.of (EVx.name H rfl rfl rfl)) (EVx.attr (z1 := 1) (z2 := 2) H (EVx.name H rfl rfl rfl) rfl rfl ho (by kernel_rfl) (by kernel_rfl) (by kernel_rfl)) rfl hop lo (z := true) (by rw [hv]; rfl)) rfl) ?_
    refine RUN.let_x H (EVx.ditemI (i := 3) (EVx.attr (z1 := 1) (z2 := 2) H (EVx.name H rfl rfl rfl) rfl rfl ho (by kernel_rfl) (by kernel_rfl) (by kernel_rfl)) (EVi.of (EVx.name H rfl rfl rfl)) rfl hop hv) rfl ?_
    intro m1
    exact RUN.if_f (CND.eq (CND.nint (items := ms.toArray) (EVs.of (EVx.ditem (i := 4) (EVx.name H rfl rfl rfl) EVs.const rfl hd rfl)) (EVx.name H rfl rfl rfl) (fun h S => S.isTup (i := 0) rfl) (by simpa using hy)) (by rw [hR]; rfl)) (RUN.ret_nx (EVx.name H rfl rfl rfl) ⟨rfl, rfl⟩)
theorem t_el0 {w : World} {x dx op : Addr} {es : List DictEntry} {k : Nat} {oop : Obj} {t1 t2 : Tok} (ho : getL (Str.ofString "open") es = some (some (.ref op))) (lo : (op == sysModules) = false) (hop : oop.IsDictOf (IKw w) []) : CTn w 1 112 [.ref x, .str (Str.ofString "R") t1, .str (Str.ofString "BANK") t2] [(x, instObj 353 dx), (dx, dictOf es k), (op, oop)] (fun _ => True) (fun v n' => v = .bool false ∧ n' = [(x, instObj 353 dx), (dx, dictOf es k), (op, oop)]) := by
  refine' CTn.mk [((Str.ofString "world"), .ref x), ((Str.ofString "mode"), .str (Str.ofString "R") t1), ((Str.ofString "name"), .str (Str.ofString "BANK") t2)] ?ho ?hcd ?hb ?hl (fun _ _ _ h => h) ?h ?c2 ?c3 ?c4 ?c5
  case ho => with_unfolding_all rfl
  case hcd => kernel_rfl
  case hb => exact fun s => BindsTo.of_eq rfl
  case hl => rfl
  case c2 => rfl
  case c3 => rfl
  case c4 => rfl
  case c5 => decide
  case h =>
    intro A L g s E c H HG
    intro QQ
    refine RUN.for_w (N := 0) (fun _ _ n => n = [(x, instObj 353 dx), (dx, dictOf es k), (op, oop)]) H (ITR.dictI (z := 2) (kvs := []) H (EVx.attr (z1 := 0) (z2 := 1) H (EVx.name H rfl rfl rfl) rfl rfl ho (by kernel_rfl) (by kernel_rfl) (by kernel_rfl)) rfl hop lo) rfl (fun _ _ _ hJ p hp => by subst hJ; rw [List.mem_singleton.mp hp]; simp) (fun k T v m2 n2 h2 hk hJ hV S2 => absurd hk (by omega)) (fun m2 n2 hJ => ?_)
    subst hJ
    exact RUN.ret_nx EVx.bool ⟨rfl, rfl⟩
theorem t_el1 {w : World} {x dx op : Addr} {es : List DictEntry} {k : Nat} {oop : Obj} {t1 t2 : Tok} {ch : Addr} {oc : Obj} {b rn : Int} {ub : Str} (ho : getL (Str.ofString "open") es = some (some (.ref op))) (lo : (op == sysModules) = false) (hop : oop.IsDictOf (IKw w) [(1, .ref ch)]) (hcn : Chan w oc b ub rn) : CTn w 1 112 [.ref x, .str (Str.ofString "R") t1, .str (Str.ofString "BANK") t2] [(x, instObj 353 dx), (dx, dictOf es k), (op, oop), (ch, oc)] (fun _ => True) (fun v n' => v = .bool false ∧ n' = [(x, instObj 353 dx), (dx, dictOf es k), (op, oop), (ch, oc)]) := by
  refine' CTn.mk [((Str.ofString "world"), .ref x), ((Str.ofString "mode"), .str (Str.ofString "R") t1), ((Str.ofString "name"), .str (Str.ofString "BANK") t2)] ?ho ?hcd ?hb ?hl (fun _ _ _ h => h) ?h ?c2 ?c3 ?c4 ?c5
  case ho => with_unfolding_all rfl
  case hcd => kernel_rfl
  case hb => exact fun s => BindsTo.of_eq rfl
  case hl => rfl
  case c2 => rfl
  case c3 => rfl
  case c4 => rfl
  case c5 => decide
  case h =>
    intro A L g s E c H HG
    intro QQ
    obtain ⟨x1, x2, x3, x4, x5, x6, hd⟩ := hcn
    refine RUN.for_w (N := 1) (fun _ m n => (m (Str.ofString "world") = some (.ref x) ∧ m (Str.ofString "name") = some (.str (Str.ofString "BANK") t2) ∧ m (Str.ofString "mode") = some (.str (Str.ofString "R") t1)) ∧ n = [(x, instObj 353 dx), (dx, dictOf es k), (op, oop), (ch, oc)]) H (ITR.dictI (z := 2) (kvs := [(1, .ref ch)]) H (EVx.attr (z1 := 0) (z2 := 1) H (EVx.name H rfl rfl rfl) rfl rfl ho (by kernel_rfl) (by kernel_rfl) (by kernel_rfl)) rfl hop lo) ⟨⟨rfl, rfl, rfl⟩, rfl⟩ (fun _ _ _ hJ p hp => by obtain ⟨_, rfl⟩ := hJ; rw [List.mem_singleton.mp hp]; simp) (fun j T v m2 n2 h2 hk hJ hV S2 => ?_) (fun m2 n2 hJ => ?_)
    · obtain ⟨⟨l1, l2, l3⟩, rfl⟩ := hJ
      obtain ⟨kk, xx, hx, t, rfl⟩ := hV
      obtain rfl : j = 0 := by omega
      obtain ⟨rfl, rfl⟩ : kk = 1 ∧ xx = .ref ch := by cases hx; exact ⟨rfl, rfl⟩
      refine ⟨_, TGT.name H rfl, ?_⟩
      refine RUN.let_x H (EVx.ditemI (i := 2) (EVx.attr (z1 := 0) (z2 := 1) H (EVx.name H l1 rfl rfl) rfl rfl ho (by kernel_rfl) (by kernel_rfl) (by kernel_rfl)) (EVi.of (EVx.name H rfl rfl rfl)) rfl hop rfl) rfl ?_
      intro m3
      refine RUN.if_f (CND.bo (CNB.at (CND.cs (EVs.of (EVx.ditem (i := 3) (EVx.name H rfl rfl rfl) EVs.const rfl hd rfl)) (EVs.of (EVx.name H l2 rfl rfl)) (CS.eq rfl)) (CNB.af (CND.bo (CNB.of (CND.eq (CND.ints (EVs.of (EVx.name H l3 rfl rfl)) EVg.tups) (by decide +kernel)) (CNB.of (CND.eq (CND.ints (EVs.of (EVx.ditem (i := 3) (EVx.name H rfl rfl rfl) EVs.const rfl hd rfl)) EVg.tups) (by decide +kernel)) CNB.on)))))) ?_
      exact RUN.turnW (n2 := [(x, instObj 353 dx), (dx, dictOf es k), (op, oop), (ch, oc)]) (List.Sublist.refl _) ⟨⟨l1, l2, l3⟩, rfl⟩
    · obtain ⟨_, rfl⟩ := hJ
      exact RUN.ret_nx EVx.bool ⟨rfl, rfl⟩
end Mine
end
section
open PySem PySem.W PySem.Calls PyProof.Rows
namespace Mine
theorem made_nd : ([Str.ofString "mode", Str.ofString "name", Str.ofString "at", Str.ofString "size", Str.ofString "buffer", Str.ofString "record"] : List Str).Nodup := by decide +kernel
theorem RUN.if_b {c : Cx} {m : Lo} {n : Nw} {Q : Flow → Shared → Prop} {e : PySem.Expr} {a rest : List Stmt} {p : Pos} {z : Bool} (J : Nw → Prop) (hc : CND c m n e z) (ht : z = true → ∀ Q', (∀ n1, J n1 → RUN c m n1 [] Q') → RUN c m n a Q') (hf : z = false → J n) (h : ∀ n1, J n1 → RUN c m n1 rest Q) : RUN c m n (.If e a [] p :: rest) Q := by
  cases z with
  | false => exact RUN.if_f hc (h n (hf rfl))
  | true => exact RUN.if_t hc (ht rfl _ fun n1 hJ => RUN.fall (h n1 hJ))
theorem t_open0 {w : World} {x dx fl op : Addr} {es : List DictEntry} {k : Nat} {ofl oop : Obj} {b : Int} {t1 t2 t3 t4 : Tok} (hb : BITS b) (ho : getL (Str.ofString "open") es = some (some (.ref op))) (hf : getL (Str.ofString "files") es = some (some (.ref fl))) (lo : (op == sysModules) = false) (lf : (fl == sysModules) = false) (hop : oop.IsDictOf (IKw w) []) (hfl : ofl.IsDictOf (SKw w) []) : CTn w 2 105 [.ref x, .str (Str.ofString "R") t1, .int 1 t2, .str (Str.ofString "BANK") t3, .int (octs b + 1) t4] [(x, instObj 353 dx), (dx, dictOf es k), (fl, ofl), (op, oop)] (fun _ => True) (fun v n' => v = .none ∧ ∃ ch oc ofl' oop' t, Chan w oc b (S (yOf (-1) :: octL b 0)) 0 ∧ ofl'.IsDictOf (SKw w) [((Str.ofString "BANK"), .str (Str.ofString "") t)] ∧ oop'.IsDictOf (IKw w) ([] ++ [(1, .ref ch)]) ∧ n' = (ch, oc) :: [(x, instObj 353 dx), (dx, dictOf es k), (fl, ofl'), (op, oop')]) := by
  refine' CTn.mk [((Str.ofString "world"), .ref x), ((Str.ofString "mode"), .str (Str.ofString "R") t1), ((Str.ofString "channel"), .int 1 t2), ((Str.ofString "name"), .str (Str.ofString "BANK") t3), ((Str.ofString "size"), .int (octs b + 1) t4)] ?ho ?hcd ?hb ?hl (fun _ _ _ h => h) ?h ?c2 ?c3 ?c4 ?c5
  case ho => with_unfolding_all rfl
  case hcd => kernel_rfl
  case hb => exact fun s => BindsTo.of_eq rfl
  case hl => rfl
  case c2 => rfl
  case c3 => rfl
  case c4 => rfl
  case c5 => decide
  case h =>
    intro A L g s E c H HG
    intro QQ
    have hob := octs_pos hb
    refine RUN.if_f (CND.eq (CND.not (CND.chain EVi.const (EVi.of (EVx.name H rfl rfl rfl)) (EVi.of (EVx.glob H (by with_unfolding_all rfl) rfl rfl)) CI.le CI.le)) rfl) ?_
    refine RUN.if_f (CND.bo (CNB.of (CND.inI (i := 3) (EVi.of (EVx.name H rfl rfl rfl)) (EVx.attr (z1 := 0) (z2 := 1) H (EVx.name H rfl rfl rfl) rfl rfl ho (by kernel_rfl) (by kernel_rfl) (by kernel_rfl)) rfl hop lo (z := false) rfl) (CNB.of (CND.of (EVx.ofg (EVg.callR (ad := 112) [0, 1, 3] 1 H (by decide) (EVx.glob H (by kernel_rfl) rfl rfl) (by kernel_rfl) trivial (fun _ _ _ h => h) (ARG.x (EVx.name H rfl rfl rfl) (ARG.s (EVs.of (EVx.name H rfl rfl rfl)) (fun _ => ARG.s (EVs.of (EVx.name H rfl rfl rfl)) (fun _ => ARG.nil (t_el0 ho lo hop)) rfl) rfl) rfl)))) CNB.on))) ?_
    refine RUN.ex (EVg.callR (ad := 98) (P := fun u => ∃ t, u = .str (Str.ofString "BANK") t) [] 1 H (by decide) (EVx.glob H (by kernel_rfl) rfl rfl) (by kernel_rfl) trivial (fun _ _ _ h => h) (ARG.s (EVs.of (EVx.name H rfl rfl rfl)) (fun _ => ARG.nil t_check) rfl)) (fun v n1 hv => ?_)
    obtain ⟨_, rfl⟩ := hv
    refine RUN.if_f (CND.bo (CNB.at (CND.cs (EVs.of (EVx.name H rfl rfl rfl)) EVs.const (CS.eq rfl)) (CNB.af (CND.eq (CND.not (CND.chain EVi.const (EVi.of (EVx.name H rfl rfl rfl)) (EVi.of (EVx.glob H (by with_unfolding_all rfl) rfl rfl)) CI.le CI.le)) (by simp; omega))))) ?_
    refine RUN.if_f (CND.bo (CNB.af (CND.cs (EVs.of (EVx.name H rfl rfl rfl)) EVs.const (CS.eq (by decide +kernel))))) ?_
    refine RUN.if_b (z := true) (fun n1 => ∃ ofl1 tz, ofl1.IsDictOf (SKw w) [((Str.ofString "BANK"), .str (Str.ofString "") tz)] ∧ n1 = [(x, instObj 353 dx), (dx, dictOf es k), (fl, ofl1), (op, oop)]) ?_ (fun z Q' hq => ?_) (fun z => ?_) fun n1 hn1 => ?_
    · exact CND.bo (CNB.of (CND.cs (EVs.of (EVx.name H rfl rfl rfl)) EVs.const (CS.eq (by decide +kernel))) (CNB.ot (CND.eq (CND.lnin (i := 2) (EVs.of (EVx.name H rfl rfl rfl)) (EVx.attr (z1 := 0) (z2 := 1) H (EVx.name H rfl rfl rfl) rfl rfl hf (by kernel_rfl) (by kernel_rfl) (by kernel_rfl)) rfl hfl lf (z := false) rfl) rfl)))
    · refine RUN.setd_s (z := 2) EVs.const (EVx.attr (z1 := 0) (z2 := 1) H (EVx.name H rfl rfl rfl) rfl rfl hf (by kernel_rfl) (by kernel_rfl) (by kernel_rfl)) (EVs.of (EVx.name H rfl rfl rfl)) rfl hfl (Nat.le_of_ble_eq_true rfl) fun t ob' d' => ?_
      intro n1
      exact hq _ ⟨ob', t, d', rfl⟩
    · cases z
    obtain ⟨ofl1, tz, hfl1, rfl⟩ := hn1
    refine RUN.let_i H (EVi.ife_f (CND.cs (EVs.of (EVx.name H rfl rfl rfl)) EVs.const (CS.eq (by decide +kernel))) EVi.const) rfl fun ta => ?_
    intro m1
    refine RUN.let_g H (EVg.dictS (P := fun v n' => ∃ d o u1 u2 u3 u4 u5 u6, v = .ref d ∧ n' = (d, o) :: [(x, instObj 353 dx), (dx, dictOf es k), (fl, ofl1), (op, oop)] ∧ o.IsDictOf (SKw w) [((Str.ofString "mode"), .str (Str.ofString "R") u1), ((Str.ofString "name"), .str (Str.ofString "BANK") u2), ((Str.ofString "at"), .int 0 u3), ((Str.ofString "size"), .int (octs b + 1) u4), ((Str.ofString "buffer"), .str (Str.ofString "") u5), ((Str.ofString "record"), .int 0 u6)]) H fun d o => ?_) rfl (fun v n1 hv => ?_)
    · refine PRS.cons (EVg.s (EVs.of (EVx.name H rfl rfl rfl))) fun v1 n1 h1 => ?_
      obtain ⟨⟨u1, rfl⟩, rfl⟩ := h1
      refine PRS.cons (EVg.s (EVs.of (EVx.name H rfl rfl rfl))) fun v2 n2 h2 => ?_
      obtain ⟨⟨u2, rfl⟩, rfl⟩ := h2
      refine PRS.cons (EVg.i (EVi.of (EVx.name H rfl rfl rfl))) fun v3 n3 h3 => ?_
      obtain ⟨⟨u3, rfl⟩, rfl⟩ := h3
      refine PRS.cons (EVg.i (EVi.of (EVx.name H rfl rfl rfl))) fun v4 n4 h4 => ?_
      obtain ⟨⟨u4, rfl⟩, rfl⟩ := h4
      refine PRS.cons (EVg.s EVs.const) fun v5 n5 h5 => ?_
      obtain ⟨⟨u5, rfl⟩, rfl⟩ := h5
      refine PRS.cons (EVg.i EVi.const) fun v6 n6 h6 => ?_
      obtain ⟨⟨u6, rfl⟩, rfl⟩ := h6
      exact PRS.nil ⟨made_nd, _, rfl, fun o' d => ⟨_, o', u1, u2, u3, u4, u5, u6, rfl, rfl, d⟩⟩
    · obtain ⟨ch, oc, u1, u2, u3, u4, u5, u6, rfl, rfl, hd⟩ := hv
      intro m2
      refine RUN.if_t (CND.cs (EVs.of (EVx.name H rfl rfl rfl)) EVs.const (CS.eq rfl)) ?_
      refine RUN.setd_s (z := 0) (EVs.mul (EVs.bi (EVx.built H (by kernel_rfl) boot_chr (by decide) rfl rfl) (ARG.i EVi.const (fun _ => ARG.nil (b_chr (by decide) (by decide))) rfl)) (EVi.of (EVx.name H rfl rfl rfl)) (by decide +kernel) (by omega) (by omega)) (EVx.name H rfl rfl rfl) EVs.const rfl hd (Nat.le_of_ble_eq_true rfl) fun t oc' d' => ?_
      intro n2
      refine RUN.fall ?_
      refine RUN.setdI_x (z := 4) (EVx.name H rfl rfl rfl) (EVx.attr (z1 := 1) (z2 := 2) H (EVx.name H rfl rfl rfl) rfl rfl ho (by kernel_rfl) (by kernel_rfl) (by kernel_rfl)) (EVi.of (EVx.name H rfl rfl rfl)) rfl hop (Nat.le_of_ble_eq_true rfl) fun oop' dop => ?_
      intro n3
      have hch := Chan.buf d'
      rw [← due_neg hb (sp := -1) (by decide) rfl] at hch
      exact RUN.end_n ⟨rfl, ch, oc', ofl1, oop', tz, hch, hfl1, dop, rfl⟩
theorem t_open1 {w : World} {x dx fl op : Addr} {es : List DictEntry} {k : Nat} {ofl oop : Obj} {b : Int} {t1 t2 t3 t4 : Tok} {c0 : Addr} {oc0 : Obj} {rn : Int} {ub : Str} {tb : Tok} (hb : BITS b) (ho : getL (Str.ofString "open") es = some (some (.ref op))) (hf : getL (Str.ofString "files") es = some (some (.ref fl))) (lo : (op == sysModules) = false) (lf : (fl == sysModules) = false) (hop : oop.IsDictOf (IKw w) [(1, .ref c0)]) (hfl : ofl.IsDictOf (SKw w) [((Str.ofString "BANK"), .str (Str.ofString "") tb)]) (hcn : Chan w oc0 b ub rn) : CTn w 2 105 [.ref x, .str (Str.ofString "R") t1, .int 2 t2, .str (Str.ofString "BANK") t3, .int (octs b + 1) t4] [(x, instObj 353 dx), (dx, dictOf es k), (fl, ofl), (op, oop), (c0, oc0)] (fun _ => True) (fun v n' => v = .none ∧ ∃ ch oc ofl' oop' t, Chan w oc b (S (yOf (-1) :: octL b 0)) 0 ∧ ofl'.IsDictOf (SKw w) [((Str.ofString "BANK"), .str (Str.ofString "") t)] ∧ oop'.IsDictOf (IKw w) ([(1, .ref c0)] ++ [(2, .ref ch)]) ∧ n' = (ch, oc) :: [(x, instObj 353 dx), (dx, dictOf es k), (fl, ofl'), (op, oop'), (c0, oc0)]) := by
  refine' CTn.mk [((Str.ofString "world"), .ref x), ((Str.ofString "mode"), .str (Str.ofString "R") t1), ((Str.ofString "channel"), .int 2 t2), ((Str.ofString "name"), .str (Str.ofString "BANK") t3), ((Str.ofString "size"), .int (octs b + 1) t4)] ?ho ?hcd ?hb ?hl (fun _ _ _ h => h) ?h ?c2 ?c3 ?c4 ?c5
  case ho => with_unfolding_all rfl
  case hcd => kernel_rfl
  case hb => exact fun s => BindsTo.of_eq rfl
  case hl => rfl
  case c2 => rfl
  case c3 => rfl
  case c4 => rfl
  case c5 => decide
  case h =>
    intro A L g s E c H HG
    intro QQ
    have hob := octs_pos hb
    refine RUN.if_f (CND.eq (CND.not (CND.chain EVi.const (EVi.of (EVx.name H rfl rfl rfl)) (EVi.of (EVx.glob H (by with_unfolding_all rfl) rfl rfl)) CI.le CI.le)) rfl) ?_
    refine RUN.if_f (CND.bo (CNB.of (CND.inI (i := 3) (EVi.of (EVx.name H rfl rfl rfl)) (EVx.attr (z1 := 0) (z2 := 1) H (EVx.name H rfl rfl rfl) rfl rfl ho (by kernel_rfl) (by kernel_rfl) (by kernel_rfl)) rfl hop lo (z := false) rfl) (CNB.of (CND.of (EVx.ofg (EVg.callR (ad := 112) [0, 1, 3, 4] 1 H (by decide) (EVx.glob H (by kernel_rfl) rfl rfl) (by kernel_rfl) trivial (fun _ _ _ h => h) (ARG.x (EVx.name H rfl rfl rfl) (ARG.s (EVs.of (EVx.name H rfl rfl rfl)) (fun _ => ARG.s (EVs.of (EVx.name H rfl rfl rfl)) (fun _ => ARG.nil (t_el1 ho lo hop hcn)) rfl) rfl) rfl)))) CNB.on))) ?_
    refine RUN.ex (EVg.callR (ad := 98) (P := fun u => ∃ t, u = .str (Str.ofString "BANK") t) [] 1 H (by decide) (EVx.glob H (by kernel_rfl) rfl rfl) (by kernel_rfl) trivial (fun _ _ _ h => h) (ARG.s (EVs.of (EVx.name H rfl rfl rfl)) (fun _ => ARG.nil t_check) rfl)) (fun v n1 hv => ?_)
    obtain ⟨_, rfl⟩ := hv
    refine RUN.if_f (CND.bo (CNB.at (CND.cs (EVs.of (EVx.name H rfl rfl rfl)) EVs.const (CS.eq rfl)) (CNB.af (CND.eq (CND.not (CND.chain EVi.const (EVi.of (EVx.name H rfl rfl rfl)) (EVi.of (EVx.glob H (by with_unfolding_all rfl) rfl rfl)) CI.le CI.le)) (by simp; omega))))) ?_
    refine RUN.if_f (CND.bo (CNB.af (CND.cs (EVs.of (EVx.name H rfl rfl rfl)) EVs.const (CS.eq (by decide +kernel))))) ?_
    refine RUN.if_b (z := false) (fun n1 => ∃ ofl1 tz, ofl1.IsDictOf (SKw w) [((Str.ofString "BANK"), .str (Str.ofString "") tz)] ∧ n1 = [(x, instObj 353 dx), (dx, dictOf es k), (fl, ofl1), (op, oop), (c0, oc0)]) ?_ (fun z Q' hq => ?_) (fun z => ?_) fun n1 hn1 => ?_
    · exact CND.bo (CNB.of (CND.cs (EVs.of (EVx.name H rfl rfl rfl)) EVs.const (CS.eq (by decide +kernel))) (CNB.of (CND.eq (CND.lnin (i := 2) (EVs.of (EVx.name H rfl rfl rfl)) (EVx.attr (z1 := 0) (z2 := 1) H (EVx.name H rfl rfl rfl) rfl rfl hf (by kernel_rfl) (by kernel_rfl) (by kernel_rfl)) rfl hfl lf (z := true) rfl) rfl) CNB.on))
    · cases z
    · exact ⟨ofl, tb, hfl, rfl⟩
    obtain ⟨ofl1, tz, hfl1, rfl⟩ := hn1
    refine RUN.let_i H (EVi.ife_f (CND.cs (EVs.of (EVx.name H rfl rfl rfl)) EVs.const (CS.eq (by decide +kernel))) EVi.const) rfl fun ta => ?_
    intro m1
    refine RUN.let_g H (EVg.dictS (P := fun v n' => ∃ d o u1 u2 u3 u4 u5 u6, v = .ref d ∧ n' = (d, o) :: [(x, instObj 353 dx), (dx, dictOf es k), (fl, ofl1), (op, oop), (c0, oc0)] ∧ o.IsDictOf (SKw w) [((Str.ofString "mode"), .str (Str.ofString "R") u1), ((Str.ofString "name"), .str (Str.ofString "BANK") u2), ((Str.ofString "at"), .int 0 u3), ((Str.ofString "size"), .int (octs b + 1) u4), ((Str.ofString "buffer"), .str (Str.ofString "") u5), ((Str.ofString "record"), .int 0 u6)]) H fun d o => ?_) rfl (fun v n1 hv => ?_)
    · refine PRS.cons (EVg.s (EVs.of (EVx.name H rfl rfl rfl))) fun v1 n1 h1 => ?_
      obtain ⟨⟨u1, rfl⟩, rfl⟩ := h1
      refine PRS.cons (EVg.s (EVs.of (EVx.name H rfl rfl rfl))) fun v2 n2 h2 => ?_
      obtain ⟨⟨u2, rfl⟩, rfl⟩ := h2
      refine PRS.cons (EVg.i (EVi.of (EVx.name H rfl rfl rfl))) fun v3 n3 h3 => ?_
      obtain ⟨⟨u3, rfl⟩, rfl⟩ := h3
      refine PRS.cons (EVg.i (EVi.of (EVx.name H rfl rfl rfl))) fun v4 n4 h4 => ?_
      obtain ⟨⟨u4, rfl⟩, rfl⟩ := h4
      refine PRS.cons (EVg.s EVs.const) fun v5 n5 h5 => ?_
      obtain ⟨⟨u5, rfl⟩, rfl⟩ := h5
      refine PRS.cons (EVg.i EVi.const) fun v6 n6 h6 => ?_
      obtain ⟨⟨u6, rfl⟩, rfl⟩ := h6
      exact PRS.nil ⟨made_nd, _, rfl, fun o' d => ⟨_, o', u1, u2, u3, u4, u5, u6, rfl, rfl, d⟩⟩
    · obtain ⟨ch, oc, u1, u2, u3, u4, u5, u6, rfl, rfl, hd⟩ := hv
      intro m2
      refine RUN.if_t (CND.cs (EVs.of (EVx.name H rfl rfl rfl)) EVs.const (CS.eq rfl)) ?_
      refine RUN.setd_s (z := 0) (EVs.mul (EVs.bi (EVx.built H (by kernel_rfl) boot_chr (by decide) rfl rfl) (ARG.i EVi.const (fun _ => ARG.nil (b_chr (by decide) (by decide))) rfl)) (EVi.of (EVx.name H rfl rfl rfl)) (by decide +kernel) (by omega) (by omega)) (EVx.name H rfl rfl rfl) EVs.const rfl hd (Nat.le_of_ble_eq_true rfl) fun t oc' d' => ?_
      intro n2
      refine RUN.fall ?_
      refine RUN.setdI_x (z := 4) (EVx.name H rfl rfl rfl) (EVx.attr (z1 := 1) (z2 := 2) H (EVx.name H rfl rfl rfl) rfl rfl ho (by kernel_rfl) (by kernel_rfl) (by kernel_rfl)) (EVi.of (EVx.name H rfl rfl rfl)) rfl hop (Nat.le_of_ble_eq_true rfl) fun oop' dop => ?_
      intro n3
      have hch := Chan.buf d'
      rw [← due_neg hb (sp := -1) (by decide) rfl] at hch
      exact RUN.end_n ⟨rfl, ch, oc', ofl1, oop', tz, hch, hfl1, dop, rfl⟩
end Mine
end
section
open PySem PySem.W PySem.Calls PyProof.Rows
namespace Mine
theorem t_setf {w : World} {x dx op fd pl a1 a2 ch : Addr} {es : List DictEntry} {k kp k1 k2 : Nat} {oop ofd oc : Obj} {b ci rn : Int} {tc s1 s2 s3 s4 : Tok} {nN nM ub : Str} {kv1 : List (Int × Value)} {kvs : List (Str × Value)} (hb : BITS b) (ho : getL (Str.ofString "open") es = some (some (.ref op))) (hf : getL (Str.ofString "fields") es = some (some (.ref fd))) (lo : (op == sysModules) = false) (hop : oop.IsDictOf (IKw w) kv1) (hv : valueAt kv1 ci = some (.ref ch)) (hfd : ofd.IsDictOf (SKw w) kvs) (hcn : Chan w oc b ub rn) (hl1 : kvs.length ≤ 10) (hl2 : ∀ p, (stored kvs nN (.ref p)).length ≤ 10) : CTn w 2 131 [.ref x, .int ci tc, .ref pl] [(x, instObj 353 dx), (dx, dictOf es k), (op, oop), (fd, ofd), (pl, lstO [.ref a1, .ref a2] kp), (a1, tupO [.int 1 s1, .str nN s2] k1), (a2, tupO [.int (octs b) s3, .str nM s4] k2), (ch, oc)] (fun _ => True) (fun v n' => v = .none ∧ ∃ p q ofd' t1 t2 t3 t4, ofd'.IsDictOf (SKw w) (stored (stored kvs nN (.ref p)) nM (.ref q)) ∧ n' = [(q, tupO [.int ci t3, .int 1 t4, .int (octs b) s3] 0), (p, tupO [.int ci t1, .int 0 t2, .int 1 s1] 0), (x, instObj 353 dx), (dx, dictOf es k), (op, oop), (ch, oc), (fd, ofd')]) := by
  refine' CTn.mk [((Str.ofString "world"), .ref x), ((Str.ofString "channel"), .int ci tc), ((Str.ofString "parts"), .ref pl)] ?ho ?hcd ?hb ?hl (fun _ _ _ h => h) ?h ?c2 ?c3 ?c4 ?c5
  case ho => with_unfolding_all rfl
  case hcd => kernel_rfl
  case hb => exact fun s => BindsTo.of_eq rfl
  case hl => rfl
  case c2 => rfl
  case c3 => rfl
  case c4 => rfl
  case c5 => decide
  case h =>
    intro A L g s E c H HG
    intro QQ
    have hob := octs_pos hb
    let N : Obj → Nw := fun ofd => [(x, instObj 353 dx), (dx, dictOf es k), (op, oop), (ch, oc), (fd, ofd), (pl, lstO [.ref a1, .ref a2] kp), (a1, tupO [.int 1 s1, .str nN s2] k1), (a2, tupO [.int (octs b) s3, .str nM s4] k2)]
    let N0 : Nw := [(x, instObj 353 dx), (dx, dictOf es k), (op, oop), (fd, ofd), (pl, lstO [.ref a1, .ref a2] kp), (a1, tupO [.int 1 s1, .str nN s2] k1), (a2, tupO [.int (octs b) s3, .str nM s4] k2), (ch, oc)]
    show RUN c _ N0 _ _
    have hcn' := hcn
    obtain ⟨x1, x2, x3, x4, x5, x6, hd⟩ := hcn'
    refine RUN.let_gc H rfl (EVg.callA (a := 119) [0, 1, 2, 3, 8] 1 H (by decide) (EVx.glob H (by kernel_rfl) rfl rfl) (by kernel_rfl) trivial (fun _ _ _ h => h) (ARGg.x (EVx.name H rfl rfl rfl) (ARGg.i (EVi.of (EVx.name H rfl rfl rfl)) (fun t => ARGg.gc (EVg.tupc (ARGg.s EVs.const (fun t9 => ARGg.nil ⟨rfl, fun D0 => ARGg.nil (CTn.mono (t_chanL (ms := [.str (Str.ofString "R") t9]) (ys := [(Str.ofString "R")]) ho hop lo hv hcn (.cons _ _ .nil) (by decide +kernel)) fun v n' hP => ?_)⟩) rfl)) rfl) rfl) rfl))
    obtain ⟨rfl, rfl⟩ := hP
    show RUN c _ ((D0, _) :: (N ofd)) _ _
    refine RUN.drop (List.sublist_cons_self _ _) ?_
    refine RUN.if_f (CND.noneL H (by decide) ?_) ?_
    · skip
      refine EVg.comp (N := 2) (fun i ys n1 => n1 = (N ofd) ∧ ys = []) H (ITR.lst (z := 5) (a := pl) (vs := [.ref a1, .ref a2]) (k := kp) H (EVx.name H rfl rfl rfl) rfl) ⟨rfl, rfl⟩ (fun _ _ _ hJ p hp => by obtain ⟨rfl, _⟩ := hJ; rw [List.mem_singleton.mp hp]; exact List.mem_of_getElem? (i := 5) rfl) ?_ (Nat.le_of_ble_eq_true rfl) (fun D ys n1 hJ => ?_) rfl
      · intro C g' E' K gs i vv ys n1 T m1 h hi hJ hV S1
        obtain ⟨rfl, rfl⟩ := hJ
        have hi2 : i = 0 ∨ i = 1 := by omega
        rcases hi2 with rfl | rfl
        · obtain rfl : vv = .ref a1 := by simpa using hV.symm
          exact ⟨_, false, TGT.tup K S1 (S1.isTup (i := 6) rfl) (TGS.cons (TGT.name K rfl) (TGS.cons (TGT.name K rfl) TGS.nil)), TST.one (CND.eq (CND.ci (EVi.of (EVx.name K rfl rfl rfl)) EVi.const CI.lt) (decide_eq_false (by omega))), (fun z => nomatch z), fun _ => ⟨rfl, rfl⟩⟩
        · obtain rfl : vv = .ref a2 := by simpa using hV.symm
          exact ⟨_, false, TGT.tup K S1 (S1.isTup (i := 7) rfl) (TGS.cons (TGT.name K rfl) (TGS.cons (TGT.name K rfl) TGS.nil)), TST.one (CND.eq (CND.ci (EVi.of (EVx.name K rfl rfl rfl)) EVi.const CI.lt) (decide_eq_false (by omega))), (fun z => nomatch z), fun _ => ⟨rfl, rfl⟩⟩
      · obtain ⟨rfl, rfl⟩ := hJ
        exact ⟨D, rfl, rfl⟩

    refine RUN.if_f (CND.eq (CND.ci (EVi.ofgs (v := 1 + octs b) (EVg.sum (V := fun v n1 => ∃ D, v = .ref D ∧ n1 = (D, lstO [.int 1 s1, .int (octs b) s3] 2) :: (N ofd)) H (EVx.built H (by kernel_rfl) (by decide +kernel) (by decide) rfl rfl) ?_ ?_)) (EVi.of (EVx.ditem (i := 3) (EVx.name H rfl rfl rfl) EVs.const rfl hd rfl)) CI.gt) (decide_eq_false (by omega))) ?_
    · skip
      refine EVg.comp (N := 2) (fun i ys n1 => n1 = (N ofd) ∧ ys = List.take i [.int 1 s1, .int (octs b) s3]) H (ITR.lst (z := 5) (a := pl) (vs := [.ref a1, .ref a2]) (k := kp) H (EVx.name H rfl rfl rfl) rfl) ⟨rfl, rfl⟩ (fun _ _ _ hJ p hp => by obtain ⟨rfl, _⟩ := hJ; rw [List.mem_singleton.mp hp]; exact List.mem_of_getElem? (i := 5) rfl) ?_ (Nat.le_of_ble_eq_true rfl) (fun D ys n1 hJ => ?_) rfl
      · intro C g' E' K gs i vv ys n1 T m1 h hi hJ hV S1
        obtain ⟨rfl, rfl⟩ := hJ
        have hi2 : i = 0 ∨ i = 1 := by omega
        rcases hi2 with rfl | rfl
        · obtain rfl : vv = .ref a1 := by simpa using hV.symm
          refine ⟨_, true, TGT.tup K S1 (S1.isTup (i := 6) rfl) (TGS.cons (TGT.name K rfl) (TGS.cons (TGT.name K rfl) TGS.nil)), TST.nil, fun _ => EVg.mono (EVg.x (EVx.name K rfl rfl rfl)) fun y n3 hv => ?_, fun z => nomatch z⟩
          obtain ⟨rfl, rfl⟩ := hv
          exact ⟨_, List.Sublist.refl _, rfl, rfl⟩
        · obtain rfl : vv = .ref a2 := by simpa using hV.symm
          refine ⟨_, true, TGT.tup K S1 (S1.isTup (i := 7) rfl) (TGS.cons (TGT.name K rfl) (TGS.cons (TGT.name K rfl) TGS.nil)), TST.nil, fun _ => EVg.mono (EVg.x (EVx.name K rfl rfl rfl)) fun y n3 hv => ?_, fun z => nomatch z⟩
          obtain ⟨rfl, rfl⟩ := hv
          exact ⟨_, List.Sublist.refl _, rfl, rfl⟩
      · obtain ⟨rfl, rfl⟩ := hJ
        exact ⟨D, rfl, rfl⟩

    · intro v n1 hv1
      obtain ⟨D, rfl, rfl⟩ := hv1
      exact ⟨D, _, [1, octs b], 2, 0, rfl, rfl, .cons _ _ (.cons _ _ .nil), fun t => ⟨⟨t, by simp⟩, List.sublist_cons_self _ _⟩⟩
    refine RUN.let_i H EVi.const rfl fun t9 => ?_
    intro m2
    let J5 : Nat → Lo → Nw → Prop := fun k9 m n => match k9 with
      | 0 => m (Str.ofString "world") = some (.ref x) ∧ m (Str.ofString "channel") = some (.int ci tc) ∧ True ∧ ∃ ta, m (Str.ofString "at") = some (.int 0 ta) ∧ n = (N ofd)
      | 1 => m (Str.ofString "world") = some (.ref x) ∧ m (Str.ofString "channel") = some (.int ci tc) ∧ True ∧ ∃ p ofd1 ta tb, ofd1.IsDictOf (SKw w) (stored kvs nN (.ref p)) ∧ m (Str.ofString "at") = some (.int 1 tb) ∧ n = (p, tupO [.int ci tc, .int 0 ta, .int 1 s1] 0) :: (N ofd1)
      | _ => m (Str.ofString "world") = some (.ref x) ∧ m (Str.ofString "channel") = some (.int ci tc) ∧ True ∧ ∃ p q ofd2 ta tb, ofd2.IsDictOf (SKw w) (stored (stored kvs nN (.ref p)) nM (.ref q)) ∧ n = (q, tupO [.int ci tc, .int 1 tb, .int (octs b) s3] 0) :: (p, tupO [.int ci tc, .int 0 ta, .int 1 s1] 0) :: (N ofd2)
    refine RUN.for_w J5 H (ITR.lst (z := 5) (a := pl) (vs := [.ref a1, .ref a2]) (k := kp) H (EVx.name H rfl rfl rfl) rfl) ⟨rfl, rfl, trivial, t9, rfl, rfl⟩ (fun i m1 n1 hJ p hp => ?_) (fun i T v m1 n1 h hi hJ hV S2 => ?_) (fun m1 n1 hJ => ?_)
    · rw [List.mem_singleton.mp hp]
      match i, hJ with
      | 0, hJ => obtain ⟨_, _, _, ta, _, rfl⟩ := hJ; exact List.mem_of_getElem? (i := 5) rfl
      | 1, hJ => obtain ⟨_, _, _, p, ofd1, ta, tb, _, _, rfl⟩ := hJ; exact List.mem_of_getElem? (i := 6) rfl
      | _ + 2, hJ => obtain ⟨_, _, _, p, q, ofd1, ta, tb, _, rfl⟩ := hJ; exact List.mem_of_getElem? (i := 7) rfl
    · have hi2 : i = 0 ∨ i = 1 := by have : i < 2 := hi; omega
      rcases hi2 with rfl | rfl
      · obtain ⟨l1, l2, l3, ta, l4, rfl⟩ := hJ
        obtain rfl : v = .ref a1 := by simpa using hV.symm
        refine ⟨_, TGT.tup H S2 (S2.isTup (i := 6) rfl) (TGS.cons (TGT.name H rfl) (TGS.cons (TGT.name H rfl) TGS.nil)), ?_⟩
        refine RUN.set_gc (EVg.tupc (ARGg.x (EVx.name H l2 rfl rfl) (ARGg.x (EVx.name H l4 rfl rfl) (ARGg.x (EVx.name H rfl rfl rfl) (ARGg.nil ⟨rfl, fun D => ?_⟩) rfl) rfl) rfl))
        refine TGA.ditem (z := 5) (EVx.attr (z1 := 1) (z2 := 2) H (EVx.name H l1 rfl rfl) rfl rfl hf (by kernel_rfl) (by kernel_rfl) (by kernel_rfl)) (EVs.of (EVx.name H rfl rfl rfl)) rfl hfd (Nat.le_trans hl1 (by decide)) fun ofd2 d5 => ?_
        intro n5
        refine RUN.let_i H (EVi.add (EVi.of (EVx.name H l4 rfl rfl)) (EVi.of (EVx.name H rfl rfl rfl))) rfl fun t5 => ?_
        intro m5
        exact RUN.turnW (n2 := (D, tupO [.int ci tc, .int 0 ta, .int 1 s1] 0) :: (N ofd2)) (List.Sublist.refl _) ⟨l1, l2, trivial, D, ofd2, ta, t5, d5, rfl, rfl⟩
      · obtain ⟨l1, l2, l3, p, ofd1, ta, tb, hd1, l4, rfl⟩ := hJ
        obtain rfl : v = .ref a2 := by simpa using hV.symm
        refine ⟨_, TGT.tup H S2 (S2.isTup (i := 8) rfl) (TGS.cons (TGT.name H rfl) (TGS.cons (TGT.name H rfl) TGS.nil)), ?_⟩
        refine RUN.set_gc (EVg.tupc (ARGg.x (EVx.name H l2 rfl rfl) (ARGg.x (EVx.name H l4 rfl rfl) (ARGg.x (EVx.name H rfl rfl rfl) (ARGg.nil ⟨rfl, fun D => ?_⟩) rfl) rfl) rfl))
        refine TGA.ditem (z := 6) (EVx.attr (z1 := 2) (z2 := 3) H (EVx.name H l1 rfl rfl) rfl rfl hf (by kernel_rfl) (by kernel_rfl) (by kernel_rfl)) (EVs.of (EVx.name H rfl rfl rfl)) rfl hd1 (Nat.le_trans (hl2 p) (by decide)) fun ofd2 d5 => ?_
        intro n5
        refine RUN.let_i H (EVi.add (EVi.of (EVx.name H l4 rfl rfl)) (EVi.of (EVx.name H rfl rfl rfl))) rfl fun t5 => ?_
        intro m5
        exact RUN.turnW (n2 := (D, tupO [.int ci tc, .int 1 tb, .int (octs b) s3] 0) :: (p, tupO [.int ci tc, .int 0 ta, .int 1 s1] 0) :: (N ofd2)) (List.Sublist.refl _) ⟨l1, l2, trivial, p, D, ofd2, ta, tb, d5, rfl⟩
    · obtain ⟨_, _, _, p, q, ofd2, ta, tb, d5, rfl⟩ := hJ
      exact RUN.end_s (List.sublist_append_left [(q, tupO [.int ci tc, .int 1 tb, .int (octs b) s3] 0), (p, tupO [.int ci tc, .int 0 ta, .int 1 s1] 0), (x, instObj 353 dx), (dx, dictOf es k), (op, oop), (ch, oc), (fd, ofd2)] [(pl, lstO [.ref a1, .ref a2] kp), (a1, tupO [.int 1 s1, .str nN s2] k1), (a2, tupO [.int (octs b) s3, .str nM s4] k2)]) ⟨rfl, p, q, ofd2, tc, ta, tc, tb, d5, rfl⟩
end Mine
end
section
open PySem PySem.W PySem.Calls PyProof.Rows PySem.Spec
namespace Mine
open LCg
section
variable {c : Cx} {m : Lo} {n : Nw} {r : Nat}
theorem Cx.St.ofq {g2 h : Heap} (S : (c.at g2).St m n h) (T : KtsTurn [] c.g g2) : c.St m n h :=
  ⟨⟨S.F.ns, fun b o e => S.F.keep b o (T.other b o e List.not_mem_nil), by have := S.F.above; rw [T.size] at this; exact this⟩, fun p hp => ⟨(S.N p hp).1, (S.N p hp).2.1, by
    cases e : c.g.get? p.1 with
    | none => rfl
    | some o => have := T.other _ _ e List.not_mem_nil; rw [(S.N p hp).2.2] at this; cases this⟩, S.D⟩
theorem EVg.ofq {e : PySem.Expr} {P : Value → Nw → Prop} (h : EVq c [] m n e P) : EVg c m n e P := fun h0 k _ S q => h h0 k _ S fun g2 v n' h' k' T hp S' => q v n' h' k' hp (S'.ofq T)
noncomputable def CTURNq (c : Cx) (r : Nat) (scope : Scope) (cl : List (Str × Addr)) (elt target : PySem.Expr) (ifs : List PySem.Expr) (N : Nat) (V : Nat → Value → Heap → Prop) (J : Nat → List Value → Nw → Prop) : Prop := CTURNp (fun c' => OkT c' [c.L] r) c scope cl elt target ifs N V J
theorem OkT.inn {scope : Scope} {cl : List (Str × Addr)} (O : OkT c [] r) : ∀ C g2 E', (∀ g3, KtsTurn [c.L] g2 g3 → Ok (c.inn scope cl C g3 E') r) → (∀ g3, KtsTurn [c.L] g2 g3 → ∀ b o, c.g.get? b = some o → g3.get? b = some o) → (∃ o, g2.get? c.L = some o ∧ ∀ vs, o.data ≠ .fields vs) → OkT (c.inn scope cl C g2 E') [c.L] r := fun C g2 E' ok gs st => by
  refine ⟨ok, ?_, fun b hb => ?_, fun g3 T3 => ?_⟩
  · obtain ⟨outer, e1, e2⟩ := O.fr
    exact ⟨outer, e1, fun b hb => .inr (by rcases e2 b hb with z | z; exact List.mem_singleton.mpr z; cases z)⟩
  · rw [List.mem_singleton.mp hb]
    exact st
  · obtain ⟨mean, mg, mb, TT⟩ := O.tops c.g KtsTurn.refl
    exact ⟨mean, mg, mb, TT.keeps (gs g3 T3)⟩
theorem EVg.compQ {elt target iter : PySem.Expr} {ifs : List PySem.Expr} {scope : Scope} {cl : List (Str × Addr)} {pos : Pos} {N : Nat} {V : Nat → Value → Heap → Prop} {keep : Nw} {P : Value → Nw → Prop} (J : Nat → List Value → Nw → Prop) (O : OkT c [] r)
    (he : ITR c m n iter target N V keep) (h0 : J 0 [] n) (hk : ∀ i ys n1, J i ys n1 → ∀ p ∈ keep, p ∈ n1) (turn : CTURNq c r scope cl elt target ifs N V J) (hN : N ≤ sizeLine)
    (fin : ∀ D ys n1, J N ys n1 → P (.ref D) ((D, lstO ys ys.length) :: n1))
    (hclos : closureFor scope c.env = pure cl) (hcell : autoParam (∀ y ∈ scope.names, y.2 ≠ .cell) decT) (hkind : autoParam (scope.kind = .function) rflT)
    (hnames : autoParam (∀ y ∈ scope.names, y.2 = .local → scope.names.lookup y.1 = some .local) decT)
    (hs : autoParam (∀ v, foldedSetIterable iter c.env v = pure v) irflT) : EVg c m n (.ListComp elt [⟨target, iter, ifs, 0⟩] scope pos) P := by
  intro h k Q S q
  rw [eval_ListComp]
  refine comp_coreP (PK := fun c' => OkT c' [c.L] r) (use := none) J O.now O.inn he h0 hk turn hN (fun D C ys n1 h4 k4 mi hJ S4 hn hCL hC0 hnC => ?_) hclos hcell hkind hnames hs h k S
  refine ⟨mi, hn, fun h5 hs5 => q _ _ h5 k4 (fin _ _ _ hJ) ⟨S4.F.change hs5 hCL hC0, fun p hp => ⟨hs5.extBut _ _ (hnC p hp) (S4.N p hp).1, (S4.N p hp).2⟩, S4.D⟩⟩
theorem RUN.let_compQ {y : Str} {py spos : Pos} {rest : List Stmt} {R : Flow → Shared → Prop} {elt target iter : PySem.Expr} {ifs : List PySem.Expr} {scope : Scope} {cl : List (Str × Addr)} {pos : Pos} {N : Nat} {V : Nat → Value → Heap → Prop} {keep : Nw} (J : Nat → List Value → Nw → Prop) (O : OkT c [] r)
    (he : ITR c m n iter target N V keep) (h0 : J 0 [] n) (hk : ∀ i ys n1, J i ys n1 → ∀ p ∈ keep, p ∈ n1) (turn : CTURNq c r scope cl elt target ifs N V J) (hN : N ≤ sizeLine) (hy : c.env.kindOf y = some .local)
    (fin : ∀ D ys n1, J N ys n1 → let m' := upd m y (.ref D); let n' := (D, lstO ys ys.length) :: n1; RUN c m' n' rest R)
    (hclos : closureFor scope c.env = pure cl) (hsw : autoParam (swapsWith (.ListComp elt [⟨target, iter, ifs, 0⟩] scope pos) (some (.Name y py)) spos.line c.env = pure true) rflT) (hcell : autoParam (∀ y ∈ scope.names, y.2 ≠ .cell) decT) (hkind : autoParam (scope.kind = .function) rflT)
    (hnames : autoParam (∀ y ∈ scope.names, y.2 = .local → scope.names.lookup y.1 = some .local) decT)
    (hs : autoParam (∀ v, foldedSetIterable iter c.env v = pure v) irflT) : RUN c m n (.Assign [.Name y py] (.ListComp elt [⟨target, iter, ifs, 0⟩] scope pos) spos :: rest) R := by
  intro h k S
  refine wpAny_execs_cons ?_
  rw [exec_Assign_Name_used _ _ _ _ hsw]
  refine wpAny_bind (wpAny_standAt (wpAny_bind ?_))
  show wpAny _ c.A (do let _ ← comprehension (.ListComp elt [⟨target, iter, ifs, 0⟩] scope pos) scope c.env _ (newList []) false (eval iter c.env) (some (assign (.Name y py) c.env))) _ _ _
  refine wpAny_bind (wpAny_mono (comp_coreP (PK := fun c' => OkT c' [c.L] r) (use := some (assign (.Name y py) c.env)) J O.now O.inn he h0 hk turn hN (fun D C ys n1 h4 k4 mi hJ S4 hn hCL hC0 hnC => ?_) hclos hcell hkind hnames hs h k S) (fun _ s' hq => wpAny_pure (wpAny_pure hq)) fun _ _ e => e)
  show wpAny _ c.A (assign (.Name y py) c.env (.ref D)) _ _ _
  refine (TGT.name (h0 := h4) O.now hy) h4 k4 _ But.refl S4 fun h5 k5 b5 S5 => ?_
  obtain ⟨oC, hoC, hnn⟩ := ns_obj hn
  refine ⟨mi, hnn.ns (b5 C oC hCL hoC), fun h6 hs6 => fin D ys n1 hJ h6 k5 ⟨S5.F.change hs6 hCL hC0, fun p hp => ⟨hs6.extBut _ _ (hnC p hp) (S5.N p hp).1, (S5.N p hp).2⟩, S5.D⟩⟩
end
end Mine
end
section
open PySem PySem.W PySem.Calls PyProof.Rows PySem.Spec
namespace Mine
noncomputable def lawD : Stmt := PySem.Challenge.pw_sm0006_01.main.body.getLast?.getD (.Pass ⟨0,0,0,0⟩)
noncomputable def lawB : List Stmt := match lawD with | .FunctionDef _ _ b .. => b | _ => []
noncomputable def lawSc : Scope := match lawD with | .FunctionDef _ _ _ _ _ _ sc .. => sc | _ => default
noncomputable def LawEnd (g : Heap) (L : Addr) (s : Shared) (f : Flow) (s' : Shared) : Prop :=
  f = .ret (.bool true) ∧ ∃ h' tk' m' ps, s' = { s with heap := h', toks := tk' } ∧ Fr g L h' m' ∧ h'.get? 409 = some (tabObj ps)
structure WObjs (w : World) (a : WAddr) (b room : Int) (dO oO fO tp0 tq0 tp1 tq1 : Obj) : Prop where
  lop : (a.op == sysModules) = false
  lfd : (a.fd == sysModules) = false
  lfl : (a.fl == sysModules) = false
  dict : ∃ es n, dO = dictOf es n ∧ (∃ t, getL "bits" es = some (some (.int b t))) ∧ (∃ t, getL "digits" es = some (some (.int 9 t))) ∧ (∃ t, getL "room" es = some (some (.int room t))) ∧
    getL "files" es = some (some (.ref a.fl)) ∧ getL "open" es = some (some (.ref a.op)) ∧ getL "fields" es = some (some (.ref a.fd))
  opn : oO.IsDictOf (PySem.intKind PySem.Challenge.rw_sm0006_01.row.prog w) [(1, .ref (a.c false)), (2, .ref (a.c true))]
  fds : fO.IsDictOf (PySem.strKind PySem.Challenge.rw_sm0006_01.row.prog w) [("N1$", .ref (a.p false)), ("M1$", .ref (a.q false)), ("N2$", .ref (a.p true)), ("M2$", .ref (a.q true))]
  p0 : ∃ t1 t2 t3 k, tp0 = tupO [.int 1 t1, .int 0 t2, .int 1 t3] k
  q0 : ∃ t1 t2 t3 k, tq0 = tupO [.int 1 t1, .int 1 t2, .int (octs b) t3] k
  p1 : ∃ t1 t2 t3 k, tp1 = tupO [.int 2 t1, .int 0 t2, .int 1 t3] k
  q1 : ∃ t1 t2 t3 k, tq1 = tupO [.int 2 t1, .int 1 t2, .int (octs b) t3] k
noncomputable def W8 (a : WAddr) (dO oO fO tp0 tq0 tp1 tq1 : Obj) : List (Addr × Obj) := [(a.w, instObj 353 a.d), (a.d, dO), (a.op, oO), (a.fd, fO), (a.p false, tp0), (a.q false, tq0), (a.p true, tp1), (a.q true, tq1)]
theorem WObjs.wro {w : World} {a : WAddr} {b room : Int} {dO oO fO tp0 tq0 tp1 tq1 : Obj} {h : Heap} (nd : a.all.Nodup) (Z : WObjs w a b room dO oO fO tp0 tq0 tp1 tq1) (H : ∀ p ∈ W8 a dO oO fO tp0 tq0 tp1 tq1, h.get? p.1 = some p.2) : WRO w a b room h := by
  have e1 := H (a.w, instObj 353 a.d) (by simp [W8])
  have e2 := H (a.d, dO) (by simp [W8])
  have e3 := H (a.op, oO) (by simp [W8])
  have e4 := H (a.fd, fO) (by simp [W8])
  have e5 := H (a.p false, tp0) (by simp [W8])
  have e6 := H (a.q false, tq0) (by simp [W8])
  have e7 := H (a.p true, tp1) (by simp [W8])
  have e8 := H (a.q true, tq1) (by simp [W8])
  obtain ⟨es, n, rfl, ed⟩ := Z.dict
  refine ⟨nd, Z.lop, Z.lfd, Z.lfl, e1, ⟨es, n, e2, ed⟩, Heap.dictOf_iff.mpr ⟨oO, e3, Z.opn⟩, Heap.dictOf_iff.mpr ⟨fO, e4, Z.fds⟩, fun i => ?_, fun i => ?_⟩
  · cases i
    · obtain ⟨t1, t2, t3, k, rfl⟩ := Z.p0; exact ⟨t1, t2, t3, k, e5⟩
    · obtain ⟨t1, t2, t3, k, rfl⟩ := Z.p1; exact ⟨t1, t2, t3, k, e7⟩
  · cases i
    · obtain ⟨t1, t2, t3, k, rfl⟩ := Z.q0; exact ⟨t1, t2, t3, k, e6⟩
    · obtain ⟨t1, t2, t3, k, rfl⟩ := Z.q1; exact ⟨t1, t2, t3, k, e8⟩
theorem pow_pos {b : Int} (hb : BITS b) : (0 : Int) < 2 ^ (b - 1).toNat := by rcases hb with rfl | rfl | rfl <;> decide
theorem fits_20 {b x : Int} (hb : BITS b) (h0 : 0 ≤ x) (h1 : x < 2 ^ (b - 1).toNat) : fitsB b (x - 20) = true := by
  rcases hb with rfl | rfl | rfl
  · have e : (2 : Int) ^ ((8 : Int) - 1).toNat = 128 := rfl
    rw [e] at h1; simp [fitsB]; omega
  · have e : (2 : Int) ^ ((12 : Int) - 1).toNat = 2048 := rfl
    rw [e] at h1; simp [fitsB]; omega
  · have e : (2 : Int) ^ ((16 : Int) - 1).toNat = 32768 := rfl
    rw [e] at h1; simp [fitsB]; omega
theorem ints_snoc {v : Int} {t : Tok} : ∀ {vs : List Value} {ns : List Int}, IntsAre vs ns → IntsAre (vs ++ [.int v t]) (ns ++ [v])
  | _, _, .nil => .cons v t .nil
  | _, _, .cons m u r => .cons m u (ints_snoc r)
theorem txtF_snoc {b v : Int} : ∀ {k : Nat} {l : List Int}, txtF b k (l ++ [v]) = txtF b k l ++ recL b (k + l.length) v
  | k, [] => by simp [txtF]
  | k, x :: r => by
    rw [List.cons_append, txtF, txtF, txtF_snoc, List.append_assoc, List.length_cons]
    rw [show k + 1 + r.length = k + (r.length + 1) by omega]
noncomputable def nuAt (led : List Int) : Nat → Int
  | 0 => 0
  | k + 1 => led.getD k 0
theorem put_in {b : Int} (hb : BITS b) {led : List Int} {i : Nat} (h : i ≤ led.length) : ((i : Int) - 1 + 1 + 1 - 1) * (octs b + 1) = ((txtF b 0 (led.take i)).length : Int) := by
  rw [txtF_len hb, List.length_take, Nat.min_eq_left h, z_eq hb, show (i : Int) - 1 + 1 + 1 - 1 = i by omega, Int.natCast_mul]
theorem put_room {b M : Int} (hb : BITS b) {led : List Int} {i : Nat} (h : i < led.length) (hl : (led.length : Int) = M) : ((i : Int) - 1 + 1 + 1 - 1) * (octs b + 1) + (octs b + 1) ≤ M * (octs b + 1) := by
  rw [show (i : Int) - 1 + 1 + 1 - 1 = i by omega]
  have : ((i : Int) + 1) * (octs b + 1) ≤ M * (octs b + 1) := Int.mul_le_mul_of_nonneg_right (by omega) (by have := octs_pos hb; omega)
  rw [Int.add_mul, Int.one_mul] at this
  exact this
theorem nu_last {led : List Int} (h : 0 < led.length) : led.getD (-1 + (led.length : Int)).toNat 0 = nuAt led led.length := by
  rw [neg_nat h]
  cases e : led.length with
  | zero => omega
  | succ k => rfl
theorem cl_0 {b M sp nu : Int} : ClOK b M 0 0 0 0 0 sp nu := ⟨.inl rfl, (fun q => absurd rfl q), (fun q => absurd q (by decide)), (fun q => absurd q (by decide))⟩
theorem octs_8 {b : Int} (h : b = 8) : octs b = 1 := by rw [h]; rfl
theorem octs_n8 {b : Int} (h : ¬ b = 8) : octs b = 2 := if_neg h
end Mine
end
section
open PySem PySem.W PySem.Calls PyProof.Rows PySem.Spec
namespace Mine
theorem perm_front {is : List Nat} {a X : Nw} : (a ++ X).Perm (pick is 0 a ++ (rest is 0 a ++ X)) := by
  rw [← List.append_assoc]
  exact (pick_perm 0 a).append_right X
theorem perm_mid {is : List Nat} {a C X : Nw} : (a ++ (C ++ X)).Perm ((pick is 0 a ++ C) ++ (rest is 0 a ++ X)) := by
  refine (perm_front (is := is)).trans ?_
  rw [List.append_assoc]
  refine List.Perm.append_left _ ?_
  rw [← List.append_assoc, ← List.append_assoc]
  exact List.perm_append_comm.append_right X
theorem pick_all {is : List Nat} : ∀ {k : Nat} {l : Nw}, (∀ j, k ≤ j → j < k + l.length → is.any (Nat.beq j) = true) → pick is k l = l ∧ rest is k l = []
  | _, [], _ => ⟨rfl, rfl⟩
  | k, p :: l, h => by
    have h0 := h k (Nat.le_refl _) (by rw [List.length_cons]; omega)
    have ih := pick_all (is := is) (k := k + 1) (l := l) fun j h1 h2 => h j (by omega) (by rw [List.length_cons]; omega)
    unfold pick rest
    rw [h0, ih.1, ih.2]
    exact ⟨rfl, rfl⟩
theorem any_range {j N : Nat} (h : j < N) : (List.range N).any (Nat.beq j) = true := List.any_eq_true.mpr ⟨j, List.mem_range.mpr h, Nat.beq_refl j⟩
theorem all_range {N k : Nat} (h : N ≤ k) : ((List.range N).all fun i => decide (i < k)) = true := List.all_eq_true.mpr fun i hi => decide_eq_true (Nat.lt_of_lt_of_le (List.mem_range.mp hi) h)
inductive CalM (c : Cx) (fs : List Addr) (m : Lo) (r' : Nat) (ad : Addr) (P : Value → Nw → Prop) (n1 : Nw) (vs : List Value) : Prop
  | mk (cells T : Nw) (Pc : Value → Nw → Prop) (G : Heap → Prop) (Fr0 : List Addr → Prop) (hp : n1.Perm (cells ++ T)) (hc : CTq c.w r' ad vs cells G Fr0 Pc) (hG : ∀ h, c.St m (cells ++ T) h → G (hideAll h (ks cells)) ∧ ∀ fr : List Addr, (∀ b ∈ fr, b = c.L ∨ b ∈ fs) → Fr0 fr)
      (hQ : ∀ v n', Pc v n' → ∃ n2, n2.Perm (n' ++ T) ∧ P v n2) : CalM c fs m r' ad P n1 vs
section
variable {c : Cx} {fs : List Addr} {m : Lo} {n : Nw} {r : Nat} {Q : Flow → Shared → Prop}
theorem EVq.callM {f e : PySem.Expr} {es : List PySem.Expr} {p : Pos} {ad : Addr} {P : Value → Nw → Prop} (r' : Nat) (O : OkT c fs r) (hr : r' < r) (hf : EVx c m n f (.ref ad)) (hk : keepIn (KO c.w.params) (.ref ad) = true)
    (ha : ARGg c m n (e :: es) (CalM c fs m r' ad P))
    (h0 : autoParam (eval (f.Call (e :: es) [] p) c.env = (eval f c.env >>= fun fv => callWith p fv [] (backTo p (starEach (e :: es) c.env)) (backToKw p (keywordEach [] c.env)))) rflT)
    (hs : autoParam (starEach (e :: es) c.env = (false, eval e c.env) :: starEach es c.env) rflT) (hs2 : autoParam (((backTo p (starEach es c.env)).any fun x => x.1) = false) rflT) : EVq c fs m n (.Call f (e :: es) [] p) P :=
  fun h k Q S q => Call_ (hf h k _ S fun h1 k1 S1 => callWith_K (O.now.X.keeps S1.F.keep) hk (ha p h1 k1 _ S1 fun vs n1 h2 k2 hc S2' => ⟨O.now.X.keeps S2'.F.keep, wpAny_call (by
    obtain ⟨cells, T, Pc, G, Fr0, hp, hc, hG, hQ⟩ := hc
    have S2 : c.St m (cells ++ T) h2 := S2'.perm hp.symm
    have pk := pick_all (is := List.range cells.length) (k := 0) (l := cells) fun j _ h2 => any_range (by omega)
    have hall := all_range (N := cells.length) (k := 0 + cells.length) (by omega)
    have e1 : pick (List.range cells.length) 0 (cells ++ T) = cells := by rw [pick_app cells T hall, pk.1]
    have e2 : rest (List.range cells.length) 0 (cells ++ T) = T := by rw [rest_app cells T hall, pk.2]; rfl
    obtain ⟨dp, un, base, outer, mean, mg, mb, eA, C, ob⟩ := O.now.stand _ _ S2.F r' hr
    have eF : c.A.frames = some outer := by rw [eA]
    have hend : ∀ v n' h' k', Pc v n' → KpG (ks cells) (outer.filterMap (·.frame)) h2 h' → (ks n').Nodup → (∀ p ∈ n', h'.get? p.1 = some p.2 ∧ (p.1 ∈ ks cells ∨ h2.get? p.1 = none)) → Q v (c.sh h' k') := fun v n' h' k' hP kp d q2 => by
      obtain ⟨g2, T2, S'⟩ := St.callG (is := List.range cells.length) O eF S2 (by rw [e1]; exact kp) d (by rw [e1]; exact q2)
      rw [e2] at S'
      obtain ⟨n2, hp2, hP2⟩ := hQ v n' hP
      exact q g2 v n2 h' k' T2 hP2 (S'.perm hp2)
    have hF := (hG h2 S2).2 (outer.filterMap (·.frame)) (by
      obtain ⟨o2, e1, e2⟩ := O.fr
      rw [eF] at e1; cases e1; exact e2)
    rw [eA]
    have D := S2.D
    rw [List.map_append] at D
    exact hc dp un base outer mean mg mb _ _ C (fun p hp => ob p (S2.N p (List.mem_append_left _ hp))) (List.nodup_append.mp D).1 (hG h2 S2).1 hF fun v n' h' k' hP kp d q2 => hend v n' h' k' hP kp d q2)⟩) hs hs2) h0
theorem EVg.lslice {a : PySem.Expr} {lo hi st : Option PySem.Expr} {p p' : Pos} {l : Addr} {its : Array Value} {vl vu vk : Option Int} (ha : EVx c m n a (.ref l)) (hl : ∀ h, c.St m n h → h.IsList l its)
    (h1 : ∀ h k (Q : Value → Shared → Prop), c.St m n h → (∀ v, IsPart v vl → ∀ h' k', c.St m n h' → Q v (c.sh h' k')) → wpAny c.M c.A (evalPart lo c.env) Q c.E (c.sh h k))
    (h2 : ∀ h k (Q : Value → Shared → Prop), c.St m n h → (∀ v, IsPart v vu → ∀ h' k', c.St m n h' → Q v (c.sh h' k')) → wpAny c.M c.A (evalPart hi c.env) Q c.E (c.sh h k))
    (h3 : ∀ h k (Q : Value → Shared → Prop), c.St m n h → (∀ v, IsPart v vk → ∀ h' k', c.St m n h' → Q v (c.sh h' k')) → wpAny c.M c.A (evalPart st c.env) Q c.E (c.sh h k))
    (h0 : vk ≠ some 0) (hz : its.size ≤ sizeLine) (hlt : autoParam (∀ v, letTemporaryGo a (.ref l) v = pure ()) irflT) (hs : ∀ D, ∃ ops, subscripted (.Slice lo hi st p') false (.ref l) (.ref D) = operate ops (getItem (.ref l) (.ref D)) := by exact fun _ => ⟨_, rfl⟩) : EVg c m n (.Subscript a (.Slice lo hi st p') p) fun v n' => ∃ D, v = .ref D ∧ n' = (D, { cls := .type "list", data := .seq (slicePick its vl vu vk) }) :: n := by
  intro h k Q S q
  refine Subscript_ (ha h k _ S fun h4 k4 S4 => wpAny_Slice (h1 h4 k4 _ S4 fun v1 p1 h5 k5 S5 => h2 h5 k5 _ S5 fun v2 p2 h6 k6 S6 => h3 h6 k6 _ S6 fun v3 p3 h7 k7 S7 => ?_))
  obtain ⟨ops, ho⟩ := hs h7.objs.size
  refine slice_list3 (s := c.sh h7 k7) S7.F S7.N (hl h7 S7) p1 p2 p3 h0 (fun h' F' N' => q _ _ h' _ ⟨_, rfl, rfl⟩ ⟨F', N', List.nodup_cons.mpr ⟨fun hm => ?_, S7.D⟩⟩) ho hlt hz
  obtain ⟨p, hp, e⟩ := List.mem_map.mp hm
  have := Heap.lt_size (S7.N p hp).1
  rw [e] at this
  exact absurd this (by show ¬ (h7.objs.size + 1 : Nat) < h7.objs.size; omega)
end
end Mine
end
section
open PySem PySem.W PySem.Calls PyProof.Rows PySem.Spec
namespace Mine
section
variable {c : Cx} {m : Lo} {n a T cells : Nw} {r : Nat} {Q : Flow → Shared → Prop}
theorem RUN.withD {st : List Stmt} (h : (ks n).Nodup → RUN c m n st Q) : RUN c m n st Q := fun h0 k S => h S.D h0 k S
noncomputable def CNDg (c : Cx) (m : Lo) (n : Nw) (e : PySem.Expr) (P : Bool → Nw → Prop) : Prop := ∀ h k Q, c.St m n h → (∀ b n' h' k', P b n' → c.St m n' h' → Q b (c.sh h' k')) → wpAny c.M c.A (PySem.isTrue e c.env (eval e c.env)) Q c.E (c.sh h k)
theorem CNDg.of {e : PySem.Expr} {V : Value → Nw → Prop} {P : Bool → Nw → Prop} (he : EVg c m n e V) (hV : ∀ v n1, V v n1 → ∃ b, v = .bool b ∧ P b n1) (hp : autoParam (PySem.isTrue e c.env (eval e c.env) = (eval e c.env >>= fun v => standAt e.pos >>= fun _ => holding [v] (truthy v))) rflT) : CNDg c m n e P :=
  fun h0 k Q S q => isTrue_plain (he h0 k _ S fun v n1 h1 k1 hv S1 => by
    obtain ⟨b, rfl, hP⟩ := hV v n1 hv
    exact wpAny_truthy_bool (q _ _ _ _ hP S1)) hp
theorem CNDg.ofc {e : PySem.Expr} {b : Bool} (h : CND c m n e b) : CNDg c m n e fun b' n' => b' = b ∧ n' = n := fun h0 k Q S q => h h0 k Q S fun h' k' S' => q b n h' k' ⟨rfl, rfl⟩ S'
theorem CNDg.not {e : PySem.Expr} {p : Pos} {P : Bool → Nw → Prop} (h : CNDg c m n e fun b n' => P (!b) n') : CNDg c m n (.UnaryOp .Not e p) P := fun h0 k Q S q => isTrue_not (h h0 k _ S fun b n' h1 k1 hP S1 => q _ _ _ _ hP S1)
theorem CNDg.or2 {x y : PySem.Expr} {p : Pos} {P : Bool → Nw → Prop} (hx : CNDg c m n x fun b n' => b = false ∧ CNDg c m n' y P) : CNDg c m n (.BoolOp .Or [x, y] p) P :=
  fun h0 k Q S q => isTrue_or (hx h0 k _ S fun b n1 h1 k1 hv S1 => by
    obtain ⟨rfl, hy⟩ := hv
    rw [if_neg (by decide)]
    exact isTrue_or (hy h1 k1 _ S1 fun b2 n2 h2 k2 hP S2 => by
      cases b2 with
      | true => rw [if_pos rfl]; exact q _ _ _ _ hP S2
      | false => rw [if_neg (by decide)]; exact isTrue_or_nil (q _ _ _ _ hP S2)))
theorem CNDg.and2 {x y : PySem.Expr} {p : Pos} {P : Bool → Nw → Prop} (hx : CNDg c m n x fun b n' => (b = true → CNDg c m n' y P) ∧ (b = false → P false n')) : CNDg c m n (.BoolOp .And [x, y] p) P :=
  fun h0 k Q S q => isTrue_and (hx h0 k _ S fun b n1 h1 k1 hv S1 => by
    cases b with
    | false => rw [if_neg (by decide)]; exact q _ _ _ _ (hv.2 rfl) S1
    | true =>
      rw [if_pos rfl]
      exact isTrue_and (hv.1 rfl h1 k1 _ S1 fun b2 n2 h2 k2 hP S2 => by
        cases b2 with
        | true => rw [if_pos rfl]; exact isTrue_and_nil (q _ _ _ _ hP S2)
        | false => rw [if_neg (by decide)]; exact q _ _ _ _ hP S2))
theorem RUN.if_fg {e : PySem.Expr} {b rest : List Stmt} {p : Pos} (hc : CNDg c m n e fun z n' => z = false ∧ RUN c m n' rest Q) : RUN c m n (.If e b [] p :: rest) Q :=
  fun h0 k S => wpAny_execs_cons (wpAny_If (hc h0 k _ S fun z n' h1 k1 hv S1 => by
    obtain ⟨rfl, h⟩ := hv
    rw [if_neg (by decide)]; exact wpAny_execs_nil (h h1 k1 S1)))
theorem EVg.addg {x y : PySem.Expr} {p : Pos} {V : Value → Nw → Prop} {k : Int} (ha : EVi c m n x k) (hb : EVg c m n y V) (hV : ∀ v n1, V v n1 → ∃ z t, v = .int z t) : EVg c m n (.BinOp x .Add y p) fun u n' => ∃ z t t2, V (.int z t) n' ∧ u = .int (k + z) t2 :=
  fun h k0 Q S q => wpAny_BinOp (ha h k0 _ S fun t h1 k1 S1 => hb h1 k1 _ S1 fun u n' h2 k2 hv S2 => by
    obtain ⟨z, t2, rfl⟩ := hV u n' hv
    exact add_int (q _ n' h2 _ ⟨z, t2, _, hv, rfl⟩ S2))
theorem hide_mem {is : List Nat} {h : Heap} {p : Addr × Obj} (S : c.St m (a ++ T) h) (hp : p ∈ T) : (hideAll h (ks (pick is 0 a))).get? p.1 = some p.2 :=
  hideAll_get _ (S.N p (List.mem_append_right _ hp)).1 fun hb => by
    obtain ⟨q, hq, e⟩ := List.mem_map.mp hb
    have hm : q ∈ a := (pick_perm (is := is) 0 a).mem_iff.mpr (List.mem_append_left _ hq)
    have D := S.D
    rw [List.map_append] at D
    exact (List.nodup_append.mp D).2.2 q.1 (List.mem_map_of_mem hm) p.1 (List.mem_map_of_mem (f := Prod.fst) hp) e
theorem hide_memM {h : Heap} {p : Addr × Obj} (S : c.St m (cells ++ T) h) (hp : p ∈ T) : (hideAll h (ks cells)).get? p.1 = some p.2 :=
  hideAll_get _ (S.N p (List.mem_append_right _ hp)).1 fun hb => by
    obtain ⟨q, hq, e⟩ := List.mem_map.mp hb
    have D := S.D
    rw [List.map_append] at D
    exact (List.nodup_append.mp D).2.2 q.1 (List.mem_map_of_mem hq) p.1 (List.mem_map_of_mem (f := Prod.fst) hp) e
theorem hide_gM {h : Heap} (S : c.St m (cells ++ T) h) : ∀ b o, c.g.get? b = some o → (hideAll h (ks cells)).get? b = some o := fun b o e => hideAll_get _ (S.F.keep b o e) fun hb => by
  obtain ⟨p, hp, rfl⟩ := List.mem_map.mp hb
  rw [(S.N p (List.mem_append_left _ hp)).2.2] at e; cases e
end
noncomputable abbrev lawC (w : World) (g : Heap) (s : Shared) (L f : Addr) (cd : Value) (sc : Scope) : Cx := ⟨w, (top 301 4 []).deeper (envOfC (Str.ofString "law") sc L f cd), envOfC (Str.ofString "law") sc L f cd, g, s, fun _ _ => False⟩
theorem lawC_ok {w : World} {g : Heap} {s : Shared} {s0 : Heap} {L f : Addr} {cd : Value} {mean : ExcName → Option Value} {mg mb : Str → Option Value} (C : At w 301 4 g [] mean mg mb s0 20) : OkT (lawC w g s L f cd lawSc) [] 20 :=
  OkT.mk' (outer := []) C ⟨rfl, fun _ _ e => e, (by simp [Heap.FunFrames])⟩ rfl (by passes_own)
theorem EVx.lneg {c : Cx} {m : Lo} {n : Nw} {a b : PySem.Expr} {p : Pos} {l : Addr} {vs : List Value} {k i j : Nat} {q : Int} {v : Value} (ha : EVx c m n a (.ref l)) (hb : EVi c m n b q) (e : n[i]? = some (l, lstO vs k)) (h0 : q < 0) (hlo : -(2 ^ 63) ≤ q) (hj : seqIndex? q vs.length = some j) (hv : vs[j]? = some v)
    (hs : autoParam (∀ u, subscripted b false (Value.ref l) (.int q u) = operate [.ref l, .int q u] (getItem (.ref l) (.int q u))) irflT) : EVx c m n (.Subscript a b p) v :=
  fun h k Q S q' => Subscript_ (ha h k _ S fun h1' k1 S1 => hb h1' k1 _ S1 fun u h2 k2 S2 => kde_neg (S2.isList e) h0 hlo hj hv (q' _ _ S2) (hs u))
end Mine
end
section
open PySem PySem.W PySem.Calls PyProof.Rows PySem.Spec
namespace Mine
section
variable {c : Cx} {m : Lo} {n : Nw} {r : Nat} {Q : Flow → Shared → Prop}
noncomputable def ITRg (c : Cx) (m : Lo) (n : Nw) (e target : PySem.Expr) (KK : Nat → (Nat → Value → Heap → Prop) → Nw → Nw → Prop) : Prop :=
  ∀ h k Q, c.St m n h → (∀ I N V keep n' h' k', KK N V keep n' → c.St m n' h' → ITat c target N V keep n' I h' → Q (.ref I) (c.sh h' k')) → wpAny c.M c.A (eval e c.env) (fun v s => wpAny c.M c.A (pyIter v) Q c.E s) c.E (c.sh h k)
theorem RUN.for_g {target iter : PySem.Expr} {p : Pos} {body rest : List Stmt} {KK : Nat → (Nat → Value → Heap → Prop) → Nw → Nw → Prop} (H : Ok c r) (he : ITRg c m n iter target KK)
    (hb : ∀ N V keep n', KK N V keep n' → ∃ J : Nat → Lo → Nw → Prop, J 0 m n' ∧ (∀ i m1 n1, J i m1 n1 → ∀ p ∈ keep, p ∈ n1) ∧
      (∀ i T v m1 n1 h, i < N → J i m1 n1 → V i v h → c.St m1 (n1 ++ T) h → ∃ m2, TGT c (n1 ++ T) target v h m1 m2 ∧ RUN c m2 (n1 ++ T) body (TnW c T (J (i + 1)) (c.aft rest Q))) ∧
      ∀ m1 n1, J N m1 n1 → RUN c m1 n1 rest Q) (hs : autoParam (∀ v, foldedSetIterable iter c.env v = pure v) irflT) (hfn : autoParam (c.env.func.isSome = true) rflT) : RUN c m n (.For target iter body [] p :: rest) Q := by
  intro h1 k1 S
  refine wpAny_execs_cons (wpAny_mono (For_turns (Q := c.aft rest Q) S.F (he h1 k1 _ S fun I N V keep n' h2 k2 hK S2 hI => ?_) hs (H.po hfn)) (fun f s' z => by cases f <;> exact z) fun _ _ e => e)
  obtain ⟨Md, St, fp, wr, X, off, kn⟩ := hI
  obtain ⟨J, h0, hk, step, fin⟩ := hb N V keep n' hK
  have lf : c.L ∉ fp := fun hm => by
    rcases X.fpk _ hm with hw | ⟨o', hk'⟩ | ⟨o', hg⟩
    · exact X.lw hw
    · exact (S2.N _ (kn _ hk')).2.1 rfl
    · exact Nat.lt_irrefl _ (Nat.lt_of_lt_of_le (Heap.lt_size hg) S2.F.above)
  refine ⟨I, fp, wr, N, V, Md, St, m, n', fun i m' n' => J i m' n' ∧ (n'.map Prod.fst).Nodup, rfl, X.K, lf, X.new, off, X.st, S2.F, S2.N, ⟨h0, S2.D⟩, fun i v m1 n1 h3 k3 own hi hV hJ hoff hown hget hall hst F3 N3 => ?_, fun h' tk m' n' F' N' _ hJ => fin m' n' hJ.1 h' tk ⟨F', N', hJ.2⟩⟩
  have S3 : c.St m1 (n1 ++ objs_at wr h3) h3 := Cx.St.walk F3 (fun p hp => N3 p (List.mem_append_right _ hp)) hJ.2 hoff X.new X.nd X.lw
  obtain ⟨m2, tg, run⟩ := step i (objs_at wr h3) v m1 n1 h3 hi hJ.1 hV S3
  refine tg h3 k3 _ But.refl S3 fun h4 k4 b4 S4 => wpAny_mono (run h4 k4 S4) (fun f s' z => ?_) fun _ _ e => e
  have fin' : (∃ h k m2 n2, s' = c.sh h k ∧ c.St m2 (n2 ++ objs_at wr h3) h ∧ J (i + 1) m2 n2) → LoopStepU c.g c.L wr own (fun m' n' => J (i + 1) m' n' ∧ (n'.map Prod.fst).Nodup) (c.sh h3 k3) .next s' := by
    rintro ⟨h5, k5, m5, n5, rfl, S5, hJ5⟩
    obtain ⟨hf, ho⟩ := X.stay hst S3 S5 (hk _ _ _ hJ.1) (hk _ _ _ hJ5)
    refine ⟨rfl, h5, k5, m5, n5, rfl, S5.F, fun p hp => ?_, ho, hJ5, ?_⟩
    · rcases List.mem_append.mp hp with hp | hp
      · exact ⟨hf _ (hown p hp) _ (hget p hp), (N3 p (List.mem_append_left _ hp)).2⟩
      · exact S5.N p (List.mem_append_left _ hp)
    · have D := S5.D
      rw [List.map_append] at D
      exact (List.nodup_append.mp D).1
  cases f with
  | ret v => exact .ret z
  | brk => exact .brk z
  | next => exact .next (fin' z)
  | cont => exact .cont (fin' z)
theorem rng1_small {n : Int} (h0 : 0 ≤ n) (h1 : n < 1000) : Builtin.Range.small 0 n 1 = true := by
  have hL : ∀ x : Int, -2000 < x → x < 2000 → Builtin.Range.rangeFitsLong x = true := fun x h1 h2 => by
    simp [Builtin.Range.rangeFitsLong]; omega
  have hs : Builtin.Range.rangeSize 0 n 1 = n := by
    unfold Builtin.Range.rangeSize
    simp
    omega
  unfold Builtin.Range.small
  rw [hs, hL 0 (by decide) (by decide), hL n (by omega) (by omega), hL 1 (by decide) (by decide), if_pos (by decide), hL (n + (1 - 1)) (by omega) (by omega)]
  simp
theorem rng1_size {n : Int} (h0 : 0 ≤ n) : Builtin.Range.rangeSize 0 n 1 = ((n.toNat : Nat) : Int) := by
  unfold Builtin.Range.rangeSize
  simp
  omega
theorem ITRg.rng {f e : PySem.Expr} {x : Str} {p p' : Pos} {V : Value → Nw → Prop} (H : Ok c r) (hf : EVx c m n f (.type "range")) (he : EVg c m n e V) (hV : ∀ v n1, V v n1 → ∃ z t, v = .int z t ∧ 0 ≤ z ∧ z < 1000)
    (h0 : autoParam (PySem.eval (f.Call [e] [] p) c.env = (PySem.eval f c.env >>= fun fv => callWith p fv [] (backTo p (starEach [e] c.env)) (backToKw p (keywordEach [] c.env)))) rflT)
    (hs : autoParam (starEach [e] c.env = (false, PySem.eval e c.env) :: starEach [] c.env) rflT) :
    ITRg c m n (.Call f [e] [] p) (.Name x p') fun N V' keep n' => V' = (fun i v _ => ∃ t, v = .int (i : Int) t) ∧ keep = [] ∧ ∃ z t, V (.int z t) n' ∧ N = z.toNat ∧ 0 ≤ z ∧ z < 1000 := by
  intro h k Q S q
  refine Call_ (hf h k _ S fun h1 k1 S1 => callWith_type1 (args_cons (he h1 k1 _ S1 fun v n1 h2 k2 hv S2 => args_nil ?_) hs) hs rfl) h0
  obtain ⟨z, t, rfl, z0, z9⟩ := hV v n1 hv
  refine range1_rows S2.F S2.N fun h' tk t1 u1 v1 hr F' N' _ => wpAny_pyIter_range hr (rng1_small z0 z9) ?_
  have S3 : c.St m n1 h' := ⟨F', N', S2.D⟩
  rw [rng1_size z0]
  have up : ∀ b o, h'.get? b = some o → (h'.push { cls := .type "range_iterator", data := .fields #[rawInt 0, rawInt ((z.toNat : Nat) : Int), rawInt 1] }).get? b = some o := fun b o e => Heap.get?_push_of_some _ e
  have W := Walks.range (prog := PySem.Challenge.rw_sm0006_01.row.prog) (w := c.w) (A := c.A) H.hh h'.objs.size 0 1 z.toNat
  have K2 := KTurns.ofWalks (target := .Name x p') W (fun i v s Q E _ q => letGo_name q)
  have K1 : KTurns PySem.Challenge.rw_sm0006_01.row.prog c.w c.A (.Name x p') h'.objs.size [h'.objs.size] [h'.objs.size] z.toNat (fun i v _ => ∃ t, v = .int (i : Int) t) _ _ :=
    ⟨K2.sub, K2.frame, K2.item, fun i v s Q E hm hQ => K2.go i v s Q E hm fun h' hP => hQ h' (by obtain ⟨t, rfl⟩ := hP; exact ⟨t, by rw [Int.mul_one, Int.zero_add]⟩), K2.done⟩
  refine q _ _ _ _ _ _ _ ⟨rfl, rfl, z, t, hv, rfl, z0, z9⟩ (S3.grow up) (ITat.new (x := []) S3 (wr := [h'.objs.size]) (by simp) nd1 K1 W.self ?_ ?_ (fun b hb => .inl hb) (by simp))
  · intro i h2 st b hb
    rw [List.mem_singleton.mp hb]
    exact ⟨_, st⟩
  · show IsRangeIter _ _ _ _ _
    simpa using Heap.get?_push_size _ rfl
end
theorem perm6 {α : Type} (A C E D R1 R2 W : List α) : (D ++ ((A ++ C) ++ ((R1 ++ (E ++ R2)) ++ W))).Perm ((A ++ (E ++ C)) ++ ((R1 ++ (D ++ R2)) ++ W)) := by
  classical
  rw [List.perm_iff_count]
  intro x
  simp only [List.count_append]
  omega
end Mine
end
section
open PySem PySem.W PySem.Calls PyProof.Rows
namespace Mine
structure LQ where
  w : World
  a : WAddr
  b : Int
  room : Int
  M : Int
  f0 : Int
  A : HA
  L : Addr
  vs : List Value
  ns : List Int
  oct : Obj
  ocb : Obj
  ocm : Obj
  ocw : Obj
  ocs : Obj
  dO : Obj
  oO : Obj
  fO : Obj
  tp0 : Obj
  tq0 : Obj
  tp1 : Obj
  tq1 : Obj
noncomputable abbrev LQ.W8 (P : LQ) : Nw := Mine.W8 P.a P.dO P.oO P.fO P.tp0 P.tq0 P.tp1 P.tq1
structure LQ.OK (P : LQ) : Prop where
  hb : BITS P.b
  Z : WObjs P.w P.a P.b P.room P.dO P.oO P.fO P.tp0 P.tq0 P.tp1 P.tq1
  room : P.room = P.M * (octs P.b + 1)
  vi : IntsAre P.vs P.ns
  nl : P.ns.length < 100
  nd : P.a.all.Nodup
  hct : P.oct.data = .cell (some (.ref P.A.tr))
  hcb : ∃ t, P.ocb.data = .cell (some (.int P.b t))
  hcm : ∃ t, P.ocm.data = .cell (some (.int P.M t))
  hcw : P.ocw.data = .cell (some (.ref P.a.w))
  hcs : P.ocs.data = .cell none
  hM : P.M = 2 ∨ P.M = 3 ∨ P.M = 4
noncomputable abbrev LQ.FR (P : LQ) (n : Int) (tn : Tok) (kt kv : Nat) (k0 k1 : Obj) (lvs : List Value) (kg kc : Nat) (p0 p1 : Addr) (kh : Nat) (obk q0 q1 oc0 oc1 of : Obj) (ps : Array Value) : Nw :=
  [(P.L + 1, P.oct), (P.L + 1 + 1, P.ocb), (P.L + 1 + 1 + 1, P.ocm), (P.L + 1 + 1 + 1 + 1, P.ocw), (P.L + 1 + 1 + 1 + 1 + 1, P.ocs), (P.A.tr, lstO [.ref P.A.sc, .int n tn] kt), (P.A.sc, lstO P.vs kv), (P.A.kl false, k0), (P.A.kl true, k1), (P.A.lg, lstO lvs kg), (P.A.ck, lstO P.A.cks kc), (P.A.hl, lstO [.ref p0, .ref p1] kh), (P.A.bk, obk), (p0, q0), (p1, q1), (P.a.c false, oc0), (P.a.c true, oc1), (P.a.fl, of), (409, tabObj ps)]
inductive CLK (w : World) (b len : Int) (kO q oc : Obj) : Prop
  | mk (c0 x1 x2 am hv sp nu : Int) (t0 t1 t2 t3 t4 s u : Tok) (kk kp : Nat) (e1 : kO = lstO [.int c0 t0, .int x1 t1, .int x2 t2, .int am t3, .int hv t4] kk) (e2 : q = tupO [.int sp s, .int nu u] kp) (h1 : ClOK b len c0 x1 x2 am hv sp nu) (h2 : ChOK b len sp nu) (h3 : Chan w oc b (S (yOf sp :: octL b nu)) (sp + 1)) : CLK w b len kO q oc
inductive J9 (P : LQ) (nb : Int) (N : Nw) : Prop
  | mk (n le : Int) (tn u1 u2 tf : Tok) (kt kv kg kc kh : Nat) (k0 k1 q0 q1 oc0 oc1 of obk : Obj) (lvs : List Value) (led : List Int) (p0 p1 : Addr) (ps : Array Value) (cs : Nw)
    (e : N = P.FR n tn kt kv k0 k1 lvs kg kc p0 p1 kh obk q0 q1 oc0 oc1 of ps ++ (cs ++ P.W8)) (hn : 0 ≤ n ∧ n ≤ nb) (h1 : IntsAre lvs led) (h2 : LedOK P.b led) (h3 : (led.length : Int) = P.M) (h4 : CLK P.w P.b led.length k0 q0 oc0) (h5 : CLK P.w P.b led.length k1 q1 oc1)
    (h6 : obk.IsDictOf (SKw P.w) (P.A.bank P.f0 le u1 u2)) (h7 : of.IsDictOf (SKw P.w) [("BANK", .str (S (txtF P.b 0 led)) tf)]) (h8 : TabOk ps cs) (h9 : led.sum = P.f0 - le) : J9 P nb N
theorem J9.le {P : LQ} {nb nb' : Int} {N : Nw} (h : J9 P nb N) (q : nb ≤ nb') : J9 P nb' N := by
  obtain ⟨n, le, tn, u1, u2, tf, kt, kv, kg, kc, kh, k0, k1, q0, q1, oc0, oc1, of, obk, lvs, led, p0, p1, ps, cs, e, ⟨hn0, hn1⟩, r1, r2, r3, r4, r5, r6, r7, r8, r9⟩ := h
  exact ⟨n, le, tn, u1, u2, tf, kt, kv, kg, kc, kh, k0, k1, q0, q1, oc0, oc1, of, obk, lvs, led, p0, p1, ps, cs, e, ⟨hn0, by omega⟩, r1, r2, r3, r4, r5, r6, r7, r8, r9⟩
theorem FR_all {P : LQ} {T cs : Nw} {n : Int} {tn : Tok} {kt kv : Nat} {k0 k1 : Obj} {lvs : List Value} {kg kc : Nat} {p0 p1 : Addr} {kh : Nat} {obk q0 q1 oc0 oc1 of : Obj} {ps : Array Value} (x : Addr) (hx : x ∈ P.a.all) : ∃ o, (x, o) ∈ (P.FR n tn kt kv k0 k1 lvs kg kc p0 p1 kh obk q0 q1 oc0 oc1 of ps ++ (cs ++ P.W8)) ++ T := by
  let X : Nw := (P.FR n tn kt kv k0 k1 lvs kg kc p0 p1 kh obk q0 q1 oc0 oc1 of ps ++ (cs ++ P.W8)) ++ T
  have w8 : ∀ p ∈ P.W8, p ∈ X := fun p hp => List.mem_append_left _ (List.mem_append_right _ (List.mem_append_right _ hp))
  have fr : ∀ p ∈ P.FR n tn kt kv k0 k1 lvs kg kc p0 p1 kh obk q0 q1 oc0 oc1 of ps, p ∈ X := fun p hp => List.mem_append_left _ (List.mem_append_left _ hp)
  exact (show ∀ x ∈ P.a.all, ∃ o, (x, o) ∈ X from List.forall_mem_cons.mpr ⟨⟨_, w8 _ (List.mem_of_getElem? (i := 0) rfl)⟩, List.forall_mem_cons.mpr ⟨⟨_, w8 _ (List.mem_of_getElem? (i := 1) rfl)⟩, List.forall_mem_cons.mpr ⟨⟨_, fr _ (List.mem_of_getElem? (i := 17) rfl)⟩, List.forall_mem_cons.mpr ⟨⟨_, w8 _ (List.mem_of_getElem? (i := 2) rfl)⟩, List.forall_mem_cons.mpr ⟨⟨_, w8 _ (List.mem_of_getElem? (i := 3) rfl)⟩, List.forall_mem_cons.mpr ⟨⟨_, fr _ (List.mem_of_getElem? (i := 15) rfl)⟩, List.forall_mem_cons.mpr ⟨⟨_, fr _ (List.mem_of_getElem? (i := 16) rfl)⟩, List.forall_mem_cons.mpr ⟨⟨_, w8 _ (List.mem_of_getElem? (i := 4) rfl)⟩, List.forall_mem_cons.mpr ⟨⟨_, w8 _ (List.mem_of_getElem? (i := 5) rfl)⟩, List.forall_mem_cons.mpr ⟨⟨_, w8 _ (List.mem_of_getElem? (i := 6) rfl)⟩, List.forall_mem_cons.mpr ⟨⟨_, w8 _ (List.mem_of_getElem? (i := 7) rfl)⟩, List.forall_mem_nil _⟩⟩⟩⟩⟩⟩⟩⟩⟩⟩⟩) x hx
theorem half_0 {P : LQ} {nb : Int} {N T : Nw} {g : Heap} {s : Shared} {f : Addr} {cd : Value} {sc : Scope} {m : Lo} {tc : Tok} (hP : P.OK) (hcd : CodeHd g 413 409) (hnb : nb < 990) (hJ : J9 P nb N) :
    CalM (lawC P.w g s P.L f cd sc) [] m 12 414 (fun v n2 => v = .bool true ∧ ∃ X N', n2 = X ++ (N' ++ T) ∧ J9 P (nb + 3) N') (N ++ T) [.ref P.a.w, .ref P.A.bk, .int (chn false) tc, .ref P.A.tr] := by
  obtain ⟨n, le, tn, u1, u2, tf, kt, kv, kg, kc, kh, k0, k1, q0, q1, oc0, oc1, of, obk, lvs, led, p0, p1, ps, cs, rfl, ⟨hn0, hn1⟩, hi, hL, hM, hK0, hK1, hbd, hbk, TB, hsum⟩ := hJ
  have hK := hK0
  obtain ⟨c0, x1, x2, am, hv, sp, nu, t0, t1, t2, t3, t4, s1, u3, kk, kp, rfl, rfl, hC, hH, hcn⟩ := hK
  have hroom : P.room = (led.length : Int) * (octs P.b + 1) := by rw [hM]; exact hP.room
  have pm : (((P.FR n tn kt kv (lstO [.int c0 t0, .int x1 t1, .int x2 t2, .int am t3, .int hv t4] kk) k1 lvs kg kc p0 p1 kh obk (tupO [.int sp s1, .int nu u3] kp) q1 oc0 oc1 of ps) ++ (cs ++ P.W8)) ++ T).Perm ((pick [5, 6, 7, 9, 10, 11, 12, 15, 17, 18] 0 (P.FR n tn kt kv (lstO [.int c0 t0, .int x1 t1, .int x2 t2, .int am t3, .int hv t4] kk) k1 lvs kg kc p0 p1 kh obk (tupO [.int sp s1, .int nu u3] kp) q1 oc0 oc1 of ps) ++ cs) ++ (rest [5, 6, 7, 9, 10, 11, 12, 15, 17, 18] 0 (P.FR n tn kt kv (lstO [.int c0 t0, .int x1 t1, .int x2 t2, .int am t3, .int hv t4] kk) k1 lvs kg kc p0 p1 kh obk (tupO [.int sp s1, .int nu u3] kp) q1 oc0 oc1 of ps) ++ (P.W8 ++ T))) := by
    rw [List.append_assoc, List.append_assoc]; exact perm_mid
  refine ⟨_, _, _, _, _, pm, t_half (i := false) (A := P.A) (tc := tc) (hvs := [.ref p0, .ref p1]) hP.hb hi hL hbd hcn hbk TB hP.vi hP.nl hn0 (by omega) hC hH hroom rfl, fun h S => ⟨⟨hP.Z.wro hP.nd fun p hp => hide_memM S (List.mem_append_right _ (List.mem_append_left _ hp)), hcd.keeps (hide_gM S)⟩, fun fr hfr x hx hxf => ?_⟩, fun v N2 hv => ?_⟩
  · rcases hfr x hxf with z | z
    · obtain ⟨o, ho⟩ := FR_all (T := T) (cs := cs) (P := P) (n := n) (tn := tn) (kt := kt) (kv := kv) (k0 := (lstO [.int c0 t0, .int x1 t1, .int x2 t2, .int am t3, .int hv t4] kk)) (k1 := k1) (lvs := lvs) (kg := kg) (kc := kc) (p0 := p0) (p1 := p1) (kh := kh) (obk := obk) (q0 := (tupO [.int sp s1, .int nu u3] kp)) (q1 := q1) (oc0 := oc0) (oc1 := oc1) (of := of) (ps := ps) x hx
      exact (S.N _ (pm.mem_iff.mp ho)).2.1 z
    · cases z
  · obtain ⟨rfl, n', c0', x1', x2', am', hv', sp', nu', le', led', hvs', ext, cs', hC', hH', hL', hlen, hsum', hn1', hn2', hcase, tn', t0', t1', t2', t3', t4', kt', kv', kk', kg', kc', kh', lvs', obk', oc', of', ps', u1', u2', rfl, hi', hbd', hcn', ⟨tf', hbk'⟩, TB'⟩ := hv
    have hs2 : led'.sum = P.f0 - le' := by omega
    rcases hcase with ⟨rfl, rfl, rfl, rfl⟩ | ⟨p, t, t', k9, rfl, rfl⟩
    · refine ⟨[] ++ (((P.FR n' tn' kt' kv' (lstO [.int c0' t0', .int x1' t1', .int x2' t2', .int am' t3', .int hv' t4'] kk') k1 lvs' kg' kc' p0 p1 kh' obk' (tupO [.int sp' s1, .int nu' u3] kp) q1 oc' oc1 of' ps') ++ (cs' ++ P.W8)) ++ T), ?_, rfl, [], _, rfl, ⟨n', le', tn', u1', u2', tf', kt', kv', kg', kc', kh', _, _, _, _, _, _, of', obk', lvs', led', p0, p1, ps', cs', rfl, ⟨by omega, by omega⟩, hi', hL', by rw [hlen]; exact hM, ⟨c0', x1', x2', am', hv', sp', nu', t0', t1', t2', t3', t4', _, _, kk', _, rfl, rfl, hlen ▸ hC', hlen ▸ hH', hcn'⟩, (hlen ▸ hK1), hbd', hbk', TB', hs2⟩⟩
      rw [List.append_assoc, List.append_assoc]
      exact perm_mid (is := [5, 6, 7, 9, 10, 11, 12, 15, 17, 18]) (a := (P.FR n' tn' kt' kv' (lstO [.int c0' t0', .int x1' t1', .int x2' t2', .int am' t3', .int hv' t4'] kk') k1 lvs' kg' kc' p0 p1 kh' obk' (tupO [.int sp' s1, .int nu' u3] kp) q1 oc' oc1 of' ps')) (C := cs') (X := P.W8 ++ T)
    · refine ⟨[(p0, tupO [.int sp s1, .int nu u3] kp)] ++ (((P.FR n' tn' kt' kv' (lstO [.int c0' t0', .int x1' t1', .int x2' t2', .int am' t3', .int hv' t4'] kk') k1 lvs' kg' kc' p p1 kh' obk' (tupO [.int sp' t, .int nu' t'] k9) q1 oc' oc1 of' ps') ++ (cs' ++ P.W8)) ++ T), ?_, rfl, _, _, rfl, ⟨n', le', tn', u1', u2', tf', kt', kv', kg', kc', kh', _, _, _, _, _, _, of', obk', lvs', led', _, _, ps', cs', rfl, ⟨by omega, by omega⟩, hi', hL', by rw [hlen]; exact hM, ⟨c0', x1', x2', am', hv', sp', nu', t0', t1', t2', t3', t4', _, _, kk', _, rfl, rfl, hlen ▸ hC', hlen ▸ hH', hcn'⟩, (hlen ▸ hK1), hbd', hbk', TB', hs2⟩⟩
      rw [List.append_assoc, List.append_assoc]
      refine (List.Perm.append_left _ (perm_mid (is := [5, 6, 7, 9, 10, 11, 12, 15, 17, 18]))).trans ?_
      exact perm6 (HN P.a false P.A n' c0' x1' x2' am' hv' tn' t0' t1' t2' t3' t4' kt' kv' kk' kg' kc' kh' P.vs lvs' [.ref p, .ref p1] obk' oc' of' ps') cs' [(p, tupO [.int sp' t, .int nu' t'] k9)] [(p0, tupO [.int sp s1, .int nu u3] kp)] [(P.L + 1, P.oct), (P.L + 1 + 1, P.ocb), (P.L + 1 + 1 + 1, P.ocm), (P.L + 1 + 1 + 1 + 1, P.ocw), (P.L + 1 + 1 + 1 + 1 + 1, P.ocs), (P.A.kl true, k1)] [(p1, q1), (P.a.c true, oc1)] (P.W8 ++ T)
theorem half_1 {P : LQ} {nb : Int} {N T : Nw} {g : Heap} {s : Shared} {f : Addr} {cd : Value} {sc : Scope} {m : Lo} {tc : Tok} (hP : P.OK) (hcd : CodeHd g 413 409) (hnb : nb < 990) (hJ : J9 P nb N) :
    CalM (lawC P.w g s P.L f cd sc) [] m 12 414 (fun v n2 => v = .bool true ∧ ∃ X N', n2 = X ++ (N' ++ T) ∧ J9 P (nb + 3) N') (N ++ T) [.ref P.a.w, .ref P.A.bk, .int (chn true) tc, .ref P.A.tr] := by
  obtain ⟨n, le, tn, u1, u2, tf, kt, kv, kg, kc, kh, k0, k1, q0, q1, oc0, oc1, of, obk, lvs, led, p0, p1, ps, cs, rfl, ⟨hn0, hn1⟩, hi, hL, hM, hK0, hK1, hbd, hbk, TB, hsum⟩ := hJ
  have hK := hK1
  obtain ⟨c0, x1, x2, am, hv, sp, nu, t0, t1, t2, t3, t4, s1, u3, kk, kp, rfl, rfl, hC, hH, hcn⟩ := hK
  have hroom : P.room = (led.length : Int) * (octs P.b + 1) := by rw [hM]; exact hP.room
  have pm : (((P.FR n tn kt kv k0 (lstO [.int c0 t0, .int x1 t1, .int x2 t2, .int am t3, .int hv t4] kk) lvs kg kc p0 p1 kh obk q0 (tupO [.int sp s1, .int nu u3] kp) oc0 oc1 of ps) ++ (cs ++ P.W8)) ++ T).Perm ((pick [5, 6, 8, 9, 10, 11, 12, 16, 17, 18] 0 (P.FR n tn kt kv k0 (lstO [.int c0 t0, .int x1 t1, .int x2 t2, .int am t3, .int hv t4] kk) lvs kg kc p0 p1 kh obk q0 (tupO [.int sp s1, .int nu u3] kp) oc0 oc1 of ps) ++ cs) ++ (rest [5, 6, 8, 9, 10, 11, 12, 16, 17, 18] 0 (P.FR n tn kt kv k0 (lstO [.int c0 t0, .int x1 t1, .int x2 t2, .int am t3, .int hv t4] kk) lvs kg kc p0 p1 kh obk q0 (tupO [.int sp s1, .int nu u3] kp) oc0 oc1 of ps) ++ (P.W8 ++ T))) := by
    rw [List.append_assoc, List.append_assoc]; exact perm_mid
  refine ⟨_, _, _, _, _, pm, t_half (i := true) (A := P.A) (tc := tc) (hvs := [.ref p0, .ref p1]) hP.hb hi hL hbd hcn hbk TB hP.vi hP.nl hn0 (by omega) hC hH hroom rfl, fun h S => ⟨⟨hP.Z.wro hP.nd fun p hp => hide_memM S (List.mem_append_right _ (List.mem_append_left _ hp)), hcd.keeps (hide_gM S)⟩, fun fr hfr x hx hxf => ?_⟩, fun v N2 hv => ?_⟩
  · rcases hfr x hxf with z | z
    · obtain ⟨o, ho⟩ := FR_all (T := T) (cs := cs) (P := P) (n := n) (tn := tn) (kt := kt) (kv := kv) (k0 := k0) (k1 := (lstO [.int c0 t0, .int x1 t1, .int x2 t2, .int am t3, .int hv t4] kk)) (lvs := lvs) (kg := kg) (kc := kc) (p0 := p0) (p1 := p1) (kh := kh) (obk := obk) (q0 := q0) (q1 := (tupO [.int sp s1, .int nu u3] kp)) (oc0 := oc0) (oc1 := oc1) (of := of) (ps := ps) x hx
      exact (S.N _ (pm.mem_iff.mp ho)).2.1 z
    · cases z
  · obtain ⟨rfl, n', c0', x1', x2', am', hv', sp', nu', le', led', hvs', ext, cs', hC', hH', hL', hlen, hsum', hn1', hn2', hcase, tn', t0', t1', t2', t3', t4', kt', kv', kk', kg', kc', kh', lvs', obk', oc', of', ps', u1', u2', rfl, hi', hbd', hcn', ⟨tf', hbk'⟩, TB'⟩ := hv
    have hs2 : led'.sum = P.f0 - le' := by omega
    rcases hcase with ⟨rfl, rfl, rfl, rfl⟩ | ⟨p, t, t', k9, rfl, rfl⟩
    · refine ⟨[] ++ (((P.FR n' tn' kt' kv' k0 (lstO [.int c0' t0', .int x1' t1', .int x2' t2', .int am' t3', .int hv' t4'] kk') lvs' kg' kc' p0 p1 kh' obk' q0 (tupO [.int sp' s1, .int nu' u3] kp) oc0 oc' of' ps') ++ (cs' ++ P.W8)) ++ T), ?_, rfl, [], _, rfl, ⟨n', le', tn', u1', u2', tf', kt', kv', kg', kc', kh', _, _, _, _, _, _, of', obk', lvs', led', p0, p1, ps', cs', rfl, ⟨by omega, by omega⟩, hi', hL', by rw [hlen]; exact hM, (hlen ▸ hK0), ⟨c0', x1', x2', am', hv', sp', nu', t0', t1', t2', t3', t4', _, _, kk', _, rfl, rfl, hlen ▸ hC', hlen ▸ hH', hcn'⟩, hbd', hbk', TB', hs2⟩⟩
      rw [List.append_assoc, List.append_assoc]
      exact perm_mid (is := [5, 6, 8, 9, 10, 11, 12, 16, 17, 18]) (a := (P.FR n' tn' kt' kv' k0 (lstO [.int c0' t0', .int x1' t1', .int x2' t2', .int am' t3', .int hv' t4'] kk') lvs' kg' kc' p0 p1 kh' obk' q0 (tupO [.int sp' s1, .int nu' u3] kp) oc0 oc' of' ps')) (C := cs') (X := P.W8 ++ T)
    · refine ⟨[(p1, tupO [.int sp s1, .int nu u3] kp)] ++ (((P.FR n' tn' kt' kv' k0 (lstO [.int c0' t0', .int x1' t1', .int x2' t2', .int am' t3', .int hv' t4'] kk') lvs' kg' kc' p0 p kh' obk' q0 (tupO [.int sp' t, .int nu' t'] k9) oc0 oc' of' ps') ++ (cs' ++ P.W8)) ++ T), ?_, rfl, _, _, rfl, ⟨n', le', tn', u1', u2', tf', kt', kv', kg', kc', kh', _, _, _, _, _, _, of', obk', lvs', led', _, _, ps', cs', rfl, ⟨by omega, by omega⟩, hi', hL', by rw [hlen]; exact hM, (hlen ▸ hK0), ⟨c0', x1', x2', am', hv', sp', nu', t0', t1', t2', t3', t4', _, _, kk', _, rfl, rfl, hlen ▸ hC', hlen ▸ hH', hcn'⟩, hbd', hbk', TB', hs2⟩⟩
      rw [List.append_assoc, List.append_assoc]
      refine (List.Perm.append_left _ (perm_mid (is := [5, 6, 8, 9, 10, 11, 12, 16, 17, 18]))).trans ?_
      exact perm6 (HN P.a true P.A n' c0' x1' x2' am' hv' tn' t0' t1' t2' t3' t4' kt' kv' kk' kg' kc' kh' P.vs lvs' [.ref p0, .ref p] obk' oc' of' ps') cs' [(p, tupO [.int sp' t, .int nu' t'] k9)] [(p1, tupO [.int sp s1, .int nu u3] kp)] [(P.L + 1, P.oct), (P.L + 1 + 1, P.ocb), (P.L + 1 + 1 + 1, P.ocm), (P.L + 1 + 1 + 1 + 1, P.ocw), (P.L + 1 + 1 + 1 + 1 + 1, P.ocs), (P.A.kl false, k0), (p0, q0)] [(P.a.c false, oc0)] (P.W8 ++ T)
end Mine
end
section
open PySem PySem.W PySem.Calls PyProof.Rows
namespace Mine
theorem J9.at0 {P : LQ} {nb : Int} {N T : Nw} (h : J9 P nb N) : (N ++ T)[0]? = some (P.L + 1, P.oct) := by
  obtain ⟨n, le, tn, u1, u2, tf, kt, kv, kg, kc, kh, k0, k1, q0, q1, oc0, oc1, of, obk, lvs, led, p0, p1, ps, cs, rfl, _⟩ := h
  rfl
theorem J9.at3 {P : LQ} {nb : Int} {N T : Nw} (h : J9 P nb N) : (N ++ T)[3]? = some (P.L + 1 + 1 + 1 + 1, P.ocw) := by
  obtain ⟨n, le, tn, u1, u2, tf, kt, kv, kg, kc, kh, k0, k1, q0, q1, oc0, oc1, of, obk, lvs, led, p0, p1, ps, cs, rfl, _⟩ := h
  rfl
section
variable {P : LQ} {nb : Int} {n N T : Nw} {g : Heap} {s : Shared} {f : Addr} {cd : Value} {sc : Scope} {m : Lo}
theorem pulled_ev {fe e1 e2 : PySem.Expr} {p : Pos} {mm : Int} (hP : P.OK) (H : Ok (lawC P.w g s P.L f cd sc) 20) (hJ : J9 P nb N) (hn : n = N ++ T) (hnb : nb < 990) (hm : 0 < mm) (hf : EVx (lawC P.w g s P.L f cd sc) m n fe (.ref 364)) (h1 : EVx (lawC P.w g s P.L f cd sc) m n e1 (.ref P.A.tr)) (h2 : EVi (lawC P.w g s P.L f cd sc) m n e2 mm)
    (h0 : autoParam (PySem.eval (fe.Call [e1, e2] [] p) (lawC P.w g s P.L f cd sc).env = (PySem.eval fe (lawC P.w g s P.L f cd sc).env >>= fun fv => callWith p fv [] (backTo p (starEach [e1, e2] (lawC P.w g s P.L f cd sc).env)) (backToKw p (keywordEach [] (lawC P.w g s P.L f cd sc).env)))) rflT)
    (hs : autoParam (starEach [e1, e2] (lawC P.w g s P.L f cd sc).env = (false, PySem.eval e1 (lawC P.w g s P.L f cd sc).env) :: starEach [e2] (lawC P.w g s P.L f cd sc).env) rflT) (hs1 : autoParam (starEach [e2] (lawC P.w g s P.L f cd sc).env = (false, PySem.eval e2 (lawC P.w g s P.L f cd sc).env) :: starEach [] (lawC P.w g s P.L f cd sc).env) rflT) :
    EVg (lawC P.w g s P.L f cd sc) m n (.Call fe [e1, e2] [] p) fun v n2 => ∃ x t N', v = .int x t ∧ 0 ≤ x ∧ x < mm ∧ n2 = N' ++ T ∧ J9 P (nb + 1) N' := by
  obtain ⟨n, le, tn, u1, u2, tf, kt, kv, kg, kc, kh, k0, k1, q0, q1, oc0, oc1, of, obk, lvs, led, p0, p1, ps, cs, rfl, ⟨hn0, hn1⟩, hi, hL, hM, hK0, hK1, hbd, hbk, TB, hsum⟩ := hJ
  rw [List.append_assoc] at hn
  subst hn
  refine EVg.callP (ad := 364) [5, 6] 2 H (by decide) hf (by kernel_rfl) trivial (fun _ _ _ h => h) (ARG.x h1 (ARG.i h2 (fun t => ARG.nil (t_pulled hP.vi hP.nl hn0 (by omega) hm)) hs1) hs) (fun v n' hv => ?_) rfl h0 hs (by rw [hs1]; rfl)
  obtain ⟨x, tx, tn', x0, x1, rfl, rfl⟩ := hv
  refine ⟨(P.FR (n + 1) tn' kt kv k0 k1 lvs kg kc p0 p1 kh obk q0 q1 oc0 oc1 of ps), rfl, rfl, rfl, x, tx, _, rfl, x0, x1, (List.append_assoc _ _ _).symm, ⟨n + 1, le, tn', u1, u2, tf, kt, kv, kg, kc, kh, k0, k1, q0, q1, oc0, oc1, of, obk, lvs, led, p0, p1, ps, cs, rfl, ⟨by omega, by omega⟩, hi, hL, hM, hK0, hK1, hbd, hbk, TB, hsum⟩⟩
theorem stands_ev {fe e1 e2 e3 : PySem.Expr} {p : Pos} (hP : P.OK) (O : OkT (lawC P.w g s P.L f cd sc) [] 20) (hJ : J9 P nb N) (hn : n = N ++ T) (hf : EVx (lawC P.w g s P.L f cd sc) m n fe (.ref 421)) (h1 : EVx (lawC P.w g s P.L f cd sc) m n e1 (.ref P.a.w)) (h2 : EVx (lawC P.w g s P.L f cd sc) m n e2 (.ref P.A.bk)) (h3 : EVi (lawC P.w g s P.L f cd sc) m n e3 (octs P.b))
    (h0 : autoParam (PySem.eval (fe.Call [e1, e2, e3] [] p) (lawC P.w g s P.L f cd sc).env = (PySem.eval fe (lawC P.w g s P.L f cd sc).env >>= fun fv => callWith p fv [] (backTo p (starEach [e1, e2, e3] (lawC P.w g s P.L f cd sc).env)) (backToKw p (keywordEach [] (lawC P.w g s P.L f cd sc).env)))) rflT)
    (hs : autoParam (starEach [e1, e2, e3] (lawC P.w g s P.L f cd sc).env = (false, PySem.eval e1 (lawC P.w g s P.L f cd sc).env) :: starEach [e2, e3] (lawC P.w g s P.L f cd sc).env) rflT) (hs1 : autoParam (starEach [e2, e3] (lawC P.w g s P.L f cd sc).env = (false, PySem.eval e2 (lawC P.w g s P.L f cd sc).env) :: starEach [e3] (lawC P.w g s P.L f cd sc).env) rflT) (hs2 : autoParam (starEach [e3] (lawC P.w g s P.L f cd sc).env = (false, PySem.eval e3 (lawC P.w g s P.L f cd sc).env) :: starEach [] (lawC P.w g s P.L f cd sc).env) rflT) :
    EVg (lawC P.w g s P.L f cd sc) m n (.Call fe [e1, e2, e3] [] p) fun v n2 => v = .bool true ∧ n2 = N ++ T := by
  obtain ⟨n, le, tn, u1, u2, tf, kt, kv, kg, kc, kh, k0, k1, q0, q1, oc0, oc1, of, obk, lvs, led, p0, p1, ps, cs, rfl, ⟨hn0, hn1⟩, hi, hL, hM, hK0, hK1, hbd, hbk, TB, hsum⟩ := hJ
  obtain ⟨_, _, _, _, _, sp0, nu0, _, _, _, _, _, s0, w0, _, kp0, rfl, rfl, hC0, hH0, hcn0⟩ := hK0
  obtain ⟨_, _, _, _, _, sp1, nu1, _, _, _, _, _, s1, w1, _, kp1, rfl, rfl, hC1, hH1, hcn1⟩ := hK1
  subst hn
  refine EVg.ofq (EVq.callP (ad := 421) [9, 11, 12, 13, 14, 15, 16, 17] 4 O (by decide) hf (by kernel_rfl) (ARGg.x h1 (ARGg.x h2 (ARGg.i h3 (fun t => ARGg.nil ?_) hs2) hs1) hs) h0 hs (by rw [hs1, hs2]; rfl))
  rw [List.append_assoc]
  refine ⟨_, _, _, _, _, rfl, rfl, (t_stands hP.hb hi hL hbd hcn0 hcn1 hbk hH0 hH1 hsum).q, fun h S => ⟨hP.Z.wro hP.nd fun p hp => hide_mem S (List.mem_append_left _ (List.mem_append_right _ hp)), fun _ _ => trivial⟩, fun v n' hv => ?_⟩
  obtain ⟨rfl, rfl⟩ := hv
  exact ⟨_, rfl, rfl, rfl, rfl, rfl⟩
end
theorem law9 {P : LQ} {N : Nw} {g : Heap} {s : Shared} {f : Addr} {cd : Value} {sc : Scope} {m : Lo} {st : List Stmt} {to : Tok} {Q : Flow → Shared → Prop} (hsc : sc = lawSc) (hst : st = lawB.drop 9) (hP : P.OK) (O : OkT (lawC P.w g s P.L f cd sc) [] 20) (hcd : CodeHd g 413 409) (hJ : J9 P 30 N)
    (m1 : m (Str.ofString "octets") = some (.int (octs P.b) to)) (m2 : m (Str.ofString "ledger") = some (.ref P.A.lg)) (m3 : m (Str.ofString "bank") = some (.ref P.A.bk))
    (hnext : ∀ m' N', m' (Str.ofString "octets") = some (.int (octs P.b) to) → m' (Str.ofString "ledger") = some (.ref P.A.lg) → J9 P 900 N' → RUN (lawC P.w g s P.L f cd sc) m' N' (lawB.drop 10) Q) : RUN (lawC P.w g s P.L f cd sc) m N st Q := by
  (conv at hsc => rhs; whnf)
  (conv at hst => rhs; whnf)
  subst hsc hst
  have H := O.now
  refine RUN.for_g H (ITRg.rng H (EVx.built (v := .type "range") H (by kernel_rfl) (by decide +kernel) (by decide) rfl rfl) (EVg.addg EVi.const (pulled_ev (mm := 10) (T := []) hP H hJ (List.append_nil N).symm (by decide) (by decide) (EVx.glob H (by kernel_rfl) rfl rfl) (EVx.cell (z := 0) H rfl (by have := hJ.at0 (T := []); rwa [List.append_nil] at this) hP.hct rfl rfl) EVi.const) fun v n1 hv => by obtain ⟨x, t, _, rfl, _⟩ := hv; exact ⟨x, t, rfl⟩) fun v n1 hv => ?_) fun K V keep n' hK => ?_
  · obtain ⟨z, t, t2, ⟨x, t3, N', e, x0, x1, _⟩, rfl⟩ := hv
    cases e
    exact ⟨_, _, rfl, by omega, by omega⟩
  · obtain ⟨rfl, rfl, z, t, ⟨z', t', t2, ⟨x, t3, N', e, x0, x1, rfl, hJ'⟩, e2⟩, rfl, z0, z9⟩ := hK
    cases e
    cases e2
    rw [List.append_nil]
    refine ⟨fun k m n => (m (Str.ofString "octets") = some (.int (octs P.b) to) ∧ m (Str.ofString "ledger") = some (.ref P.A.lg) ∧ m (Str.ofString "bank") = some (.ref P.A.bk)) ∧ J9 P (31 + 4 * (k : Int)) n, ⟨⟨m1, m2, m3⟩, by simpa using hJ'⟩, (fun _ _ _ _ p hp => nomatch hp), fun i T v m4 n4 h4 hi hJ4 hV S4 => ?_, fun m4 n4 hJ4 => hnext m4 n4 hJ4.1.1 hJ4.1.2.1 (hJ4.2.le (by omega))⟩
    obtain ⟨⟨l1, l2, l3⟩, J4⟩ := hJ4
    obtain ⟨t5, rfl⟩ := hV
    refine ⟨_, TGT.name H rfl, ?_⟩
    refine RUN.if_fg (CNDg.or2 (CNDg.not (CNDg.of (V := fun v n2 => v = .bool true ∧ ∃ N5, n2 = N5 ++ T ∧ J9 P (31 + 4 * (i : Int) + 1 + 3) N5) (EVg.sub (EVg.ofq (EVq.callM (P := fun v n2 => v = .bool true ∧ ∃ X N', n2 = X ++ (N' ++ T) ∧ J9 P (31 + 4 * (i : Int) + 1 + 3) N') (ad := 414) 12 O (by decide) (EVx.glob H (by kernel_rfl) rfl rfl) (by kernel_rfl) (ARGg.x (EVx.cell (z := 3) H rfl J4.at3 hP.hcw rfl rfl) (ARGg.x (EVx.name H l3 rfl rfl) (ARGg.g (EVg.addg EVi.const (pulled_ev (mm := 2) (T := T) hP H J4 rfl (by omega) (by decide) (EVx.glob H (by kernel_rfl) rfl rfl) (EVx.cell (z := 0) H rfl J4.at0 hP.hct rfl rfl) EVi.const) fun v n1 hv => by obtain ⟨x, t, _, rfl, _⟩ := hv; exact ⟨x, t, rfl⟩) (fun v n1 hv => ?_) rfl) rfl) rfl))) fun v n' hv => ?_) fun v n2 hv => ?_)))
    · obtain ⟨z, t, t2, ⟨x, t3, N5, e, x0, x1, rfl, J5⟩, rfl⟩ := hv
      cases e
      refine ARGg.x (EVx.cell (z := 0) H rfl J5.at0 hP.hct rfl rfl) (ARGg.nil ?_) rfl
      obtain rfl | rfl : z = 0 ∨ z = 1 := by omega
      · exact half_0 (T := T) hP hcd (by omega) J5
      · exact half_1 (T := T) hP hcd (by omega) J5
    · obtain ⟨e1, X, N5, rfl, J5⟩ := hv
      exact ⟨N5 ++ T, List.sublist_append_right _ _, e1, N5, rfl, J5⟩
    · obtain ⟨rfl, N5, rfl, J5⟩ := hv
      refine ⟨true, rfl, rfl, CNDg.not (CNDg.of (V := fun v n2 => v = .bool true ∧ n2 = N5 ++ T) (stands_ev (T := T) hP O J5 rfl (EVx.glob H (by kernel_rfl) rfl rfl) (EVx.cell (z := 3) H rfl J5.at3 hP.hcw rfl rfl) (EVx.name H l3 rfl rfl) (EVi.of (EVx.name H l1 rfl rfl))) fun v n2 hv => ?_)⟩
      obtain ⟨rfl, rfl⟩ := hv
      exact ⟨true, rfl, rfl, RUN.turnW (n2 := N5) (List.Sublist.refl _) ⟨⟨l1, l2, l3⟩, J5.le (by push_cast; omega)⟩⟩
end Mine
end
section
open PySem PySem.W PySem.Calls PyProof.Rows PySem.Spec
namespace Mine
structure Mv where
  i : Bool
  x : Int
  y : Int
  am : Int
noncomputable def okM (b : Int) (l : List Int) (v : Mv) : Bool := fitsB b ((l.getD v.x.toNat 0) - v.am) && fitsB b ((l.getD v.y.toNat 0) + v.am)
noncomputable def apM (b : Int) (l : List Int) (v : Mv) : List Int := if okM b l v = true then ((l.set v.x.toNat ((l.getD v.x.toNat 0) - v.am)).set v.y.toNat ((l.getD v.y.toNat 0) + v.am)) else l
noncomputable def Mv.back (v : Mv) : Mv := ⟨!v.i, v.y, v.x, v.am⟩
structure MvOK (M : Nat) (v : Mv) : Prop where
  x0 : 0 ≤ v.x
  x1 : v.x < M
  y0 : 0 ≤ v.y
  y1 : v.y < M
  ne : v.x ≠ v.y
  a0 : -31 < v.am
  a1 : v.am < 61
noncomputable def Dis (u v : Mv) : Prop := u.x ≠ v.x ∧ u.x ≠ v.y ∧ u.y ≠ v.x ∧ u.y ≠ v.y
theorem getD_ne {l : List Int} {i j : Nat} {z : Int} (h : i ≠ j) : (l.set i z).getD j 0 = l.getD j 0 := by
  rw [List.getD_eq_getElem?_getD, List.getElem?_set_ne h, List.getD_eq_getElem?_getD]
theorem getD_self {l : List Int} {i : Nat} {z : Int} (h : i < l.length) : (l.set i z).getD i 0 = z := by
  rw [List.getD_eq_getElem?_getD, List.getElem?_set_self h]; rfl
theorem set_get {l : List Int} {i : Nat} : l.set i (l.getD i 0) = l := by
  apply List.ext_getElem?
  intro j
  by_cases h : i = j
  · subst h
    by_cases q : i < l.length
    · rw [List.getElem?_set_self q, List.getD_eq_getElem?_getD, List.getElem?_eq_getElem q]; rfl
    · rw [List.getElem?_eq_none (by rw [List.length_set]; omega), List.getElem?_eq_none (by omega)]
  · rw [List.getElem?_set_ne h]
theorem ap_len {b : Int} {l : List Int} {v : Mv} : (apM b l v).length = l.length := by
  unfold apM
  split
  · rw [List.length_set, List.length_set]
  · rfl
theorem ap_get {b : Int} {l : List Int} {v : Mv} {j : Nat} (h1 : v.x.toNat ≠ j) (h2 : v.y.toNat ≠ j) : (apM b l v).getD j 0 = l.getD j 0 := by
  unfold apM
  split
  · rw [getD_ne h2, getD_ne h1]
  · rfl
section
variable {b : Int} {l : List Int} {u v : Mv} {M : Nat}
theorem tn_ne {x y : Int} (h0 : 0 ≤ x) (h1 : 0 ≤ y) (h : x ≠ y) : x.toNat ≠ y.toNat := by omega
theorem ok_ap (hu : MvOK M u) (hv : MvOK M v) (d : Dis u v) : okM b (apM b l u) v = okM b l v := by
  unfold okM
  rw [ap_get (tn_ne hu.x0 hv.x0 d.1) (tn_ne hu.y0 hv.x0 d.2.2.1), ap_get (tn_ne hu.x0 hv.y0 d.2.1) (tn_ne hu.y0 hv.y0 d.2.2.2)]
theorem Dis.symm (d : Dis u v) : Dis v u := ⟨Ne.symm d.1, Ne.symm d.2.2.1, Ne.symm d.2.1, Ne.symm d.2.2.2⟩
theorem ap_comm (hu : MvOK M u) (hv : MvOK M v) (d : Dis u v) : apM b (apM b l u) v = apM b (apM b l v) u := by
  have e1 := ok_ap (b := b) (l := l) hu hv d
  have e2 := ok_ap (b := b) (l := l) hv hu d.symm
  have n1 := tn_ne hu.x0 hv.x0 d.1
  have n2 := tn_ne hu.x0 hv.y0 d.2.1
  have n3 := tn_ne hu.y0 hv.x0 d.2.2.1
  have n4 := tn_ne hu.y0 hv.y0 d.2.2.2
  rw [show apM b (apM b l u) v = if okM b (apM b l u) v = true then (((apM b l u).set v.x.toNat (((apM b l u).getD v.x.toNat 0) - v.am)).set v.y.toNat (((apM b l u).getD v.y.toNat 0) + v.am)) else (apM b l u) from rfl,
    show apM b (apM b l v) u = if okM b (apM b l v) u = true then (((apM b l v).set u.x.toNat (((apM b l v).getD u.x.toNat 0) - u.am)).set u.y.toNat (((apM b l v).getD u.y.toNat 0) + u.am)) else (apM b l v) from rfl, e1, e2,
    ap_get n1 n3, ap_get n2 n4, ap_get (Ne.symm n1) (Ne.symm n2), ap_get (Ne.symm n3) (Ne.symm n4)]
  unfold apM
  by_cases q1 : okM b l u = true
  · by_cases q2 : okM b l v = true
    · rw [if_pos q1, if_pos q2, if_pos q2, if_pos q1]
      rw [List.set_comm _ _ n3, List.set_comm _ _ n1, List.set_comm _ _ n4, List.set_comm _ _ n2]
    · rw [if_pos q1, if_neg q2, if_neg q2, if_pos q1]
  · by_cases q2 : okM b l v = true
    · rw [if_neg q1, if_pos q2, if_neg q1]
    · rw [if_neg q1, if_neg q2, if_neg q1]
theorem led_set {i : Nat} {z : Int} (h : LedOK b l) (hz : fitsB b z = true) : LedOK b (l.set i z) := by
  obtain ⟨h1, h2, h3⟩ := h
  refine ⟨by rw [List.length_set]; exact h1, by rw [List.length_set]; exact h2, fun x hx => ?_⟩
  rcases List.mem_or_eq_of_mem_set hx with q | q
  · exact h3 x q
  · rw [q]; exact hz
theorem led_ap (h : LedOK b l) : LedOK b (apM b l v) := by
  unfold apM
  split
  · rename_i q
    have := Bool.and_eq_true_iff.mp (show (fitsB b ((l.getD v.x.toNat 0) - v.am) && fitsB b ((l.getD v.y.toNat 0) + v.am)) = true from q)
    exact led_set (led_set h this.1) this.2
  · exact h
theorem led_get {j : Nat} (h : LedOK b l) (hj : j < l.length) : fitsB b (l.getD j 0) = true := by
  rw [List.getD_eq_getElem?_getD, List.getElem?_eq_getElem hj]
  exact h.2.2 _ (List.getElem_mem _)
theorem back_ok (h : LedOK b l) (hv : MvOK l.length v) (q : okM b l v = true) : okM b (apM b l v) v.back = true ∧ apM b (apM b l v) v.back = l := by
  have n := tn_ne hv.x0 hv.y0 hv.ne
  have lx : v.x.toNat < l.length := by have := hv.x1; have := hv.x0; omega
  have ly : v.y.toNat < l.length := by have := hv.y1; have := hv.y0; omega
  have e : apM b l v = ((l.set v.x.toNat ((l.getD v.x.toNat 0) - v.am)).set v.y.toNat ((l.getD v.y.toNat 0) + v.am)) := if_pos q
  have gx : (apM b l v).getD v.x.toNat 0 = l.getD v.x.toNat 0 - v.am := by rw [e, getD_ne (Ne.symm n), getD_self lx]
  have gy : (apM b l v).getD v.y.toNat 0 = l.getD v.y.toNat 0 + v.am := by rw [e, getD_self (by rw [List.length_set]; exact ly)]
  have e1 : okM b (apM b l v) v.back = true := by
    show (fitsB b (((apM b l v).getD v.y.toNat 0) - v.am) && fitsB b (((apM b l v).getD v.x.toNat 0) + v.am)) = true
    rw [gx, gy, Int.add_sub_cancel, Int.sub_add_cancel, led_get h lx, led_get h ly]; rfl
  refine ⟨e1, ?_⟩
  rw [show apM b (apM b l v) v.back = if okM b (apM b l v) v.back = true then (((apM b l v).set v.y.toNat (((apM b l v).getD v.y.toNat 0) - v.am)).set v.x.toNat (((apM b l v).getD v.x.toNat 0) + v.am)) else (apM b l v) from rfl, if_pos e1, gx, gy, Int.add_sub_cancel, Int.sub_add_cancel, e,
    List.set_set, List.set_comm _ _ n, List.set_set, set_get, set_get]
noncomputable def folM (b : Int) (l : List Int) (ms : List Mv) : List Int := ms.foldl (apM b) l
theorem fol_snoc {ms : List Mv} : folM b l (ms ++ [v]) = apM b (folM b l ms) v := by unfold folM; rw [List.foldl_append]; rfl
theorem fol_len : ∀ {ms : List Mv} {l : List Int}, (folM b l ms).length = l.length
  | [], _ => rfl
  | v :: ms, l => by
    show (folM b (apM b l v) ms).length = _
    rw [fol_len, ap_len]
theorem fol_led : ∀ {ms : List Mv} {l : List Int}, LedOK b l → LedOK b (folM b l ms)
  | [], _, h => h
  | v :: ms, l, h => fol_led (ms := ms) (l := apM b l v) (led_ap h)
theorem fol_dis (hv : MvOK M v) : ∀ {ms : List Mv} {l : List Int}, (∀ u ∈ ms, MvOK M u ∧ Dis u v) → okM b (folM b l ms) v = okM b l v ∧ folM b (apM b l v) ms = apM b (folM b l ms) v
  | [], _, _ => ⟨rfl, rfl⟩
  | u :: ms, l, h => by
    have hu := h u (.head _)
    have ih := fol_dis hv (ms := ms) (l := apM b l u) fun z hz => h z (.tail _ hz)
    refine ⟨ih.1.trans (ok_ap hu.1 hv hu.2), ?_⟩
    show folM b (apM b (apM b l v) u) ms = apM b (folM b (apM b l u) ms) v
    rw [ap_comm hv hu.1 hu.2.symm]
    exact ih.2
structure MvsOK (M : Nat) (ms : List Mv) : Prop where
  ok : ∀ v ∈ ms, MvOK M v
  dis : ms.Pairwise Dis
  len : ms.length = 1 ∨ ms.length = 2
theorem mvs_at {ms : List Mv} {k : Nat} (h : MvsOK M ms) (hk : ms[k]? = some v) : MvOK M v ∧ (∀ u ∈ ms.take k, MvOK M u ∧ Dis u v) ∧ (∀ u ∈ ms.drop (k + 1), MvOK M u ∧ Dis u v) ∧ ms.take (k + 1) = ms.take k ++ [v] ∧ ms.drop k = v :: ms.drop (k + 1) := by
  obtain ⟨ok, dis, len⟩ := h
  match ms, len with
  | [a], _ =>
    match k, hk with
    | 0, hk => cases hk; exact ⟨ok _ (.head _), (by simp), (by simp), rfl, rfl⟩
    | k + 1, hk => simp at hk
  | [a, c], _ =>
    have d := (List.pairwise_cons.mp dis).1 c (.head _)
    match k, hk with
    | 0, hk => cases hk; exact ⟨ok _ (.head _), (by simp), (fun u hu => by
        have : u = c := by simpa using hu
        subst this; exact ⟨ok _ (.tail _ (.head _)), d.symm⟩), rfl, rfl⟩
    | 1, hk => cases hk; exact ⟨ok _ (.tail _ (.head _)), (fun u hu => by
        have : u = a := by simpa using hu
        subst this; exact ⟨ok _ (.head _), d⟩), (by simp), rfl, rfl⟩
    | k + 2, hk => simp at hk
  | [], len => simp at len
  | a :: c :: d :: r, len => simp at len
theorem mvs_rev {ms : List Mv} (h : MvsOK M ms) : MvsOK M ms.reverse :=
  ⟨fun v hv => h.ok v (List.mem_reverse.mp hv), List.pairwise_reverse.mpr (h.dis.imp Dis.symm), by rw [List.length_reverse]; exact h.len⟩
theorem fol_rev {ms : List Mv} (h : MvsOK M ms) : folM b l ms.reverse = folM b l ms := by
  obtain ⟨ok, dis, len⟩ := h
  match ms, len with
  | [a], _ => rfl
  | [a, c], _ => exact ap_comm (ok _ (.tail _ (.head _))) (ok _ (.head _)) ((List.pairwise_cons.mp dis).1 c (.head _)).symm
  | [], len => simp at len
  | a :: c :: d :: r, len => simp at len
theorem fwd {ms : List Mv} {k : Nat} (h : MvsOK l.length ms) (hk : ms[k]? = some v) : okM b (folM b l (ms.take k)) v = okM b l v ∧ apM b (folM b l (ms.take k)) v = folM b l (ms.take (k + 1)) ∧ (ms.take k).map (okM b l) ++ [okM b l v] = (ms.take (k + 1)).map (okM b l) := by
  obtain ⟨hv, h1, _, e, _⟩ := mvs_at h hk
  refine ⟨(fol_dis hv h1).1, by rw [e, fol_snoc], by rw [e, List.map_append]; rfl⟩
theorem bwd {ms : List Mv} {k : Nat} (hl : LedOK b l) (h : MvsOK l.length ms) (hk : ms[k]? = some v) :
    (okM b l v = true → okM b (folM b l (ms.drop k)) v.back = true ∧ apM b (folM b l (ms.drop k)) v.back = folM b l (ms.drop (k + 1))) ∧ (okM b l v = false → folM b l (ms.drop k) = folM b l (ms.drop (k + 1))) := by
  obtain ⟨hv, _, h2, _, e⟩ := mvs_at h hk
  have f := fol_dis (b := b) (l := l) hv h2
  have e2 : folM b l (ms.drop k) = apM b (folM b l (ms.drop (k + 1))) v := by rw [e]; exact f.2
  refine ⟨fun q => ?_, fun q => ?_⟩
  · rw [e2]
    exact back_ok (fol_led hl) (by rw [fol_len]; exact hv) (f.1.trans q)
  · rw [e2]
    unfold apM
    rw [f.1, q, if_neg (by decide)]
end
end Mine
end
section
open PySem PySem.W PySem.Calls PyProof.Rows
namespace Mine
noncomputable abbrev LQ.KB (P : LQ) (ocs : Obj) (n : Int) (tn : Tok) (kt kv : Nat) (lvs : List Value) (kg : Nat) (oc0 oc1 of : Obj) (ps : Array Value) : Nw :=
  [(P.L + 1, P.oct), (P.L + 1 + 1, P.ocb), (P.L + 1 + 1 + 1, P.ocm), (P.L + 1 + 1 + 1 + 1, P.ocw), (P.L + 1 + 1 + 1 + 1 + 1, ocs), (P.A.tr, lstO [.ref P.A.sc, .int n tn] kt), (P.A.sc, lstO P.vs kv), (P.A.lg, lstO lvs kg), (P.a.c false, oc0), (P.a.c true, oc1), (P.a.fl, of), (409, tabObj ps)]
noncomputable def ChX (w : World) (b : Int) (oc : Obj) : Prop := ∃ ub rn, Chan w oc b ub rn
noncomputable def ordV (M sh : Int) (j : Nat) : Int := ((j : Int) + sh).fmod M
theorem law10 {P : LQ} {g : Heap} {s : Shared} {f : Addr} {cd : Value} {sc : Scope} {m : Lo} {st : List Stmt} {to : Tok} {Q : Flow → Shared → Prop} {n : Int} {tn tf : Tok} {kt kv kg : Nat} {lvs : List Value} {led : List Int} {oc0 oc1 of : Obj} {ps : Array Value} (hsc : sc = lawSc) (hst : st = lawB.drop 10) (hP : P.OK) (O : OkT (lawC P.w g s P.L f cd sc) [] 20) (hn0 : 0 ≤ n) (hn1 : n < 990) (hbk : of.IsDictOf (SKw P.w) [("BANK", .str (S (txtF P.b 0 led)) tf)])
    (m1 : m (Str.ofString "octets") = some (.int (octs P.b) to)) (m2 : m (Str.ofString "ledger") = some (.ref P.A.lg))
    (hnext : ∀ m' sh tsh ocs mv lt od ovs ko tn' tb, 0 ≤ sh → sh < P.M → ocs.data = .cell (some (.int sh tsh)) → m' (Str.ofString "octets") = some (.int (octs P.b) to) → m' (Str.ofString "ledger") = some (.ref P.A.lg) → m' (Str.ofString "before") = some (.str (S (txtF P.b 0 led)) tb) → m' (Str.ofString "moves") = some (.ref mv) → m' (Str.ofString "lets") = some (.ref lt) → m' (Str.ofString "order") = some (.ref od) → IntsAre ovs ((List.range P.M.toNat).map (ordV P.M sh)) →
      RUN (lawC P.w g s P.L f cd sc) m' ((od, lstO ovs ko) :: (lt, lstO [] 0) :: (mv, lstO [] 0) :: (P.KB ocs (n + 1) tn' kt kv lvs kg oc0 oc1 of ps) ++ P.W8) (lawB.drop 12) Q) : RUN (lawC P.w g s P.L f cd sc) m ((P.KB P.ocs n tn kt kv lvs kg oc0 oc1 of ps) ++ P.W8) st Q := by
  (conv at hsc => rhs; whnf)
  (conv at hst => rhs; whnf)
  subst hsc hst
  have H := O.now
  let KB1 := fun y0 y1 y2 => P.KB y0 y1 y2 kt kv lvs kg oc0 oc1 of ps
  obtain ⟨tm, hcm⟩ := hP.hcm
  have hM2 : 2 ≤ P.M ∧ P.M ≤ 4 := by rcases hP.hM with h | h | h <;> omega
  obtain ⟨es, kn, edO, hbits, hdig, hroom, hfl, hop, hfd⟩ := hP.Z.dict
  refine RUN.unpc H (ARGg.gc (EVg.callP (ad := 364) (a := (KB1 P.ocs n tn)) (T := P.W8) [5, 6] 2 H (by decide) (EVx.glob H (by kernel_rfl) rfl rfl) (by kernel_rfl) trivial (fun _ _ _ h => h) (ARG.x (EVx.cell (z := 0) H rfl rfl hP.hct rfl rfl) (ARG.i (EVi.of (EVx.cell (z := 2) H rfl rfl hcm rfl rfl)) (fun t => ARG.nil (t_pulled hP.vi hP.nl hn0 (by omega) (by omega))) rfl) rfl) (fun v n' hv => ?_)) rfl)
  obtain ⟨sh, tsh, tn', s0, s1, rfl, rfl⟩ := hv
  refine ⟨(KB1 P.ocs (n + 1) tn'), rfl, rfl, rfl, ?_⟩
  refine ARGg.s (EVs.of (EVx.ditem (i := 10) (EVx.attr (z1 := 12) (z2 := 13) H (EVx.cell (z := 3) H rfl rfl hP.hcw rfl rfl) rfl (show _ = some (P.a.d, dictOf es kn) from edO ▸ rfl) hfl (by kernel_rfl) (by kernel_rfl) (by kernel_rfl)) EVs.const rfl hbk rfl)) (fun tb => ?_) rfl
  refine ARGg.gc (EVg.lstc (ARGg.nil ⟨rfl, fun mv => ?_⟩)) rfl
  refine ARGg.gc (EVg.lstc (ARGg.nil ⟨rfl, fun lt => ?_⟩)) rfl
  refine ARGg.nil ⟨rfl, TAS.cons (TGA.cell (z := 6) H rfl rfl hP.hcs rfl fun ocs hds => TAS.cons (TGA.name H rfl (TAS.cons (TGA.name H rfl (TAS.cons (TGA.name H rfl (TAS.nil ?_)))))))⟩
  show RUN _ _ ((lt, lstO [] 0) :: (mv, lstO [] 0) :: (KB1 ocs (n + 1) tn') ++ P.W8) _ _
  refine RUN.let_comp (N := P.M.toNat) (fun i ys n1 => n1 = (lt, lstO [] 0) :: (mv, lstO [] 0) :: (KB1 ocs (n + 1) tn') ++ P.W8 ∧ IntsAre ys ((List.range i).map (ordV P.M sh))) H (ITR.rng H (EVr.r1 (EVx.built (v := .type "range") H (by kernel_rfl) (by decide +kernel) (by decide) rfl rfl) (EVi.of (EVx.cell (z := 4) H rfl rfl hcm rfl rfl)) (rng1_small (by omega) (by omega)) (rng1_size (by omega)))) ⟨rfl, .nil⟩ (fun _ _ _ _ p hp => nomatch hp) ?_ (by unfold sizeLine; omega) rfl (fun od ys n1 hJ => ?_) rfl
  · intro C' g' E' K gs i vv ys n1 T m5 h hi hJ hV S1
    obtain ⟨rfl, hy⟩ := hJ
    obtain ⟨t, rfl⟩ := hV
    refine ⟨_, true, TGT.name K rfl, TST.nil, fun _ => EVg.mono (EVg.i (v := ordV P.M sh i) (EVi.eq (EVi.mod (EVi.add (EVi.of (EVx.name K rfl rfl rfl)) (EVi.of (EVx.cell (z := 6) K rfl rfl hds rfl rfl))) (EVi.of (EVx.cell (z := 4) K rfl rfl hcm rfl rfl)) (by omega)) (by unfold ordV; rw [Int.mul_one, Int.zero_add]))) fun y n3 hv => ?_, fun z => nomatch z⟩
    obtain ⟨⟨t2, rfl⟩, rfl⟩ := hv
    exact ⟨_, List.Sublist.refl _, rfl, by rw [List.range_succ, List.map_append]; exact ints_snoc hy⟩
  · obtain ⟨rfl, hy⟩ := hJ
    exact hnext _ sh tsh ocs mv lt od ys ys.length tn' tb s0 s1 hds m1 m2 rfl rfl rfl rfl hy
end Mine
end
section
open PySem PySem.W PySem.Calls PyProof.Rows PySem.Spec
namespace Mine
theorem perm7 {α : Type} (A W X T D : List α) : (A ++ ((W ++ (D ++ X)) ++ T)).Perm (D ++ (A ++ ((W ++ X) ++ T))) := by
  classical
  rw [List.perm_iff_count]
  intro x
  simp only [List.count_append]
  omega
theorem len_two {α : Type} : ∀ {l : List α}, l.length = 2 → ∃ a b, l = [a, b]
  | [a, b], _ => ⟨a, b, rfl⟩
theorem rev_pick {α : List Value} (h : α.length = 1 ∨ α.length = 2) : slicePick α.toArray none none (some (-1)) = α.reverse.toArray := by
  rcases h with h | h
  · obtain ⟨a, rfl⟩ := List.length_eq_one_iff.mp h
    simp [slicePick, sliceBounds, sliceRange]
  · obtain ⟨a, b, rfl⟩ := len_two h
    simp [slicePick, sliceBounds, sliceRange, List.range_succ]
section
variable {c : Cx} {m : Lo} {n : Nw} {r : Nat} {Q : Flow → Shared → Prop}
theorem Cx.St.tupM {h : Heap} (S : c.St m n h) {a : Addr} {vs : List Value} {k : Nat} (e : (a, tupO vs k) ∈ n) : IsTup h a vs.toArray := ⟨_, (S.N _ e).1, rfl, _, rfl⟩
theorem EVx.and2 {x y : PySem.Expr} {p : Pos} {z1 z2 : Bool} (hx : EVx c m n x (.bool z1)) (hy : EVx c m n y (.bool z2)) : EVx c m n (.BoolOp .And [x, y] p) (.bool (z1 && z2)) :=
  fun h k Q S q => BoolOp_and (hx h k _ S fun h1 k1 S1 => wpAny_truthy_bool (by
    cases z1 with
    | true => rw [if_pos rfl]; exact BoolOp_one (hy h1 k1 Q S1 q)
    | false => rw [if_neg (by decide)]; exact q h1 k1 S1))
theorem CNDg.neb {a b : PySem.Expr} {p : Pos} {bs : List Bool} {V : Value → Nw → Prop} {P : Bool → Nw → Prop} (H : Ok c r) (hr : 0 < r) (ha : EVg c m n a V) (hb : ∀ v n1, V v n1 → ∃ l k, ∃ z : Nat, v = .ref l ∧ n1[z]? = some (l, lstO (bs.map Value.bool) k) ∧ EVg c m n1 b fun v' n2 => ∃ l' k', ∃ z1 z2 : Nat, v' = .ref l' ∧ n2[z1]? = some (l, lstO (bs.map Value.bool) k) ∧ n2[z2]? = some (l', lstO (bs.map Value.bool) k') ∧ P false n2) (hm : autoParam (behindInMarks .NotEq b = false) rflT) : CNDg c m n (.Compare a [.NotEq] [b] p) P :=
  fun h k Q S q => wpAny_isTrue_Compare1 (ha h k _ S fun v n1 h1 k1 hv S1 => by
    obtain ⟨l, kk, z, rfl, hz, he⟩ := hb v n1 hv
    refine he h1 k1 _ S1 fun v' n2 h2 k2 hv2 S2 => ?_
    obtain ⟨l', k', z1, z2, rfl, hz1, hz2, hP⟩ := hv2
    exact ne_bools (S2.isList hz1) (S2.isList hz2) rfl rfl (H.units hr S2) (wpAny_truthy_bool (q _ _ _ _ hP S2))) hm
theorem EVx.eqbl {a b : PySem.Expr} {p : Pos} {bs : List Bool} {l : Addr} {k z : Nat} (H : Ok c r) (hr : 0 < r) (ha : EVx c m n a (.ref l)) (hz : n[z]? = some (l, lstO (bs.map Value.bool) k)) (hb : EVg c m n b fun v' n2 => ∃ l' k', v' = .ref l' ∧ n2 = (l', lstO (bs.map Value.bool) k') :: n) (hm : autoParam (behindInMarks .Eq b = false) rflT) : EVx c m n (.Compare a [.Eq] [b] p) (.bool true) :=
  fun h k Q S q => wpAny_Compare1 (ha h k _ S fun h1 k1 S1 => hb h1 k1 _ S1 fun v' n2 h2 k2 hv2 S2 => by
    obtain ⟨l', k', rfl, rfl⟩ := hv2
    exact eq_bools (S2.isList (i := z + 1) hz) (S2.isList (i := 0) rfl) rfl rfl (H.units hr S2) (q _ _ (S2.sub (List.sublist_cons_self _ _)))) hm
theorem EVg.lrev {a s : PySem.Expr} {p p' : Pos} {l : Addr} {vs : List Value} {k z : Nat} (ha : EVx c m n a (.ref l)) (hs : EVi c m n s (-1)) (hz : n[z]? = some (l, lstO vs k)) (hl : vs.length = 1 ∨ vs.length = 2)
    (hlt : autoParam (∀ v, letTemporaryGo a (.ref l) v = pure ()) irflT) : EVg c m n (.Subscript a (.Slice none none (some s) p') p) fun v n' => ∃ D, v = .ref D ∧ n' = (D, lstO vs.reverse 0) :: n :=
  EVg.mono (EVg.lslice (lo := none) (hi := none) (st := some s) (vl := none) (vu := none) (vk := some (-1)) ha (fun h S => S.isList hz) (fun h k Q S q => evalPart_none_step (q _ .none h k S)) (fun h k Q S q => evalPart_none_step (q _ .none h k S)) (fun h k Q S q => evalPart_some_step (hs h k _ S fun t h' k' S' => q _ (.int _ t) h' k' S')) (by decide) (by rw [List.size_toArray]; unfold sizeLine; omega) hlt) fun v n' hv => by
    obtain ⟨D, rfl, rfl⟩ := hv
    exact ⟨D, rfl, by rw [rev_pick hl]⟩
end
theorem RUN.ret_law {w : World} {g : Heap} {s : Shared} {L f : Addr} {cd : Value} {sc : Scope} {m : Lo} {n : Nw} {e : PySem.Expr} {p : Pos} {rest : List Stmt} {ps : Array Value} (he : EVx (lawC w g s L f cd sc) m n e (.bool true)) (hm : (409, tabObj ps) ∈ n) : RUN (lawC w g s L f cd sc) m n (.Return (some e) p :: rest) (LawEnd g L s) :=
  fun h0 k S => wpAny_execs_cons (wpAny_Return_some (he h0 k _ S fun h1 k1 S1 => ⟨rfl, h1, k1, m, ps, rfl, S1.F, (S1.N _ hm).1⟩))
noncomputable def MVT (vs : List Value) (tps : Nw) (ms : List Mv) : Prop := vs.length = ms.length ∧ ∀ (k : Nat) (v : Mv), ms[k]? = some v → ∃ D t0 t1 t2 t3 kk, vs[k]? = some (.ref D) ∧ (D, tupO [.int (chn v.i) t0, .int v.x t1, .int v.y t2, .int v.am t3] kk) ∈ tps
theorem MVT.nil : MVT [] [] [] := ⟨rfl, fun k v h => by simp at h⟩
theorem MVT.snoc {vs : List Value} {tps : Nw} {ms : List Mv} {v : Mv} {D : Addr} {t0 t1 t2 t3 : Tok} {kk : Nat} (h : MVT vs tps ms) : MVT (vs ++ [.ref D]) ((D, tupO [.int (chn v.i) t0, .int v.x t1, .int v.y t2, .int v.am t3] kk) :: tps) (ms ++ [v]) := by
  refine ⟨by rw [List.length_append, List.length_append, h.1]; rfl, fun k u hk => ?_⟩
  by_cases q : k < ms.length
  · rw [List.getElem?_append_left q] at hk
    obtain ⟨D', s0, s1, s2, s3, k', e1, e2⟩ := h.2 k u hk
    exact ⟨D', s0, s1, s2, s3, k', by rw [List.getElem?_append_left (by rw [h.1]; exact q)]; exact e1, .tail _ e2⟩
  · have q2 : k = ms.length := by
      rcases Nat.lt_or_ge k (ms.length + 1) with z | z
      · omega
      · rw [List.getElem?_eq_none (by rw [List.length_append]; exact z)] at hk; cases hk
    subst q2
    have e : u = v := by simpa using hk.symm
    subst e
    exact ⟨D, t0, t1, t2, t3, kk, by rw [← h.1]; simp, .head _⟩
theorem MVT.rev {vs : List Value} {tps : Nw} {ms : List Mv} (h : MVT vs tps ms) : MVT vs.reverse tps ms.reverse := by
  refine ⟨by rw [List.length_reverse, List.length_reverse, h.1], fun k v hk => ?_⟩
  have hlt : k < ms.length := by
    have := (List.getElem?_eq_some_iff.mp hk).1
    rwa [List.length_reverse] at this
  rw [List.getElem?_reverse hlt] at hk
  rw [List.getElem?_reverse (by rw [h.1]; exact hlt), h.1]
  exact h.2 _ v hk
theorem MVT.at {vs : List Value} {tps : Nw} {ms : List Mv} {k : Nat} {u : Value} (h : MVT vs tps ms) (hk : vs[k]? = some u) : ∃ v D t0 t1 t2 t3 kk, ms[k]? = some v ∧ u = .ref D ∧ (D, tupO [.int (chn v.i) t0, .int v.x t1, .int v.y t2, .int v.am t3] kk) ∈ tps := by
  have hlt : k < ms.length := by rw [← h.1]; exact (List.getElem?_eq_some_iff.mp hk).1
  obtain ⟨D, t0, t1, t2, t3, kk, e1, e2⟩ := h.2 k ms[k] (List.getElem?_eq_getElem hlt)
  rw [hk] at e1
  exact ⟨ms[k], D, t0, t1, t2, t3, kk, List.getElem?_eq_getElem hlt, Option.some.inj e1, e2⟩
theorem ord_ok : ∀ M ∈ ([2, 3, 4] : List Int), ∀ k : Nat, k < 4 → (k : Int) < M → 0 ≤ ordV M k 0 ∧ ordV M k 0 < M ∧ 0 ≤ ordV M k 1 ∧ ordV M k 1 < M ∧ ordV M k 0 ≠ ordV M k 1 := by decide +kernel
theorem ord_ok4 : ∀ k : Nat, k < 4 → (0 ≤ ordV 4 k 2 ∧ ordV 4 k 2 < 4 ∧ 0 ≤ ordV 4 k 3 ∧ ordV 4 k 3 < 4 ∧ ordV 4 k 2 ≠ ordV 4 k 3) ∧ ordV 4 k 0 ≠ ordV 4 k 2 ∧ ordV 4 k 0 ≠ ordV 4 k 3 ∧ ordV 4 k 1 ≠ ordV 4 k 2 ∧ ordV 4 k 1 ≠ ordV 4 k 3 := by decide +kernel
theorem mv_of {M p q : Int} {u : Mv} (hM : ((M.toNat : Nat) : Int) = M) (A : 0 ≤ p ∧ p < M ∧ 0 ≤ q ∧ q < M ∧ p ≠ q) (ex : u.x = p) (ey : u.y = q) (a0 : -31 < u.am) (a1 : u.am < 61) : MvOK M.toNat u :=
  ⟨ex ▸ A.1, hM.symm ▸ ex ▸ A.2.1, ey ▸ A.2.2.1, hM.symm ▸ ey ▸ A.2.2.2.1, ex ▸ ey ▸ A.2.2.2.2, a0, a1⟩
theorem mvs_mk {M sh : Int} {ms : List Mv} (hM : M = 2 ∨ M = 3 ∨ M = 4) (h0 : 0 ≤ sh) (h1 : sh < M) (hl : ms.length = (M.fdiv 2).toNat) (h : ∀ j v, ms[j]? = some v → v.x = ordV M sh (2 * j) ∧ v.y = ordV M sh (2 * j + 1) ∧ -31 < v.am ∧ v.am < 61) : MvsOK M.toNat ms := by
  obtain ⟨k, rfl⟩ := Int.eq_ofNat_of_zero_le h0
  have hM4 : M ∈ ([2, 3, 4] : List Int) := by rcases hM with rfl | rfl | rfl <;> decide
  have hk : k < 4 := Int.ofNat_lt.mp (Int.lt_of_lt_of_le h1 (by rcases hM with rfl | rfl | rfl <;> decide))
  have hMn : ((M.toNat : Nat) : Int) = M := by rcases hM with rfl | rfl | rfl <;> rfl
  have A := ord_ok M hM4 k hk h1
  have hK : (ms.length = 1) ∨ (ms.length = 2 ∧ M = 4) := by
    rcases hM with rfl | rfl | rfl
    · exact .inl hl
    · exact .inl hl
    · exact .inr ⟨hl, rfl⟩
  rcases hK with q | ⟨q, rfl⟩
  · obtain ⟨u, rfl⟩ := List.length_eq_one_iff.mp q
    · obtain ⟨ex, ey, a0, a1⟩ := h 0 u rfl
      exact ⟨List.forall_mem_singleton.mpr (mv_of hMn A ex ey a0 a1), List.pairwise_singleton _ _, .inl rfl⟩
  · obtain ⟨u, v, rfl⟩ := len_two q
    · obtain ⟨ex, ey, a0, a1⟩ := h 0 u rfl
      obtain ⟨fx, fy, b0, b1⟩ := h 1 v rfl
      obtain ⟨B, d1, d2, d3, d4⟩ := ord_ok4 k hk
      exact ⟨List.forall_mem_cons.mpr ⟨mv_of hMn A ex ey a0 a1, List.forall_mem_singleton.mpr (mv_of hMn B fx fy b0 b1)⟩, List.pairwise_cons.mpr ⟨List.forall_mem_singleton.mpr (⟨by rw [ex, fx]; exact d1, by rw [ex, fy]; exact d2, by rw [ey, fx]; exact d3, by rw [ey, fy]; exact d4⟩), List.pairwise_singleton _ _⟩, .inr rfl⟩
end Mine
end
section
open PySem PySem.W PySem.Calls PyProof.Rows
namespace Mine
theorem ord_get {ovs : List Value} {M sh : Int} {N k : Nat} (h : IntsAre ovs ((List.range N).map (ordV M sh))) (hk : k < N) : ∃ t, ovs[k]? = some (.int (ordV M sh k) t) := by
  obtain ⟨t, e⟩ := ints_get h (k := k) (by simpa using hk)
  refine ⟨t, ?_⟩
  rw [e, List.getD_eq_getElem?_getD, List.getElem?_map, List.getElem?_range hk]; rfl
theorem mul2 {x : Int} (h0 : 0 ≤ x) (h1 : x < 1000) : IntMulOk 2 x := IntMulOk.of_right (intBits_le_64 (by omega) (by omega))
theorem law12 {P : LQ} {g : Heap} {s : Shared} {f : Addr} {cd : Value} {sc : Scope} {m : Lo} {st : List Stmt} {to : Tok} {Q : Flow → Shared → Prop} {n : Int} {tn tf tb tsh : Tok} {kt kv kg ko : Nat} {lvs ovs : List Value} {led : List Int} {oc0 oc1 of ocs : Obj} {ps : Array Value} {sh : Int} {mv lt od : Addr} (hsc : sc = lawSc) (hst : st = lawB.drop 12) (hP : P.OK) (O : OkT (lawC P.w g s P.L f cd sc) [] 20) (hn0 : 0 ≤ n) (hn1 : n < 950) (hs0 : 0 ≤ sh) (hs1 : sh < P.M) (hov : IntsAre ovs ((List.range P.M.toNat).map (ordV P.M sh)))
    (hl : (m (Str.ofString "octets") = some (.int (octs P.b) to) ∧ m (Str.ofString "ledger") = some (.ref P.A.lg) ∧ m (Str.ofString "before") = some (.str (S (txtF P.b 0 led)) tb) ∧ m (Str.ofString "moves") = some (.ref mv) ∧ m (Str.ofString "lets") = some (.ref lt) ∧ m (Str.ofString "order") = some (.ref od)))
    (hnext : ∀ m' n9 tn9 kt9 mvs km tps ms, (m' (Str.ofString "octets") = some (.int (octs P.b) to) ∧ m' (Str.ofString "ledger") = some (.ref P.A.lg) ∧ m' (Str.ofString "before") = some (.str (S (txtF P.b 0 led)) tb) ∧ m' (Str.ofString "moves") = some (.ref mv) ∧ m' (Str.ofString "lets") = some (.ref lt)) → MVT mvs tps ms → MvsOK P.M.toNat ms → RUN (lawC P.w g s P.L f cd sc) m' (((lt, lstO [] 0) :: (mv, lstO mvs km) :: (P.KB ocs n9 tn9 kt9 kv lvs kg oc0 oc1 of ps)) ++ (P.W8 ++ tps)) (lawB.drop 13) Q) : RUN (lawC P.w g s P.L f cd sc) m (((od, lstO ovs ko) :: (lt, lstO [] 0) :: (mv, lstO [] 0) :: (P.KB ocs n tn kt kv lvs kg oc0 oc1 of ps)) ++ P.W8) st Q := by
  (conv at hsc => rhs; whnf)
  (conv at hst => rhs; whnf)
  subst hsc hst
  have H := O.now
  obtain ⟨tm, hcm⟩ := hP.hcm
  have hM2 : 2 ≤ P.M ∧ P.M ≤ 4 := by rcases hP.hM with h | h | h <;> omega
  have hK : 2 * (P.M.fdiv 2) ≤ P.M ∧ 0 ≤ P.M.fdiv 2 := by rcases hP.hM with h | h | h <;> rw [h] <;> decide
  let N : Int → Tok → Nat → List Value → Nat → Nw := fun n9 tn9 kt9 mvs km => (od, lstO ovs ko) :: (lt, lstO [] 0) :: (mv, lstO mvs km) :: (P.KB ocs n9 tn9 kt9 kv lvs kg oc0 oc1 of ps)
  let J6 : Nat → Lo → Nw → Prop := fun k m n5 => (m (Str.ofString "octets") = some (.int (octs P.b) to) ∧ m (Str.ofString "ledger") = some (.ref P.A.lg) ∧ m (Str.ofString "before") = some (.str (S (txtF P.b 0 led)) tb) ∧ m (Str.ofString "moves") = some (.ref mv) ∧ m (Str.ofString "lets") = some (.ref lt) ∧ m (Str.ofString "order") = some (.ref od)) ∧ ∃ n9 tn9 kt9 mvs km tps ms, n5 = N n9 tn9 kt9 mvs km ++ (P.W8 ++ tps) ∧ (0 ≤ n9 ∧ n9 ≤ n + k) ∧ MVT mvs tps ms ∧ ms.length = k ∧ ∀ (j : Nat) v, ms[j]? = some v → v.x = ordV P.M sh (2 * j) ∧ v.y = ordV P.M sh (2 * j + 1) ∧ -31 < v.am ∧ v.am < 61
  refine RUN.for_w (N := (P.M.fdiv 2).toNat) J6 H (ITR.rng H (EVr.r1 (EVx.built (v := .type "range") H (by kernel_rfl) (by decide +kernel) (by decide) rfl rfl) (EVi.fdiv (EVi.of (EVx.cell (z := 5) H rfl rfl hcm rfl rfl)) EVi.const (by decide) (PyProof.noPylong_small (by decide))) (rng1_small (by omega) (by omega)) (rng1_size (by omega)))) ⟨hl, n, tn, kt, [], 0, [], [], by rw [List.append_nil], ⟨hn0, by omega⟩, MVT.nil, rfl, fun j v h => by simp at h⟩ (fun _ _ _ _ p hp => nomatch hp) (fun i T v m4 n4 h4 hi hJ hV S4 => ?_) (fun m4 n4 hJ => ?_)
  · obtain ⟨⟨l1, l2, l3, l4, l5, l6⟩, n9, tn9, kt9, mvs, km, tps, ms, rfl, ⟨b0, b1⟩, hmv, hms, hfx⟩ := hJ
    obtain ⟨t, rfl⟩ := hV
    refine ⟨_, TGT.name H rfl, ?_⟩
    have hi2 : i < 2 := by omega
    have hs0i : (2 * (0 + (i : Int) * 1)).toNat = 2 * i := by rw [Int.zero_add, Int.mul_one]; rfl
    have hs1i : (2 * (0 + (i : Int) * 1) + 1).toNat = 2 * i + 1 := by rw [Int.zero_add, Int.mul_one]; rfl
    obtain ⟨tx, ex⟩ := ord_get hov (k := 2 * i) (by omega)
    obtain ⟨ty, ey⟩ := ord_get hov (k := 2 * i + 1) (by omega)
    have ei : (0 : Int) + (i : Int) * 1 + 1 = chn (i == 1) := by
      have : i = 0 ∨ i = 1 := by omega
      rcases this with rfl | rfl <;> rfl
    rw [List.append_assoc]
    have hlm : mvs.length ≤ sizeLine := by rw [hmv.1, hms]; unfold sizeLine; omega
    refine RUN.append_g (z0 := 2) (EVx.name H l4 rfl rfl) (EVg.tupc (ARGg.i (EVi.eq (EVi.add (EVi.of (EVx.name H rfl rfl rfl)) EVi.const) ei) (fun t0 => ARGg.x (EVx.item (i := 0) (j := 2 * (0 + (i : Int) * 1)) (EVx.name H l6 rfl rfl) (EVi.mul EVi.const (EVi.of (EVx.name H rfl rfl rfl)) (mul2 (by omega) (by omega))) rfl (by omega) (by omega) (by rw [hs0i]; exact ex)) (ARGg.x (EVx.item (i := 0) (j := 2 * (0 + (i : Int) * 1) + 1) (EVx.name H l6 rfl rfl) (EVi.add (EVi.mul EVi.const (EVi.of (EVx.name H rfl rfl rfl)) (mul2 (by omega) (by omega))) EVi.const) rfl (by omega) (by omega) (by rw [hs1i]; exact ey)) (ARGg.gc (EVg.subc (k := 30) (EVg.callP (ad := 364) (a := N n9 tn9 kt9 mvs km) (T := (P.W8 ++ tps) ++ T) [8, 9] 2 H (by decide) (EVx.glob H (by kernel_rfl) rfl rfl) (by kernel_rfl) trivial (fun _ _ _ h => h) (ARG.x (EVx.cell (z := 3) H rfl rfl hP.hct rfl rfl) (ARG.i EVi.const (fun t => ARG.nil (t_pulled hP.vi hP.nl b0 (by omega) (by decide))) rfl) rfl) (fun v n' hv => ?_))) rfl) rfl) rfl) rfl)) (fun _ _ h => h) rfl (fun _ _ _ q => MethodCall_ (wpAny_mono q (fun _ _ z => z _) (fun _ _ z => z))) rfl rfl rfl
    · obtain ⟨x, t9, tn', x0, x1, rfl, rfl⟩ := hv
      refine ⟨N (n9 + 1) tn' kt9 mvs km, rfl, rfl, rfl, ⟨x, t9, rfl, fun t3 => ARGg.nil ⟨rfl, fun D => ⟨3, mvs, km, rfl, hlm, ?_⟩⟩, EVi.const⟩⟩
      refine RUN.perm (perm7 (N (n9 + 1) tn' kt9 (mvs ++ [.ref D]) (km + 1)) P.W8 tps T [(D, tupO [.int (chn (i == 1)) t0, .int (ordV P.M sh (2 * i)) tx, .int (ordV P.M sh (2 * i + 1)) ty, .int (x - 30) t3] 0)]) ?_
      refine RUN.turnW (n2 := N (n9 + 1) tn' kt9 (mvs ++ [.ref D]) (km + 1) ++ (P.W8 ++ ((D, tupO [.int (chn (i == 1)) t0, .int (ordV P.M sh (2 * i)) tx, .int (ordV P.M sh (2 * i + 1)) ty, .int (x - 30) t3] 0) :: tps))) (by rw [List.append_assoc]; exact List.Sublist.refl _) ⟨⟨l1, l2, l3, l4, l5, l6⟩, n9 + 1, tn', kt9, _, _, _, ms ++ [⟨i == 1, ordV P.M sh (2 * i), ordV P.M sh (2 * i + 1), x - 30⟩], rfl, ⟨by omega, by push_cast; omega⟩, hmv.snoc (v := ⟨i == 1, ordV P.M sh (2 * i), ordV P.M sh (2 * i + 1), x - 30⟩), by rw [List.length_append, hms]; rfl, fun j v hj => ?_⟩
      by_cases q : j < ms.length
      · rw [List.getElem?_append_left q] at hj
        exact hfx j v hj
      · have q2 : j = i := by
          rcases Nat.lt_or_ge j (ms.length + 1) with z | z
          · omega
          · rw [List.getElem?_eq_none (by rw [List.length_append]; exact z)] at hj; cases hj
        subst q2
        rw [List.getElem?_append_right (by omega), hms, Nat.sub_self] at hj
        obtain rfl : _ = v := by simpa using hj
        exact ⟨rfl, rfl, by show -31 < x - 30; omega, by show x - 30 < 61; omega⟩
  · obtain ⟨⟨l1, l2, l3, l4, l5, l6⟩, n9, tn9, kt9, mvs, km, tps, ms, rfl, ⟨b0, b1⟩, hmv, hms, hfx⟩ := hJ
    exact RUN.drop (List.sublist_cons_self _ _) (hnext m4 n9 tn9 kt9 mvs km tps ms ⟨l1, l2, l3, l4, l5⟩ hmv (mvs_mk hP.hM hs0 hs1 hms hfx))
end Mine
end
section
open PySem PySem.W PySem.Calls PyProof.Rows
namespace Mine
theorem neg_last {k : Nat} : seqIndex? (-1) (k + 1) = some k := by
  simp [seqIndex?]
  omega
theorem law13 {P : LQ} {g : Heap} {s : Shared} {f : Addr} {cd : Value} {sc : Scope} {m : Lo} {st : List Stmt} {to : Tok} {Q : Flow → Shared → Prop} {n : Int} {tn tf tb tsh : Tok} {kt kv kg km : Nat} {lvs mvs : List Value} {led : List Int} {oc0 oc1 of ocs : Obj} {ps : Array Value} {sh : Int} {mv lt : Addr} {tps : Nw} {ms : List Mv} (hsc : sc = lawSc) (hst : st = lawB.drop 13) (hP : P.OK) (O : OkT (lawC P.w g s P.L f cd sc) [] 20) (hi : IntsAre lvs led) (hL : LedOK P.b led) (hlen : (led.length : Int) = P.M) (hmv : MVT mvs tps ms) (hms : MvsOK led.length ms)
    (hl : (m (Str.ofString "octets") = some (.int (octs P.b) to) ∧ m (Str.ofString "ledger") = some (.ref P.A.lg) ∧ m (Str.ofString "before") = some (.str (S (txtF P.b 0 led)) tb) ∧ m (Str.ofString "moves") = some (.ref mv) ∧ m (Str.ofString "lets") = some (.ref lt)))
    (hnext : ∀ m' kl lv2 kg2, (m' (Str.ofString "octets") = some (.int (octs P.b) to) ∧ m' (Str.ofString "ledger") = some (.ref P.A.lg) ∧ m' (Str.ofString "before") = some (.str (S (txtF P.b 0 led)) tb) ∧ m' (Str.ofString "moves") = some (.ref mv) ∧ m' (Str.ofString "lets") = some (.ref lt)) → IntsAre lv2 (folM P.b led ms) → RUN (lawC P.w g s P.L f cd sc) m' (((lt, lstO (((ms).map (okM P.b led)).map Value.bool) kl) :: (mv, lstO mvs km) :: (P.KB ocs n tn kt kv lv2 kg2 oc0 oc1 of ps)) ++ (P.W8 ++ tps)) (lawB.drop 14) Q) : RUN (lawC P.w g s P.L f cd sc) m (((lt, lstO [] 0) :: (mv, lstO mvs km) :: (P.KB ocs n tn kt kv lvs kg oc0 oc1 of ps)) ++ (P.W8 ++ tps)) st Q := by
  (conv at hsc => rhs; whnf)
  (conv at hst => rhs; whnf)
  subst hsc hst
  have H := O.now
  let N : List Value → Nat → List Value → Nat → Nw := fun lts kl lv2 kg2 => (lt, lstO lts kl) :: (mv, lstO mvs km) :: P.KB ocs n tn kt kv lv2 kg2 oc0 oc1 of ps
  let J7 : Nat → Lo → Nw → Prop := fun k m n5 => (m (Str.ofString "octets") = some (.int (octs P.b) to) ∧ m (Str.ofString "ledger") = some (.ref P.A.lg) ∧ m (Str.ofString "before") = some (.str (S (txtF P.b 0 led)) tb) ∧ m (Str.ofString "moves") = some (.ref mv) ∧ m (Str.ofString "lets") = some (.ref lt)) ∧ ∃ lv2 kg2 kl, n5 = (N (((ms.take k).map (okM P.b led)).map Value.bool) kl lv2 kg2) ++ (P.W8 ++ tps) ∧ IntsAre lv2 (folM P.b led (ms.take k))
  refine RUN.for_w J7 H (ITR.lst (z := 1) (a := mv) (vs := mvs) (k := km) H (EVx.name H hl.2.2.2.1 rfl rfl) rfl) ⟨hl, lvs, kg, 0, rfl, hi⟩ (fun _ _ _ hJ p hp => by obtain ⟨_, _, _, _, rfl, _⟩ := hJ; rw [List.mem_singleton.mp hp]; exact List.mem_append_left _ (.tail _ (.head _))) (fun k T v m4 n4 h4 hk hJ hV S4 => ?_) (fun m4 n4 hJ => ?_)
  · obtain ⟨⟨l1, l2, l3, l4, l5⟩, lv2, kg2, kl, rfl, hi2⟩ := hJ
    obtain ⟨u, D, t0, t1, t2, t3, kk, hu, rfl, hmem⟩ := hmv.at hV
    have huk := (mvs_at hms hu).1
    have hw := fwd (b := P.b) (l := led) hms hu
    have hL2 := fol_len (b := P.b) (ms := ms.take k) (l := led)
    have hlv := hi2.length
    have := huk.x0
    have := huk.x1
    have := huk.y0
    have := huk.y1
    have hl9 := hL.2.1
    have hk2 : k < 2 := by
      have : k < ms.length := (List.getElem?_eq_some_iff.mp hu).1
      rcases hms.len with q | q <;> omega
    obtain ⟨tx, ex⟩ := ints_get hi2 (k := u.x.toNat) (by rw [hL2]; omega)
    obtain ⟨ty, ey⟩ := ints_get hi2 (k := u.y.toNat) (by rw [hL2]; omega)
    refine ⟨_, TGT.tup H S4 (S4.tupM (List.mem_append_left _ (List.mem_append_right _ (List.mem_append_right _ hmem)))) (TGS.cons (TGT.name H rfl) (TGS.cons (TGT.name H rfl) (TGS.cons (TGT.name H rfl) (TGS.cons (TGT.name H rfl) TGS.nil)))), ?_⟩
    rw [List.append_assoc]
    refine RUN.append_g (z0 := 0) (EVx.name H l5 rfl rfl) (EVg.xc (EVx.and2 (EVx.ofg (EVg.ofq (EVq.callP (P := fun v n' => v = _ ∧ n' = _) (ad := 393) [] 1 O (by decide) (EVx.glob H (by kernel_rfl) rfl rfl) (by kernel_rfl) (ARGg.i (EVi.sub (EVi.of (EVx.item (i := 9) (j := u.x) (EVx.name H l2 rfl rfl) (EVi.of (EVx.name H rfl rfl rfl)) rfl (by omega) (by omega) ex)) (EVi.of (EVx.name H rfl rfl rfl))) (fun t => ARGg.x (EVx.cell (z := 5) H rfl rfl hP.hcw rfl rfl) (ARGg.nil ⟨(N (((ms.take k).map (okM P.b led)).map Value.bool) kl lv2 kg2), ((P.W8 ++ tps) ++ T), _, _, _, rfl, rfl, (t_lfits hP.hb).q, fun h S => ⟨hP.Z.wro hP.nd fun p hp => hide_mem S (List.mem_append_left _ (List.mem_append_left _ hp)), fun _ _ => trivial⟩, fun v n' hv => by obtain ⟨rfl, rfl⟩ := hv; exact ⟨(N (((ms.take k).map (okM P.b led)).map Value.bool) kl lv2 kg2), rfl, rfl, rfl, rfl, rfl⟩⟩) rfl) rfl)))) (EVx.ofg (EVg.ofq (EVq.callP (P := fun v n' => v = _ ∧ n' = _) (ad := 393) [] 1 O (by decide) (EVx.glob H (by kernel_rfl) rfl rfl) (by kernel_rfl) (ARGg.i (EVi.add (EVi.of (EVx.item (i := 9) (j := u.y) (EVx.name H l2 rfl rfl) (EVi.of (EVx.name H rfl rfl rfl)) rfl (by omega) (by omega) ey)) (EVi.of (EVx.name H rfl rfl rfl))) (fun t => ARGg.x (EVx.cell (z := 5) H rfl rfl hP.hcw rfl rfl) (ARGg.nil ⟨(N (((ms.take k).map (okM P.b led)).map Value.bool) kl lv2 kg2), ((P.W8 ++ tps) ++ T), _, _, _, rfl, rfl, (t_lfits hP.hb).q, fun h S => ⟨hP.Z.wro hP.nd fun p hp => hide_mem S (List.mem_append_left _ (List.mem_append_left _ hp)), fun _ _ => trivial⟩, fun v n' hv => by obtain ⟨rfl, rfl⟩ := hv; exact ⟨(N (((ms.take k).map (okM P.b led)).map Value.bool) kl lv2 kg2), rfl, rfl, rfl, rfl, rfl⟩⟩) rfl) rfl))))) ⟨0, _, kl, rfl, by rw [List.length_map, List.length_map, List.length_take]; unfold sizeLine; omega, ?_⟩) (fun _ _ h => h) rfl (fun _ _ _ q => MethodCall_ (wpAny_mono q (fun _ _ z => z _) (fun _ _ z => z))) rfl rfl rfl
    show RUN _ _ ((N ((((ms.take k).map (okM P.b led)).map Value.bool) ++ [.bool (okM P.b (folM P.b led (ms.take k)) u)]) (kl + 1) lv2 kg2) ++ ((P.W8 ++ tps) ++ T)) _ _
    refine RUN.if_b (z := okM P.b (folM P.b led (ms.take k)) u) (fun n1 => ∃ lv3 kg3, IntsAre lv3 (apM P.b (folM P.b led (ms.take k)) u) ∧ n1 = (N ((((ms.take k).map (okM P.b led)).map Value.bool) ++ [.bool (okM P.b (folM P.b led (ms.take k)) u)]) (kl + 1) lv3 kg3) ++ ((P.W8 ++ tps) ++ T)) (CND.of (EVx.lneg (i := 0) (EVx.name H l5 rfl rfl) (EVi.neg EVi.const) rfl (by decide) (by decide) (j := (((ms.take k).map (okM P.b led)).map Value.bool).length) (by rw [List.length_append]; exact neg_last) (by simp))) (fun hz Q' hq => ?_) (fun hz => ⟨lv2, kg2, by unfold apM; rw [if_neg (by rw [hz]; decide)]; exact hi2, rfl⟩) fun n1 hn1 => ?_
    · refine RUN.unpc H (ARGg.i (EVi.sub (EVi.of (EVx.item (i := 9) (j := u.x) (EVx.name H l2 rfl rfl) (EVi.of (EVx.name H rfl rfl rfl)) rfl (by omega) (by omega) ex)) (EVi.of (EVx.name H rfl rfl rfl))) (fun s1 => ARGg.i (EVi.add (EVi.of (EVx.item (i := 9) (j := u.y) (EVx.name H l2 rfl rfl) (EVi.of (EVx.name H rfl rfl rfl)) rfl (by omega) (by omega) ey)) (EVi.of (EVx.name H rfl rfl rfl))) (fun s2 => ARGg.nil ⟨rfl, TAS.cons (TGA.item (z := 9) (j := u.x) (EVx.name H l2 rfl rfl) (EVi.of (EVx.name H rfl rfl rfl)) rfl (by omega) (by omega) (kset (by rw [hlv, hL2]; omega)) (TAS.cons (TGA.item (z := 9) (j := u.y) (EVx.name H l2 rfl rfl) (EVi.of (EVx.name H rfl rfl rfl)) rfl (by omega) (by omega) (kset (by rw [List.length_set, hlv, hL2]; omega)) (TAS.nil (hq _ ⟨_, _, ?_, rfl⟩)))))⟩) rfl) rfl)
      unfold apM
      rw [if_pos hz]
      exact ints_set (ints_set hi2)
    · obtain ⟨lv3, kg3, hi3, rfl⟩ := hn1
      rw [hw.2.1] at hi3
      refine RUN.turnW (n2 := (N (((ms.take (k + 1)).map (okM P.b led)).map Value.bool) (kl + 1) lv3 kg3) ++ (P.W8 ++ tps)) ?_ ⟨⟨l1, l2, l3, l4, l5⟩, lv3, kg3, kl + 1, rfl, hi3⟩
      rw [List.append_assoc, ← hw.2.2, List.map_append, hw.1]
      exact List.Sublist.refl _
  · obtain ⟨hl4, lv2, kg2, kl, rfl, hi2⟩ := hJ
    have e : ms.take mvs.length = ms := by rw [hmv.1]; exact List.take_length
    rw [e] at hi2 ⊢
    exact hnext m4 kl lv2 kg2 hl4 hi2
end Mine
end
section
open PySem PySem.W PySem.Calls PyProof.Rows
namespace Mine
inductive JT (P : LQ) (lt : Addr) (lts : List Value) (kl : Nat) (mv : Addr) (mvs : List Value) (km : Nat) (ocs : Obj) (n : Int) (tn : Tok) (kt kv : Nat) (lvs : List Value) (kg : Nat) (ps : Array Value) (tps : Nw) (L : List Int) (n5 : Nw) : Prop
  | mk (oc0 oc1 of : Obj) (tf : Tok) (e : n5 = ((lt, lstO lts kl) :: (mv, lstO mvs km) :: P.KB ocs n tn kt kv lvs kg oc0 oc1 of ps) ++ (P.W8 ++ tps)) (h0 : ChX P.w P.b oc0) (h1 : ChX P.w P.b oc1) (h2 : of.IsDictOf (SKw P.w) [("BANK", .str (S (txtF P.b 0 L)) tf)]) : JT P lt lts kl mv mvs km ocs n tn kt kv lvs kg ps tps L n5
theorem tr_ev {c : Cx} {fs : List Addr} {r : Nat} {P : LQ} {m : Lo} {lt mv : Addr} {lts mvs lvs : List Value} {kl km kt kv kg : Nat} {ocs : Obj} {n : Int} {tn : Tok} {ps : Array Value} {tps n5 T : Nw} {L : List Int} {u : Mv} {fe e1 e2 e3 e4 e5 : PySem.Expr} {p : Pos} (hcw : c.w = P.w) (O : OkT c fs r) (hr : 9 < r) (hP : P.OK) (hL : LedOK P.b L) (hlen : (L.length : Int) = P.M) (hu : MvOK L.length u) (hJ : JT P lt lts kl mv mvs km ocs n tn kt kv lvs kg ps tps L n5)
    (hf : EVx c m (n5 ++ T) fe (.ref 428)) (h1 : EVx c m (n5 ++ T) e1 (.ref P.a.w)) (h2 : EVi c m (n5 ++ T) e2 (chn u.i)) (h3 : EVi c m (n5 ++ T) e3 u.x) (h4 : EVi c m (n5 ++ T) e4 u.y) (h5 : EVi c m (n5 ++ T) e5 u.am)
    (h0 : autoParam (PySem.eval (fe.Call [e1, e2, e3, e4, e5] [] p) c.env = (PySem.eval fe c.env >>= fun fv => callWith p fv [] (backTo p (starEach [e1, e2, e3, e4, e5] c.env)) (backToKw p (keywordEach [] c.env)))) rflT)
    (h10 : autoParam (starEach [e1, e2, e3, e4, e5] c.env = (false, PySem.eval e1 c.env) :: starEach [e2, e3, e4, e5] c.env) rflT)
    (h11 : autoParam (starEach [e2, e3, e4, e5] c.env = (false, PySem.eval e2 c.env) :: starEach [e3, e4, e5] c.env) rflT)
    (h12 : autoParam (starEach [e3, e4, e5] c.env = (false, PySem.eval e3 c.env) :: starEach [e4, e5] c.env) rflT)
    (h13 : autoParam (starEach [e4, e5] c.env = (false, PySem.eval e4 c.env) :: starEach [e5] c.env) rflT)
    (h14 : autoParam (starEach [e5] c.env = (false, PySem.eval e5 c.env) :: starEach [] c.env) rflT)
    : EVq c fs m (n5 ++ T) (.Call fe [e1, e2, e3, e4, e5] [] p) fun v n' => v = .bool (okM P.b L u) ∧ ∃ n6, n' = n6 ++ T ∧ JT P lt lts kl mv mvs km ocs n tn kt kv lvs kg ps tps (apM P.b L u) n6 := by
  let KB1 := fun y0 y1 y2 y3 => P.KB ocs y0 tn kt kv lvs kg y1 y2 y3 ps
  obtain ⟨w, A, env, g, s, E⟩ := c
  have hcw : w = P.w := hcw
  subst hcw
  obtain ⟨oc0, oc1, of, tf, rfl, hc0, hc1, hbk⟩ := hJ
  rw [List.append_assoc] at hf h1 h2 h3 h4 h5 ⊢
  have hroom : P.room = (L.length : Int) * (octs P.b + 1) := by rw [hlen]; exact hP.room
  obtain ⟨i, x, y, am⟩ := u
  cases i with
  | false =>
    obtain ⟨ub, rn, hcn⟩ := hc0
    refine EVq.callP (ad := 428) [10, 12] 9 O hr hf (by kernel_rfl) (ARGg.x h1 (ARGg.i h2 (fun t1 => ARGg.i h3 (fun t2 => ARGg.i h4 (fun t3 => ARGg.i h5 (fun t4 => ARGg.nil ⟨((lt, lstO lts kl) :: (mv, lstO mvs km) :: KB1 n oc0 oc1 of), _, _, _, _, rfl, rfl, t_transfer (i := false) hP.hb hcn hbk hL hu.x0 hu.x1 hu.y0 hu.y1 hu.ne hu.a0 hu.a1 hroom, fun h S => ⟨hP.Z.wro hP.nd fun p hp => hide_mem S (List.mem_append_left _ (List.mem_append_left _ hp)), fun _ _ => trivial⟩, fun v n' hv => ?_⟩) h14) h13) h12) h11) h10) h0 h10 (by rw [h11, h12, h13, h14]; rfl)
    obtain ⟨rfl, oc', of', ub', rn', hc', ⟨tf', hbk'⟩, rfl⟩ := hv
    exact ⟨((lt, lstO lts kl) :: (mv, lstO mvs km) :: KB1 n oc' oc1 of'), rfl, rfl, rfl, rfl, _, (List.append_assoc _ _ _).symm, oc', oc1, of', tf', rfl, ⟨ub', rn', hc'⟩, hc1, hbk'⟩
  | true =>
    obtain ⟨ub, rn, hcn⟩ := hc1
    refine EVq.callP (ad := 428) [11, 12] 9 O hr hf (by kernel_rfl) (ARGg.x h1 (ARGg.i h2 (fun t1 => ARGg.i h3 (fun t2 => ARGg.i h4 (fun t3 => ARGg.i h5 (fun t4 => ARGg.nil ⟨((lt, lstO lts kl) :: (mv, lstO mvs km) :: KB1 n oc0 oc1 of), _, _, _, _, rfl, rfl, t_transfer (i := true) hP.hb hcn hbk hL hu.x0 hu.x1 hu.y0 hu.y1 hu.ne hu.a0 hu.a1 hroom, fun h S => ⟨hP.Z.wro hP.nd fun p hp => hide_mem S (List.mem_append_left _ (List.mem_append_left _ hp)), fun _ _ => trivial⟩, fun v n' hv => ?_⟩) h14) h13) h12) h11) h10) h0 h10 (by rw [h11, h12, h13, h14]; rfl)
    obtain ⟨rfl, oc', of', ub', rn', hc', ⟨tf', hbk'⟩, rfl⟩ := hv
    exact ⟨((lt, lstO lts kl) :: (mv, lstO mvs km) :: KB1 n oc0 oc' of'), rfl, rfl, rfl, rfl, _, (List.append_assoc _ _ _).symm, oc0, oc', of', tf', rfl, hc0, ⟨ub', rn', hc'⟩, hbk'⟩
theorem law14 {P : LQ} {g : Heap} {s : Shared} {f : Addr} {cd : Value} {sc : Scope} {m : Lo} {st : List Stmt} {to : Tok} {Q : Flow → Shared → Prop} {n : Int} {tn tf tb ta : Tok} {kt kv kg km kl : Nat} {lvs mvs : List Value} {led : List Int} {ocs : Obj} {ps : Array Value} {mv lt : Addr} {tps : Nw} {ms : List Mv} {n5 : Nw} (hsc : sc = lawSc) (hst : st = lawB.drop 14) (hP : P.OK) (O : OkT (lawC P.w g s P.L f cd sc) [] 20) (hi : IntsAre lvs (folM P.b led ms)) (hL : LedOK P.b led) (hlen : (led.length : Int) = P.M) (hmv : MVT mvs tps ms) (hms : MvsOK led.length ms) (hJ0 : JT P lt ((ms.map (okM P.b led)).map Value.bool) kl mv mvs km ocs n tn kt kv lvs kg ps tps led n5)
    (hl : (m (Str.ofString "octets") = some (.int (octs P.b) to) ∧ m (Str.ofString "ledger") = some (.ref P.A.lg) ∧ m (Str.ofString "before") = some (.str (S (txtF P.b 0 led)) tb) ∧ m (Str.ofString "moves") = some (.ref mv) ∧ m (Str.ofString "lets") = some (.ref lt)))
    (hnext : ∀ m' ta n6, (m' (Str.ofString "before") = some (.str (S (txtF P.b 0 led)) tb) ∧ m' (Str.ofString "moves") = some (.ref mv) ∧ m' (Str.ofString "lets") = some (.ref lt) ∧ m' (Str.ofString "after") = some (.str (S (txtF P.b 0 (folM P.b led ms))) ta)) → JT P lt ((ms.map (okM P.b led)).map Value.bool) kl mv mvs km ocs n tn kt kv lvs kg ps tps (folM P.b led ms) n6 → RUN (lawC P.w g s P.L f cd sc) m' n6 (lawB.drop 17) Q) : RUN (lawC P.w g s P.L f cd sc) m n5 st Q := by
  (conv at hsc => rhs; whnf)
  (conv at hst => rhs; whnf)
  subst hsc hst
  have H := O.now
  obtain ⟨es, kn, edO, hbits, hdig, hroom, hfl, hop, hfd⟩ := hP.Z.dict
  have et : ms.take mvs.length = ms := by rw [hmv.1]; exact List.take_length
  refine RUN.if_fg (CNDg.neb (bs := ms.map (okM P.b led)) (V := fun v n1 => ∃ D kk n6, v = .ref D ∧ n1 = (D, lstO ((ms.map (okM P.b led)).map Value.bool) kk) :: n6 ∧ JT P lt ((ms.map (okM P.b led)).map Value.bool) kl mv mvs km ocs n tn kt kv lvs kg ps tps (folM P.b led ms) n6) H (by decide) (EVg.compQ (N := mvs.length) (fun k ys n1 => ys = ((ms.take k).map (okM P.b led)).map Value.bool ∧ JT P lt ((ms.map (okM P.b led)).map Value.bool) kl mv mvs km ocs n tn kt kv lvs kg ps tps (folM P.b led (ms.take k)) n1) O (ITR.lst (z := 1) (a := mv) (vs := mvs) (k := km) H (EVx.name H hl.2.2.2.1 rfl rfl) (by obtain ⟨_, _, _, _, rfl, _⟩ := hJ0; rfl)) ⟨rfl, hJ0⟩ (fun _ _ _ hJ p hp => by obtain ⟨_, _, _, _, _, rfl, _⟩ := hJ; rw [List.mem_singleton.mp hp]; exact List.mem_append_left _ (.tail _ (.head _))) ?_ (by rw [hmv.1]; rcases hms.len with q | q <;> rw [q] <;> exact Nat.le_of_ble_eq_true rfl) (fun D ys n1 hJ => ?_) rfl) (fun v n1 hv => ?_))
  · intro C' g' E' K gs k v ys n1 T m5 h hk hJ hV S1
    obtain ⟨rfl, hJ⟩ := hJ
    obtain ⟨u, D, t0, t1, t2, t3, kk, hu, rfl, hmem⟩ := hmv.at hV
    have hw := fwd (b := P.b) (l := led) hms hu
    have hmu := (mvs_at hms hu).1
    have hJ' := hJ
    obtain ⟨oc0, oc1, of, tf, rfl, hc0, hc1, hbk⟩ := hJ'
    refine ⟨_, true, TGT.tup K.now S1 (S1.tupM (List.mem_append_left _ (List.mem_append_right _ (List.mem_append_right _ hmem)))) (TGS.cons (TGT.name K.now rfl) (TGS.cons (TGT.name K.now rfl) (TGS.cons (TGT.name K.now rfl) (TGS.cons (TGT.name K.now rfl) TGS.nil)))), TST.nil, fun _ => EVq.mono (tr_ev rfl K (by decide) hP (fol_led hL) (by rw [fol_len]; exact hlen) (by rw [fol_len]; exact hmu) hJ (EVx.glob K.now (by kernel_rfl) rfl rfl) (EVx.cell (z := 5) K.now rfl rfl hP.hcw rfl rfl) (EVi.of (EVx.name K.now rfl rfl rfl)) (EVi.of (EVx.name K.now rfl rfl rfl)) (EVi.of (EVx.name K.now rfl rfl rfl)) (EVi.of (EVx.name K.now rfl rfl rfl))) fun y n3 hv => ?_, fun z => nomatch z⟩
    obtain ⟨rfl, n6, rfl, hJ6⟩ := hv
    refine ⟨n6, List.Sublist.refl _, ?_, by rw [← hw.2.1]; exact hJ6⟩
    rw [hw.1, ← hw.2.2, List.map_append]; rfl
  · obtain ⟨rfl, hJ⟩ := hJ
    rw [et] at hJ ⊢
    exact ⟨D, _, n1, rfl, rfl, hJ⟩
  · obtain ⟨D, kk, n6, rfl, rfl, hJ⟩ := hv
    have hJ' := hJ
    obtain ⟨oc0, oc1, of, tf, rfl, hc0, hc1, hbk⟩ := hJ'
    refine ⟨D, kk, 0, rfl, rfl, EVg.mono (EVg.x (EVx.name H hl.2.2.2.2 rfl rfl)) fun v' n2 hv2 => ?_⟩
    obtain ⟨rfl, rfl⟩ := hv2
    refine ⟨lt, kl, 0, 1, rfl, rfl, rfl, rfl, RUN.drop (List.sublist_cons_self _ _) ?_⟩
    refine RUN.let_s H (EVs.of (EVx.ditem (i := 12) (EVx.attr (z1 := 14) (z2 := 15) H (EVx.cell (z := 5) H rfl rfl hP.hcw rfl rfl) rfl (show _ = some (P.a.d, dictOf es kn) from edO ▸ rfl) hfl (by kernel_rfl) (by kernel_rfl) (by kernel_rfl)) EVs.const rfl hbk rfl)) rfl fun ta => ?_
    intro m1
    refine RUN.if_f (CND.cs (EVs.of (EVx.name H rfl rfl rfl)) (EVs.ofg (EVg.callRT (ad := 374) (n1 := ((lt, lstO ((ms.map (okM P.b led)).map Value.bool) kl) :: (mv, lstO mvs km) :: P.KB ocs n tn kt kv lvs kg oc0 oc1 of ps)) (T := P.W8 ++ tps) [9] 3 H (by decide) (EVx.glob H (by kernel_rfl) rfl rfl) (by kernel_rfl) trivial (fun _ _ _ h => h) (ARG.x (EVx.name H hl.2.1 rfl rfl) (ARG.i (EVi.of (EVx.name H hl.1 rfl rfl)) (fun _ => ARG.nil (t_text hP.hb hi (by rw [fol_len]; exact hL.2.1))) rfl) rfl))) (CS.ne (by simp))) ?_
    exact hnext _ ta _ ⟨hl.2.2.1, hl.2.2.2.1, hl.2.2.2.2, rfl⟩ hJ
end Mine
end
section
open PySem PySem.W PySem.Calls PyProof.Rows
namespace Mine
theorem CNDg.mono {c : Cx} {m : Lo} {n : Nw} {e : PySem.Expr} {P P' : Bool → Nw → Prop} (h : CNDg c m n e P) (q : ∀ b n', P b n' → P' b n') : CNDg c m n e P' := fun h0 k Q S q' => h h0 k Q S fun b n' h' k' hP S' => q' b n' h' k' (q b n' hP) S'
theorem MvOK.back {M : Nat} {v : Mv} (h : MvOK M v) : MvOK M v.back := ⟨h.y0, h.y1, h.x0, h.x1, Ne.symm h.ne, h.a0, h.a1⟩
theorem law17 {P : LQ} {g : Heap} {s : Shared} {f : Addr} {cd : Value} {sc : Scope} {m : Lo} {st : List Stmt} {to : Tok} {Q : Flow → Shared → Prop} {n : Int} {tn tf tb ta : Tok} {kt kv kg km kl : Nat} {lvs mvs : List Value} {led : List Int} {ocs : Obj} {ps : Array Value} {mv lt : Addr} {tps : Nw} {ms : List Mv} {n5 : Nw} (hsc : sc = lawSc) (hst : st = lawB.drop 17) (hP : P.OK) (O : OkT (lawC P.w g s P.L f cd sc) [] 20) (hL : LedOK P.b led) (hlen : (led.length : Int) = P.M) (hmv : MVT mvs tps ms) (hms : MvsOK led.length ms) (hJ0 : JT P lt ((ms.map (okM P.b led)).map Value.bool) kl mv mvs km ocs n tn kt kv lvs kg ps tps (folM P.b led ms) n5)
    (hl : (m (Str.ofString "before") = some (.str (S (txtF P.b 0 led)) tb) ∧ m (Str.ofString "moves") = some (.ref mv) ∧ m (Str.ofString "lets") = some (.ref lt) ∧ m (Str.ofString "after") = some (.str (S (txtF P.b 0 (folM P.b led ms))) ta)))
    (hnext : ∀ m' n6, (m' (Str.ofString "before") = some (.str (S (txtF P.b 0 led)) tb) ∧ m' (Str.ofString "moves") = some (.ref mv) ∧ m' (Str.ofString "lets") = some (.ref lt) ∧ m' (Str.ofString "after") = some (.str (S (txtF P.b 0 (folM P.b led ms))) ta)) → JT P lt ((ms.map (okM P.b led)).map Value.bool) kl mv mvs km ocs n tn kt kv lvs kg ps tps led n6 → RUN (lawC P.w g s P.L f cd sc) m' n6 (lawB.drop 19) Q) : RUN (lawC P.w g s P.L f cd sc) m n5 st Q := by
  (conv at hsc => rhs; whnf)
  (conv at hst => rhs; whnf)
  subst hsc hst
  have H := O.now
  obtain ⟨es, kn, edO, hbits, hdig, hroom, hfl, hop, hfd⟩ := hP.Z.dict
  have eN : min mvs.length ((ms.map (okM P.b led)).map Value.bool).length = ms.length := by rw [hmv.1, List.length_map, List.length_map, Nat.min_self]
  let J8 : Nat → Lo → Nw → Prop := fun k m n5 => (m (Str.ofString "before") = some (.str (S (txtF P.b 0 led)) tb) ∧ m (Str.ofString "moves") = some (.ref mv) ∧ m (Str.ofString "lets") = some (.ref lt) ∧ m (Str.ofString "after") = some (.str (S (txtF P.b 0 (folM P.b led ms))) ta)) ∧ JT P lt ((ms.map (okM P.b led)).map Value.bool) kl mv mvs km ocs n tn kt kv lvs kg ps tps (folM P.b led (ms.drop k)) n5
  refine RUN.for_w (N := min mvs.length ((ms.map (okM P.b led)).map Value.bool).length) J8 H (ITR.zip (z1 := 1) (z2 := 0) (a1 := mv) (a2 := lt) (xs := mvs) (ys := ((ms.map (okM P.b led)).map Value.bool)) (k1 := km) (k2 := kl) H (EVx.built (v := .type "zip") H (by kernel_rfl) (by decide +kernel) (by decide) rfl rfl) (EVx.name H hl.2.1 rfl rfl) (EVx.name H hl.2.2.1 rfl rfl) (by obtain ⟨_, _, _, _, rfl, _⟩ := hJ0; rfl) (by obtain ⟨_, _, _, _, rfl, _⟩ := hJ0; rfl)) ⟨hl, hJ0⟩ (fun _ _ _ hJ p hp => by
      obtain ⟨_, _, _, _, _, rfl, _⟩ := hJ
      rcases List.mem_cons.mp hp with rfl | hp
      · exact List.mem_append_left _ (.tail _ (.head _))
      · rw [List.mem_singleton.mp hp]; exact List.mem_append_left _ (.head _)) (fun k T v m4 n4 h4 hk hJ hV S4 => ?_) (fun m4 n4 hJ => ?_)
  · obtain ⟨⟨l1, l2, l3, l4⟩, hJ⟩ := hJ
    obtain ⟨T9, x, y, rfl, hx, hy, hT⟩ := hV
    obtain ⟨u, D, t0, t1, t2, t3, kk, hu, rfl, hmem⟩ := hmv.at hx
    rw [List.getElem?_map, List.getElem?_map, hu] at hy
    obtain rfl := Option.some.inj hy
    have hw := bwd hL hms hu
    have hmu := (mvs_at hms hu).1
    have hJ' := hJ
    obtain ⟨oc0, oc1, of, tf, rfl, hc0, hc1, hbk⟩ := hJ'
    refine ⟨_, TGT.tup H S4 hT (TGS.cons (TGT.tup H S4 (S4.tupM (List.mem_append_left _ (List.mem_append_right _ (List.mem_append_right _ hmem)))) (TGS.cons (TGT.name H rfl) (TGS.cons (TGT.name H rfl) (TGS.cons (TGT.name H rfl) (TGS.cons (TGT.name H rfl) TGS.nil))))) (TGS.cons (TGT.name H rfl) TGS.nil)), ?_⟩
    refine RUN.if_fg (CNDg.and2 (CNDg.mono (CNDg.ofc (CND.of (EVx.name H rfl rfl rfl))) fun b n' hv => ?_))
    obtain ⟨rfl, rfl⟩ := hv
    refine ⟨fun q => ?_, fun q => ⟨rfl, ?_⟩⟩
    · refine CNDg.not (CNDg.of (V := fun v n' => v = .bool true ∧ ∃ n6, n' = n6 ++ T ∧ JT P lt ((ms.map (okM P.b led)).map Value.bool) kl mv mvs km ocs n tn kt kv lvs kg ps tps (folM P.b led (ms.drop (k + 1))) n6) (EVg.mono (EVg.ofq (tr_ev (u := u.back) rfl O (by decide) hP (fol_led hL) (by rw [fol_len]; exact hlen) (by rw [fol_len]; exact hmu.back) hJ (EVx.glob H (by kernel_rfl) rfl rfl) (EVx.cell (z := 5) H rfl rfl hP.hcw rfl rfl) (EVi.eq (EVi.sub EVi.const (EVi.of (EVx.name H rfl rfl rfl))) (by show 3 - chn u.i = chn (!u.i); cases u.i <;> rfl)) (EVi.of (EVx.name H rfl rfl rfl)) (EVi.of (EVx.name H rfl rfl rfl)) (EVi.of (EVx.name H rfl rfl rfl)))) fun v n' hv => ?_) fun v n' hv => ?_)
      · obtain ⟨rfl, n6, rfl, hJ6⟩ := hv
        rw [(hw.1 q).1]
        rw [(hw.1 q).2] at hJ6
        exact ⟨rfl, n6, rfl, hJ6⟩
      · obtain ⟨rfl, n6, rfl, hJ6⟩ := hv
        exact ⟨true, rfl, rfl, RUN.turnW (n2 := n6) (List.Sublist.refl _) ⟨⟨l1, l2, l3, l4⟩, hJ6⟩⟩
    · refine RUN.turnW (n2 := ((lt, lstO ((ms.map (okM P.b led)).map Value.bool) kl) :: (mv, lstO mvs km) :: P.KB ocs n tn kt kv lvs kg oc0 oc1 of ps) ++ (P.W8 ++ tps)) (List.Sublist.refl _) ⟨⟨l1, l2, l3, l4⟩, ?_⟩
      rw [← hw.2 q]
      exact hJ
  · obtain ⟨⟨l1, l2, l3, l4⟩, hJ⟩ := hJ
    rw [eN, List.drop_length] at hJ
    have hJ' := hJ
    obtain ⟨oc0, oc1, of, tf, rfl, hc0, hc1, hbk⟩ := hJ'
    exact RUN.if_f (CND.cs (EVs.of (EVx.ditem (i := 12) (EVx.attr (z1 := 14) (z2 := 15) H (EVx.cell (z := 5) H rfl rfl hP.hcw rfl rfl) rfl (show _ = some (P.a.d, dictOf es kn) from edO ▸ rfl) hfl (by kernel_rfl) (by kernel_rfl) (by kernel_rfl)) EVs.const rfl hbk rfl)) (EVs.of (EVx.name H l1 rfl rfl)) (CS.ne (by rw [show folM P.b led [] = led from rfl]; simp))) (hnext _ _ ⟨l1, l2, l3, l4⟩ hJ)
theorem law19 {P : LQ} {g : Heap} {s : Shared} {f : Addr} {cd : Value} {sc : Scope} {m : Lo} {st : List Stmt} {to : Tok} {n : Int} {tn tf tb ta : Tok} {kt kv kg km kl : Nat} {lvs mvs : List Value} {led : List Int} {ocs : Obj} {ps : Array Value} {mv lt : Addr} {tps : Nw} {ms : List Mv} {n5 : Nw} (hsc : sc = lawSc) (hst : st = lawB.drop 19) (hP : P.OK) (O : OkT (lawC P.w g s P.L f cd sc) [] 20) (hL : LedOK P.b led) (hlen : (led.length : Int) = P.M) (hmv : MVT mvs tps ms) (hms : MvsOK led.length ms) (hJ0 : JT P lt ((ms.map (okM P.b led)).map Value.bool) kl mv mvs km ocs n tn kt kv lvs kg ps tps led n5)
    (hl : (m (Str.ofString "before") = some (.str (S (txtF P.b 0 led)) tb) ∧ m (Str.ofString "moves") = some (.ref mv) ∧ m (Str.ofString "lets") = some (.ref lt) ∧ m (Str.ofString "after") = some (.str (S (txtF P.b 0 (folM P.b led ms))) ta))) : RUN (lawC P.w g s P.L f cd sc) m n5 st (LawEnd g P.L s) := by
  (conv at hsc => rhs; whnf)
  (conv at hst => rhs; whnf)
  subst hsc hst
  have H := O.now
  obtain ⟨es, kn, edO, hbits, hdig, hroom, hfl, hop, hfd⟩ := hP.Z.dict
  have hmvr := hmv.rev
  have hmsr := mvs_rev hms
  have eN : ms.reverse.take mvs.length = ms.reverse := by rw [hmv.1, ← List.length_reverse (as := ms)]; exact List.take_length
  have hl2 : mvs.length = 1 ∨ mvs.length = 2 := by rw [hmv.1]; exact hms.len
  refine RUN.let_compQ (N := mvs.length) (fun k ys n1 => ys = ((ms.reverse.take k).map (okM P.b led)).map Value.bool ∧ JT P lt ((ms.map (okM P.b led)).map Value.bool) kl mv mvs km ocs n tn kt kv lvs kg ps tps (folM P.b led (ms.reverse.take k)) n1) O (ITR.lstg (V := fun vs => vs = mvs.reverse) H (EVg.mono (EVg.lrev (z := 1) (vs := mvs) (k := km) (EVx.name H hl.2.1 rfl rfl) (EVi.neg EVi.const) (by obtain ⟨_, _, _, _, rfl, _⟩ := hJ0; rfl) hl2) fun v n' hv => by obtain ⟨D, rfl, rfl⟩ := hv; exact ⟨D, _, 0, rfl, rfl, List.length_reverse, rfl⟩)) ⟨rfl, hJ0⟩ (fun _ _ _ hJ p hp => nomatch hp) ?_ (by rcases hl2 with q | q <;> rw [q] <;> exact Nat.le_of_ble_eq_true rfl) rfl (fun D ys n1 hJ => ?_) rfl
  · intro C' g' E' K gs k v ys n1 T m5 h hk hJ hV S1
    obtain ⟨rfl, hJ⟩ := hJ
    obtain ⟨vs9, rfl, hV⟩ := hV
    obtain ⟨u, D, t0, t1, t2, t3, kk, hu, rfl, hmem⟩ := hmvr.at hV
    have hw := fwd (b := P.b) (l := led) hmsr hu
    have hmu := (mvs_at hmsr hu).1
    have hJ' := hJ
    obtain ⟨oc0, oc1, of, tf, rfl, hc0, hc1, hbk⟩ := hJ'
    refine ⟨_, true, TGT.tup K.now S1 (S1.tupM (List.mem_append_left _ (List.mem_append_right _ (List.mem_append_right _ hmem)))) (TGS.cons (TGT.name K.now rfl) (TGS.cons (TGT.name K.now rfl) (TGS.cons (TGT.name K.now rfl) (TGS.cons (TGT.name K.now rfl) TGS.nil)))), TST.nil, fun _ => EVq.mono (tr_ev rfl K (by decide) hP (fol_led hL) (by rw [fol_len]; exact hlen) (by rw [fol_len]; exact hmu) hJ (EVx.glob K.now (by kernel_rfl) rfl rfl) (EVx.cell (z := 5) K.now rfl rfl hP.hcw rfl rfl) (EVi.of (EVx.name K.now rfl rfl rfl)) (EVi.of (EVx.name K.now rfl rfl rfl)) (EVi.of (EVx.name K.now rfl rfl rfl)) (EVi.of (EVx.name K.now rfl rfl rfl))) fun y n3 hv => ?_, fun z => nomatch z⟩
    obtain ⟨rfl, n6, rfl, hJ6⟩ := hv
    refine ⟨n6, List.Sublist.refl _, ?_, by rw [← hw.2.1]; exact hJ6⟩
    rw [hw.1, ← hw.2.2, List.map_append]; rfl
  · obtain ⟨rfl, hJ⟩ := hJ
    rw [eN] at hJ ⊢
    rw [fol_rev hms] at hJ
    obtain ⟨oc0, oc1, of, tf, rfl, hc0, hc1, hbk⟩ := hJ
    intro m1 n1
    have hl3 : ((ms.map (okM P.b led)).map Value.bool).length = 1 ∨ ((ms.map (okM P.b led)).map Value.bool).length = 2 := by rw [List.length_map, List.length_map]; exact hms.len
    refine RUN.ret_law (ps := ps) (EVx.and2 (z1 := true) (z2 := true) (EVx.eqbl (bs := ms.reverse.map (okM P.b led)) (z := 0) H (by decide) (EVx.name H rfl rfl rfl) rfl (EVg.mono (EVg.lrev (z := 1) (vs := ((ms.map (okM P.b led)).map Value.bool)) (k := kl) (EVx.name H hl.2.2.1 rfl rfl) (EVi.neg EVi.const) rfl hl3) fun v n' hv => ?_)) (EVx.cs (EVs.of (EVx.ditem (i := 13) (EVx.attr (z1 := 15) (z2 := 16) H (EVx.cell (z := 6) H rfl rfl hP.hcw rfl rfl) rfl (show _ = some (P.a.d, dictOf es kn) from edO ▸ rfl) hfl (by kernel_rfl) (by kernel_rfl) (by kernel_rfl)) EVs.const rfl hbk rfl)) (EVs.of (EVx.name H hl.2.2.2 rfl rfl)) (CS.eq (by simp)))) (by simp [n1])
    obtain ⟨D2, rfl, rfl⟩ := hv
    exact ⟨D2, 0, rfl, by rw [List.map_reverse, List.map_reverse]⟩
end Mine
end
section
open PySem PySem.W PySem.Calls PyProof.Rows PySem.Spec
namespace Mine
noncomputable def sel (is : List Nat) (n : Nw) : Nw := is.filterMap fun i => n[i]?
theorem sel_range : ∀ (n : Nw), sel (List.range n.length) n = n
  | [] => rfl
  | p :: n => by
    unfold sel
    rw [List.length_cons, List.range_succ_eq_map, List.filterMap_cons]
    show p :: List.filterMap _ (List.map Nat.succ (List.range n.length)) = _
    rw [List.filterMap_map]
    exact congrArg (p :: ·) (sel_range n)
theorem sel_perm {is : List Nat} {n : Nw} (N : Nat) (h : is.Perm (List.range N)) (hN : n.length = N) : (sel is n).Perm n := by
  subst hN
  refine (h.filterMap _).trans ?_
  rw [show List.filterMap (fun i => n[i]?) (List.range n.length) = n from sel_range n]
theorem sel_app {is : List Nat} {a T : Nw} (N : Nat) (h : is.Perm (List.range N)) (hN : a.length = N) : (sel is a ++ T).Perm (a ++ T) := (sel_perm N h hN).append_right T
section
variable {c : Cx} {m : Lo} {n : Nw} {r : Nat} {Q : Flow → Shared → Prop}
theorem EVg.idx {a b : PySem.Expr} {p : Pos} {V1 : Value → Nw → Prop} {P : Value → Nw → Prop} (ha : EVg c m n a V1) (hb : ∀ v n1, V1 v n1 → ∃ l, v = .ref l ∧ EVg c m n1 b fun u n2 => ∃ vs k, ∃ z : Nat, ∃ j t x, u = .int j t ∧ n2[z]? = some (l, lstO vs k) ∧ 0 ≤ j ∧ j < 2 ^ 63 ∧ vs[j.toNat]? = some x ∧ P x n2)
    (hs : autoParam (∀ l j u, subscripted b false (Value.ref l) (.int j u) = operate [.ref l, .int j u] (getItem (.ref l) (.int j u))) irflT) : EVg c m n (.Subscript a b p) P :=
  fun h k Q S q => Subscript_ (ha h k _ S fun v n1 h1' k1 hv S1 => by
    obtain ⟨l, rfl, he⟩ := hb v n1 hv
    refine he h1' k1 _ S1 fun u n2 h2 k2 hu S2 => ?_
    obtain ⟨vs, kk, z, j, t, x, rfl, hz, h0, h1, hx, hP⟩ := hu
    exact item_litK (S2.isList hz) h0 h1 hx (q _ _ _ _ hP S2) (hs l j t))
end
end Mine
end
section
open PySem PySem.W PySem.Calls PyProof.Rows
namespace Mine
noncomputable abbrev LQ.KC (P : LQ) (n : Int) (tn : Tok) (kt kv : Nat) (oc0 oc1 of : Obj) : Nw :=
  [(P.L + 1, P.oct), (P.L + 1 + 1, P.ocb), (P.L + 1 + 1 + 1, P.ocm), (P.L + 1 + 1 + 1 + 1, P.ocw), (P.L + 1 + 1 + 1 + 1 + 1, P.ocs), (P.A.tr, lstO [.ref P.A.sc, .int n tn] kt), (P.A.sc, lstO P.vs kv), (P.a.c false, oc0), (P.a.c true, oc1), (P.a.fl, of), (409, tabObj #[])]
theorem law5 {P : LQ} {g : Heap} {s : Shared} {f : Addr} {cd : Value} {sc : Scope} {m : Lo} {st : List Stmt} {to : Tok} {Q : Flow → Shared → Prop} {n : Int} {tn : Tok} {kt kv : Nat} {oc0 oc1 of : Obj} (hsc : sc = lawSc) (hst : st = lawB.drop 5) (hP : P.OK) (O : OkT (lawC P.w g s P.L f cd sc) [] 20) (hn0 : 0 ≤ n) (hn1 : n < 20) (m1 : m (Str.ofString "octets") = some (.int (octs P.b) to))
    (hnext : ∀ m' lg led lvs kg n9 tn9 kt9, m' (Str.ofString "octets") = some (.int (octs P.b) to) → m' (Str.ofString "ledger") = some (.ref lg) → 0 ≤ n9 → n9 < 30 → IntsAre lvs led → (led.length : Int) = P.M → (∀ v ∈ led, fitsB P.b v = true) → RUN (lawC P.w g s P.L f cd sc) m' (((lg, lstO lvs kg)) :: (P.KC n9 tn9 kt9 kv oc0 oc1 of) ++ P.W8) (lawB.drop 6) Q) : RUN (lawC P.w g s P.L f cd sc) m ((P.KC n tn kt kv oc0 oc1 of) ++ P.W8) st Q := by
  (conv at hsc => rhs; whnf)
  (conv at hst => rhs; whnf)
  subst hsc hst
  have H := O.now
  obtain ⟨tm, hcm⟩ := hP.hcm
  obtain ⟨tb, hcb⟩ := hP.hcb
  have hM2 : 2 ≤ P.M ∧ P.M ≤ 4 := by rcases hP.hM with h | h | h <;> omega
  have hb9 : 0 ≤ P.b - 1 ∧ P.b - 1 ≤ 15 := by rcases hP.hb with h | h | h <;> omega
  have hpp := pow_pos hP.hb
  refine RUN.let_comp (N := P.M.toNat) (fun i ys n1 => ∃ n9 tn9 kt9 led, n1 = (P.KC n9 tn9 kt9 kv oc0 oc1 of) ++ P.W8 ∧ 0 ≤ n9 ∧ n9 ≤ n + i ∧ IntsAre ys led ∧ led.length = i ∧ ∀ v ∈ led, fitsB P.b v = true) H (ITR.rng H (EVr.r1 (EVx.built (v := .type "range") H (by kernel_rfl) (by decide +kernel) (by decide) rfl rfl) (EVi.of (EVx.cell (z := 2) H rfl rfl hcm rfl rfl)) (rng1_small (by omega) (by omega)) (rng1_size (by omega)))) ⟨n, tn, kt, [], rfl, hn0, by omega, .nil, rfl, fun v h => nomatch h⟩ (fun _ _ _ _ p hp => nomatch hp) ?_ (by unfold sizeLine; omega) rfl (fun lg ys n1 hJ => ?_) rfl
  · intro C' g' E' K gs i vv ys n1 T m5 h hi hJ hV S1
    obtain ⟨n9, tn9, kt9, led, rfl, b0, b1, hy, hl, hf⟩ := hJ
    obtain ⟨t, rfl⟩ := hV
    refine ⟨_, true, TGT.name K rfl, TST.nil, fun _ => ?_, fun z => nomatch z⟩
    rw [List.append_assoc]
    refine EVg.subc (k := 20) (EVg.callP (ad := 364) (a := (P.KC n9 tn9 kt9 kv oc0 oc1 of)) (T := P.W8 ++ T) [5, 6] 2 K (by decide) (EVx.glob K (by kernel_rfl) rfl rfl) (by kernel_rfl) trivial (fun _ _ _ h => h) (ARG.x (EVx.cell (z := 0) K rfl rfl hP.hct rfl rfl) (ARG.i (EVi.pow EVi.const (EVi.sub (EVi.of (EVx.cell (z := 1) K rfl rfl hcb rfl rfl)) EVi.const) hb9.1 (by omega) (by decide)) (fun t => ARG.nil (t_pulled hP.vi hP.nl b0 (by omega) hpp)) rfl) rfl) (fun v n' hv => ?_))
    obtain ⟨x, tx, tn', x0, x1, rfl, rfl⟩ := hv
    refine ⟨(P.KC (n9 + 1) tn' kt9 kv oc0 oc1 of), rfl, rfl, rfl, x, tx, rfl, fun t3 => ⟨(P.KC (n9 + 1) tn' kt9 kv oc0 oc1 of) ++ P.W8, by rw [List.append_assoc]; exact List.Sublist.refl _, n9 + 1, tn', kt9, led ++ [x - 20], rfl, by omega, by push_cast; omega, ints_snoc hy, by rw [List.length_append, hl]; rfl, fun v hv => ?_⟩, EVi.const⟩
    rcases List.mem_append.mp hv with q | q
    · exact hf v q
    · rw [List.mem_singleton.mp q]; exact fits_20 hP.hb x0 x1
  · obtain ⟨n9, tn9, kt9, led, rfl, b0, b1, hy, hl, hf⟩ := hJ
    exact hnext _ lg led ys ys.length n9 tn9 kt9 m1 rfl b0 (by omega) hy (by omega) hf
theorem law6 {P : LQ} {g : Heap} {s : Shared} {f : Addr} {cd : Value} {sc : Scope} {m : Lo} {st : List Stmt} {to : Tok} {Q : Flow → Shared → Prop} {n : Int} {tn tf : Tok} {kt kv kg : Nat} {lvs : List Value} {led : List Int} {oc0 oc1 of : Obj} {lg : Addr} (hsc : sc = lawSc) (hst : st = lawB.drop 6) (hP : P.OK) (O : OkT (lawC P.w g s P.L f cd sc) [] 20) (hi : IntsAre lvs led) (hlen : (led.length : Int) = P.M) (hfit : ∀ v ∈ led, fitsB P.b v = true) (hc0 : Chan P.w oc0 P.b (S (yOf (-1) :: octL P.b 0)) 0) (hbk : of.IsDictOf (SKw P.w) [("BANK", .str (S (txtF P.b 0 [])) tf)])
    (m1 : m (Str.ofString "octets") = some (.int (octs P.b) to)) (m2 : m (Str.ofString "ledger") = some (.ref lg))
    (hnext : ∀ m' oc0 of tf, m' (Str.ofString "octets") = some (.int (octs P.b) to) → m' (Str.ofString "ledger") = some (.ref lg) → Chan P.w oc0 P.b (S (yOf (P.M - 1) :: octL P.b (nuAt led led.length))) (P.M - 1 + 1) → of.IsDictOf (SKw P.w) [("BANK", .str (S (txtF P.b 0 led)) tf)] → RUN (lawC P.w g s P.L f cd sc) m' (((lg, lstO lvs kg)) :: (P.KC n tn kt kv oc0 oc1 of) ++ P.W8) (lawB.drop 7) Q) : RUN (lawC P.w g s P.L f cd sc) m (((lg, lstO lvs kg)) :: (P.KC n tn kt kv oc0 oc1 of) ++ P.W8) st Q := by
  (conv at hsc => rhs; whnf)
  (conv at hst => rhs; whnf)
  subst hsc hst
  have H := O.now
  have hM2 : 2 ≤ P.M ∧ P.M ≤ 4 := by rcases hP.hM with h | h | h <;> omega
  have hob := octs_pos hP.hb
  have hll := hi.length
  obtain ⟨es, kn, edO, hbits, hdig, ⟨tro, hroom⟩, hfl, hop, hfd⟩ := hP.Z.dict
  let NK : Obj → Obj → Nw := fun oc of => (lg, lstO lvs kg) :: P.KC n tn kt kv oc oc1 of
  let J9 : Nat → Lo → Nw → Prop := fun k m n5 => (m (Str.ofString "octets") = some (.int (octs P.b) to) ∧ m (Str.ofString "ledger") = some (.ref lg)) ∧ ∃ oc0' of' tf', n5 = (NK oc0' of') ++ P.W8 ∧ Chan P.w oc0' P.b (S (yOf ((k : Int) - 1) :: octL P.b (nuAt led k))) ((k : Int) - 1 + 1) ∧ of'.IsDictOf (SKw P.w) [("BANK", .str (S (txtF P.b 0 (led.take k))) tf')]
  refine RUN.for_w J9 H (ITR.enum (z := 0) (a := lg) (vs := lvs) (k := kg) H (EVx.built (v := .type "enumerate") H (by kernel_rfl) (by decide +kernel) (by decide) rfl rfl) (EVx.name H m2 rfl rfl) rfl) ⟨⟨m1, m2⟩, oc0, of, tf, rfl, (by rw [show ((0 : Nat) : Int) - 1 = -1 from rfl]; exact hc0), hbk⟩ (fun _ _ _ hJ p hp => by obtain ⟨_, _, _, _, rfl, _⟩ := hJ; rw [List.mem_singleton.mp hp]; exact List.mem_append_left _ (.head _)) (fun i T v m4 n4 h4 hk hJ hV S4 => ?_) (fun m4 n4 hJ => ?_)
  · obtain ⟨⟨l1, l2⟩, oc0', of', tf', rfl, hc0, hbk'⟩ := hJ
    obtain ⟨T9, t, xv, rfl, hv, hT⟩ := hV
    obtain ⟨x, tx, rfl, hk'⟩ := IntsAre.at hi i xv hv
    have hil : i < led.length := by rw [← hll]; exact hk
    have hfx : fitsB P.b x = true := hfit _ (List.mem_of_getElem? hk')
    have hge : led.getD i 0 = x := by rw [List.getD_eq_getElem?_getD, hk']; rfl
    have hol := octL_len (v := nuAt led i) hP.hb
    have hol2 := octL_len (v := x) hP.hb
    refine ⟨_, TGT.tup H S4 hT (TGS.cons (TGT.name H rfl) (TGS.cons (TGT.name H rfl) TGS.nil)), ?_⟩
    rw [List.append_assoc]
    refine RUN.exc (EVg.ofq (EVq.callP (ad := 152) [8] 2 O (by decide) (EVx.glob H (by kernel_rfl) rfl rfl) (by kernel_rfl) (ARGg.x (EVx.cell (z := 4) H rfl rfl hP.hcw rfl rfl) (ARGg.s EVs.const (fun _ => ARGg.s (EVs.bi (EVx.built H (by kernel_rfl) boot_chr (by decide) rfl rfl) (ARG.i (EVi.add EVi.const (EVi.of (EVx.name H rfl rfl rfl))) (fun _ => ARG.nil (b_chr (by omega) (by omega))) rfl)) (fun _ => ARGg.x EVx.bool (ARGg.nil ⟨(NK oc0' of'), _, _, _, _, rfl, rfl, (t_spN (i := false) hP.hb hc0 rfl rfl hol rfl).q, fun h S => ⟨hP.Z.wro hP.nd fun p hp => hide_mem S (List.mem_append_left _ hp), fun _ _ => trivial⟩, fun v n' hv => ?_⟩) rfl) rfl) rfl) rfl)))
    obtain ⟨rfl, oc2, hc2, rfl⟩ := hv
    refine ⟨(NK oc2 of'), rfl, rfl, rfl, ?_⟩
    refine RUN.exc (EVg.ofq (EVq.callP (ad := 152) [8] 2 O (by decide) (EVx.glob H (by kernel_rfl) rfl rfl) (by kernel_rfl) (ARGg.x (EVx.cell (z := 4) H rfl rfl hP.hcw rfl rfl) (ARGg.s EVs.const (fun _ => ARGg.s (EVs.ofg (EVg.sub (EVg.ofq (EVq.callP (P := fun v n' => (∃ t, v = .str (S (octL P.b x)) t) ∧ ∃ l o, n' = (l, o) :: (NK oc2 of') ++ (P.W8 ++ T)) (ad := 328) [0] 3 O (by decide) (EVx.glob H (by kernel_rfl) rfl rfl) (by kernel_rfl) (ARGg.x (EVx.cell (z := 4) H rfl rfl hP.hcw rfl rfl) (ARGg.gc (EVg.lstc (ARGg.x (EVx.name H rfl rfl rfl) (ARGg.nil ⟨rfl, fun l => ARGg.nil ⟨(l, lstO [.int x tx] 0) :: (NK oc2 of'), _, _, _, _, rfl, rfl, (t_mki hP.hb hfx).q, fun h S => ⟨hP.Z.wro hP.nd fun p hp => hide_mem S (List.mem_append_left _ hp), fun _ _ => trivial⟩, fun v n' hv => by obtain ⟨⟨t, rfl⟩, rfl⟩ := hv; exact ⟨(l, lstO [.int x tx] 0) :: (NK oc2 of'), rfl, rfl, rfl, ⟨t, rfl⟩, l, _, rfl⟩⟩⟩) rfl)) rfl) rfl))) fun v n' hv => by obtain ⟨hv, l, ol, rfl⟩ := hv; exact ⟨_, List.sublist_cons_self _ _, hv, rfl⟩)) (fun _ => ARGg.x EVx.bool (ARGg.nil ⟨(NK oc2 of'), _, _, _, _, rfl, rfl, (t_spM (i := false) hP.hb hc2 rfl rfl hol rfl hol2).q, fun h S => ⟨hP.Z.wro hP.nd fun p hp => hide_mem S (List.mem_append_left _ hp), fun _ _ => trivial⟩, fun v n' hv => ?_⟩) rfl) rfl) rfl) rfl)))
    obtain ⟨rfl, oc3, hc3, rfl⟩ := hv
    refine ⟨(NK oc3 of'), rfl, rfl, rfl, ?_⟩
    refine RUN.exc (EVg.ofq (EVq.callP (ad := 173) [8, 10] 2 O (by decide) (EVx.glob H (by kernel_rfl) rfl rfl) (by kernel_rfl) (ARGg.x (EVx.cell (z := 4) H rfl rfl hP.hcw rfl rfl) (ARGg.i EVi.const (fun _ => ARGg.x EVx.none (ARGg.x (EVx.attr (z1 := 12) (z2 := 13) H (EVx.cell (z := 4) H rfl rfl hP.hcw rfl rfl) rfl (show _ = some (P.a.d, dictOf es kn) from edO ▸ rfl) hroom (by kernel_rfl) (by kernel_rfl) (by kernel_rfl)) (ARGg.nil ⟨(NK oc3 of'), _, _, _, _, rfl, rfl, (t_put_0 (i := false) hP.hb hc3 hbk' (by omega) (by omega) rfl (text_lt hP.hb (by rw [List.length_take]; omega)) rfl (by rw [List.length_cons]; push_cast; omega) (put_in hP.hb (Nat.le_of_lt hil)) (by rw [hP.room]; exact put_room hP.hb hil hlen)).q, fun h S => ⟨hP.Z.wro hP.nd fun p hp => hide_mem S (List.mem_append_left _ hp), fun _ _ => trivial⟩, fun v n' hv => ?_⟩) rfl) rfl) rfl) rfl)))
    obtain ⟨rfl, oc4, of4, hc4, ⟨t4, hb4⟩, rfl⟩ := hv
    refine ⟨(NK oc4 of4), rfl, rfl, rfl, ?_⟩
    have e65 : (65 + (i : Int)).toNat = 65 + i := rfl
    rw [e65] at hc4 hb4
    refine RUN.turnW (n2 := (NK oc4 of4) ++ P.W8) (by rw [List.append_assoc]; exact List.Sublist.refl _) ⟨⟨l1, l2⟩, oc4, of4, t4, rfl, ?_, ?_⟩
    · have e1 : yOf (((i + 1 : Nat) : Int) - 1) = 65 + i := by rw [show ((i + 1 : Nat) : Int) - 1 = (i : Int) from Int.add_sub_cancel (i : Int) 1, yOf_pos (by omega)]; rfl
      have e2 : nuAt led (i + 1) = x := hge
      have e3 : ((i + 1 : Nat) : Int) - 1 + 1 = (i : Int) - 1 + 1 + 1 := (Int.sub_add_cancel ((i : Int) + 1) 1).trans (congrArg (· + 1) (Int.sub_add_cancel (i : Int) 1).symm)
      rw [e1, e2, e3]
      exact hc4
    · have hgt : led.take (i + 1) = led.take i ++ [x] := by rw [List.take_add_one, hk']; rfl
      have := txtF_snoc (b := P.b) (v := x) (k := 0) (l := led.take i)
      rw [hgt, this, Nat.zero_add, List.length_take, Nat.min_eq_left (Nat.le_of_lt hil)]
      exact hb4
  · obtain ⟨⟨l1, l2⟩, oc0', of', tf', rfl, hc0, hbk'⟩ := hJ
    rw [hll, List.take_length] at hbk'
    rw [hll, hlen] at hc0
    exact hnext m4 oc0' of' tf' l1 l2 hc0 hbk'
end Mine
end
section
open PySem PySem.W PySem.Calls PyProof.Rows
namespace Mine
theorem PRS.perm {c : Cx} {m : Lo} {n n2 : Nw} {keys : List (Option PySem.Expr)} {values : List PySem.Expr} {P : Nw → List (Str × Value) → Prop} (q : n2.Perm n) (h : PRS c m n2 keys values P) : PRS c m n keys values P := fun pos h0 k Q S => h pos h0 k Q (S.perm q)
theorem PRS.consc {c : Cx} {m : Lo} {n : Nw} {x : Str} {j : Nat} {p : Pos} {e : PySem.Expr} {keys : List (Option PySem.Expr)} {values : List PySem.Expr} {P : Nw → List (Str × Value) → Prop} (he : EVg c m n e fun v n1 => PRS c m n1 keys values fun n' l => P n' ((x, v) :: l)) :
    PRS c m n (some (.Constant (.str x) j p) :: keys) (e :: values) P := PRS.cons he (fun _ _ h => h)
theorem bank_nd : ([Str.ofString "ledger", Str.ofString "clerks", Str.ofString "held"] : List Str).Nodup := by decide +kernel
theorem neg_led {k : Nat} (h : 0 < k) : seqIndex? (-1) k = some (k - 1) := by
  obtain ⟨j, rfl⟩ : ∃ j, k = j + 1 := ⟨k - 1, by omega⟩
  exact neg_last
theorem law7 {P : LQ} {g : Heap} {s : Shared} {f : Addr} {cd : Value} {sc : Scope} {m : Lo} {st : List Stmt} {to : Tok} {Q : Flow → Shared → Prop} {n : Int} {tn tf : Tok} {kt kv kg : Nat} {lvs : List Value} {led : List Int} {oc0 oc1 of : Obj} {lg : Addr} (hsc : sc = lawSc) (hst : st = lawB.drop 7) (hP : P.OK) (O : OkT (lawC P.w g s P.L f cd sc) [] 20) (hn0 : 0 ≤ n) (hn1 : n < 30) (hi : IntsAre lvs led) (hlen : (led.length : Int) = P.M) (hfit : ∀ v ∈ led, fitsB P.b v = true) (hc0 : Chan P.w oc0 P.b (S (yOf (P.M - 1) :: octL P.b (nuAt led led.length))) (P.M - 1 + 1)) (hc1 : Chan P.w oc1 P.b (S (yOf (-1) :: octL P.b 0)) 0) (hbk : of.IsDictOf (SKw P.w) [("BANK", .str (S (txtF P.b 0 led)) tf)])
    (m1 : m (Str.ofString "octets") = some (.int (octs P.b) to)) (m2 : m (Str.ofString "ledger") = some (.ref lg))
    (hnext : ∀ (P' : LQ) m' N', P'.w = P.w → P'.L = P.L → P'.b = P.b → P'.OK → J9 P' 30 N' → m' (Str.ofString "octets") = some (.int (octs P'.b) to) → m' (Str.ofString "ledger") = some (.ref P'.A.lg) → m' (Str.ofString "bank") = some (.ref P'.A.bk) → RUN (lawC P.w g s P.L f cd sc) m' N' (lawB.drop 9) Q) : RUN (lawC P.w g s P.L f cd sc) m ((((lg, lstO lvs kg)) :: (P.KC n tn kt kv oc0 oc1 of)) ++ P.W8) st Q := by
  (conv at hsc => rhs; whnf)
  (conv at hst => rhs; whnf)
  subst hsc hst
  have H := O.now
  obtain ⟨tm, hcm⟩ := hP.hcm
  have hM2 : 2 ≤ P.M ∧ P.M ≤ 4 := by rcases hP.hM with h | h | h <;> omega
  have hll := hi.length
  have hpos : 0 < led.length := by omega
  have hsi : seqIndex? (-1) lvs.length = some (led.length - 1) := by rw [hll]; exact neg_led hpos
  obtain ⟨tl, hl0⟩ := ints_get hi (k := led.length - 1) (by omega)
  have hlast : lvs[led.length - 1]? = some (.int (nuAt led led.length) tl) := by
    rw [hl0, ← nu_last hpos, neg_nat hpos]
  let X2 : Nw := (lg, lstO lvs kg) :: (P.KC n tn kt kv oc0 oc1 of)
  show RUN _ m (X2 ++ P.W8) _ _
  refine RUN.let_gc H rfl (EVg.dictS H fun d o => ?_)
  refine PRS.consc (EVg.xc (EVx.name H m2 rfl rfl) ?_)
  refine PRS.consc (EVg.lstc (ARGg.gc (EVg.lstc (ARGg.i EVi.const (fun a0 => ARGg.i EVi.const (fun a1 => ARGg.i EVi.const (fun a2 => ARGg.i EVi.const (fun a3 => ARGg.i EVi.const (fun a4 => ARGg.nil ⟨rfl, fun kl0 => ?_⟩) rfl) rfl) rfl) rfl) rfl)) rfl))
  refine ARGg.gc (EVg.lstc (ARGg.i EVi.const (fun b0 => ARGg.i EVi.const (fun b1 => ARGg.i EVi.const (fun b2 => ARGg.i EVi.const (fun b3 => ARGg.i EVi.const (fun b4 => ARGg.nil ⟨rfl, fun kl1 => ARGg.nil ⟨rfl, fun ck => ?_⟩⟩) rfl) rfl) rfl) rfl) rfl)) rfl
  refine PRS.consc (EVg.lstc (ARGg.gc (EVg.tupc (ARGg.i (EVi.sub (EVi.of (EVx.cell (z := 7) H rfl rfl hcm rfl rfl)) EVi.const) (fun t1 => ARGg.x (EVx.lneg (i := 4) (EVx.name H m2 rfl rfl) (EVi.neg EVi.const) rfl (by decide) (by decide) (j := led.length - 1) hsi hlast) (ARGg.nil ⟨rfl, fun p0 => ?_⟩) rfl) rfl)) rfl))
  refine ARGg.gc (EVg.tupc (ARGg.i (EVi.sub EVi.const EVi.const) (fun t3 => ARGg.i EVi.const (fun t4 => ARGg.nil ⟨rfl, fun p1 => ARGg.nil ⟨rfl, fun hl => ?_⟩⟩) rfl) rfl)) rfl
  let E6 : Nw := [(hl, lstO [.ref p0, .ref p1] 0), (p1, tupO [.int (0 - 1) t3, .int 0 t4] 0), (p0, tupO [.int (P.M - 1) t1, .int (nuAt led led.length) tl] 0), (ck, lstO [.ref kl0, .ref kl1] 0), (kl1, lstO [.int 0 b0, .int 0 b1, .int 0 b2, .int 0 b3, .int 0 b4] 0), (kl0, lstO [.int 0 a0, .int 0 a1, .int 0 a2, .int 0 a3, .int 0 a4] 0)]
  refine PRS.perm (n2 := (d, o) :: (E6 ++ (X2 ++ P.W8))) (List.perm_middle (l₁ := E6) (l₂ := X2 ++ P.W8)).symm (PRS.nil ⟨bank_nd, _, rfl, fun o' hd => ?_⟩)
  intro m3
  refine RUN.unpc H (ARGg.gc (EVg.sum H (EVx.built H (by kernel_rfl) boot_sum (by decide) rfl rfl) (EVg.xc (EVx.name H m2 rfl rfl) ⟨lg, lvs, led, kg, 7, rfl, rfl, hi, fun s1 => ARGg.i EVi.const (fun s2 => ARGg.nil ⟨rfl, TAS.cons (TGA.ditem (z := 0) (EVx.name H rfl rfl rfl) EVs.const rfl hd (Nat.le_of_ble_eq_true rfl) fun o1 hd1 => TAS.cons (TGA.ditem (z := 0) (EVx.name H rfl rfl rfl) EVs.const rfl hd1 (Nat.le_of_ble_eq_true rfl) fun o2 hd2 => TAS.nil ?_))⟩) rfl⟩) (fun _ _ h => h)) rfl)
  show RUN _ _ ((((d, o2) :: E6) ++ X2) ++ P.W8) _ _
  refine RUN.perm (n2 := sel [8, 9, 10, 11, 12, 13, 14, 6, 5, 7, 4, 1, 0, 3, 2, 15, 16, 17, 18] (((d, o2) :: E6) ++ X2) ++ ([] ++ P.W8)) (sel_app (T := P.W8) 19 (by decide) rfl) ?_
  have hfl : fitsB P.b (nuAt led led.length) = true := by
    obtain ⟨k, hk⟩ : ∃ k, led.length = k + 1 := ⟨led.length - 1, by omega⟩
    rw [hk]
    show fitsB P.b (led.getD k 0) = true
    rw [List.getD_eq_getElem?_getD, List.getElem?_eq_getElem (by omega)]
    exact hfit _ (List.getElem_mem _)
  refine hnext { P with f0 := led.sum, A := ⟨P.A.tr, P.A.sc, lg, ck, hl, d, fun k => cond k kl1 kl0⟩ } _ _ rfl rfl rfl ⟨hP.hb, hP.Z, hP.room, hP.vi, hP.nl, hP.nd, hP.hct, hP.hcb, hP.hcm, hP.hcw, hP.hcs, hP.hM⟩ ⟨n, 0, tn, s1, s2, tf, kt, kv, kg, 0, 0, _, _, _, _, oc0, oc1, of, o2, lvs, led, p0, p1, #[], [], rfl, ⟨hn0, by omega⟩, hi, ⟨by omega, by omega, hfit⟩, hlen, ?_, ?_, hd2, hbk, ⟨trivial, fun pos cv e => nomatch e⟩, (Int.sub_zero _).symm⟩ m1 m2 rfl
  · exact ⟨0, 0, 0, 0, 0, P.M - 1, _, a0, a1, a2, a3, a4, t1, tl, 0, 0, rfl, rfl, cl_0, .inr ⟨by omega, by omega, hfl⟩, hc0⟩
  · exact ⟨0, 0, 0, 0, 0, 0 - 1, 0, b0, b1, b2, b3, b4, t3, t4, 0, 0, rfl, rfl, cl_0, .inl ⟨rfl, rfl⟩, hc1⟩
end Mine
end
section
open PySem PySem.W PySem.Calls PyProof.Rows
namespace Mine
noncomputable def MB (L : Addr) (oct ocb ocm ocw ocs : Obj) (tr : Addr) (trO : Obj) (sx : Addr) (sxO tabO : Obj) : Nw := [(L + 1, oct), (L + 1 + 1, ocb), (L + 1 + 1 + 1, ocm), (L + 1 + 1 + 1 + 1, ocw), (L + 1 + 1 + 1 + 1 + 1, ocs), (tr, trO), (sx, sxO), (409, tabO)]
noncomputable def M0 (BB : Nw) (x dx : Addr) (es : List DictEntry) (k : Nat) (fl op fd : Addr) (o1 o2 o3 : Obj) : Nw := ((x, instObj 353 dx) :: (dx, dictOf es k) :: (fl, o1) :: (op, o2) :: (fd, o3) :: BB)
noncomputable def M1 (BB : Nw) (x dx : Addr) (es : List DictEntry) (k : Nat) (fl op fd : Addr) (o1 o2 o3 : Obj) (c0 : Addr) (oc0 : Obj) (p0 : Addr) (tp0 : Obj) (q0 : Addr) (tq0 : Obj) : Nw := ((x, instObj 353 dx) :: (dx, dictOf es k) :: (fl, o1) :: (op, o2) :: (fd, o3) :: (c0, oc0) :: (p0, tp0) :: (q0, tq0) :: BB)
noncomputable def M2 (BB : Nw) (x dx : Addr) (es : List DictEntry) (k : Nat) (fl op fd : Addr) (o1 o2 o3 : Obj) (c0 : Addr) (oc0 : Obj) (p0 : Addr) (tp0 : Obj) (q0 : Addr) (tq0 : Obj) (c1 : Addr) (oc1 : Obj) (p1 : Addr) (tp1 : Obj) (q1 : Addr) (tq1 : Obj) : Nw := ((x, instObj 353 dx) :: (dx, dictOf es k) :: (fl, o1) :: (op, o2) :: (fd, o3) :: (c0, oc0) :: (p0, tp0) :: (q0, tq0) :: (c1, oc1) :: (p1, tp1) :: (q1, tq1) :: BB)
inductive MJ0 (w : World) (BB : Nw) (x dx : Addr) (es : List DictEntry) (k : Nat) (fl op fd : Addr) (n : Nw) : Prop
  | mk (o1 o2 o3 : Obj) (e : n = (M0 BB x dx es k fl op fd o1 o2 o3)) (h0 : o1.IsDictOf (SKw w) []) (h1 : o2.IsDictOf (IKw w) []) (h2 : o3.IsDictOf (SKw w) []) : MJ0 w BB x dx es k fl op fd n
inductive MJ1 (w : World) (b : Int) (BB : Nw) (x dx : Addr) (es : List DictEntry) (k : Nat) (fl op fd : Addr) (n : Nw) : Prop
  | mk (c0 p0 q0 : Addr) (oc0 tp0 tq0 : Obj) (o1 o2 o3 : Obj) (e : n = (M1 BB x dx es k fl op fd o1 o2 o3 c0 oc0 p0 tp0 q0 tq0)) (h0 : (∃ tz, o1.IsDictOf (SKw w) [((Str.ofString "BANK"), .str (Str.ofString "") tz)])) (h1 : o2.IsDictOf (IKw w) [(1, .ref c0)]) (h2 : o3.IsDictOf (SKw w) [((Str.ofString "N1$"), .ref p0), ((Str.ofString "M1$"), .ref q0)]) (h3 : Chan w oc0 b (S (yOf (-1) :: octL b 0)) 0) (h4 : (∃ t1 t2 t3 k, tp0 = tupO [.int 1 t1, .int 0 t2, .int 1 t3] k)) (h5 : (∃ t1 t2 t3 k, tq0 = tupO [.int 1 t1, .int 1 t2, .int (octs b) t3] k)) : MJ1 w b BB x dx es k fl op fd n
inductive MJ2 (w : World) (b : Int) (BB : Nw) (x dx : Addr) (es : List DictEntry) (k : Nat) (fl op fd : Addr) (n : Nw) : Prop
  | mk (c0 p0 q0 : Addr) (oc0 tp0 tq0 : Obj) (c1 p1 q1 : Addr) (oc1 tp1 tq1 : Obj) (o1 o2 o3 : Obj) (e : n = (M2 BB x dx es k fl op fd o1 o2 o3 c0 oc0 p0 tp0 q0 tq0 c1 oc1 p1 tp1 q1 tq1)) (h0 : (∃ tz, o1.IsDictOf (SKw w) [((Str.ofString "BANK"), .str (Str.ofString "") tz)])) (h1 : o2.IsDictOf (IKw w) [(1, .ref c0), (2, .ref c1)]) (h2 : o3.IsDictOf (SKw w) [((Str.ofString "N1$"), .ref p0), ((Str.ofString "M1$"), .ref q0), ((Str.ofString "N2$"), .ref p1), ((Str.ofString "M2$"), .ref q1)]) (h3 : Chan w oc0 b (S (yOf (-1) :: octL b 0)) 0) (h4 : (∃ t1 t2 t3 k, tp0 = tupO [.int 1 t1, .int 0 t2, .int 1 t3] k)) (h5 : (∃ t1 t2 t3 k, tq0 = tupO [.int 1 t1, .int 1 t2, .int (octs b) t3] k)) (h6 : Chan w oc1 b (S (yOf (-1) :: octL b 0)) 0) (h7 : (∃ t1 t2 t3 k, tp1 = tupO [.int 2 t1, .int 0 t2, .int 1 t3] k)) (h8 : (∃ t1 t2 t3 k, tq1 = tupO [.int 2 t1, .int 1 t2, .int (octs b) t3] k)) : MJ2 w b BB x dx es k fl op fd n
theorem law4 {w : World} {g : Heap} {s : Shared} {L f : Addr} {cd : Value} {sc : Scope} {m : Lo} {st : List Stmt} {to tb td : Tok} {Q : Flow → Shared → Prop} {x dx fl op fd tr sx : Addr} {es : List DictEntry} {k : Nat} {o1 o2 o3 oct ocb ocm ocw ocs trO sxO tabO : Obj} {b room : Int} (hsc : sc = lawSc) (hst : st = lawB.drop 4) (O : OkT (lawC w g s L f cd sc) [] 20) (hb : BITS b)
    (g1 : ∃ t, getL "bits" es = some (some (.int b t))) (g2 : ∃ t, getL "digits" es = some (some (.int 9 t))) (g3 : ∃ t, getL "room" es = some (some (.int room t))) (hf : getL "files" es = some (some (.ref fl))) (ho : getL "open" es = some (some (.ref op))) (hfd : getL "fields" es = some (some (.ref fd))) (lf : (fl == sysModules) = false) (lo : (op == sysModules) = false) (ld : (fd == sysModules) = false) (e1 : o1.IsDictOf (SKw w) []) (e2 : o2.IsDictOf (IKw w) []) (e3 : o3.IsDictOf (SKw w) [])
    (hw : ocw.data = .cell (some (.ref x))) (m1 : m (Str.ofString "octets") = some (.int (octs b) to))
    (hnext : ∀ m' (a : WAddr) dO oO fO tp0 tq0 tp1 tq1 oc0 oc1 of tf, m' (Str.ofString "octets") = some (.int (octs b) to) → a.w = x → a.all.Nodup → WObjs w a b room dO oO fO tp0 tq0 tp1 tq1 → Chan w oc0 b (S (yOf (-1) :: octL b 0)) 0 → Chan w oc1 b (S (yOf (-1) :: octL b 0)) 0 → of.IsDictOf (SKw w) [("BANK", .str (S (txtF b 0 [])) tf)] → RUN (lawC w g s L f cd sc) m' ([(L + 1, oct), (L + 1 + 1, ocb), (L + 1 + 1 + 1, ocm), (L + 1 + 1 + 1 + 1, ocw), (L + 1 + 1 + 1 + 1 + 1, ocs), (tr, trO), (sx, sxO), (a.c false, oc0), (a.c true, oc1), (a.fl, of), (409, tabO)] ++ W8 a dO oO fO tp0 tq0 tp1 tq1) (lawB.drop 5) Q) : RUN (lawC w g s L f cd sc) m (M0 (MB L oct ocb ocm ocw ocs tr trO sx sxO tabO) x dx es k fl op fd o1 o2 o3) st Q := by
  (conv at hsc => rhs; whnf)
  (conv at hst => rhs; whnf)
  subst hsc hst
  have H := O.now
  have hob := octs_pos hb
  let BB : Nw := MB L oct ocb ocm ocw ocs tr trO sx sxO tabO
  let F0 : Nw → Prop := MJ0 w BB x dx es k fl op fd
  let F1 : Nw → Prop := MJ1 w b BB x dx es k fl op fd
  let F2 : Nw → Prop := MJ2 w b BB x dx es k fl op fd
  let J10 : Nat → Lo → Nw → Prop := fun k9 m n => match k9 with
      | 0 => m (Str.ofString "octets") = some (.int (octs b) to) ∧ F0 n
      | 1 => m (Str.ofString "octets") = some (.int (octs b) to) ∧ F1 n
      | _ => m (Str.ofString "octets") = some (.int (octs b) to) ∧ F2 n
  refine RUN.for_w (N := 2) J10 H (ITR.tupg (N := 2) (V := fun vs => ∃ ta tb, vs = [.int 1 ta, .int 2 tb]) H (EVg.tup (P := fun n' vs => n' = _ ∧ ∃ ta tb, vs = [.int 1 ta, .int 2 tb]) (ARGg.i EVi.const (fun ta => ARGg.i EVi.const (fun tb => ARGg.nil ⟨rfl, ta, tb, rfl⟩) rfl) rfl) fun n' vs hv => by obtain ⟨rfl, ta, tb, rfl⟩ := hv; exact ⟨Nat.le_of_ble_eq_true rfl, fun D => ⟨D, _, 0, rfl, rfl, rfl, ta, tb, rfl⟩⟩)) ⟨m1, o1, o2, o3, rfl, e1, e2, e3⟩ (fun _ _ _ _ p hp => nomatch hp) (fun k9 T v m4 n4 h4 hk hJ hV S4 => ?_) (fun m4 n4 hJ => ?_)
  · obtain rfl | rfl : k9 = 0 ∨ k9 = 1 := by omega
    · clear e1 e2 e3
      clear o1 o2 o3
      obtain ⟨l1, o1, o2, o3, rfl, f1, f2, f3⟩ := hJ
      obtain ⟨vs, ⟨ta, tb, rfl⟩, hx⟩ := hV
      obtain rfl : v = .int 1 ta := by simpa using hx.symm
      refine ⟨_, TGT.name H rfl, ?_⟩
      refine RUN.ex (EVg.callT (ad := 105) [0, 1, 2, 3] 2 H (by decide) (EVx.glob H (by kernel_rfl) rfl rfl) (by kernel_rfl) trivial (fun _ _ _ h => h) (ARG.x (EVx.cell (z := 8) H rfl rfl hw rfl rfl) (ARG.s EVs.const (fun _ => ARG.i (EVi.eq (EVi.of (EVx.name H rfl rfl rfl)) (show _ = 1 from rfl)) (fun _ => ARG.s EVs.const (fun _ => ARG.i (EVi.add (EVi.of (EVx.name H l1 rfl rfl)) EVi.const) (fun _ => ARG.nil (t_open0 hb ho hf lo lf f2 f1)) rfl) rfl) rfl) rfl) rfl)) fun v n5 hv => ?_
      obtain ⟨n6, ⟨rfl, ch, oc, fl1, op1, tz, hch, hfl1, hop1, rfl⟩, rfl⟩ := hv
      let N1 : Nw := (ch, oc) :: (x, instObj 353 dx) :: (dx, dictOf es k) :: (fl, fl1) :: (op, op1) :: (fd, o3) :: BB
      show RUN _ _ (N1 ++ T) _ _
      refine RUN.exc (EVg.ofq (EVq.callM (ad := 131) 2 O (by decide) (EVx.glob H (by kernel_rfl) rfl rfl) (by kernel_rfl) (ARGg.x (EVx.cell (z := 9) H rfl rfl hw rfl rfl) (ARGg.i (EVi.eq (EVi.of (EVx.name H rfl rfl rfl)) (show _ = 1 from rfl)) (fun tcc => ARGg.gc (EVg.lstc (ARGg.gc (EVg.tupc (ARGg.i EVi.const (fun s1 => ARGg.s (EVs.eq (EVs.add (EVs.add EVs.const (EVs.stri (EVx.built (v := .type "str") H (by kernel_rfl) (by decide +kernel) (by decide) rfl rfl) (EVi.of (EVx.name H rfl rfl rfl)) (by decide) (u := chS false) (by decide +kernel)) (by decide +kernel)) EVs.const (by decide +kernel)) (by decide +kernel : _ = (Str.ofString "N1$"))) (fun s2 => ARGg.nil ⟨rfl, fun a1 => ?_⟩) rfl) rfl)) rfl)) rfl) rfl) rfl)))
      refine ARGg.gc (EVg.tupc (ARGg.i (EVi.of (EVx.name H l1 rfl rfl)) (fun s3 => ARGg.s (EVs.eq (EVs.add (EVs.add EVs.const (EVs.stri (EVx.built (v := .type "str") H (by kernel_rfl) (by decide +kernel) (by decide) rfl rfl) (EVi.of (EVx.name H rfl rfl rfl)) (by decide) (u := chS false) (by decide +kernel)) (by decide +kernel)) EVs.const (by decide +kernel)) (by decide +kernel : _ = (Str.ofString "M1$"))) (fun s4 => ARGg.nil ⟨rfl, fun a2 => ARGg.nil ⟨rfl, fun pl => ?_⟩⟩) rfl) rfl)) rfl
      refine ARGg.nil ⟨[(x, instObj 353 dx), (dx, dictOf es k), (op, op1), (fd, o3), (pl, lstO [.ref a1, .ref a2] 0), (a1, tupO [.int 1 s1, .str (Str.ofString "N1$") s2] 0), (a2, tupO [.int (octs b) s3, .str (Str.ofString "M1$") s4] 0), (ch, oc)], ((fl, fl1) :: BB) ++ T, _, _, _, (sel_app (is := [4, 5, 7, 8, 0, 2, 1, 3, 6, 9, 10, 11, 12, 13, 14, 15, 16]) (a := ((pl, lstO [.ref a1, .ref a2] 0) :: (a2, tupO [.int (octs b) s3, .str (Str.ofString "M1$") s4] 0) :: (a1, tupO [.int 1 s1, .str (Str.ofString "N1$") s2] 0) :: N1)) (T := T) 17 (by decide) rfl).symm, (t_setf (kv1 := [(1, .ref ch)]) (kvs := []) hb ho hfd lo hop1 rfl f3 hch (Nat.le_of_ble_eq_true rfl) (fun _ => Nat.le_of_ble_eq_true rfl)).q, fun h S => ⟨trivial, fun _ _ => trivial⟩, fun v n' hv => ?_⟩
      obtain ⟨rfl, p, q, fd1, t1, t2, t3, t4, hd5, rfl⟩ := hv
      exact ⟨_, sel_app (is := [2, 3, 7, 4, 6, 5, 1, 0, 8, 9, 10, 11, 12, 13, 14, 15]) (a := [(q, tupO [.int 1 t3, .int 1 t4, .int (octs b) s3] 0), (p, tupO [.int 1 t1, .int 0 t2, .int 1 s1] 0), (x, instObj 353 dx), (dx, dictOf es k), (op, op1), (ch, oc), (fd, fd1)] ++ ((fl, fl1) :: BB)) (T := T) 16 (by decide) rfl, RUN.turnW (n2 := M1 BB x dx es k fl op fd fl1 op1 fd1 ch oc p (tupO [.int 1 t1, .int 0 t2, .int 1 s1] 0) q (tupO [.int 1 t3, .int 1 t4, .int (octs b) s3] 0)) (List.Sublist.refl _) ⟨l1, ch, p, q, oc, _, _, fl1, op1, fd1, rfl, ⟨tz, hfl1⟩, hop1, hd5, hch, ⟨t1, t2, s1, 0, rfl⟩, ⟨t3, t4, s3, 0, rfl⟩⟩⟩

    · clear e1 e2 e3
      clear o1 o2 o3
      obtain ⟨l1, c0, p0, q0, oc0, tp0, tq0, o1, o2, o3, rfl, ⟨tzz, f1⟩, f2, f3, fc, ft, fq⟩ := hJ
      obtain ⟨vs, ⟨ta, tb, rfl⟩, hx⟩ := hV
      obtain rfl : v = .int 2 tb := by simpa using hx.symm
      refine ⟨_, TGT.name H rfl, ?_⟩
      refine RUN.ex (EVg.callT (ad := 105) [0, 1, 2, 3, 5] 2 H (by decide) (EVx.glob H (by kernel_rfl) rfl rfl) (by kernel_rfl) trivial (fun _ _ _ h => h) (ARG.x (EVx.cell (z := 11) H rfl rfl hw rfl rfl) (ARG.s EVs.const (fun _ => ARG.i (EVi.eq (EVi.of (EVx.name H rfl rfl rfl)) (show _ = 2 from rfl)) (fun _ => ARG.s EVs.const (fun _ => ARG.i (EVi.add (EVi.of (EVx.name H l1 rfl rfl)) EVi.const) (fun _ => ARG.nil (t_open1 hb ho hf lo lf f2 f1 fc)) rfl) rfl) rfl) rfl) rfl)) fun v n5 hv => ?_
      obtain ⟨n6, ⟨rfl, ch, oc, fl1, op1, tz, hch, hfl1, hop1, rfl⟩, rfl⟩ := hv
      let N1 : Nw := (ch, oc) :: (x, instObj 353 dx) :: (dx, dictOf es k) :: (fl, fl1) :: (op, op1) :: (c0, oc0) :: (fd, o3) :: (p0, tp0) :: (q0, tq0) :: BB
      show RUN _ _ (N1 ++ T) _ _
      refine RUN.exc (EVg.ofq (EVq.callM (ad := 131) 2 O (by decide) (EVx.glob H (by kernel_rfl) rfl rfl) (by kernel_rfl) (ARGg.x (EVx.cell (z := 12) H rfl rfl hw rfl rfl) (ARGg.i (EVi.eq (EVi.of (EVx.name H rfl rfl rfl)) (show _ = 2 from rfl)) (fun tcc => ARGg.gc (EVg.lstc (ARGg.gc (EVg.tupc (ARGg.i EVi.const (fun s1 => ARGg.s (EVs.eq (EVs.add (EVs.add EVs.const (EVs.stri (EVx.built (v := .type "str") H (by kernel_rfl) (by decide +kernel) (by decide) rfl rfl) (EVi.of (EVx.name H rfl rfl rfl)) (by decide) (u := chS true) (by decide +kernel)) (by decide +kernel)) EVs.const (by decide +kernel)) (by decide +kernel : _ = (Str.ofString "N2$"))) (fun s2 => ARGg.nil ⟨rfl, fun a1 => ?_⟩) rfl) rfl)) rfl)) rfl) rfl) rfl)))
      refine ARGg.gc (EVg.tupc (ARGg.i (EVi.of (EVx.name H l1 rfl rfl)) (fun s3 => ARGg.s (EVs.eq (EVs.add (EVs.add EVs.const (EVs.stri (EVx.built (v := .type "str") H (by kernel_rfl) (by decide +kernel) (by decide) rfl rfl) (EVi.of (EVx.name H rfl rfl rfl)) (by decide) (u := chS true) (by decide +kernel)) (by decide +kernel)) EVs.const (by decide +kernel)) (by decide +kernel : _ = (Str.ofString "M2$"))) (fun s4 => ARGg.nil ⟨rfl, fun a2 => ARGg.nil ⟨rfl, fun pl => ?_⟩⟩) rfl) rfl)) rfl
      refine ARGg.nil ⟨[(x, instObj 353 dx), (dx, dictOf es k), (op, op1), (fd, o3), (pl, lstO [.ref a1, .ref a2] 0), (a1, tupO [.int 1 s1, .str (Str.ofString "N2$") s2] 0), (a2, tupO [.int (octs b) s3, .str (Str.ofString "M2$") s4] 0), (ch, oc)], ((fl, fl1) :: (c0, oc0) :: (p0, tp0) :: (q0, tq0) :: BB) ++ T, _, _, _, (sel_app (is := [4, 5, 7, 9, 0, 2, 1, 3, 6, 8, 10, 11, 12, 13, 14, 15, 16, 17, 18, 19]) (a := ((pl, lstO [.ref a1, .ref a2] 0) :: (a2, tupO [.int (octs b) s3, .str (Str.ofString "M2$") s4] 0) :: (a1, tupO [.int 1 s1, .str (Str.ofString "N2$") s2] 0) :: N1)) (T := T) 20 (by decide) rfl).symm, (t_setf (kv1 := [(1, .ref c0), (2, .ref ch)]) (kvs := [((Str.ofString "N1$"), .ref p0), ((Str.ofString "M1$"), .ref q0)]) hb ho hfd lo hop1 rfl f3 hch (Nat.le_of_ble_eq_true rfl) (fun _ => Nat.le_of_ble_eq_true rfl)).q, fun h S => ⟨trivial, fun _ _ => trivial⟩, fun v n' hv => ?_⟩
      obtain ⟨rfl, p, q, fd1, t1, t2, t3, t4, hd5, rfl⟩ := hv
      exact ⟨_, sel_app (is := [2, 3, 7, 4, 6, 8, 9, 10, 5, 1, 0, 11, 12, 13, 14, 15, 16, 17, 18]) (a := [(q, tupO [.int 2 t3, .int 1 t4, .int (octs b) s3] 0), (p, tupO [.int 2 t1, .int 0 t2, .int 1 s1] 0), (x, instObj 353 dx), (dx, dictOf es k), (op, op1), (ch, oc), (fd, fd1)] ++ ((fl, fl1) :: (c0, oc0) :: (p0, tp0) :: (q0, tq0) :: BB)) (T := T) 19 (by decide) rfl, RUN.turnW (n2 := M2 BB x dx es k fl op fd fl1 op1 fd1 c0 oc0 p0 tp0 q0 tq0 ch oc p (tupO [.int 2 t1, .int 0 t2, .int 1 s1] 0) q (tupO [.int 2 t3, .int 1 t4, .int (octs b) s3] 0)) (List.Sublist.refl _) ⟨l1, c0, p0, q0, oc0, tp0, tq0, ch, p, q, oc, _, _, fl1, op1, fd1, rfl, ⟨tz, hfl1⟩, hop1, hd5, fc, ft, fq, hch, ⟨t1, t2, s1, 0, rfl⟩, ⟨t3, t4, s3, 0, rfl⟩⟩⟩

  · obtain ⟨l1, c0, p0, q0, oc0, tp0, tq0, c1, p1, q1, oc1, tp1, tq1, o1, o2, o3, rfl, ⟨tz, h1⟩, h2, h3, hc0, ht0, hq0, hc1, ht1, hq1⟩ := hJ
    refine RUN.withD fun D => ?_
    have D2 := ((sel_perm (is := [0, 1, 2, 3, 4, 5, 8, 6, 7, 9, 10, 11, 12, 13, 14, 15, 16, 17, 18]) (n := (M2 BB x dx es k fl op fd o1 o2 o3 c0 oc0 p0 tp0 q0 tq0 c1 oc1 p1 tp1 q1 tq1)) 19 (by decide) rfl).map Prod.fst).nodup_iff.mpr D
    refine RUN.perm (n2 := sel [11, 12, 13, 14, 15, 16, 17, 5, 8, 2, 18, 0, 1, 3, 4, 6, 7, 9, 10] (M2 BB x dx es k fl op fd o1 o2 o3 c0 oc0 p0 tp0 q0 tq0 c1 oc1 p1 tp1 q1 tq1)) (sel_perm 19 (by decide) rfl) ?_
    exact hnext m4 (⟨x, dx, fl, op, fd, fun i => cond i c1 c0, fun i => cond i p1 p0, fun i => cond i q1 q0⟩ : WAddr) (dictOf es k) o2 o3 tp0 tq0 tp1 tq1 oc0 oc1 o1 tz l1 rfl (List.nodup_append.mp (show ((⟨x, dx, fl, op, fd, fun i => cond i c1 c0, fun i => cond i p1 p0, fun i => cond i q1 q0⟩ : WAddr).all ++ [L + 1, L + 1 + 1, L + 1 + 1 + 1, L + 1 + 1 + 1 + 1, L + 1 + 1 + 1 + 1 + 1, tr, sx, 409]).Nodup from D2)).1 ⟨lo, ld, lf, ⟨es, k, rfl, g1, g2, g3, hf, ho, hfd⟩, h2, h3, ht0, hq0, ht1, hq1⟩ hc0 hc1 h1
end Mine
end
section
open PySem PySem.W PySem.Calls PyProof.Rows
namespace Mine
inductive WNew (w : World) (b room : Int) (x dx : Addr) (n' : Nw) : Prop
  | mk (es : List DictEntry) (k : Nat) (fl op fd : Addr) (o1 o2 o3 : Obj) (e : n' = [(fd, o3), (op, o2), (fl, o1), (x, instObj 353 dx), (dx, dictOf es k)])
  (g1 : ∃ t, getL "bits" es = some (some (.int b t))) (g2 : ∃ t, getL "digits" es = some (some (.int 9 t))) (g3 : ∃ t, getL "room" es = some (some (.int room t))) (g4 : getL "files" es = some (some (.ref fl))) (g5 : getL "open" es = some (some (.ref op))) (g6 : getL "fields" es = some (some (.ref fd)))
  (l1 : (fl == sysModules) = false) (l2 : (op == sysModules) = false) (l3 : (fd == sysModules) = false) (d1 : o1.IsDictOf (SKw w) []) (d2 : o2.IsDictOf (IKw w) []) (d3 : o3.IsDictOf (SKw w) []) : WNew w b room x dx n'
noncomputable def INI (c : Cx) (m : Lo) (x dx : Addr) (T : Nw) (L : List (Str × Value)) (st : List Stmt) (Q : Flow → Shared → Prop) : Prop := ∀ es k, EL es L → RUN c m ((x, instObj 353 dx) :: (dx, dictOf es k) :: T) st Q
structure IB (c : Cx) (m : Lo) (r : Nat) (x : Addr) : Prop where
  H : Ok c r
  hm : m (Str.ofString "self") = some (.ref x)
  hl : c.env.kindOf (Str.ofString "self") = some .local
  h1 : findIn (KO c.w.params) (.ref 353) "__setattr__" = some (some (.builtin "object.__setattr__"))
  h2 : plainOver (KO c.w.params) 353 = true
  h3 : hasDictIn (KO c.w.params) 353 = true
section
variable {c : Cx} {m : Lo} {r : Nat} {x dx : Addr} {T : Nw} {L : List (Str × Value)} {y : Str} {e : PySem.Expr} {p p1 p2 p3 : Pos} {rest : List Stmt} {Q : Flow → Shared → Prop}
theorem IB.self (B : IB c m r x) (n : Nw) : EVx c m n (.Name (Str.ofString "self") p) (.ref x) := EVx.name B.H B.hm B.hl (by decide)
theorem INI.v {v : Value} (B : IB c m r x) (he : ∀ n, EVx c m n e v) (hx : (L.find? fun p => p.1 == y) = none) (hL : Nat.ble L.length 900 = true) (ht : takerIn (KO c.w.params) 353 y = some none) (h : let L' := L ++ [(y, v)]; INI c m x dx T L' rest Q)
    (hs : autoParam (swapsWith e (some (.Attribute (.Name (Str.ofString "self") p1) y p2)) p3.line c.env = pure false) rflT) : INI c m x dx T L (.Assign [.Attribute (.Name (Str.ofString "self") p1) y p2] e p3 :: rest) Q :=
  fun es k hE => RUN.seta B.H (EVg.x (he _)) (fun v' n1 hv => by
    obtain ⟨rfl, rfl⟩ := hv
    exact ⟨B.self _, 0, 1, es, k, rfl, rfl, hE, fun es' k' hE' => h es' k' hE'⟩) hx (Nat.le_of_ble_eq_true hL) ht B.h1 B.h2 B.h3 hs
theorem INI.i {v : Int} (B : IB c m r x) (he : ∀ n, EVi c m n e v) (hx : (L.find? fun p => p.1 == y) = none) (hL : Nat.ble L.length 900 = true) (ht : takerIn (KO c.w.params) 353 y = some none) (h : ∀ t, let L' := L ++ [(y, .int v t)]; INI c m x dx T L' rest Q)
    (hs : autoParam (swapsWith e (some (.Attribute (.Name (Str.ofString "self") p1) y p2)) p3.line c.env = pure false) rflT) : INI c m x dx T L (.Assign [.Attribute (.Name (Str.ofString "self") p1) y p2] e p3 :: rest) Q :=
  fun es k hE => RUN.seta B.H (EVg.i (he _)) (fun v' n1 hv => by
    obtain ⟨⟨t, rfl⟩, rfl⟩ := hv
    exact ⟨B.self _, 0, 1, es, k, rfl, rfl, hE, fun es' k' hE' => h t es' k' hE'⟩) hx (Nat.le_of_ble_eq_true hL) ht B.h1 B.h2 B.h3 hs
theorem INI.s {v : Str} (B : IB c m r x) (he : ∀ n, EVs c m n e v) (hx : (L.find? fun p => p.1 == y) = none) (hL : Nat.ble L.length 900 = true) (ht : takerIn (KO c.w.params) 353 y = some none) (h : ∀ t, let L' := L ++ [(y, .str v t)]; INI c m x dx T L' rest Q)
    (hs : autoParam (swapsWith e (some (.Attribute (.Name (Str.ofString "self") p1) y p2)) p3.line c.env = pure false) rflT) : INI c m x dx T L (.Assign [.Attribute (.Name (Str.ofString "self") p1) y p2] e p3 :: rest) Q :=
  fun es k hE => RUN.seta B.H (EVg.s (he _)) (fun v' n1 hv => by
    obtain ⟨⟨t, rfl⟩, rfl⟩ := hv
    exact ⟨B.self _, 0, 1, es, k, rfl, rfl, hE, fun es' k' hE' => h t es' k' hE'⟩) hx (Nat.le_of_ble_eq_true hL) ht B.h1 B.h2 B.h3 hs
theorem INI.k {q : Pos} (B : IB c m r x) (hx : (L.find? fun p => p.1 == y) = none) (hL : Nat.ble L.length 900 = true) (ht : takerIn (KO c.w.params) 353 y = some none) (h : ∀ d o, (d == sysModules) = false → o.IsDictOf (SKw c.w) [] → o.IsDictOf (IKw c.w) [] → let L' := L ++ [(y, .ref d)]; let T' := (d, o) :: T; INI c m x dx T' L' rest Q)
    (hs : autoParam (swapsWith (.Dict [] [] q) (some (.Attribute (.Name (Str.ofString "self") p1) y p2)) p3.line c.env = pure false) rflT) : INI c m x dx T L (.Assign [.Attribute (.Name (Str.ofString "self") p1) y p2] (.Dict [] [] q) p3 :: rest) Q :=
  fun es k hE => RUN.seta B.H (EVg.dict0 B.H) (fun v' n1 hv => by
    obtain ⟨d, o, rfl, rfl, a1, a2, a3⟩ := hv
    exact ⟨B.self _, 1, 2, es, k, rfl, rfl, hE, fun es' k' hE' => RUN.perm ((List.Perm.swap _ _ _).trans ((List.Perm.swap _ _ _).cons _)).symm (h d o a1 a2 a3 es' k' hE')⟩) hx (Nat.le_of_ble_eq_true hL) ht B.h1 B.h2 B.h3 hs
theorem INI.d {q : Pos} (B : IB c m r x) (hx : (L.find? fun p => p.1 == y) = none) (hL : Nat.ble L.length 900 = true) (ht : takerIn (KO c.w.params) 353 y = some none) (h : ∀ d, let L' := L ++ [(y, .ref d)]; INI c m x dx T L' rest Q)
    (hs : autoParam (swapsWith (.Dict [] [] q) (some (.Attribute (.Name (Str.ofString "self") p1) y p2)) p3.line c.env = pure false) rflT) : INI c m x dx T L (.Assign [.Attribute (.Name (Str.ofString "self") p1) y p2] (.Dict [] [] q) p3 :: rest) Q :=
  INI.k B hx hL ht (fun d o _ _ _ es' k' hE' => RUN.drop (((List.sublist_cons_self _ _).cons_cons _).cons_cons _) (h d es' k' hE')) hs
theorem INI.l {q : Pos} (B : IB c m r x) (hx : (L.find? fun p => p.1 == y) = none) (hL : Nat.ble L.length 900 = true) (ht : takerIn (KO c.w.params) 353 y = some none) (h : ∀ d, let L' := L ++ [(y, .ref d)]; INI c m x dx T L' rest Q)
    (hs : autoParam (swapsWith (.List [] q) (some (.Attribute (.Name (Str.ofString "self") p1) y p2)) p3.line c.env = pure false) rflT) : INI c m x dx T L (.Assign [.Attribute (.Name (Str.ofString "self") p1) y p2] (.List [] q) p3 :: rest) Q :=
  fun es k hE => RUN.seta (V := fun v n1 => ∃ D, v = .ref D ∧ n1 = (D, lstO [] 0) :: (x, instObj 353 dx) :: (dx, dictOf es k) :: T) B.H (EVg.lst (P := fun n1 ws => n1 = (x, instObj 353 dx) :: (dx, dictOf es k) :: T ∧ ws = []) (ARGg.nil ⟨rfl, rfl⟩) (fun n1 ws hv => by obtain ⟨rfl, rfl⟩ := hv; exact ⟨Nat.le_of_ble_eq_true rfl, fun D => ⟨D, rfl, rfl⟩⟩)) (fun v' n1 hv => by
    obtain ⟨d, rfl, rfl⟩ := hv
    exact ⟨B.self _, 1, 2, es, k, rfl, rfl, hE, fun es' k' hE' => RUN.drop (List.sublist_cons_self _ _) (h d es' k' hE')⟩) hx (Nat.le_of_ble_eq_true hL) ht B.h1 B.h2 B.h3 hs
end
theorem t_init {w : World} {b room : Int} {x dx : Addr} {t1 t2 t3 t4 t5 : Tok}  : CTn w 1 350 [.ref x, .int b t1, .int 9 t2, .int 100 t3, .int 5 t4, .int room t5] [(x, instObj 353 dx), (dx, dictOf [] 0)] (fun _ => True) (fun v n' => v = .none ∧ WNew w b room x dx n') := by
  refine' CTn.mkB [((Str.ofString "self"), .ref x), ((Str.ofString "bits"), .int b t1), ((Str.ofString "digits"), .int 9 t2), ((Str.ofString "most_steps"), .int 100 t3), ((Str.ofString "most_depth"), .int 5 t4), ((Str.ofString "room"), .int room t5)] ?ho ?hcd ?hb ?hl (fun _ _ _ h => h) ?h ?c2 ?c3 ?c4 ?c5
  case ho => with_unfolding_all rfl
  case hcd => kernel_rfl
  case hb => exact fun s X => binds_K X rfl (by with_unfolding_all rfl) rfl rfl rfl
  case hl => rfl
  case c2 => rfl
  case c3 => rfl
  case c4 => rfl
  case c5 => decide
  case h =>
    intro A L g s E c H HG
    intro QQ
    have B : IB c (fun y => [((Str.ofString "self"), .ref x), ((Str.ofString "bits"), .int b t1), ((Str.ofString "digits"), .int 9 t2), ((Str.ofString "most_steps"), .int 100 t3), ((Str.ofString "most_depth"), .int 5 t4), ((Str.ofString "room"), .int room t5)].reverse.lookup y) 1 x := ⟨H, rfl, rfl, by kernel_rfl, by kernel_rfl, by kernel_rfl⟩
    refine (show INI c _ x dx [] [] _ QQ from ?_) [] 0 trivial
    refine INI.v B (fun _ => EVx.name H rfl rfl rfl) (by kernel_rfl) (by kernel_rfl) (by kernel_rfl) ?_; intro L0
    refine INI.v B (fun _ => EVx.name H rfl rfl rfl) (by kernel_rfl) (by kernel_rfl) (by kernel_rfl) ?_; intro L1
    refine INI.v B (fun _ => EVx.name H rfl rfl rfl) (by kernel_rfl) (by kernel_rfl) (by kernel_rfl) ?_; intro L2
    refine INI.v B (fun _ => EVx.name H rfl rfl rfl) (by kernel_rfl) (by kernel_rfl) (by kernel_rfl) ?_; intro L3
    refine INI.v B (fun _ => EVx.name H rfl rfl rfl) (by kernel_rfl) (by kernel_rfl) (by kernel_rfl) ?_; intro L4
    refine INI.d B (by kernel_rfl) (by kernel_rfl) (by kernel_rfl) fun d5 => ?_; intro L5
    refine INI.d B (by kernel_rfl) (by kernel_rfl) (by kernel_rfl) fun d6 => ?_; intro L6
    refine INI.d B (by kernel_rfl) (by kernel_rfl) (by kernel_rfl) fun d7 => ?_; intro L7
    refine INI.d B (by kernel_rfl) (by kernel_rfl) (by kernel_rfl) fun d8 => ?_; intro L8
    refine INI.l B (by kernel_rfl) (by kernel_rfl) (by kernel_rfl) fun d9 => ?_; intro L9
    refine INI.s B (fun _ => EVs.const) (by kernel_rfl) (by kernel_rfl) (by kernel_rfl) fun t10 => ?_; intro L10
    refine INI.l B (by kernel_rfl) (by kernel_rfl) (by kernel_rfl) fun d11 => ?_; intro L11
    refine INI.k B (by kernel_rfl) (by kernel_rfl) (by kernel_rfl) fun fd fo f1 f2 f3 => ?_; intro L12 Tf
    refine INI.k B (by kernel_rfl) (by kernel_rfl) (by kernel_rfl) fun od oo o1 o2 o3 => ?_; intro L13 To
    refine INI.k B (by kernel_rfl) (by kernel_rfl) (by kernel_rfl) fun ed eo e1 e2 e3 => ?_; intro L14 Te
    refine INI.l B (by kernel_rfl) (by kernel_rfl) (by kernel_rfl) fun d15 => ?_; intro L15
    refine INI.i B (fun _ => EVi.const) (by kernel_rfl) (by kernel_rfl) (by kernel_rfl) fun t16 => ?_; intro L16
    refine INI.i B (fun _ => EVi.const) (by kernel_rfl) (by kernel_rfl) (by kernel_rfl) fun t17 => ?_; intro L17
    refine INI.i B (fun _ => EVi.const) (by kernel_rfl) (by kernel_rfl) (by kernel_rfl) fun t18 => ?_; intro L18
    refine INI.i B (fun _ => EVi.const) (by kernel_rfl) (by kernel_rfl) (by kernel_rfl) fun t19 => ?_; intro L19
    refine INI.i B (fun _ => EVi.const) (by kernel_rfl) (by kernel_rfl) (by kernel_rfl) fun t20 => ?_; intro L20
    refine INI.i B (fun _ => EVi.const) (by kernel_rfl) (by kernel_rfl) (by kernel_rfl) fun t21 => ?_; intro L21
    refine INI.v B (fun _ => EVx.bool) (by kernel_rfl) (by kernel_rfl) (by kernel_rfl) ?_; intro L22
    refine INI.i B (fun _ => EVi.const) (by kernel_rfl) (by kernel_rfl) (by kernel_rfl) fun t23 => ?_; intro L23
    refine INI.s B (fun _ => EVs.const) (by kernel_rfl) (by kernel_rfl) (by kernel_rfl) fun t24 => ?_; intro L24
    refine INI.v B (fun _ => EVx.bool) (by kernel_rfl) (by kernel_rfl) (by kernel_rfl) ?_; intro L25
    refine INI.l B (by kernel_rfl) (by kernel_rfl) (by kernel_rfl) fun d26 => ?_; intro L26
    refine INI.l B (by kernel_rfl) (by kernel_rfl) (by kernel_rfl) fun d27 => ?_; intro L27
    intro es k hE
    refine RUN.perm (n2 := [(ed, eo), (od, oo), (fd, fo), (x, instObj 353 dx), (dx, dictOf es k)]) (List.perm_append_comm (l₁ := [(ed, eo), (od, oo), (fd, fo)]) (l₂ := [(x, instObj 353 dx), (dx, dictOf es k)])) ?_
    exact RUN.end_n ⟨rfl, es, k, fd, od, ed, fo, oo, eo, rfl, ⟨t1, (hE.get).trans (by kernel_rfl)⟩, ⟨t2, (hE.get).trans (by kernel_rfl)⟩, ⟨t5, (hE.get).trans (by kernel_rfl)⟩, (hE.get).trans (by kernel_rfl), (hE.get).trans (by kernel_rfl), (hE.get).trans (by kernel_rfl), f1, o1, e1, f2, o3, e2⟩
end Mine
end
section
open PySem PySem.W PySem.Calls PyProof.Rows
namespace Mine
theorem idx3 {x : Int} {u1 u2 u3 : Tok} (h0 : 0 ≤ x) (h1 : x < 3) : ∃ b t, ([.int 8 u1, .int 12 u2, .int 16 u3] : List Value)[x.toNat]? = some (.int b t) ∧ BITS b := by
  obtain rfl | rfl | rfl : x = 0 ∨ x = 1 ∨ x = 2 := by omega
  · exact ⟨8, u1, rfl, .inl rfl⟩
  · exact ⟨12, u2, rfl, .inr (.inl rfl)⟩
  · exact ⟨16, u3, rfl, .inr (.inr rfl)⟩
inductive IdxU (l : Addr) (P : Value → Nw → Prop) (u : Value) (n2 : Nw) : Prop
  | mk (vs : List Value) (k z : Nat) (j : Int) (t : Tok) (x : Value) (e : u = .int j t) (hz : n2[z]? = some (l, lstO vs k)) (h0 : 0 ≤ j) (h1 : j < 2 ^ 63) (hx : vs[j.toNat]? = some x) (h : P x n2) : IdxU l P u n2
inductive IdxH (c : Cx) (m : Lo) (b : PySem.Expr) (P : Value → Nw → Prop) (v : Value) (n1 : Nw) : Prop
  | mk (l : Addr) (e : v = .ref l) (h : EVg c m n1 b (IdxU l P)) : IdxH c m b P v n1
theorem EVg.idxc {c : Cx} {m : Lo} {n : Nw} {a b : PySem.Expr} {p : Pos} {P : Value → Nw → Prop} (ha : EVg c m n a (IdxH c m b P)) (hs : autoParam (∀ l j u, subscripted b false (Value.ref l) (.int j u) = operate [.ref l, .int j u] (getItem (.ref l) (.int j u))) irflT) : EVg c m n (.Subscript a b p) P :=
  EVg.idx ha (fun v n1 hv => by
    obtain ⟨l, e, h⟩ := hv
    exact ⟨l, e, EVg.mono h fun u n2 hu => by obtain ⟨vs, k, z, j, t, x, e, hz, h0, h1, hx, h⟩ := hu; exact ⟨vs, k, z, j, t, x, e, hz, h0, h1, hx, h⟩⟩) hs
theorem law0 {w : World} {g : Heap} {s : Shared} {L f ls : Addr} {cd : Value} {sc : Scope} {m : Lo} {st : List Stmt} {Q : Flow → Shared → Prop} {oct ocb ocm ocw ocs : Obj} {vals : List Value} {script : List Int} (hsc : sc = lawSc) (hst : st = lawB) (O : OkT (lawC w g s L f cd sc) [] 20)
    (m1 : m (Str.ofString "script") = some (.ref ls)) (hls : g.IsList ls vals.toArray) (hi : IntsAre vals script) (hlen : script.length ≤ 63) (h1 : oct.data = .cell none) (h2 : ocb.data = .cell none) (h3 : ocm.data = .cell none) (h4 : ocw.data = .cell none) (h5 : ocs.data = .cell none)
    (hnext : ∀ m' b M tb tm to oct ocb ocm ocw tr sx tn x dx es k fl op fd o1 o2 o3, BITS b → (M = 2 ∨ M = 3 ∨ M = 4) → oct.data = .cell (some (.ref tr)) → ocb.data = .cell (some (.int b tb)) → ocm.data = .cell (some (.int M tm)) → ocw.data = .cell (some (.ref x)) → ocs.data = .cell none → IntsAre (vals.take 60) (script.take 60) → (script.take 60).length < 100 → m' (Str.ofString "octets") = some (.int (octs b) to) →
      (∃ t, getL "bits" es = some (some (.int b t))) → (∃ t, getL "digits" es = some (some (.int 9 t))) → (∃ t, getL "room" es = some (some (.int (M * (octs b + 1)) t))) → getL "files" es = some (some (.ref fl)) → getL "open" es = some (some (.ref op)) → getL "fields" es = some (some (.ref fd)) → (fl == sysModules) = false → (op == sysModules) = false → (fd == sysModules) = false → o1.IsDictOf (SKw w) [] → o2.IsDictOf (IKw w) [] → o3.IsDictOf (SKw w) [] →
      RUN (lawC w g s L f cd sc) m' [(x, instObj 353 dx), (dx, dictOf es k), (fl, o1), (op, o2), (fd, o3), (L + 1, oct), (L + 1 + 1, ocb), (L + 1 + 1 + 1, ocm), (L + 1 + 1 + 1 + 1, ocw), (L + 1 + 1 + 1 + 1 + 1, ocs), (tr, lstO [.ref sx, .int 2 tn] 0), (sx, lstO (vals.take 60) 0), (409, tabObj #[])] (lawB.drop 4) Q) : RUN (lawC w g s L f cd sc) m [(L + 1, oct), (L + 1 + 1, ocb), (L + 1 + 1 + 1, ocm), (L + 1 + 1 + 1 + 1, ocw), (L + 1 + 1 + 1 + 1 + 1, ocs), (409, tabObj #[])] st Q := by
  (conv at hsc => rhs; whnf)
  (conv at hst => rhs; whnf)
  subst hsc hst
  have H := O.now
  have hvl := hi.length
  have hv9 : IntsAre (vals.take 60) (script.take 60) := hi.take 60
  have hn9 : (script.take 60).length < 100 := by rw [List.length_take]; omega
  have hsl : slicePick vals.toArray none (some 60) none = (vals.take 60).toArray := by
    have := slicePick_upto' vals.toArray 60
    simpa using this
  refine RUN.letc H (EVg.lstc (ARGg.gc (EVg.mono (EVg.lslice (its := vals.toArray) (vl := none) (vu := some 60) (vk := none) (EVx.name H m1 rfl rfl) (fun h S => by obtain ⟨o, ho, r⟩ := hls; exact ⟨o, S.F.keep _ _ ho, r⟩) (fun h k Q S q => evalPart_none_step (q _ .none h k S)) (fun h k Q S q => evalPart_some_step (EVi.const h k _ S fun t h' k' S' => q _ (.int 60 t) h' k' S')) (fun h k Q S q => evalPart_none_step (q _ .none h k S)) (by decide) (by rw [List.size_toArray]; unfold sizeLine; omega)) fun v n' hv => ?_) rfl)) rfl rfl (fun _ _ h => h)
  obtain ⟨sx, rfl, rfl⟩ := hv
  rw [hsl]
  refine ARGg.i EVi.const (fun t0 => ARGg.nil ⟨rfl, fun tr => ⟨2, oct, none, rfl, h1, fun oct d1 => ?_⟩⟩) rfl
  let N : Int → Tok → Obj → Obj → Nw := fun n t ocb ocm => [(tr, lstO [.ref sx, .int n t] 0), (sx, lstO (vals.take 60) 0), (L + 1, oct), (L + 1 + 1, ocb), (L + 1 + 1 + 1, ocm), (L + 1 + 1 + 1 + 1, ocw), (L + 1 + 1 + 1 + 1 + 1, ocs), (409, tabObj #[])]
  show RUN _ _ (N 0 t0 ocb ocm) _ _
  refine RUN.unpc H (ARGg.gc (EVg.idxc (EVg.lstc (ARGg.i EVi.const (fun u1 => ARGg.i EVi.const (fun u2 => ARGg.i EVi.const (fun u3 => ARGg.nil ⟨rfl, fun D => ⟨D, rfl, ?_⟩⟩) rfl) rfl) rfl))) rfl)
  let DD : Addr × Obj := (D, lstO [.int 8 u1, .int 12 u2, .int 16 u3] 0)
  refine EVg.callP (ad := 364) (a := DD :: N 0 t0 ocb ocm) (T := []) [1, 2] 2 H (by decide) (EVx.glob H (by kernel_rfl) rfl rfl) (by kernel_rfl) trivial (fun _ _ _ h => h) (ARG.x (EVx.cell (z := 3) H rfl rfl d1 rfl rfl) (ARG.i EVi.const (fun t => ARG.nil (t_pulled hv9 hn9 (by decide) (by decide) (by decide))) rfl) rfl) (fun v n' hv => ?_)
  obtain ⟨x, tx, tn', x0, x1, rfl, rfl⟩ := hv
  obtain ⟨b, tb, hb9, hb⟩ := idx3 (u1 := u1) (u2 := u2) (u3 := u3) x0 x1
  refine ⟨DD :: N 1 tn' ocb ocm, rfl, rfl, rfl, ⟨_, 0, 0, x, tx, .int b tb, rfl, rfl, x0, Int.lt_trans x1 (by decide), hb9, ?_⟩⟩
  refine ARGg.gc (EVg.addc EVi.const (EVg.callP (ad := 364) (a := DD :: N 1 tn' ocb ocm) (T := []) [1, 2] 2 H (by decide) (EVx.glob H (by kernel_rfl) rfl rfl) (by kernel_rfl) trivial (fun _ _ _ h => h) (ARG.x (EVx.cell (z := 3) H rfl rfl d1 rfl rfl) (ARG.i EVi.const (fun t => ARG.nil (t_pulled hv9 hn9 (by decide) (by decide) (by decide))) rfl) rfl) (fun v n' hv => ?_))) rfl
  obtain ⟨z, tz, tn, z0, z1, rfl, rfl⟩ := hv
  refine ⟨DD :: N 2 tn ocb ocm, rfl, rfl, rfl, ⟨z, tz, rfl, fun tm => ARGg.nil ⟨rfl, TAS.cons (TGA.cell (z := 4) H rfl rfl h2 rfl fun ocb d2 => TAS.cons (TGA.cell (z := 5) H rfl rfl h3 rfl fun ocm d3 => TAS.nil ?_))⟩⟩⟩
  refine RUN.drop (n2 := N 2 tn ocb ocm) (List.sublist_cons_self _ _) ?_
  obtain ⟨M, hMe, hM⟩ : ∃ M, M = 2 + z ∧ (M = 2 ∨ M = 3 ∨ M = 4) := ⟨_, rfl, by omega⟩
  rw [← hMe] at d3
  have hob := octs_pos hb
  have hM2 : 2 ≤ M ∧ M ≤ 4 := by omega
  have hb16 : b ≤ 16 ∧ 8 ≤ b := by rcases hb with h | h | h <;> omega
  refine RUN.let_i (v := octs b) H ?_ rfl fun to => ?_
  · by_cases q : b = 8
    · exact EVi.eq (EVi.ife_t (CND.eq (CND.ci (EVi.of (EVx.cell (z := 3) H rfl rfl d2 rfl rfl)) EVi.const CI.eq) (by rw [q]; rfl)) EVi.const) (octs_8 q).symm
    · exact EVi.eq (EVi.ife_f (CND.eq (CND.ci (EVi.of (EVx.cell (z := 3) H rfl rfl d2 rfl rfl)) EVi.const CI.eq) (by simpa using q)) EVi.const) (octs_n8 q).symm
  intro m2
  refine RUN.letc H (EVg.inst (C := 353) (fI := 350) (G := fun _ => True) 1 H (by decide) (EVx.glob H (by kernel_rfl) rfl rfl) (by kernel_rfl) (by kernel_rfl) (by kernel_rfl) (by kernel_rfl) (ARG.i (EVi.of (EVx.cell (z := 3) H rfl rfl d2 rfl rfl)) (fun s1 => ARG.i EVi.const (fun s2 => ARG.i EVi.const (fun s3 => ARG.i EVi.const (fun s4 => ARG.i (EVi.mul (EVi.of (EVx.cell (z := 4) H rfl rfl d3 rfl rfl)) (EVi.add (EVi.of (EVx.name H rfl rfl rfl)) EVi.const) (IntMulOk.of_right (intBits_le_64 (by omega) (by omega)))) (fun s5 => ARG.nil (fun x dx => t_init)) rfl) rfl) rfl) rfl) rfl) trivial (fun _ _ _ h => h)) rfl rfl (fun v n1 hv => ?_)
  obtain ⟨x, dx, n1, rfl, hW, rfl⟩ := hv
  obtain ⟨es, k, fl, op, fd, o1, o2, o3, rfl, g1, g2, g3, hf, ho, hfd, lf, lo, ld, e1, e2, e3⟩ := hW
  refine ⟨10, ocw, none, rfl, h4, fun ocw d4 => ?_⟩
  refine RUN.perm (n2 := sel [3, 4, 2, 1, 0, 7, 8, 9, 10, 11, 5, 6, 12] ([(fd, o3), (op, o2), (fl, o1), (x, instObj 353 dx), (dx, dictOf es k)] ++ [(tr, lstO [.ref sx, .int 2 tn] 0), (sx, lstO (vals.take 60) 0), (L + 1, oct), (L + 1 + 1, ocb), (L + 1 + 1 + 1, ocm), (L + 1 + 1 + 1 + 1, ocw), (L + 1 + 1 + 1 + 1 + 1, ocs), (409, tabObj #[])])) (sel_perm 13 (by decide) rfl) ?_
  exact hnext m2 b M tb tm to oct ocb ocm ocw tr sx tn x dx es k fl op fd o1 o2 o3 hb hM d1 d2 d3 d4 h5 hv9 hn9 rfl g1 g2 g3 hf ho hfd lf lo ld e1 e2 e3
end Mine
end
section
open PySem PySem.W PySem.Calls PyProof.Rows
namespace Mine
theorem pick_sub {is : List Nat} : ∀ {k : Nat} {n : Nw}, List.Sublist (pick is k n) n
  | _, [] => .slnil
  | k, p :: n => by
    unfold pick
    cases is.any (Nat.beq k) with
    | true => exact (pick_sub (k := k + 1) (n := n)).cons_cons p
    | false => exact (pick_sub (k := k + 1) (n := n)).cons p
theorem law_b {P : LQ} {N : Nw} {g : Heap} {s : Shared} {f : Addr} {cd : Value} {m : Lo} {to : Tok} (hP : P.OK) (O : OkT (lawC P.w g s P.L f cd lawSc) [] 20) (hJ : J9 P 900 N)
    (m1 : m (Str.ofString "octets") = some (.int (octs P.b) to)) (m2 : m (Str.ofString "ledger") = some (.ref P.A.lg)) : RUN (lawC P.w g s P.L f cd lawSc) m N (lawB.drop 10) (LawEnd g P.L s) := by
  obtain ⟨n, le, tn, u1, u2, tf, kt, kv, kg, kc, kh, k0, k1, q0, q1, oc0, oc1, of, obk, lvs, led, p0, p1, ps, cs, rfl, ⟨hn0, hn1⟩, hi, hL, hM, hK0, hK1, hbd, hbk, TB, hsum⟩ := hJ
  obtain ⟨_, _, _, _, _, sp0, nu0, _, _, _, _, _, _, _, _, _, _, _, _, _, hc0⟩ := hK0
  obtain ⟨_, _, _, _, _, sp1, nu1, _, _, _, _, _, _, _, _, _, _, _, _, _, hc1⟩ := hK1
  refine RUN.drop (n2 := pick [0, 1, 2, 3, 4, 5, 6, 9, 15, 16, 17, 18] 0 (P.FR n tn kt kv k0 k1 lvs kg kc p0 p1 kh obk q0 q1 oc0 oc1 of ps) ++ P.W8) (List.Sublist.append pick_sub (List.sublist_append_right cs P.W8)) ?_
  have hM2 : 2 ≤ P.M ∧ P.M ≤ 4 := by rcases hP.hM with h | h | h <;> omega
  have eM : P.M.toNat = led.length := by omega
  refine law10 (led := led) rfl rfl hP O hn0 (by omega) hbk m1 m2 fun m' sh tsh ocs mv lt od ovs ko tn' tb s0 s1 hds l1 l2 l3 l4 l5 l6 hov => ?_
  refine law12 (tsh := 0) (tf := 0) (led := led) (tb := tb) (to := to) rfl rfl hP O (by omega) (by omega) s0 s1 hov ⟨l1, l2, l3, l4, l5, l6⟩ fun m' n9 tn9 kt9 mvs km tps ms hl hmv hms => ?_
  rw [eM] at hms
  refine law13 (tsh := 0) (tf := 0) (sh := 0) (led := led) (tb := tb) (to := to) rfl rfl hP O hi hL hM hmv hms hl fun m' kl lv2 kg2 hl hi2 => ?_
  refine law14 (tf := 0) (ta := 0) (led := led) (tb := tb) (to := to) rfl rfl hP O hi2 hL hM hmv hms ⟨oc0, oc1, of, tf, rfl, ⟨_, _, hc0⟩, ⟨_, _, hc1⟩, hbk⟩ hl fun m' ta n6 hl hJ => ?_
  refine law17 (tf := 0) (to := to) (led := led) (tb := tb) (ta := ta) rfl rfl hP O hL hM hmv hms hJ hl fun m' n6 hl hJ => ?_
  exact law19 (tf := 0) (to := to) (led := led) (tb := tb) (ta := ta) rfl rfl hP O hL hM hmv hms hJ hl
theorem law_all {w : World} {g s0 : Heap} {s : Shared} {L f ls : Addr} {cd : Value} {m : Lo} {mean : ExcName → Option Value} {mg mb : Str → Option Value} {oct ocb ocm ocw ocs : Obj} {vals : List Value} {script : List Int} (C : At w 301 4 g [] mean mg mb s0 20) (hcd : CodeHd g 413 409)
    (m1 : m (Str.ofString "script") = some (.ref ls)) (hls : g.IsList ls vals.toArray) (hi : IntsAre vals script) (hlen : script.length ≤ 63) (h1 : oct.data = .cell none) (h2 : ocb.data = .cell none) (h3 : ocm.data = .cell none) (h4 : ocw.data = .cell none) (h5 : ocs.data = .cell none) :
    RUN (lawC w g s L f cd lawSc) m [(L + 1, oct), (L + 1 + 1, ocb), (L + 1 + 1 + 1, ocm), (L + 1 + 1 + 1 + 1, ocw), (L + 1 + 1 + 1 + 1 + 1, ocs), (409, tabObj #[])] lawB (LawEnd g L s) := by
  have O : OkT (lawC w g s L f cd lawSc) [] 20 := lawC_ok C
  refine law0 rfl rfl O m1 hls hi hlen h1 h2 h3 h4 h5 fun m' b M tb tm to oct ocb ocm ocw tr sx tn x dx es k fl op fd o1 o2 o3 hb hM d1 d2 d3 d4 d5 hv hn l1 g1 g2 g3 hf ho hfd lf lo ld e1 e2 e3 => ?_
  refine law4 (tb := 0) (td := 0) (to := to) (b := b) rfl rfl O hb g1 g2 g3 hf ho hfd lf lo ld e1 e2 e3 d4 l1 fun m' a dO oO fO tp0 tq0 tp1 tq1 oc0 oc1 of tf l1 ea nd Z hc0 hc1 hbk => ?_
  subst ea
  let P : LQ := ⟨w, a, b, M * (octs b + 1), M, 0, ⟨tr, sx, 0, 0, 0, 0, fun _ => 0⟩, L, vals.take 60, script.take 60, oct, ocb, ocm, ocw, ocs, dO, oO, fO, tp0, tq0, tp1, tq1⟩
  have hP : P.OK := ⟨hb, Z, rfl, hv, hn, nd, d1, ⟨tb, d2⟩, ⟨tm, d3⟩, d4, d5, hM⟩
  refine law5 (P := P) (to := to) (n := 2) (tn := tn) (kt := 0) (kv := 0) rfl rfl hP O (by decide) (by decide) l1 fun m' lg led lvs kg n9 tn9 kt9 l1 l2 b0 b1 hlv hlen hfit => ?_
  refine law6 (P := P) (to := to) rfl rfl hP O hlv hlen hfit hc0 hbk l1 l2 fun m' oc0 of tf l1 l2 hc0 hbk => ?_
  refine law7 (P := P) (to := to) rfl rfl hP O b0 b1 hlv hlen hfit hc0 hc1 hbk l1 l2 fun P' m' N' ew eL eb hP' hJ k1 k2 k3 => ?_
  have ew : P'.w = w := ew
  have eL : P'.L = L := eL
  subst ew eL
  refine law9 (P := P') (to := to) rfl rfl hP' O hcd hJ k1 k2 k3 fun m9 N9 j1 j2 hJ9 => ?_
  exact law_b (P := P') (to := to) hP' O hJ9 j1 j2
end Mine
end
open PySem PySem.W PySem.Calls PyProof.Rows PySem.Spec
namespace Mine
theorem nd_start {L : Nat} (h : 409 < L) : ([L + 1, L + 1 + 1, L + 1 + 1 + 1, L + 1 + 1 + 1 + 1, L + 1 + 1 + 1 + 1 + 1, 409] : List Nat).Nodup := by
  show (List.map (fun k => L + k) [1, 2, 3, 4, 5] ++ [409]).Nodup
  refine List.nodup_append.mpr ⟨List.Pairwise.map _ (fun a b ne e => ne (Nat.add_left_cancel e)) (show [1, 2, 3, 4, 5].Pairwise (· ≠ ·) by decide), List.pairwise_singleton _ _, fun a ha b hb e => ?_⟩
  obtain ⟨k, _, rfl⟩ := List.mem_map.mp ha
  rw [List.mem_singleton.mp hb] at e
  exact absurd (e ▸ Nat.le_add_right L k) (Nat.not_le.mpr h)
theorem topL {ls : List Str} {mean : ExcName → Option Value} {mg mb : Str → Option Value} {h : Heap} (T : Top topProg ls mean mg mb h) (e : ls = LSE) : Top topProg LSE mean mg mb h := e ▸ T
end Mine
set_option Elab.async true
namespace Mine.hdX
def tw6734571538005800608 := True
def tw2242802971544520736 := True
def tw3215486391504711009 := True
def tw15969048173877931333 := True
def tw2232778809141388903 := True
def tw5061785300758227592 := True
def tw15660156337610026795 := True
def tw13861238429272167115 := True
def tw15046756813959945739 := True
def tw16017876153203126029 := True
def tw9607289557709529550 := True
def tw1683103959222800083 := True
def tw3174071771391860788 := True
def tw9129893423843941718 := True
def tw7681007785142514297 := True
def tw11905698266875326907 := True
def tw10605364158350873181 := True
def tw3673693958821703870 := True
def tw12932387615330866942 := True
def tw10022148145844012180 := True
def tw10096675872937401877 := True
def tw10184151726298729653 := True
def tw10202979112996578925 := True
def tw10203846213681652839 := True
def tw10244740339951393440 := True
def tw10254068633620660801 := True
def tw10304898885934726557 := True
def tw10325160071605818623 := True
def tw10399359521216012263 := True
def tw10433062498596062692 := True
def tw1043736618047002065 := True
def tw10493564065699157828 := True
def tw10512500332112956587 := True
def tw10582541689368938574 := True
def tw10665070484411852122 := True
def tw10668887603650254749 := True
def tw10706645036414821310 := True
def tw10726837560312275516 := True
def tw10777905958419998753 := True
def tw10826327115531214550 := True
def tw10879685924153950125 := True
def tw1088283687018383732 := True
def tw10907473662796457354 := True
def tw10964938921546118059 := True
def tw10971980266095574356 := True
def tw10978024388453036987 := True
def tw1098500923339356544 := True
def tw11026817582120051719 := True
def tw11046454723785332768 := True
def tw1106384708688397037 := True
def tw11064205821210637433 := True
def tw11109614804378230450 := True
def tw11131553799361301132 := True
def tw11151270368445033627 := True
def tw1120813843341034997 := True
def tw11275120035146256722 := True
def tw11302083330351710083 := True
def tw11302271259487675494 := True
def tw11335020076114755586 := True
def tw11372585301453751938 := True
def tw11379372150783208708 := True
def tw1140594979241077723 := True
def tw11442992368603317621 := True
def tw11445029434151550210 := True
def tw11447231074400349430 := True
def tw11503686251473493007 := True
def tw11521152532393402142 := True
def tw11594847639917051512 := True
def tw11619817824397623205 := True
def tw11642206568624538317 := True
def tw1167604892713860799 := True
def tw11682632314103030427 := True
def tw11700452902839671098 := True
def tw1182738302719503125 := True
def tw11846221493222515837 := True
def tw11875657109446285120 := True
def tw11882504930495283686 := True
def tw11903866970914647826 := True
def tw11942646117410767563 := True
def tw12025543366727869068 := True
def tw12033008713221476601 := True
def tw1203477113696151694 := True
def tw12060984987572060732 := True
def tw1207870592096338950 := True
def tw1208875494601131699 := True
def tw12135197483065197831 := True
def tw1213842386307211277 := True
def tw12140660271932341969 := True
def tw12180498512517085657 := True
def tw12191012947264495425 := True
def tw1231409557927591850 := True
def tw12336118394965619896 := True
def tw12389868117891876396 := True
def tw12418779199602740464 := True
def tw12461523791959049928 := True
def tw12466446776072574490 := True
def tw12497265583540680884 := True
def tw125054105993046855 := True
def tw12551080843478288849 := True
def tw12609155119997060891 := True
def tw12612621252993114791 := True
def tw12633733799833885244 := True
def tw12637880106032646399 := True
def tw12638269851233709381 := True
def tw12678236599018831228 := True
def tw12698196132219559033 := True
def tw12723240940933358132 := True
def tw12742006443697239947 := True
def tw1281402884587028420 := True
def tw12842543333832292717 := True
def tw12857423483452204083 := True
def tw12915342832397330036 := True
def tw12917939794188969482 := True
def tw12935579030519645331 := True
def tw13053000773293047249 := True
def tw13088104037662948849 := True
def tw13094456825928052313 := True
def tw13107766343958008128 := True
def tw1313365474500614964 := True
def tw13151450647315042825 := True
def tw13176318393544354615 := True
def tw13178053132806763721 := True
def tw1319383705611966722 := True
def tw13216803010600837056 := True
def tw13285220388075574647 := True
def tw13316967389546497979 := True
def tw1338722236187162747 := True
def tw13394059738271065203 := True
def tw1348389291230445108 := True
def tw13500714976278046110 := True
def tw13535055513462397880 := True
def tw13541652228083603625 := True
def tw1355096726101847001 := True
def tw1362170552606745425 := True
def tw13635203649381782824 := True
def tw13644290608095266311 := True
def tw13666351579715365355 := True
def tw13705260399033772563 := True
def tw13767704709820270244 := True
def tw13784329066349862191 := True
def tw13812666670230085722 := True
def tw13929837563631260654 := True
def tw13944757087234613717 := True
def tw14014103750619890110 := True
def tw14016730880318296123 := True
def tw1401700516295707707 := True
def tw14093215721226983291 := True
def tw14135472066262319640 := True
def tw14153468833580423096 := True
def tw14156083493510670148 := True
def tw14156975166343576652 := True
def tw14157035408563546673 := True
def tw1416870543454570631 := True
def tw14222985813817477369 := True
def tw14265351681207184582 := True
def tw1427218144035965652 := True
def tw1427854983199189345 := True
def tw14302531746650463869 := True
def tw14313866234068666572 := True
def tw1431401807283635000 := True
def tw14433006101727392092 := True
def tw14462052374671679495 := True
def tw14474681780259501553 := True
def tw14475046690975311763 := True
def tw14481911729677063207 := True
def tw14489037022720320430 := True
def tw14537934123451613 := True
def tw14664542399021230002 := True
def tw14677523317091647827 := True
def tw14684325024161222760 := True
def tw14696903861035707921 := True
def tw14747799150063416261 := True
def tw14771712168253572498 := True
def tw14870130697838535663 := True
def tw14876257396573054378 := True
def tw14886889035698445458 := True
def tw14912736132534972225 := True
def tw14926971817438902450 := True
def tw14973058480993055566 := True
def tw15005305835989407517 := True
def tw1501989699320789455 := True
def tw15064218273979092974 := True
def tw15078970795330422778 := True
def tw15089833729738890618 := True
def tw15202712639876003141 := True
def tw15212533064255883334 := True
def tw15218384109049354885 := True
def tw1522351289979143103 := True
def tw15296264756558559872 := True
def tw15309255520899655347 := True
def tw15313248699070114821 := True
def tw15328395205996659857 := True
def tw15411142048675490515 := True
def tw15450071992215357895 := True
def tw15491457543014814198 := True
def tw15499715630741485225 := True
def tw15510439371095845390 := True
def tw1563394729471739797 := True
def tw15689094434623702674 := True
def tw15730121977567283489 := True
def tw15734889986922486254 := True
def tw15738355267440029077 := True
def tw15758055782121243930 := True
def tw15807106446874821759 := True
def tw15875820046042005554 := True
def tw15969962747717616969 := True
def tw1598017450932316598 := True
def tw16091978877965380702 := True
def tw16121655229517492305 := True
def tw16163939096890746311 := True
def tw16205782266707606327 := True
def tw16242096484371925618 := True
def tw16310183622412972613 := True
def tw16358540930606531629 := True
def tw16386038050494912304 := True
def tw16414054467219399518 := True
def tw1644660314685069685 := True
def tw16448600470379137790 := True
def tw1647241750747056100 := True
def tw16502890869427126116 := True
def tw16543048129182555032 := True
def tw16554344256311527837 := True
def tw16590129067434797832 := True
def tw16600506283299967801 := True
def tw16608045673063551295 := True
def tw16640852075310971951 := True
def tw16641262899701105005 := True
def tw16777200590328634527 := True
def tw16811918374201399088 := True
def tw16836983448052066482 := True
def tw16947195195455876022 := True
def tw16979727721343206160 := True
def tw17002434795211566030 := True
def tw17004312214056779257 := True
def tw17007954163915973953 := True
def tw17108772351453864015 := True
def tw17198458553493103683 := True
def tw17212852031966433217 := True
def tw17241852553424786647 := True
def tw1728744250898651804 := True
def tw17332384642089569741 := True
def tw1734434585531523001 := True
def tw17374377217101830429 := True
def tw17460112469027775196 := True
def tw17483705498034132534 := True
def tw17486672834872965355 := True
def tw17574885639104978445 := True
def tw17687939220496232310 := True
def tw17693599064169537126 := True
def tw1771826618499182972 := True
def tw17737714572640440555 := True
def tw17746158699822598518 := True
def tw177930772872155641 := True
def tw17796971458037623876 := True
def tw17798826679075333104 := True
def tw1782629906314147457 := True
def tw17860826941108895795 := True
def tw17886318470200285490 := True
def tw17886809353080925875 := True
def tw17891975570713759599 := True
def tw17990593473335179563 := True
def tw18022705966979389345 := True
def tw18036403340434480397 := True
def tw18040577654447225957 := True
def tw18096367624509154678 := True
def tw18173406807688414335 := True
def tw18205220176249685864 := True
def tw18227591171837382729 := True
def tw18241219166862828904 := True
def tw18315982376771003775 := True
def tw18317103855502779410 := True
def tw18326164095392905945 := True
def tw18328425296306340027 := True
def tw18340120620353657670 := True
def tw1834165349277585333 := True
def tw18438271866145414491 := True
def tw1883476785840779569 := True
def tw2002344884610289756 := True
def tw2014856533821742049 := True
def tw2027685755785246050 := True
def tw2102775780355237670 := True
def tw2192915469688389253 := True
def tw2196197860848264703 := True
def tw2200240639509636242 := True
def tw226205738110269691 := True
def tw2274571992649254382 := True
def tw2382208791676833641 := True
def tw2396329887102442281 := True
def tw2428046679647696881 := True
def tw250237389429344074 := True
def tw2523844739986227036 := True
def tw2537828034711731180 := True
def tw2577707925950325053 := True
def tw2589891065548212504 := True
def tw2608593430383031486 := True
def tw2645323250715483628 := True
def tw2703991243646915946 := True
def tw2709719158892490936 := True
def tw2711206584343957988 := True
def tw2723051324944411618 := True
def tw2747860138151966613 := True
def tw2756154873022102681 := True
def tw2781302540313400565 := True
def tw280965609816166844 := True
def tw2830642658549587225 := True
def tw2918019535800153346 := True
def tw2984272659026510850 := True
def tw3014401397118845915 := True
def tw3021317691601097578 := True
def tw3041981160832934379 := True
def tw305227985991221229 := True
def tw3055956696142847144 := True
def tw3118037315803586359 := True
def tw3213910862851682451 := True
def tw3239506836024966042 := True
def tw3242027407571732936 := True
def tw3386012840083151464 := True
def tw3440431750975249659 := True
def tw3543246824114158502 := True
def tw3637866771235621864 := True
def tw3655165665647805167 := True
def tw3656767008056878270 := True
def tw3687292123996342004 := True
def tw3711025444001597543 := True
def tw3715835209540940563 := True
def tw3717812177925448435 := True
def tw3762001062126377892 := True
def tw3776834453876580774 := True
def tw383229974370503576 := True
def tw3923869230899308731 := True
def tw3929724041077820368 := True
def tw3930370691120718200 := True
def tw3942414451519242624 := True
def tw4008951243441540033 := True
def tw4014157272318697781 := True
def tw4016206427397777836 := True
def tw4082055154689305618 := True
def tw4137814652816830372 := True
def tw4193432758859388470 := True
def tw4195572963827067505 := True
def tw4273484520572178888 := True
def tw4289775360809360437 := True
def tw4384226028692012175 := True
def tw4446867475947573147 := True
def tw4709568631352332493 := True
def tw4718665688362506147 := True
def tw4752368508756672738 := True
def tw4754076780664819194 := True
def tw4774402977370679712 := True
def tw4808654076638078052 := True
def tw482903166827453568 := True
def tw4834381491965227319 := True
def tw4835393104608292810 := True
def tw4889940950477472540 := True
def tw4898416578038913217 := True
def tw4925173614904167113 := True
def tw4975913919966340618 := True
def tw4992452243532629430 := True
def tw4992717816887641376 := True
def tw5045615253235216659 := True
def tw5045859317144905613 := True
def tw5084500097133054379 := True
def tw509460969930010740 := True
def tw5109151292852262806 := True
def tw5134909523049530366 := True
def tw5139347293191598216 := True
def tw5151689216076134379 := True
def tw5166438710412582726 := True
def tw519549955590554519 := True
def tw5242696750645472050 := True
def tw5275788991544516425 := True
def tw5321748155051902787 := True
def tw5403567231933389215 := True
def tw5433645413101795787 := True
def tw5458346472083302951 := True
def tw5508087156993384959 := True
def tw5540047346250698959 := True
def tw5607986449129391230 := True
def tw5615189007353714715 := True
def tw5617928270424198459 := True
def tw5625443669572804931 := True
def tw56422350771601879 := True
def tw5650820430365139879 := True
def tw5670384748517087934 := True
def tw5674011733692058177 := True
def tw5675550434457831696 := True
def tw5713838968277932883 := True
def tw5730025383704810465 := True
def tw573363737963195964 := True
def tw5747172703223236185 := True
def tw5787803536663655581 := True
def tw5827875409558750888 := True
def tw5861502171568067817 := True
def tw5931296053538148019 := True
def tw5934396345659274187 := True
def tw6005247205876566225 := True
def tw6061161579627102762 := True
def tw6080230488891678937 := True
def tw6133508896017780474 := True
def tw6160534686247480318 := True
def tw6181110415556181750 := True
def tw6223320031179295484 := True
def tw627156170030289394 := True
def tw6305067642942206241 := True
def tw6357912191285517703 := True
def tw6361384918772602019 := True
def tw6473193513272101468 := True
def tw6504650624452126880 := True
def tw667216250908094112 := True
def tw6674250913783253207 := True
def tw6682920371238688541 := True
def tw6686003666069218765 := True
def tw6726489085960252830 := True
def tw676756742273019805 := True
def tw67835937982064300 := True
def tw6806132850279107010 := True
def tw6810205338999061327 := True
def tw6813335471198937774 := True
def tw6898485960990040034 := True
def tw6914961239995519251 := True
def tw6930812144610024215 := True
def tw7015763070864958633 := True
def tw70434972270576095 := True
def tw7046530801737369814 := True
def tw7068775640511814992 := True
def tw7083024094770742458 := True
def tw7192088378306035603 := True
def tw7208354307881277001 := True
def tw7234416370475308631 := True
def tw724123630313470943 := True
def tw7270106060604394814 := True
def tw7327940664467828366 := True
def tw7356608274439057978 := True
def tw7402810079893185444 := True
def tw7407404501259036214 := True
def tw7422939065444781766 := True
def tw7458299828661332213 := True
def tw7488633530453019553 := True
def tw751222110048802403 := True
def tw7512741475483770106 := True
def tw7563041082225243216 := True
def tw7573590894088275427 := True
def tw7601040133837112779 := True
def tw7609205342481002966 := True
def tw7679084833559980966 := True
def tw7716545503148724996 := True
def tw7756303864301832239 := True
def tw7770025124894730713 := True
def tw7888765870900200546 := True
def tw7890430698708448667 := True
def tw79206623479488916 := True
def tw792152392582406694 := True
def tw792733555454459589 := True
def tw7938848519010162137 := True
def tw8021278748117740583 := True
def tw8045862965123061525 := True
def tw8140145835967489086 := True
def tw8176491461709205628 := True
def tw8236933635448297840 := True
def tw8268820509751046060 := True
def tw8285260069353236152 := True
def tw8294628719207306786 := True
def tw8321085766897818408 := True
def tw8384305965907628907 := True
def tw8487359113363713591 := True
def tw8532240766791546837 := True
def tw8594088882579111706 := True
def tw8633417543312001558 := True
def tw8644820702938853618 := True
def tw8650715170346816576 := True
def tw8697811847389205801 := True
def tw8836040801552310496 := True
def tw8869008127680346966 := True
def tw8921294423500118024 := True
def tw9005736384099686002 := True
def tw9021511774846365216 := True
def tw9054326469186074359 := True
def tw9083628708625831487 := True
def tw9152196923983013001 := True
def tw9158835997866710447 := True
def tw9160395071828027314 := True
def tw9232338950804724382 := True
def tw9255190059806018895 := True
def tw9257496654815123262 := True
def tw9321600443911602486 := True
def tw9340142928557925680 := True
def tw9365367876920726459 := True
def tw9372855208988317508 := True
def tw9435685356305288191 := True
def tw944827340543740567 := True
def tw9456004385813149050 := True
def tw9465158376495941408 := True
def tw9471108224055989142 := True
def tw9556246990277179745 := True
def tw960575463385375386 := True
def tw9615179441766706458 := True
def tw9667364446375565390 := True
def tw9701038035796715345 := True
def tw9709208946302998428 := True
def tw9715976690004861506 := True
def tw9848381255158852303 := True
def tw986479763897362254 := True
def tw9888095372890386291 := True
def tw991556371055158362 := True
def tw9937102427516947349 := True
def tw9985205555325612120 := True
end Mine.hdX
open PySem PySem.W PySem.Calls PyProof.Rows PySem.Spec Mine
theorem Mine.hdX : PySem.Challenge.rw_sm0006_01.Holds := by
  w_on; o_law
  o_head (kmHook Mine.KO [2, 3, 15, 18, 23, 24, 30, 31, 33, 34, 35, 43, 44, 57, 58, 64, 65, 71, 72, 78, 79, 92, 93, 97, 98, 104, 105, 111, 112, 118, 119, 125, 126, 130, 131, 137, 138, 144, 145, 151, 152, 158, 159, 165, 166, 172, 173, 243, 244, 250, 251, 257, 258, 299, 300, 306, 307, 313, 314, 320, 321, 327, 328, 334, 335, 343, 349, 350, 352, 353, 354, 355, 363, 364, 368, 369, 373, 374, 378, 379, 385, 386, 392, 393, 399, 400, 406, 407, 413, 414, 420, 421, 427, 428, 432, 433] (fun _ => by kernel_rfl) [409])
  (case hw => w_witness2)
  k_go0
  all_goals try k_fold
  (rename Below _ _ _ _ => K9)
  (rename Top topProg _ _ _ _ _ => T9)
  have T8 := topL T9 (by kernel_rfl)
  (rename Frag.In _ _ => X9)
  (rename Fr _ _ _ _ => F9)
  (rename News _ _ _ _ => N9)
  (rename IntsAre _ _ => I9)
  (rename_i l9)
  refine wpAny_mono (E := fun _ _ => False) (Q := LawEnd _ _ _) (law_all (oct := _) (ocb := _) (ocm := _) (ocw := _) (ocs := _) ⟨X9, T8, K9, by decide, by decide⟩ codeHd (by with_unfolding_all rfl) lifted I9 (by omega) ?h1 ?h2 ?h3 ?h4 ?h5 _ _ ⟨F9, fun p hp => N9 p (SubL.mem (by k_subL) p hp), nd_start l9⟩) ?_ ?_
  case h1 => assumption
  case h2 => assumption
  case h3 => assumption
  case h4 => assumption
  case h5 => assumption
  · intro f s' h
    obtain ⟨rfl, h', tk', m', ps, rfl, F8, tab8⟩ := h
    dsimp only
    refine ⟨goodW_bool F8 (by assumption) (raisesW_false ?_) ?_, ⟨ps, tab8⟩, trivial⟩
    · wrow_none_raised
    · wrow_post
  · intro v s' h
    exact h.elim
theorem PySem.Challenge.cw_sm0006_01_holds : PySem.Challenge.rw_sm0006_01.Holds :=
  Mine.hdX
