import PyProof.Rows.All
import Wide.All
import OpenK.AllK
import Wide.FinOn
import Lean
import PySem.Challenge.RW_nu0045_01
open PySem PySem.W PyProof.Rows
set_option Elab.async false
set_option maxRecDepth 100000
set_option maxHeartbeats 8000000
set_option linter.unusedVariables false
noncomputable section
namespace Mine
noncomputable abbrev P0 : Program := PySem.Challenge.pw_nu0045_01
noncomputable def defAt (i : Nat) : Option (Arguments × List Stmt × Scope) := match P0.main.body[i]? with
  | some (.FunctionDef _ a b _ _ _ s ..) => some (a, b, s)
  | _ => none
noncomputable def methAt (i j : Nat) : Option (Arguments × List Stmt × Scope) := match P0.main.body[i]? with
  | some (.ClassDef _ _ _ c ..) => (match c[j]? with
    | some (.FunctionDef _ a b _ _ _ s ..) => some (a, b, s)
    | _ => none)
  | _ => none
noncomputable abbrev fnO {d : Option (Arguments × List Stmt × Scope)} {pa : Arguments} {bo : List Stmt} {sc : Scope} (name qual : Str) (dV pm : Value) (code : Addr) (h : d = some (pa, bo, sc)) : Obj :=
  ⟨.type "function", none, .func (fnOf name qual pa bo sc dV .none .none pm none (.ref code) .none), List.toArray []⟩
noncomputable abbrev fnI {d : Option (Arguments × List Stmt × Scope)} {pa : Arguments} {bo : List Stmt} {sc : Scope} (name qual : Str) (h : d = some (pa, bo, sc)) : Obj :=
  ⟨.none, none, .func { name := name, qualname := qual, params := pa, body := .stmts bo, scope := sc, globals := 0, closure := [], defaults := .none, kwdefaults := .none }, List.toArray []⟩
noncomputable abbrev kE (P : Params) (x : Str) (t : Nat) (v : Value) : DictEntry := ⟨PyData.keyHash P x, .str x t, v⟩
noncomputable def oA11 (P : Params) : Obj := ⟨(.type "tuple"), none, (.seq (List.toArray []) 0), List.toArray []⟩
noncomputable def oA12 (P : Params) : Obj := ⟨.none, none, (.fields (List.toArray [])), List.toArray []⟩
noncomputable def oA13 (P : Params) : Obj := ⟨(.type "code"), none, (.fields (List.toArray [(.str (Str.ofString "<module>") 182), (.str (Str.ofString "<module>") 183), (.str (Str.ofString "/claim/cut.py") 184), (.int 1 0), (.int 0 0), (.int 0 0), (.int 0 0), (.int 0 0), (.ref 11), (.bool false), (.int 181 0), (.ref 12), .none, .none, .none, .none, (.int 185 0), (.int 1 0), (.str (Str.ofString "/claim/cut.py") 186)])), List.toArray []⟩
noncomputable def oA14 (P : Params) : Obj := ⟨(.type "frame"), none, .plain, List.toArray [(some (.ref 13)), (some (.ref 3)), (some (.ref 3)), none, (some (.str (Str.ofString "__main__") 164)), none, (some (.ref 0))]⟩
noncomputable def treeA (P : Params) : BT := (.node (boot_o_0 P) (.node (boot_o_1 P) (.node (boot_o_3 P) (.node (boot_o_7 P) .nil .nil) (.node (oA11 P) .nil .nil)) (.node (boot_o_5 P) (.node (boot_o_9 P) .nil .nil) (.node (oA13 P) .nil .nil))) (.node (boot_o_2 P) (.node (boot_o_4 P) (.node (boot_o_8 P) .nil .nil) (.node (oA12 P) .nil .nil)) (.node (boot_o_6 P) (.node (boot_o_10 P) .nil .nil) (.node (oA14 P) .nil .nil))))
noncomputable def oB2 (P : Params) : Obj := ⟨.none, none, (.dict (List.toArray [kE P (Str.ofString "type.__subclasses__.Exception.0") 458 (.int 210 0), kE P (Str.ofString "type.__subclasses__.Exception.n") 459 (.int 1 0)]) 2), List.toArray []⟩
noncomputable def oB3 (P : Params) : Obj := ⟨(.type "dict"), none, (.dict (List.toArray [kE P (Str.ofString "__name__") 165 (.str (Str.ofString "markupmill.tree") 478), kE P (Str.ofString "__doc__") 166 .none, kE P (Str.ofString "__package__") 167 .none, kE P (Str.ofString "__loader__") 168 (.builtin "__main__.__loader__#opaque"), kE P (Str.ofString "__spec__") 169 .none, kE P (Str.ofString "__annotations__") 170 (.ref 6), kE P (Str.ofString "__builtins__") 171 (.ref 4), kE P (Str.ofString "__file__") 173 (.str (Str.ofString "/claim/cut.py") 172), kE P (Str.ofString "__cached__") 174 .none, kE P (Str.ofString "_wall") 193 (.ref 21), kE P (Str.ofString "NAN") 198 (.ref 22), kE P (Str.ofString "SPACES") 200 (.str (Str.ofString " \t\n\x0d") 199), kE P (Str.ofString "DIGITS") 202 (.str (Str.ofString "0123456789") 201), kE P (Str.ofString "common_divisor") 212 (.ref 29), kE P (Str.ofString "sign_of") 219 (.ref 36), kE P (Str.ofString "number_of") 229 (.ref 44), kE P (Str.ofString "is_nan") 236 (.ref 51), kE P (Str.ofString "negated") 243 (.ref 58), kE P (Str.ofString "order_of") 251 (.ref 65), kE P (Str.ofString "compared_numbers") 261 (.ref 72), kE P (Str.ofString "digits_end") 269 (.ref 79), kE P (Str.ofString "trimmed") 278 (.ref 86), kE P (Str.ofString "whole_of") 287 (.ref 93), kE P (Str.ofString "read_number") 301 (.ref 100), kE P (Str.ofString "write_number") 316 (.ref 108), kE P (Str.ofString "beneath") 329 (.ref 115), kE P (Str.ofString "string_value") 335 (.ref 120), kE P (Str.ofString "as_text") 345 (.ref 127), kE P (Str.ofString "as_number") 353 (.ref 134), kE P (Str.ofString "as_truth") 361 (.ref 141), kE P (Str.ofString "is_equality") 368 (.ref 148), kE P (Str.ofString "compared_texts") 377 (.ref 155), kE P (Str.ofString "compared_plain") 387 (.ref 162), kE P (Str.ofString "as_compared") 393 (.ref 167), kE P (Str.ofString "some_pair") 404 (.ref 174), kE P (Str.ofString "texts_of") 410 (.ref 179), kE P (Str.ofString "listed") 420 (.ref 186), kE P (Str.ofString "compared") 430 (.ref 193), kE P (Str.ofString "MarkupError") 461 (.ref 210), kE P (Str.ofString "TreeFault") 477 (.ref 223), kE P (Str.ofString "PARENTS") 482 (.ref 226), kE P (Str.ofString "NodeRow") 524 (.ref 243)]) 42), List.toArray []⟩
noncomputable def oB12 (P : Params) : Obj := ⟨.none, none, (.fields (List.toArray [(.int 1 0), (.int 0 0), (.ref 20), (.int 8 0), (.int 0 0), (.ref 28), (.int 13 0), (.int 0 0), (.ref 35), (.int 19 0), (.int 0 0), (.ref 43), (.int 26 0), (.int 0 0), (.ref 50), (.int 28 0), (.int 0 0), (.ref 57), (.int 30 0), (.int 0 0), (.ref 64), (.int 34 0), (.int 0 0), (.ref 71), (.int 49 0), (.int 0 0), (.ref 78), (.int 53 0), (.int 0 0), (.ref 85), (.int 60 0), (.int 0 0), (.ref 92), (.int 65 0), (.int 0 0), (.ref 99), (.int 78 0), (.int 0 0), (.ref 107), (.int 95 0), (.int 0 0), (.ref 114), (.int 103 0), (.int 0 0), (.ref 119), (.int 108 0), (.int 0 0), (.ref 126), (.int 116 0), (.int 0 0), (.ref 133), (.int 122 0), (.int 0 0), (.ref 140), (.int 130 0), (.int 0 0), (.ref 147), (.int 132 0), (.int 0 0), (.ref 154), (.int 134 0), (.int 0 0), (.ref 161), (.int 141 0), (.int 0 0), (.ref 166), (.int 145 0), (.int 0 0), (.ref 173), (.int 154 0), (.int 0 0), (.ref 178), (.int 156 0), (.int 0 0), (.ref 185), (.int 162 0), (.int 0 0), (.ref 192), (.int 169 0), (.int 0 0), (.ref 199), (.int 174 0), (.int 0 0), (.ref 219), (.int 178 0), (.int 0 0), (.ref 232)])), List.toArray []⟩
noncomputable def oB15 (P : Params) : Obj := ⟨(.type "tuple"), none, (.seq (List.toArray []) 0), List.toArray []⟩
noncomputable def oB16 (P : Params) : Obj := ⟨.none, none, (.fields (List.toArray [])), List.toArray []⟩
noncomputable def oB17 (P : Params) : Obj := ⟨(.type "tuple"), none, (.seq (List.toArray [(.str (Str.ofString "k") 190)]) 0), List.toArray []⟩
noncomputable def oB18 (P : Params) : Obj := ⟨(.type "tuple"), none, (.seq (List.toArray []) 0), List.toArray []⟩
noncomputable def oB19 (P : Params) : Obj := fnI (Str.ofString "_wall") (Str.ofString "_wall") (h := (rfl : defAt 0 = _))
noncomputable def oB20 (P : Params) : Obj := ⟨(.type "code"), none, (.fields (List.toArray [(.str (Str.ofString "_wall") 187), (.str (Str.ofString "_wall") 188), (.str (Str.ofString "/claim/cut.py") 189), (.int 1 0), (.int 1 0), (.int 0 0), (.int 0 0), (.int 3 0), (.ref 15), (.bool true), (.int 181 0), (.ref 16), .none, (.ref 17), (.ref 18), (.ref 19), (.int 191 0), (.int 1 0), (.str (Str.ofString "/claim/cut.py") 192)])), List.toArray []⟩
noncomputable def oB21 (P : Params) : Obj := fnO (Str.ofString "_wall") (Str.ofString "_wall") .none (.str (Str.ofString "__main__") 164) 20 (h := (rfl : defAt 0 = _))
noncomputable def oB22 (P : Params) : Obj := ⟨(.type "tuple"), none, (.seq (List.toArray [(.int 0 196), (.int 0 197)]) 0), List.toArray []⟩
noncomputable def oB23 (P : Params) : Obj := ⟨(.type "tuple"), none, (.seq (List.toArray []) 0), List.toArray []⟩
noncomputable def oB24 (P : Params) : Obj := ⟨.none, none, (.fields (List.toArray [])), List.toArray []⟩
noncomputable def oB25 (P : Params) : Obj := ⟨(.type "tuple"), none, (.seq (List.toArray [(.str (Str.ofString "one") 206), (.str (Str.ofString "other") 207), (.str (Str.ofString "first") 208), (.str (Str.ofString "second") 209)]) 0), List.toArray []⟩
noncomputable def oB26 (P : Params) : Obj := ⟨(.type "tuple"), none, (.seq (List.toArray []) 0), List.toArray []⟩
noncomputable def oB27 (P : Params) : Obj := fnI (Str.ofString "common_divisor") (Str.ofString "common_divisor") (h := (rfl : defAt 5 = _))
noncomputable def oB28 (P : Params) : Obj := ⟨(.type "code"), none, (.fields (List.toArray [(.str (Str.ofString "common_divisor") 203), (.str (Str.ofString "common_divisor") 204), (.str (Str.ofString "/claim/cut.py") 205), (.int 8 0), (.int 2 0), (.int 0 0), (.int 0 0), (.int 3 0), (.ref 23), (.bool true), (.int 181 0), (.ref 24), .none, (.ref 25), (.ref 26), (.ref 27), (.int 210 0), (.int 8 0), (.str (Str.ofString "/claim/cut.py") 211)])), List.toArray []⟩
noncomputable def oB29 (P : Params) : Obj := fnO (Str.ofString "common_divisor") (Str.ofString "common_divisor") .none (.str (Str.ofString "markupmill.numbers") 194) 28 (h := (rfl : defAt 5 = _))
noncomputable def oB30 (P : Params) : Obj := ⟨(.type "tuple"), none, (.seq (List.toArray []) 0), List.toArray []⟩
noncomputable def oB31 (P : Params) : Obj := ⟨.none, none, (.fields (List.toArray [])), List.toArray []⟩
noncomputable def oB32 (P : Params) : Obj := ⟨(.type "tuple"), none, (.seq (List.toArray [(.str (Str.ofString "number") 216)]) 0), List.toArray []⟩
noncomputable def oB33 (P : Params) : Obj := ⟨(.type "tuple"), none, (.seq (List.toArray []) 0), List.toArray []⟩
noncomputable def oB34 (P : Params) : Obj := fnI (Str.ofString "sign_of") (Str.ofString "sign_of") (h := (rfl : defAt 6 = _))
noncomputable def oB35 (P : Params) : Obj := ⟨(.type "code"), none, (.fields (List.toArray [(.str (Str.ofString "sign_of") 213), (.str (Str.ofString "sign_of") 214), (.str (Str.ofString "/claim/cut.py") 215), (.int 13 0), (.int 1 0), (.int 0 0), (.int 0 0), (.int 3 0), (.ref 30), (.bool true), (.int 181 0), (.ref 31), .none, (.ref 32), (.ref 33), (.ref 34), (.int 217 0), (.int 13 0), (.str (Str.ofString "/claim/cut.py") 218)])), List.toArray []⟩
noncomputable def oB36 (P : Params) : Obj := fnO (Str.ofString "sign_of") (Str.ofString "sign_of") .none (.str (Str.ofString "markupmill.numbers") 194) 35 (h := (rfl : defAt 6 = _))
noncomputable def oB37 (P : Params) : Obj := ⟨(.type "tuple"), none, (.seq (List.toArray [(.int 1 220)]) 0), List.toArray []⟩
noncomputable def oB38 (P : Params) : Obj := ⟨(.type "tuple"), none, (.seq (List.toArray []) 0), List.toArray []⟩
noncomputable def oB39 (P : Params) : Obj := ⟨.none, none, (.fields (List.toArray [])), List.toArray []⟩
noncomputable def oB40 (P : Params) : Obj := ⟨(.type "tuple"), none, (.seq (List.toArray [(.str (Str.ofString "top") 224), (.str (Str.ofString "bottom") 225), (.str (Str.ofString "common") 226)]) 0), List.toArray []⟩
noncomputable def oB41 (P : Params) : Obj := ⟨(.type "tuple"), none, (.seq (List.toArray []) 0), List.toArray []⟩
noncomputable def oB42 (P : Params) : Obj := fnI (Str.ofString "number_of") (Str.ofString "number_of") (h := (rfl : defAt 7 = _))
noncomputable def oB43 (P : Params) : Obj := ⟨(.type "code"), none, (.fields (List.toArray [(.str (Str.ofString "number_of") 221), (.str (Str.ofString "number_of") 222), (.str (Str.ofString "/claim/cut.py") 223), (.int 19 0), (.int 2 0), (.int 0 0), (.int 0 0), (.int 3 0), (.ref 38), (.bool true), (.int 181 0), (.ref 39), .none, (.ref 40), (.ref 41), (.ref 42), (.int 227 0), (.int 19 0), (.str (Str.ofString "/claim/cut.py") 228)])), List.toArray []⟩
noncomputable def oB44 (P : Params) : Obj := fnO (Str.ofString "number_of") (Str.ofString "number_of") (.ref 37) (.str (Str.ofString "markupmill.numbers") 194) 43 (h := (rfl : defAt 7 = _))
noncomputable def oB45 (P : Params) : Obj := ⟨(.type "tuple"), none, (.seq (List.toArray []) 0), List.toArray []⟩
noncomputable def oB46 (P : Params) : Obj := ⟨.none, none, (.fields (List.toArray [])), List.toArray []⟩
noncomputable def oB47 (P : Params) : Obj := ⟨(.type "tuple"), none, (.seq (List.toArray [(.str (Str.ofString "a") 233)]) 0), List.toArray []⟩
noncomputable def oB48 (P : Params) : Obj := ⟨(.type "tuple"), none, (.seq (List.toArray []) 0), List.toArray []⟩
noncomputable def oB49 (P : Params) : Obj := fnI (Str.ofString "is_nan") (Str.ofString "is_nan") (h := (rfl : defAt 8 = _))
noncomputable def oB50 (P : Params) : Obj := ⟨(.type "code"), none, (.fields (List.toArray [(.str (Str.ofString "is_nan") 230), (.str (Str.ofString "is_nan") 231), (.str (Str.ofString "/claim/cut.py") 232), (.int 26 0), (.int 1 0), (.int 0 0), (.int 0 0), (.int 3 0), (.ref 45), (.bool true), (.int 181 0), (.ref 46), .none, (.ref 47), (.ref 48), (.ref 49), (.int 234 0), (.int 26 0), (.str (Str.ofString "/claim/cut.py") 235)])), List.toArray []⟩
noncomputable def oB51 (P : Params) : Obj := fnO (Str.ofString "is_nan") (Str.ofString "is_nan") .none (.str (Str.ofString "markupmill.numbers") 194) 50 (h := (rfl : defAt 8 = _))
noncomputable def oB52 (P : Params) : Obj := ⟨(.type "tuple"), none, (.seq (List.toArray []) 0), List.toArray []⟩
noncomputable def oB53 (P : Params) : Obj := ⟨.none, none, (.fields (List.toArray [])), List.toArray []⟩
noncomputable def oB54 (P : Params) : Obj := ⟨(.type "tuple"), none, (.seq (List.toArray [(.str (Str.ofString "a") 240)]) 0), List.toArray []⟩
noncomputable def oB55 (P : Params) : Obj := ⟨(.type "tuple"), none, (.seq (List.toArray []) 0), List.toArray []⟩
noncomputable def oB56 (P : Params) : Obj := fnI (Str.ofString "negated") (Str.ofString "negated") (h := (rfl : defAt 9 = _))
noncomputable def oB57 (P : Params) : Obj := ⟨(.type "code"), none, (.fields (List.toArray [(.str (Str.ofString "negated") 237), (.str (Str.ofString "negated") 238), (.str (Str.ofString "/claim/cut.py") 239), (.int 28 0), (.int 1 0), (.int 0 0), (.int 0 0), (.int 3 0), (.ref 52), (.bool true), (.int 181 0), (.ref 53), .none, (.ref 54), (.ref 55), (.ref 56), (.int 241 0), (.int 28 0), (.str (Str.ofString "/claim/cut.py") 242)])), List.toArray []⟩
noncomputable def oB58 (P : Params) : Obj := fnO (Str.ofString "negated") (Str.ofString "negated") .none (.str (Str.ofString "markupmill.numbers") 194) 57 (h := (rfl : defAt 9 = _))
noncomputable def oB59 (P : Params) : Obj := ⟨(.type "tuple"), none, (.seq (List.toArray []) 0), List.toArray []⟩
noncomputable def oB60 (P : Params) : Obj := ⟨.none, none, (.fields (List.toArray [])), List.toArray []⟩
noncomputable def oB61 (P : Params) : Obj := ⟨(.type "tuple"), none, (.seq (List.toArray [(.str (Str.ofString "a") 247), (.str (Str.ofString "b") 248)]) 0), List.toArray []⟩
noncomputable def oB62 (P : Params) : Obj := ⟨(.type "tuple"), none, (.seq (List.toArray []) 0), List.toArray []⟩
noncomputable def oB63 (P : Params) : Obj := fnI (Str.ofString "order_of") (Str.ofString "order_of") (h := (rfl : defAt 10 = _))
noncomputable def oB64 (P : Params) : Obj := ⟨(.type "code"), none, (.fields (List.toArray [(.str (Str.ofString "order_of") 244), (.str (Str.ofString "order_of") 245), (.str (Str.ofString "/claim/cut.py") 246), (.int 30 0), (.int 2 0), (.int 0 0), (.int 0 0), (.int 3 0), (.ref 59), (.bool true), (.int 181 0), (.ref 60), .none, (.ref 61), (.ref 62), (.ref 63), (.int 249 0), (.int 30 0), (.str (Str.ofString "/claim/cut.py") 250)])), List.toArray []⟩
noncomputable def oB65 (P : Params) : Obj := fnO (Str.ofString "order_of") (Str.ofString "order_of") .none (.str (Str.ofString "markupmill.numbers") 194) 64 (h := (rfl : defAt 10 = _))
noncomputable def oB66 (P : Params) : Obj := ⟨(.type "tuple"), none, (.seq (List.toArray []) 0), List.toArray []⟩
noncomputable def oB67 (P : Params) : Obj := ⟨.none, none, (.fields (List.toArray [])), List.toArray []⟩
noncomputable def oB68 (P : Params) : Obj := ⟨(.type "tuple"), none, (.seq (List.toArray [(.str (Str.ofString "op") 255), (.str (Str.ofString "a") 256), (.str (Str.ofString "b") 257), (.str (Str.ofString "order") 258)]) 0), List.toArray []⟩
noncomputable def oB69 (P : Params) : Obj := ⟨(.type "tuple"), none, (.seq (List.toArray []) 0), List.toArray []⟩
noncomputable def oB70 (P : Params) : Obj := fnI (Str.ofString "compared_numbers") (Str.ofString "compared_numbers") (h := (rfl : defAt 11 = _))
noncomputable def oB71 (P : Params) : Obj := ⟨(.type "code"), none, (.fields (List.toArray [(.str (Str.ofString "compared_numbers") 252), (.str (Str.ofString "compared_numbers") 253), (.str (Str.ofString "/claim/cut.py") 254), (.int 34 0), (.int 3 0), (.int 0 0), (.int 0 0), (.int 3 0), (.ref 66), (.bool true), (.int 181 0), (.ref 67), .none, (.ref 68), (.ref 69), (.ref 70), (.int 259 0), (.int 34 0), (.str (Str.ofString "/claim/cut.py") 260)])), List.toArray []⟩
noncomputable def oB72 (P : Params) : Obj := fnO (Str.ofString "compared_numbers") (Str.ofString "compared_numbers") .none (.str (Str.ofString "markupmill.numbers") 194) 71 (h := (rfl : defAt 11 = _))
noncomputable def oB73 (P : Params) : Obj := ⟨(.type "tuple"), none, (.seq (List.toArray []) 0), List.toArray []⟩
noncomputable def oB74 (P : Params) : Obj := ⟨.none, none, (.fields (List.toArray [])), List.toArray []⟩
noncomputable def oB75 (P : Params) : Obj := ⟨(.type "tuple"), none, (.seq (List.toArray [(.str (Str.ofString "text") 265), (.str (Str.ofString "at") 266)]) 0), List.toArray []⟩
noncomputable def oB76 (P : Params) : Obj := ⟨(.type "tuple"), none, (.seq (List.toArray []) 0), List.toArray []⟩
noncomputable def oB77 (P : Params) : Obj := fnI (Str.ofString "digits_end") (Str.ofString "digits_end") (h := (rfl : defAt 12 = _))
noncomputable def oB78 (P : Params) : Obj := ⟨(.type "code"), none, (.fields (List.toArray [(.str (Str.ofString "digits_end") 262), (.str (Str.ofString "digits_end") 263), (.str (Str.ofString "/claim/cut.py") 264), (.int 49 0), (.int 2 0), (.int 0 0), (.int 0 0), (.int 3 0), (.ref 73), (.bool true), (.int 181 0), (.ref 74), .none, (.ref 75), (.ref 76), (.ref 77), (.int 267 0), (.int 49 0), (.str (Str.ofString "/claim/cut.py") 268)])), List.toArray []⟩
noncomputable def oB79 (P : Params) : Obj := fnO (Str.ofString "digits_end") (Str.ofString "digits_end") .none (.str (Str.ofString "markupmill.numbers") 194) 78 (h := (rfl : defAt 12 = _))
noncomputable def oB80 (P : Params) : Obj := ⟨(.type "tuple"), none, (.seq (List.toArray []) 0), List.toArray []⟩
noncomputable def oB81 (P : Params) : Obj := ⟨.none, none, (.fields (List.toArray [])), List.toArray []⟩
noncomputable def oB82 (P : Params) : Obj := ⟨(.type "tuple"), none, (.seq (List.toArray [(.str (Str.ofString "text") 273), (.str (Str.ofString "begin") 274), (.str (Str.ofString "end") 275)]) 0), List.toArray []⟩
noncomputable def oB83 (P : Params) : Obj := ⟨(.type "tuple"), none, (.seq (List.toArray []) 0), List.toArray []⟩
noncomputable def oB84 (P : Params) : Obj := fnI (Str.ofString "trimmed") (Str.ofString "trimmed") (h := (rfl : defAt 13 = _))
noncomputable def oB85 (P : Params) : Obj := ⟨(.type "code"), none, (.fields (List.toArray [(.str (Str.ofString "trimmed") 270), (.str (Str.ofString "trimmed") 271), (.str (Str.ofString "/claim/cut.py") 272), (.int 53 0), (.int 1 0), (.int 0 0), (.int 0 0), (.int 3 0), (.ref 80), (.bool true), (.int 181 0), (.ref 81), .none, (.ref 82), (.ref 83), (.ref 84), (.int 276 0), (.int 53 0), (.str (Str.ofString "/claim/cut.py") 277)])), List.toArray []⟩
noncomputable def oB86 (P : Params) : Obj := fnO (Str.ofString "trimmed") (Str.ofString "trimmed") .none (.str (Str.ofString "markupmill.numbers") 194) 85 (h := (rfl : defAt 13 = _))
noncomputable def oB87 (P : Params) : Obj := ⟨(.type "tuple"), none, (.seq (List.toArray []) 0), List.toArray []⟩
noncomputable def oB88 (P : Params) : Obj := ⟨.none, none, (.fields (List.toArray [])), List.toArray []⟩
noncomputable def oB89 (P : Params) : Obj := ⟨(.type "tuple"), none, (.seq (List.toArray [(.str (Str.ofString "digits") 282), (.str (Str.ofString "number") 283), (.str (Str.ofString "digit") 284)]) 0), List.toArray []⟩
noncomputable def oB90 (P : Params) : Obj := ⟨(.type "tuple"), none, (.seq (List.toArray []) 0), List.toArray []⟩
noncomputable def oB91 (P : Params) : Obj := fnI (Str.ofString "whole_of") (Str.ofString "whole_of") (h := (rfl : defAt 14 = _))
noncomputable def oB92 (P : Params) : Obj := ⟨(.type "code"), none, (.fields (List.toArray [(.str (Str.ofString "whole_of") 279), (.str (Str.ofString "whole_of") 280), (.str (Str.ofString "/claim/cut.py") 281), (.int 60 0), (.int 1 0), (.int 0 0), (.int 0 0), (.int 3 0), (.ref 87), (.bool true), (.int 181 0), (.ref 88), .none, (.ref 89), (.ref 90), (.ref 91), (.int 285 0), (.int 60 0), (.str (Str.ofString "/claim/cut.py") 286)])), List.toArray []⟩
noncomputable def oB93 (P : Params) : Obj := fnO (Str.ofString "whole_of") (Str.ofString "whole_of") .none (.str (Str.ofString "markupmill.numbers") 194) 92 (h := (rfl : defAt 14 = _))
noncomputable def oB94 (P : Params) : Obj := ⟨(.type "tuple"), none, (.seq (List.toArray []) 0), List.toArray []⟩
noncomputable def oB95 (P : Params) : Obj := ⟨.none, none, (.fields (List.toArray [])), List.toArray []⟩
noncomputable def oB96 (P : Params) : Obj := ⟨(.type "tuple"), none, (.seq (List.toArray [(.str (Str.ofString "text") 291), (.str (Str.ofString "told") 292), (.str (Str.ofString "begin") 293), (.str (Str.ofString "end") 294), (.str (Str.ofString "whole") 295), (.str (Str.ofString "parts") 296), (.str (Str.ofString "last") 297), (.str (Str.ofString "found") 298)]) 0), List.toArray []⟩
noncomputable def oB97 (P : Params) : Obj := ⟨(.type "tuple"), none, (.seq (List.toArray []) 0), List.toArray []⟩
noncomputable def oB98 (P : Params) : Obj := fnI (Str.ofString "read_number") (Str.ofString "read_number") (h := (rfl : defAt 15 = _))
noncomputable def oB99 (P : Params) : Obj := ⟨(.type "code"), none, (.fields (List.toArray [(.str (Str.ofString "read_number") 288), (.str (Str.ofString "read_number") 289), (.str (Str.ofString "/claim/cut.py") 290), (.int 65 0), (.int 1 0), (.int 0 0), (.int 0 0), (.int 3 0), (.ref 94), (.bool true), (.int 181 0), (.ref 95), .none, (.ref 96), (.ref 97), (.ref 98), (.int 299 0), (.int 65 0), (.str (Str.ofString "/claim/cut.py") 300)])), List.toArray []⟩
noncomputable def oB100 (P : Params) : Obj := fnO (Str.ofString "read_number") (Str.ofString "read_number") .none (.str (Str.ofString "markupmill.numbers") 194) 99 (h := (rfl : defAt 15 = _))
noncomputable def oB101 (P : Params) : Obj := ⟨(.type "tuple"), none, (.seq (List.toArray [(.int 15 302)]) 0), List.toArray []⟩
noncomputable def oB102 (P : Params) : Obj := ⟨(.type "tuple"), none, (.seq (List.toArray []) 0), List.toArray []⟩
noncomputable def oB103 (P : Params) : Obj := ⟨.none, none, (.fields (List.toArray [])), List.toArray []⟩
noncomputable def oB104 (P : Params) : Obj := ⟨(.type "tuple"), none, (.seq (List.toArray [(.str (Str.ofString "n") 306), (.str (Str.ofString "places") 307), (.str (Str.ofString "scale") 308), (.str (Str.ofString "scaled") 309), (.str (Str.ofString "told") 310), (.str (Str.ofString "rest") 311), (.str (Str.ofString "parts") 312), (.str (Str.ofString "end") 313)]) 0), List.toArray []⟩
noncomputable def oB105 (P : Params) : Obj := ⟨(.type "tuple"), none, (.seq (List.toArray []) 0), List.toArray []⟩
noncomputable def oB106 (P : Params) : Obj := fnI (Str.ofString "write_number") (Str.ofString "write_number") (h := (rfl : defAt 16 = _))
noncomputable def oB107 (P : Params) : Obj := ⟨(.type "code"), none, (.fields (List.toArray [(.str (Str.ofString "write_number") 303), (.str (Str.ofString "write_number") 304), (.str (Str.ofString "/claim/cut.py") 305), (.int 78 0), (.int 2 0), (.int 0 0), (.int 0 0), (.int 3 0), (.ref 102), (.bool true), (.int 181 0), (.ref 103), .none, (.ref 104), (.ref 105), (.ref 106), (.int 314 0), (.int 78 0), (.str (Str.ofString "/claim/cut.py") 315)])), List.toArray []⟩
noncomputable def oB108 (P : Params) : Obj := fnO (Str.ofString "write_number") (Str.ofString "write_number") (.ref 101) (.str (Str.ofString "markupmill.numbers") 194) 107 (h := (rfl : defAt 16 = _))
noncomputable def oB109 (P : Params) : Obj := ⟨(.type "tuple"), none, (.seq (List.toArray []) 0), List.toArray []⟩
noncomputable def oB110 (P : Params) : Obj := ⟨.none, none, (.fields (List.toArray [])), List.toArray []⟩
noncomputable def oB111 (P : Params) : Obj := ⟨(.type "tuple"), none, (.seq (List.toArray [(.str (Str.ofString "tree") 322), (.str (Str.ofString "node") 323), (.str (Str.ofString "found") 324), (.str (Str.ofString "left") 325), (.str (Str.ofString "here") 326)]) 0), List.toArray []⟩
noncomputable def oB112 (P : Params) : Obj := ⟨(.type "tuple"), none, (.seq (List.toArray []) 0), List.toArray []⟩
noncomputable def oB113 (P : Params) : Obj := fnI (Str.ofString "beneath") (Str.ofString "beneath") (h := (rfl : defAt 18 = _))
noncomputable def oB114 (P : Params) : Obj := ⟨(.type "code"), none, (.fields (List.toArray [(.str (Str.ofString "beneath") 319), (.str (Str.ofString "beneath") 320), (.str (Str.ofString "/claim/cut.py") 321), (.int 95 0), (.int 2 0), (.int 0 0), (.int 0 0), (.int 3 0), (.ref 109), (.bool true), (.int 181 0), (.ref 110), .none, (.ref 111), (.ref 112), (.ref 113), (.int 327 0), (.int 95 0), (.str (Str.ofString "/claim/cut.py") 328)])), List.toArray []⟩
noncomputable def oB115 (P : Params) : Obj := fnO (Str.ofString "beneath") (Str.ofString "beneath") .none (.str (Str.ofString "markupmill.order") 317) 114 (h := (rfl : defAt 18 = _))
noncomputable def oB116 (P : Params) : Obj := ⟨(.type "tuple"), none, (.seq (List.toArray []) 0), List.toArray []⟩
noncomputable def oB117 (P : Params) : Obj := ⟨.none, none, (.fields (List.toArray [])), List.toArray []⟩
noncomputable def oB118 (P : Params) : Obj := fnI (Str.ofString "string_value") (Str.ofString "string_value") (h := (rfl : defAt 19 = _))
noncomputable def oB119 (P : Params) : Obj := ⟨(.type "code"), none, (.fields (List.toArray [(.str (Str.ofString "string_value") 330), (.str (Str.ofString "string_value") 331), (.str (Str.ofString "/claim/cut.py") 332), (.int 103 0), (.int 2 0), (.int 0 0), (.int 0 0), (.int 3 0), (.ref 116), (.bool true), (.int 181 0), (.ref 117), .none, .none, .none, (.ref 118), (.int 333 0), (.int 103 0), (.str (Str.ofString "/claim/cut.py") 334)])), List.toArray []⟩
noncomputable def oB120 (P : Params) : Obj := fnO (Str.ofString "string_value") (Str.ofString "string_value") .none (.str (Str.ofString "markupmill.order") 317) 119 (h := (rfl : defAt 19 = _))
noncomputable def oB121 (P : Params) : Obj := ⟨(.type "tuple"), none, (.seq (List.toArray []) 0), List.toArray []⟩
noncomputable def oB122 (P : Params) : Obj := ⟨.none, none, (.fields (List.toArray [])), List.toArray []⟩
noncomputable def oB123 (P : Params) : Obj := ⟨(.type "tuple"), none, (.seq (List.toArray [(.str (Str.ofString "value") 341), (.str (Str.ofString "tree") 342)]) 0), List.toArray []⟩
noncomputable def oB124 (P : Params) : Obj := ⟨(.type "tuple"), none, (.seq (List.toArray []) 0), List.toArray []⟩
noncomputable def oB125 (P : Params) : Obj := fnI (Str.ofString "as_text") (Str.ofString "as_text") (h := (rfl : defAt 21 = _))
noncomputable def oB126 (P : Params) : Obj := ⟨(.type "code"), none, (.fields (List.toArray [(.str (Str.ofString "as_text") 338), (.str (Str.ofString "as_text") 339), (.str (Str.ofString "/claim/cut.py") 340), (.int 108 0), (.int 2 0), (.int 0 0), (.int 0 0), (.int 3 0), (.ref 121), (.bool true), (.int 181 0), (.ref 122), .none, (.ref 123), (.ref 124), (.ref 125), (.int 343 0), (.int 108 0), (.str (Str.ofString "/claim/cut.py") 344)])), List.toArray []⟩
noncomputable def oB127 (P : Params) : Obj := fnO (Str.ofString "as_text") (Str.ofString "as_text") .none (.str (Str.ofString "markupmill.compare") 336) 126 (h := (rfl : defAt 21 = _))
noncomputable def oB128 (P : Params) : Obj := ⟨(.type "tuple"), none, (.seq (List.toArray []) 0), List.toArray []⟩
noncomputable def oB129 (P : Params) : Obj := ⟨.none, none, (.fields (List.toArray [])), List.toArray []⟩
noncomputable def oB130 (P : Params) : Obj := ⟨(.type "tuple"), none, (.seq (List.toArray [(.str (Str.ofString "value") 349), (.str (Str.ofString "tree") 350)]) 0), List.toArray []⟩
noncomputable def oB131 (P : Params) : Obj := ⟨(.type "tuple"), none, (.seq (List.toArray []) 0), List.toArray []⟩
noncomputable def oB132 (P : Params) : Obj := fnI (Str.ofString "as_number") (Str.ofString "as_number") (h := (rfl : defAt 22 = _))
noncomputable def oB133 (P : Params) : Obj := ⟨(.type "code"), none, (.fields (List.toArray [(.str (Str.ofString "as_number") 346), (.str (Str.ofString "as_number") 347), (.str (Str.ofString "/claim/cut.py") 348), (.int 116 0), (.int 2 0), (.int 0 0), (.int 0 0), (.int 3 0), (.ref 128), (.bool true), (.int 181 0), (.ref 129), .none, (.ref 130), (.ref 131), (.ref 132), (.int 351 0), (.int 116 0), (.str (Str.ofString "/claim/cut.py") 352)])), List.toArray []⟩
noncomputable def oB134 (P : Params) : Obj := fnO (Str.ofString "as_number") (Str.ofString "as_number") .none (.str (Str.ofString "markupmill.compare") 336) 133 (h := (rfl : defAt 22 = _))
noncomputable def oB135 (P : Params) : Obj := ⟨(.type "tuple"), none, (.seq (List.toArray []) 0), List.toArray []⟩
noncomputable def oB136 (P : Params) : Obj := ⟨.none, none, (.fields (List.toArray [])), List.toArray []⟩
noncomputable def oB137 (P : Params) : Obj := ⟨(.type "tuple"), none, (.seq (List.toArray [(.str (Str.ofString "value") 357), (.str (Str.ofString "tree") 358)]) 0), List.toArray []⟩
noncomputable def oB138 (P : Params) : Obj := ⟨(.type "tuple"), none, (.seq (List.toArray []) 0), List.toArray []⟩
noncomputable def oB139 (P : Params) : Obj := fnI (Str.ofString "as_truth") (Str.ofString "as_truth") (h := (rfl : defAt 23 = _))
noncomputable def oB140 (P : Params) : Obj := ⟨(.type "code"), none, (.fields (List.toArray [(.str (Str.ofString "as_truth") 354), (.str (Str.ofString "as_truth") 355), (.str (Str.ofString "/claim/cut.py") 356), (.int 122 0), (.int 2 0), (.int 0 0), (.int 0 0), (.int 3 0), (.ref 135), (.bool true), (.int 181 0), (.ref 136), .none, (.ref 137), (.ref 138), (.ref 139), (.int 359 0), (.int 122 0), (.str (Str.ofString "/claim/cut.py") 360)])), List.toArray []⟩
noncomputable def oB141 (P : Params) : Obj := fnO (Str.ofString "as_truth") (Str.ofString "as_truth") .none (.str (Str.ofString "markupmill.compare") 336) 140 (h := (rfl : defAt 23 = _))
noncomputable def oB142 (P : Params) : Obj := ⟨(.type "tuple"), none, (.seq (List.toArray []) 0), List.toArray []⟩
noncomputable def oB143 (P : Params) : Obj := ⟨.none, none, (.fields (List.toArray [])), List.toArray []⟩
noncomputable def oB144 (P : Params) : Obj := ⟨(.type "tuple"), none, (.seq (List.toArray [(.str (Str.ofString "op") 365)]) 0), List.toArray []⟩
noncomputable def oB145 (P : Params) : Obj := ⟨(.type "tuple"), none, (.seq (List.toArray []) 0), List.toArray []⟩
noncomputable def oB146 (P : Params) : Obj := fnI (Str.ofString "is_equality") (Str.ofString "is_equality") (h := (rfl : defAt 24 = _))
noncomputable def oB147 (P : Params) : Obj := ⟨(.type "code"), none, (.fields (List.toArray [(.str (Str.ofString "is_equality") 362), (.str (Str.ofString "is_equality") 363), (.str (Str.ofString "/claim/cut.py") 364), (.int 130 0), (.int 1 0), (.int 0 0), (.int 0 0), (.int 3 0), (.ref 142), (.bool true), (.int 181 0), (.ref 143), .none, (.ref 144), (.ref 145), (.ref 146), (.int 366 0), (.int 130 0), (.str (Str.ofString "/claim/cut.py") 367)])), List.toArray []⟩
noncomputable def oB148 (P : Params) : Obj := fnO (Str.ofString "is_equality") (Str.ofString "is_equality") .none (.str (Str.ofString "markupmill.compare") 336) 147 (h := (rfl : defAt 24 = _))
noncomputable def oB149 (P : Params) : Obj := ⟨(.type "tuple"), none, (.seq (List.toArray []) 0), List.toArray []⟩
noncomputable def oB150 (P : Params) : Obj := ⟨.none, none, (.fields (List.toArray [])), List.toArray []⟩
noncomputable def oB151 (P : Params) : Obj := ⟨(.type "tuple"), none, (.seq (List.toArray [(.str (Str.ofString "op") 372), (.str (Str.ofString "one") 373), (.str (Str.ofString "other") 374)]) 0), List.toArray []⟩
noncomputable def oB152 (P : Params) : Obj := ⟨(.type "tuple"), none, (.seq (List.toArray []) 0), List.toArray []⟩
noncomputable def oB153 (P : Params) : Obj := fnI (Str.ofString "compared_texts") (Str.ofString "compared_texts") (h := (rfl : defAt 25 = _))
noncomputable def oB154 (P : Params) : Obj := ⟨(.type "code"), none, (.fields (List.toArray [(.str (Str.ofString "compared_texts") 369), (.str (Str.ofString "compared_texts") 370), (.str (Str.ofString "/claim/cut.py") 371), (.int 132 0), (.int 3 0), (.int 0 0), (.int 0 0), (.int 3 0), (.ref 149), (.bool true), (.int 181 0), (.ref 150), .none, (.ref 151), (.ref 152), (.ref 153), (.int 375 0), (.int 132 0), (.str (Str.ofString "/claim/cut.py") 376)])), List.toArray []⟩
noncomputable def oB155 (P : Params) : Obj := fnO (Str.ofString "compared_texts") (Str.ofString "compared_texts") .none (.str (Str.ofString "markupmill.compare") 336) 154 (h := (rfl : defAt 25 = _))
noncomputable def oB156 (P : Params) : Obj := ⟨(.type "tuple"), none, (.seq (List.toArray []) 0), List.toArray []⟩
noncomputable def oB157 (P : Params) : Obj := ⟨.none, none, (.fields (List.toArray [])), List.toArray []⟩
noncomputable def oB158 (P : Params) : Obj := ⟨(.type "tuple"), none, (.seq (List.toArray [(.str (Str.ofString "op") 381), (.str (Str.ofString "left") 382), (.str (Str.ofString "right") 383), (.str (Str.ofString "tree") 384)]) 0), List.toArray []⟩
noncomputable def oB159 (P : Params) : Obj := ⟨(.type "tuple"), none, (.seq (List.toArray []) 0), List.toArray []⟩
noncomputable def oB160 (P : Params) : Obj := fnI (Str.ofString "compared_plain") (Str.ofString "compared_plain") (h := (rfl : defAt 26 = _))
noncomputable def oB161 (P : Params) : Obj := ⟨(.type "code"), none, (.fields (List.toArray [(.str (Str.ofString "compared_plain") 378), (.str (Str.ofString "compared_plain") 379), (.str (Str.ofString "/claim/cut.py") 380), (.int 134 0), (.int 4 0), (.int 0 0), (.int 0 0), (.int 3 0), (.ref 156), (.bool true), (.int 181 0), (.ref 157), .none, (.ref 158), (.ref 159), (.ref 160), (.int 385 0), (.int 134 0), (.str (Str.ofString "/claim/cut.py") 386)])), List.toArray []⟩
noncomputable def oB162 (P : Params) : Obj := fnO (Str.ofString "compared_plain") (Str.ofString "compared_plain") .none (.str (Str.ofString "markupmill.compare") 336) 161 (h := (rfl : defAt 26 = _))
noncomputable def oB163 (P : Params) : Obj := ⟨(.type "tuple"), none, (.seq (List.toArray []) 0), List.toArray []⟩
noncomputable def oB164 (P : Params) : Obj := ⟨.none, none, (.fields (List.toArray [])), List.toArray []⟩
noncomputable def oB165 (P : Params) : Obj := fnI (Str.ofString "as_compared") (Str.ofString "as_compared") (h := (rfl : defAt 27 = _))
noncomputable def oB166 (P : Params) : Obj := ⟨(.type "code"), none, (.fields (List.toArray [(.str (Str.ofString "as_compared") 388), (.str (Str.ofString "as_compared") 389), (.str (Str.ofString "/claim/cut.py") 390), (.int 141 0), (.int 3 0), (.int 0 0), (.int 0 0), (.int 3 0), (.ref 163), (.bool true), (.int 181 0), (.ref 164), .none, .none, .none, (.ref 165), (.int 391 0), (.int 141 0), (.str (Str.ofString "/claim/cut.py") 392)])), List.toArray []⟩
noncomputable def oB167 (P : Params) : Obj := fnO (Str.ofString "as_compared") (Str.ofString "as_compared") .none (.str (Str.ofString "markupmill.compare") 336) 166 (h := (rfl : defAt 27 = _))
noncomputable def oB168 (P : Params) : Obj := ⟨(.type "tuple"), none, (.seq (List.toArray []) 0), List.toArray []⟩
noncomputable def oB169 (P : Params) : Obj := ⟨.none, none, (.fields (List.toArray [])), List.toArray []⟩
noncomputable def oB170 (P : Params) : Obj := ⟨(.type "tuple"), none, (.seq (List.toArray [(.str (Str.ofString "op") 397), (.str (Str.ofString "lefts") 398), (.str (Str.ofString "rights") 399), (.str (Str.ofString "left") 400), (.str (Str.ofString "right") 401)]) 0), List.toArray []⟩
noncomputable def oB171 (P : Params) : Obj := ⟨(.type "tuple"), none, (.seq (List.toArray []) 0), List.toArray []⟩
noncomputable def oB172 (P : Params) : Obj := fnI (Str.ofString "some_pair") (Str.ofString "some_pair") (h := (rfl : defAt 28 = _))
noncomputable def oB173 (P : Params) : Obj := ⟨(.type "code"), none, (.fields (List.toArray [(.str (Str.ofString "some_pair") 394), (.str (Str.ofString "some_pair") 395), (.str (Str.ofString "/claim/cut.py") 396), (.int 145 0), (.int 3 0), (.int 0 0), (.int 0 0), (.int 3 0), (.ref 168), (.bool true), (.int 181 0), (.ref 169), .none, (.ref 170), (.ref 171), (.ref 172), (.int 402 0), (.int 145 0), (.str (Str.ofString "/claim/cut.py") 403)])), List.toArray []⟩
noncomputable def oB174 (P : Params) : Obj := fnO (Str.ofString "some_pair") (Str.ofString "some_pair") .none (.str (Str.ofString "markupmill.compare") 336) 173 (h := (rfl : defAt 28 = _))
noncomputable def oB175 (P : Params) : Obj := ⟨(.type "tuple"), none, (.seq (List.toArray []) 0), List.toArray []⟩
noncomputable def oB176 (P : Params) : Obj := ⟨.none, none, (.fields (List.toArray [])), List.toArray []⟩
noncomputable def oB177 (P : Params) : Obj := fnI (Str.ofString "texts_of") (Str.ofString "texts_of") (h := (rfl : defAt 29 = _))
noncomputable def oB178 (P : Params) : Obj := ⟨(.type "code"), none, (.fields (List.toArray [(.str (Str.ofString "texts_of") 405), (.str (Str.ofString "texts_of") 406), (.str (Str.ofString "/claim/cut.py") 407), (.int 154 0), (.int 2 0), (.int 0 0), (.int 0 0), (.int 3 0), (.ref 175), (.bool true), (.int 181 0), (.ref 176), .none, .none, .none, (.ref 177), (.int 408 0), (.int 154 0), (.str (Str.ofString "/claim/cut.py") 409)])), List.toArray []⟩
noncomputable def oB179 (P : Params) : Obj := fnO (Str.ofString "texts_of") (Str.ofString "texts_of") .none (.str (Str.ofString "markupmill.compare") 336) 178 (h := (rfl : defAt 29 = _))
noncomputable def oB180 (P : Params) : Obj := ⟨(.type "tuple"), none, (.seq (List.toArray []) 0), List.toArray []⟩
noncomputable def oB181 (P : Params) : Obj := ⟨.none, none, (.fields (List.toArray [])), List.toArray []⟩
noncomputable def oB182 (P : Params) : Obj := ⟨(.type "tuple"), none, (.seq (List.toArray [(.str (Str.ofString "op") 414), (.str (Str.ofString "value") 415), (.str (Str.ofString "other") 416), (.str (Str.ofString "tree") 417)]) 0), List.toArray []⟩
noncomputable def oB183 (P : Params) : Obj := ⟨(.type "tuple"), none, (.seq (List.toArray []) 0), List.toArray []⟩
noncomputable def oB184 (P : Params) : Obj := fnI (Str.ofString "listed") (Str.ofString "listed") (h := (rfl : defAt 30 = _))
noncomputable def oB185 (P : Params) : Obj := ⟨(.type "code"), none, (.fields (List.toArray [(.str (Str.ofString "listed") 411), (.str (Str.ofString "listed") 412), (.str (Str.ofString "/claim/cut.py") 413), (.int 156 0), (.int 4 0), (.int 0 0), (.int 0 0), (.int 3 0), (.ref 180), (.bool true), (.int 181 0), (.ref 181), .none, (.ref 182), (.ref 183), (.ref 184), (.int 418 0), (.int 156 0), (.str (Str.ofString "/claim/cut.py") 419)])), List.toArray []⟩
noncomputable def oB186 (P : Params) : Obj := fnO (Str.ofString "listed") (Str.ofString "listed") .none (.str (Str.ofString "markupmill.compare") 336) 185 (h := (rfl : defAt 30 = _))
noncomputable def oB187 (P : Params) : Obj := ⟨(.type "tuple"), none, (.seq (List.toArray []) 0), List.toArray []⟩
noncomputable def oB188 (P : Params) : Obj := ⟨.none, none, (.fields (List.toArray [])), List.toArray []⟩
noncomputable def oB189 (P : Params) : Obj := ⟨(.type "tuple"), none, (.seq (List.toArray [(.str (Str.ofString "op") 424), (.str (Str.ofString "left") 425), (.str (Str.ofString "right") 426), (.str (Str.ofString "tree") 427)]) 0), List.toArray []⟩
noncomputable def oB190 (P : Params) : Obj := ⟨(.type "tuple"), none, (.seq (List.toArray []) 0), List.toArray []⟩
noncomputable def oB191 (P : Params) : Obj := fnI (Str.ofString "compared") (Str.ofString "compared") (h := (rfl : defAt 31 = _))
noncomputable def oB192 (P : Params) : Obj := ⟨(.type "code"), none, (.fields (List.toArray [(.str (Str.ofString "compared") 421), (.str (Str.ofString "compared") 422), (.str (Str.ofString "/claim/cut.py") 423), (.int 162 0), (.int 4 0), (.int 0 0), (.int 0 0), (.int 3 0), (.ref 187), (.bool true), (.int 181 0), (.ref 188), .none, (.ref 189), (.ref 190), (.ref 191), (.int 428 0), (.int 162 0), (.str (Str.ofString "/claim/cut.py") 429)])), List.toArray []⟩
noncomputable def oB193 (P : Params) : Obj := fnO (Str.ofString "compared") (Str.ofString "compared") .none (.str (Str.ofString "markupmill.compare") 336) 192 (h := (rfl : defAt 31 = _))
noncomputable def oB194 (P : Params) : Obj := ⟨(.type "tuple"), none, (.seq (List.toArray [(.type "Exception")]) 0), List.toArray []⟩
noncomputable def oB195 (P : Params) : Obj := ⟨(.type "builtin_function_or_method"), none, (.fields (List.toArray [(.builtin "type.__prepare__"), (.type "type")])), List.toArray []⟩
noncomputable def oB196 (P : Params) : Obj := ⟨(.type "dict"), none, (.dict (List.toArray [kE P (Str.ofString "__module__") 440 (.str (Str.ofString "markupmill.errors") 431), kE P (Str.ofString "__qualname__") 442 (.str (Str.ofString "MarkupError") 441), kE P (Str.ofString "__firstlineno__") 444 (.int 169 443), kE P (Str.ofString "__init__") 452 (.ref 207), kE P (Str.ofString "__static_attributes__") 454 (.ref 208)]) 5), List.toArray []⟩
noncomputable def oB197 (P : Params) : Obj := ⟨(.type "tuple"), none, (.seq (List.toArray []) 0), List.toArray []⟩
noncomputable def oB198 (P : Params) : Obj := ⟨.none, none, (.fields (List.toArray [(.int 171 0), (.int 4 0), (.ref 206)])), List.toArray []⟩
noncomputable def oB199 (P : Params) : Obj := ⟨(.type "code"), none, (.fields (List.toArray [(.str (Str.ofString "MarkupError") 435), (.str (Str.ofString "MarkupError") 436), (.str (Str.ofString "/claim/cut.py") 437), (.int 169 0), (.int 0 0), (.int 0 0), (.int 0 0), (.int 0 0), (.ref 197), (.bool false), (.int 181 0), (.ref 198), .none, .none, .none, .none, (.int 438 0), (.int 169 0), (.str (Str.ofString "/claim/cut.py") 439)])), List.toArray []⟩
noncomputable def oB200 (P : Params) : Obj := ⟨(.type "frame"), none, .plain, List.toArray [(some (.ref 199)), (some (.ref 3)), (some (.ref 196)), none, (some (.str (Str.ofString "markupmill.errors") 431)), none, (some (.ref 0))]⟩
noncomputable def oB201 (P : Params) : Obj := ⟨(.type "tuple"), none, (.seq (List.toArray []) 0), List.toArray []⟩
noncomputable def oB202 (P : Params) : Obj := ⟨.none, none, (.fields (List.toArray [])), List.toArray []⟩
noncomputable def oB203 (P : Params) : Obj := ⟨(.type "tuple"), none, (.seq (List.toArray [(.str (Str.ofString "self") 448), (.str (Str.ofString "message") 449)]) 0), List.toArray []⟩
noncomputable def oB204 (P : Params) : Obj := ⟨(.type "tuple"), none, (.seq (List.toArray []) 0), List.toArray []⟩
noncomputable def oB205 (P : Params) : Obj := fnI (Str.ofString "__init__") (Str.ofString "MarkupError.__init__") (h := (rfl : methAt 33 0 = _))
noncomputable def oB206 (P : Params) : Obj := ⟨(.type "code"), none, (.fields (List.toArray [(.str (Str.ofString "__init__") 445), (.str (Str.ofString "MarkupError.__init__") 446), (.str (Str.ofString "/claim/cut.py") 447), (.int 171 0), (.int 2 0), (.int 0 0), (.int 0 0), (.int 3 0), (.ref 201), (.bool true), (.int 181 0), (.ref 202), .none, (.ref 203), (.ref 204), (.ref 205), (.int 450 0), (.int 171 0), (.str (Str.ofString "/claim/cut.py") 451)])), List.toArray []⟩
noncomputable def oB207 (P : Params) : Obj := fnO (Str.ofString "__init__") (Str.ofString "MarkupError.__init__") .none (.str (Str.ofString "markupmill.errors") 431) 206 (h := (rfl : methAt 33 0 = _))
noncomputable def oB208 (P : Params) : Obj := ⟨(.type "tuple"), none, (.seq (List.toArray [(.str (Str.ofString "message") 453)]) 0), List.toArray []⟩
noncomputable def oB209 (P : Params) : Obj := ⟨(.type "dict"), none, (.dict (List.toArray [kE P (Str.ofString "__module__") 440 (.str (Str.ofString "markupmill.errors") 431), kE P (Str.ofString "__firstlineno__") 444 (.int 169 443), kE P (Str.ofString "__init__") 452 (.ref 207), kE P (Str.ofString "__static_attributes__") 454 (.ref 208), kE P (Str.ofString "__weakref__") 456 (.ref 211), kE P (Str.ofString "__doc__") 457 .none]) 3), List.toArray []⟩
noncomputable def oB210 (P : Params) : Obj := ⟨(.type "type"), none, (.cls { name := (Str.ofString "MarkupError"), bases := [(.type "Exception")], mro := [(.ref 210), (.type "Exception"), (.type "BaseException"), (.type "object")], ns := 209, qualname := (Str.ofString "MarkupError"), hasDict := true, slotNames := [], subclasses := [(.ref 223)], abstract := false, collection := none, hasDel := false }), List.toArray [(some (.ref 194)), none, (some (.str (Str.ofString "MarkupError") 433)), (some (.str (Str.ofString "MarkupError") 441)), (some (.builtin "Exception.__new__")), (some (.bool true))]⟩
noncomputable def oB211 (P : Params) : Obj := ⟨(.type "getset_descriptor"), none, (.fields (List.toArray [(.str (Str.ofString "__weakref__") 455), (.ref 210), (.builtin "ExceptionGroup.__weakref__"), .none])), List.toArray []⟩
noncomputable def oB212 (P : Params) : Obj := ⟨(.type "super"), none, (.fields (List.toArray [(.ref 210), (.ref 210), (.ref 210)])), List.toArray []⟩
noncomputable def oB213 (P : Params) : Obj := ⟨(.type "builtin_function_or_method"), none, (.fields (List.toArray [(.builtin "object.__init_subclass__"), (.ref 210)])), List.toArray []⟩
noncomputable def oB214 (P : Params) : Obj := ⟨(.type "tuple"), none, (.seq (List.toArray [(.ref 210)]) 0), List.toArray []⟩
noncomputable def oB215 (P : Params) : Obj := ⟨(.type "builtin_function_or_method"), none, (.fields (List.toArray [(.builtin "type.__prepare__"), (.type "type")])), List.toArray []⟩
noncomputable def oB216 (P : Params) : Obj := ⟨(.type "dict"), none, (.dict (List.toArray [kE P (Str.ofString "__module__") 469 (.str (Str.ofString "markupmill.errors") 431), kE P (Str.ofString "__qualname__") 471 (.str (Str.ofString "TreeFault") 470), kE P (Str.ofString "__firstlineno__") 473 (.int 174 472), kE P (Str.ofString "__static_attributes__") 474 (.ref 221)]) 4), List.toArray []⟩
noncomputable def oB217 (P : Params) : Obj := ⟨(.type "tuple"), none, (.seq (List.toArray []) 0), List.toArray []⟩
noncomputable def oB218 (P : Params) : Obj := ⟨.none, none, (.fields (List.toArray [])), List.toArray []⟩
noncomputable def oB219 (P : Params) : Obj := ⟨(.type "code"), none, (.fields (List.toArray [(.str (Str.ofString "TreeFault") 464), (.str (Str.ofString "TreeFault") 465), (.str (Str.ofString "/claim/cut.py") 466), (.int 174 0), (.int 0 0), (.int 0 0), (.int 0 0), (.int 0 0), (.ref 217), (.bool false), (.int 181 0), (.ref 218), .none, .none, .none, .none, (.int 467 0), (.int 174 0), (.str (Str.ofString "/claim/cut.py") 468)])), List.toArray []⟩
noncomputable def oB220 (P : Params) : Obj := ⟨(.type "frame"), none, .plain, List.toArray [(some (.ref 219)), (some (.ref 3)), (some (.ref 216)), none, (some (.str (Str.ofString "markupmill.errors") 431)), none, (some (.ref 0))]⟩
noncomputable def oB221 (P : Params) : Obj := ⟨(.type "tuple"), none, (.seq (List.toArray []) 0), List.toArray []⟩
noncomputable def oB222 (P : Params) : Obj := ⟨(.type "dict"), none, (.dict (List.toArray [kE P (Str.ofString "__module__") 469 (.str (Str.ofString "markupmill.errors") 431), kE P (Str.ofString "__firstlineno__") 473 (.int 174 472), kE P (Str.ofString "__static_attributes__") 474 (.ref 221), kE P (Str.ofString "__doc__") 475 .none]) 2), List.toArray []⟩
noncomputable def oB223 (P : Params) : Obj := ⟨(.type "type"), none, (.cls { name := (Str.ofString "TreeFault"), bases := [(.ref 210)], mro := [(.ref 223), (.ref 210), (.type "Exception"), (.type "BaseException"), (.type "object")], ns := 222, qualname := (Str.ofString "TreeFault"), hasDict := true, slotNames := [], subclasses := [], abstract := false, collection := none, hasDel := false }), List.toArray [(some (.ref 214)), none, (some (.str (Str.ofString "TreeFault") 462)), (some (.str (Str.ofString "TreeFault") 470)), (some (.builtin "Exception.__new__")), (some (.bool true))]⟩
noncomputable def oB224 (P : Params) : Obj := ⟨(.type "super"), none, (.fields (List.toArray [(.ref 223), (.ref 223), (.ref 223)])), List.toArray []⟩
noncomputable def oB225 (P : Params) : Obj := ⟨(.type "builtin_function_or_method"), none, (.fields (List.toArray [(.builtin "object.__init_subclass__"), (.ref 223)])), List.toArray []⟩
noncomputable def oB226 (P : Params) : Obj := ⟨(.type "tuple"), none, (.seq (List.toArray [(.str (Str.ofString "root") 480), (.str (Str.ofString "element") 481)]) 0), List.toArray []⟩
noncomputable def oB227 (P : Params) : Obj := ⟨(.type "tuple"), none, (.seq (List.toArray []) 0), List.toArray []⟩
noncomputable def oB228 (P : Params) : Obj := ⟨(.type "builtin_function_or_method"), none, (.fields (List.toArray [(.builtin "type.__prepare__"), (.type "type")])), List.toArray []⟩
noncomputable def oB229 (P : Params) : Obj := ⟨(.type "dict"), none, (.dict (List.toArray [kE P (Str.ofString "__module__") 490 (.str (Str.ofString "markupmill.tree") 478), kE P (Str.ofString "__qualname__") 492 (.str (Str.ofString "NodeRow") 491), kE P (Str.ofString "__firstlineno__") 494 (.int 178 493), kE P (Str.ofString "__init__") 507 (.ref 240), kE P (Str.ofString "__static_attributes__") 517 (.ref 241)]) 5), List.toArray []⟩
noncomputable def oB230 (P : Params) : Obj := ⟨(.type "tuple"), none, (.seq (List.toArray []) 0), List.toArray []⟩
noncomputable def oB231 (P : Params) : Obj := ⟨.none, none, (.fields (List.toArray [(.int 180 0), (.int 4 0), (.ref 239)])), List.toArray []⟩
noncomputable def oB232 (P : Params) : Obj := ⟨(.type "code"), none, (.fields (List.toArray [(.str (Str.ofString "NodeRow") 485), (.str (Str.ofString "NodeRow") 486), (.str (Str.ofString "/claim/cut.py") 487), (.int 178 0), (.int 0 0), (.int 0 0), (.int 0 0), (.int 0 0), (.ref 230), (.bool false), (.int 181 0), (.ref 231), .none, .none, .none, .none, (.int 488 0), (.int 178 0), (.str (Str.ofString "/claim/cut.py") 489)])), List.toArray []⟩
noncomputable def oB233 (P : Params) : Obj := ⟨(.type "frame"), none, .plain, List.toArray [(some (.ref 232)), (some (.ref 3)), (some (.ref 229)), none, (some (.str (Str.ofString "markupmill.tree") 478)), none, (some (.ref 0))]⟩
noncomputable def oB234 (P : Params) : Obj := ⟨(.type "tuple"), none, (.seq (List.toArray []) 0), List.toArray []⟩
noncomputable def oB235 (P : Params) : Obj := ⟨.none, none, (.fields (List.toArray [])), List.toArray []⟩
noncomputable def oB236 (P : Params) : Obj := ⟨(.type "tuple"), none, (.seq (List.toArray [(.str (Str.ofString "self") 498), (.str (Str.ofString "kind") 499), (.str (Str.ofString "name") 500), (.str (Str.ofString "uri") 501), (.str (Str.ofString "local") 502), (.str (Str.ofString "value") 503), (.str (Str.ofString "parent") 504)]) 0), List.toArray []⟩
noncomputable def oB237 (P : Params) : Obj := ⟨(.type "tuple"), none, (.seq (List.toArray []) 0), List.toArray []⟩
noncomputable def oB238 (P : Params) : Obj := fnI (Str.ofString "__init__") (Str.ofString "NodeRow.__init__") (h := (rfl : methAt 37 0 = _))
noncomputable def oB239 (P : Params) : Obj := ⟨(.type "code"), none, (.fields (List.toArray [(.str (Str.ofString "__init__") 495), (.str (Str.ofString "NodeRow.__init__") 496), (.str (Str.ofString "/claim/cut.py") 497), (.int 180 0), (.int 7 0), (.int 0 0), (.int 0 0), (.int 3 0), (.ref 234), (.bool true), (.int 181 0), (.ref 235), .none, (.ref 236), (.ref 237), (.ref 238), (.int 505 0), (.int 180 0), (.str (Str.ofString "/claim/cut.py") 506)])), List.toArray []⟩
noncomputable def oB240 (P : Params) : Obj := fnO (Str.ofString "__init__") (Str.ofString "NodeRow.__init__") .none (.str (Str.ofString "markupmill.tree") 478) 239 (h := (rfl : methAt 37 0 = _))
noncomputable def oB241 (P : Params) : Obj := ⟨(.type "tuple"), none, (.seq (List.toArray [(.str (Str.ofString "attributes") 508), (.str (Str.ofString "children") 509), (.str (Str.ofString "kind") 510), (.str (Str.ofString "local") 511), (.str (Str.ofString "name") 512), (.str (Str.ofString "namespaces") 513), (.str (Str.ofString "parent") 514), (.str (Str.ofString "uri") 515), (.str (Str.ofString "value") 516)]) 0), List.toArray []⟩
noncomputable def oB242 (P : Params) : Obj := ⟨(.type "dict"), none, (.dict (List.toArray [kE P (Str.ofString "__module__") 490 (.str (Str.ofString "markupmill.tree") 478), kE P (Str.ofString "__firstlineno__") 494 (.int 178 493), kE P (Str.ofString "__init__") 507 (.ref 240), kE P (Str.ofString "__static_attributes__") 517 (.ref 241), kE P (Str.ofString "__dict__") 519 (.ref 244), kE P (Str.ofString "__weakref__") 521 (.ref 245), kE P (Str.ofString "__doc__") 522 .none]) 4), List.toArray []⟩
noncomputable def oB243 (P : Params) : Obj := ⟨(.type "type"), none, (.cls { name := (Str.ofString "NodeRow"), bases := [(.type "object")], mro := [(.ref 243), (.type "object")], ns := 242, qualname := (Str.ofString "NodeRow"), hasDict := true, slotNames := [], subclasses := [], abstract := false, collection := none, hasDel := false }), List.toArray [none, none, (some (.str (Str.ofString "NodeRow") 483)), (some (.str (Str.ofString "NodeRow") 491)), (some (.builtin "object.__new__")), (some (.bool true))]⟩
noncomputable def oB244 (P : Params) : Obj := ⟨(.type "getset_descriptor"), none, (.fields (List.toArray [(.str (Str.ofString "__dict__") 518), (.ref 243), (.builtin "function.__dict__"), (.builtin "function.__dict__#set")])), List.toArray []⟩
noncomputable def oB245 (P : Params) : Obj := ⟨(.type "getset_descriptor"), none, (.fields (List.toArray [(.str (Str.ofString "__weakref__") 520), (.ref 243), (.builtin "ExceptionGroup.__weakref__"), .none])), List.toArray []⟩
noncomputable def oB246 (P : Params) : Obj := ⟨(.type "super"), none, (.fields (List.toArray [(.ref 243), (.ref 243), (.ref 243)])), List.toArray []⟩
noncomputable def oB247 (P : Params) : Obj := ⟨(.type "builtin_function_or_method"), none, (.fields (List.toArray [(.builtin "object.__init_subclass__"), (.ref 243)])), List.toArray []⟩
noncomputable def treeB (P : Params) : BT := (.node (boot_o_0 P) (.node (boot_o_1 P) (.node (oB3 P) (.node (boot_o_7 P) (.node (oB15 P) (.node (oB31 P) (.node (oB63 P) (.node (oB127 P) .nil .nil) (.node (oB191 P) .nil .nil)) (.node (oB95 P) (.node (oB159 P) .nil .nil) (.node (oB223 P) .nil .nil))) (.node (oB47 P) (.node (oB79 P) (.node (oB143 P) .nil .nil) (.node (oB207 P) .nil .nil)) (.node (oB111 P) (.node (oB175 P) .nil .nil) (.node (oB239 P) .nil .nil)))) (.node (oB23 P) (.node (oB39 P) (.node (oB71 P) (.node (oB135 P) .nil .nil) (.node (oB199 P) .nil .nil)) (.node (oB103 P) (.node (oB167 P) .nil .nil) (.node (oB231 P) .nil .nil))) (.node (oB55 P) (.node (oB87 P) (.node (oB151 P) .nil .nil) (.node (oB215 P) .nil .nil)) (.node (oB119 P) (.node (oB183 P) .nil .nil) (.node (oB247 P) .nil .nil))))) (.node (oA11 P) (.node (oB19 P) (.node (oB35 P) (.node (oB67 P) (.node (oB131 P) .nil .nil) (.node (oB195 P) .nil .nil)) (.node (oB99 P) (.node (oB163 P) .nil .nil) (.node (oB227 P) .nil .nil))) (.node (oB51 P) (.node (oB83 P) (.node (oB147 P) .nil .nil) (.node (oB211 P) .nil .nil)) (.node (oB115 P) (.node (oB179 P) .nil .nil) (.node (oB243 P) .nil .nil)))) (.node (oB27 P) (.node (oB43 P) (.node (oB75 P) (.node (oB139 P) .nil .nil) (.node (oB203 P) .nil .nil)) (.node (oB107 P) (.node (oB171 P) .nil .nil) (.node (oB235 P) .nil .nil))) (.node (oB59 P) (.node (oB91 P) (.node (oB155 P) .nil .nil) (.node (oB219 P) .nil .nil)) (.node (oB123 P) (.node (oB187 P) .nil .nil) .nil))))) (.node (boot_o_5 P) (.node (boot_o_9 P) (.node (oB17 P) (.node (oB33 P) (.node (oB65 P) (.node (oB129 P) .nil .nil) (.node (oB193 P) .nil .nil)) (.node (oB97 P) (.node (oB161 P) .nil .nil) (.node (oB225 P) .nil .nil))) (.node (oB49 P) (.node (oB81 P) (.node (oB145 P) .nil .nil) (.node (oB209 P) .nil .nil)) (.node (oB113 P) (.node (oB177 P) .nil .nil) (.node (oB241 P) .nil .nil)))) (.node (oB25 P) (.node (oB41 P) (.node (oB73 P) (.node (oB137 P) .nil .nil) (.node (oB201 P) .nil .nil)) (.node (oB105 P) (.node (oB169 P) .nil .nil) (.node (oB233 P) .nil .nil))) (.node (oB57 P) (.node (oB89 P) (.node (oB153 P) .nil .nil) (.node (oB217 P) .nil .nil)) (.node (oB121 P) (.node (oB185 P) .nil .nil) .nil)))) (.node (oA13 P) (.node (oB21 P) (.node (oB37 P) (.node (oB69 P) (.node (oB133 P) .nil .nil) (.node (oB197 P) .nil .nil)) (.node (oB101 P) (.node (oB165 P) .nil .nil) (.node (oB229 P) .nil .nil))) (.node (oB53 P) (.node (oB85 P) (.node (oB149 P) .nil .nil) (.node (oB213 P) .nil .nil)) (.node (oB117 P) (.node (oB181 P) .nil .nil) (.node (oB245 P) .nil .nil)))) (.node (oB29 P) (.node (oB45 P) (.node (oB77 P) (.node (oB141 P) .nil .nil) (.node (oB205 P) .nil .nil)) (.node (oB109 P) (.node (oB173 P) .nil .nil) (.node (oB237 P) .nil .nil))) (.node (oB61 P) (.node (oB93 P) (.node (oB157 P) .nil .nil) (.node (oB221 P) .nil .nil)) (.node (oB125 P) (.node (oB189 P) .nil .nil) .nil)))))) (.node (oB2 P) (.node (boot_o_4 P) (.node (boot_o_8 P) (.node (oB16 P) (.node (oB32 P) (.node (oB64 P) (.node (oB128 P) .nil .nil) (.node (oB192 P) .nil .nil)) (.node (oB96 P) (.node (oB160 P) .nil .nil) (.node (oB224 P) .nil .nil))) (.node (oB48 P) (.node (oB80 P) (.node (oB144 P) .nil .nil) (.node (oB208 P) .nil .nil)) (.node (oB112 P) (.node (oB176 P) .nil .nil) (.node (oB240 P) .nil .nil)))) (.node (oB24 P) (.node (oB40 P) (.node (oB72 P) (.node (oB136 P) .nil .nil) (.node (oB200 P) .nil .nil)) (.node (oB104 P) (.node (oB168 P) .nil .nil) (.node (oB232 P) .nil .nil))) (.node (oB56 P) (.node (oB88 P) (.node (oB152 P) .nil .nil) (.node (oB216 P) .nil .nil)) (.node (oB120 P) (.node (oB184 P) .nil .nil) .nil)))) (.node (oB12 P) (.node (oB20 P) (.node (oB36 P) (.node (oB68 P) (.node (oB132 P) .nil .nil) (.node (oB196 P) .nil .nil)) (.node (oB100 P) (.node (oB164 P) .nil .nil) (.node (oB228 P) .nil .nil))) (.node (oB52 P) (.node (oB84 P) (.node (oB148 P) .nil .nil) (.node (oB212 P) .nil .nil)) (.node (oB116 P) (.node (oB180 P) .nil .nil) (.node (oB244 P) .nil .nil)))) (.node (oB28 P) (.node (oB44 P) (.node (oB76 P) (.node (oB140 P) .nil .nil) (.node (oB204 P) .nil .nil)) (.node (oB108 P) (.node (oB172 P) .nil .nil) (.node (oB236 P) .nil .nil))) (.node (oB60 P) (.node (oB92 P) (.node (oB156 P) .nil .nil) (.node (oB220 P) .nil .nil)) (.node (oB124 P) (.node (oB188 P) .nil .nil) .nil))))) (.node (boot_o_6 P) (.node (boot_o_10 P) (.node (oB18 P) (.node (oB34 P) (.node (oB66 P) (.node (oB130 P) .nil .nil) (.node (oB194 P) .nil .nil)) (.node (oB98 P) (.node (oB162 P) .nil .nil) (.node (oB226 P) .nil .nil))) (.node (oB50 P) (.node (oB82 P) (.node (oB146 P) .nil .nil) (.node (oB210 P) .nil .nil)) (.node (oB114 P) (.node (oB178 P) .nil .nil) (.node (oB242 P) .nil .nil)))) (.node (oB26 P) (.node (oB42 P) (.node (oB74 P) (.node (oB138 P) .nil .nil) (.node (oB202 P) .nil .nil)) (.node (oB106 P) (.node (oB170 P) .nil .nil) (.node (oB234 P) .nil .nil))) (.node (oB58 P) (.node (oB90 P) (.node (oB154 P) .nil .nil) (.node (oB218 P) .nil .nil)) (.node (oB122 P) (.node (oB186 P) .nil .nil) .nil)))) (.node (oA14 P) (.node (oB22 P) (.node (oB38 P) (.node (oB70 P) (.node (oB134 P) .nil .nil) (.node (oB198 P) .nil .nil)) (.node (oB102 P) (.node (oB166 P) .nil .nil) (.node (oB230 P) .nil .nil))) (.node (oB54 P) (.node (oB86 P) (.node (oB150 P) .nil .nil) (.node (oB214 P) .nil .nil)) (.node (oB118 P) (.node (oB182 P) .nil .nil) (.node (oB246 P) .nil .nil)))) (.node (oB30 P) (.node (oB46 P) (.node (oB78 P) (.node (oB142 P) .nil .nil) (.node (oB206 P) .nil .nil)) (.node (oB110 P) (.node (oB174 P) .nil .nil) (.node (oB238 P) .nil .nil))) (.node (oB62 P) (.node (oB94 P) (.node (oB158 P) .nil .nil) (.node (oB222 P) .nil .nil)) (.node (oB126 P) (.node (oB190 P) .nil .nil) .nil)))))))
noncomputable def oC3 (P : Params) : Obj := ⟨(.type "dict"), none, (.dict (List.toArray [kE P (Str.ofString "__name__") 165 (.str (Str.ofString "markupmill.tree") 478), kE P (Str.ofString "__doc__") 166 .none, kE P (Str.ofString "__package__") 167 .none, kE P (Str.ofString "__loader__") 168 (.builtin "__main__.__loader__#opaque"), kE P (Str.ofString "__spec__") 169 .none, kE P (Str.ofString "__annotations__") 170 (.ref 6), kE P (Str.ofString "__builtins__") 171 (.ref 4), kE P (Str.ofString "__file__") 173 (.str (Str.ofString "/claim/cut.py") 172), kE P (Str.ofString "__cached__") 174 .none, kE P (Str.ofString "_wall") 193 (.ref 21), kE P (Str.ofString "NAN") 198 (.ref 22), kE P (Str.ofString "SPACES") 200 (.str (Str.ofString " \t\n\x0d") 199), kE P (Str.ofString "DIGITS") 202 (.str (Str.ofString "0123456789") 201), kE P (Str.ofString "common_divisor") 212 (.ref 29), kE P (Str.ofString "sign_of") 219 (.ref 36), kE P (Str.ofString "number_of") 229 (.ref 44), kE P (Str.ofString "is_nan") 236 (.ref 51), kE P (Str.ofString "negated") 243 (.ref 58), kE P (Str.ofString "order_of") 251 (.ref 65), kE P (Str.ofString "compared_numbers") 261 (.ref 72), kE P (Str.ofString "digits_end") 269 (.ref 79), kE P (Str.ofString "trimmed") 278 (.ref 86), kE P (Str.ofString "whole_of") 287 (.ref 93), kE P (Str.ofString "read_number") 301 (.ref 100), kE P (Str.ofString "write_number") 316 (.ref 108), kE P (Str.ofString "beneath") 329 (.ref 115), kE P (Str.ofString "string_value") 335 (.ref 120), kE P (Str.ofString "as_text") 345 (.ref 127), kE P (Str.ofString "as_number") 353 (.ref 134), kE P (Str.ofString "as_truth") 361 (.ref 141), kE P (Str.ofString "is_equality") 368 (.ref 148), kE P (Str.ofString "compared_texts") 377 (.ref 155), kE P (Str.ofString "compared_plain") 387 (.ref 162), kE P (Str.ofString "as_compared") 393 (.ref 167), kE P (Str.ofString "some_pair") 404 (.ref 174), kE P (Str.ofString "texts_of") 410 (.ref 179), kE P (Str.ofString "listed") 420 (.ref 186), kE P (Str.ofString "compared") 430 (.ref 193), kE P (Str.ofString "MarkupError") 461 (.ref 210), kE P (Str.ofString "TreeFault") 477 (.ref 223), kE P (Str.ofString "PARENTS") 482 (.ref 226), kE P (Str.ofString "NodeRow") 524 (.ref 243), kE P (Str.ofString "Tree") 771 (.ref 432)]) 43), List.toArray []⟩
noncomputable def oC12 (P : Params) : Obj := ⟨.none, none, (.fields (List.toArray [(.int 1 0), (.int 0 0), (.ref 20), (.int 8 0), (.int 0 0), (.ref 28), (.int 13 0), (.int 0 0), (.ref 35), (.int 19 0), (.int 0 0), (.ref 43), (.int 26 0), (.int 0 0), (.ref 50), (.int 28 0), (.int 0 0), (.ref 57), (.int 30 0), (.int 0 0), (.ref 64), (.int 34 0), (.int 0 0), (.ref 71), (.int 49 0), (.int 0 0), (.ref 78), (.int 53 0), (.int 0 0), (.ref 85), (.int 60 0), (.int 0 0), (.ref 92), (.int 65 0), (.int 0 0), (.ref 99), (.int 78 0), (.int 0 0), (.ref 107), (.int 95 0), (.int 0 0), (.ref 114), (.int 103 0), (.int 0 0), (.ref 119), (.int 108 0), (.int 0 0), (.ref 126), (.int 116 0), (.int 0 0), (.ref 133), (.int 122 0), (.int 0 0), (.ref 140), (.int 130 0), (.int 0 0), (.ref 147), (.int 132 0), (.int 0 0), (.ref 154), (.int 134 0), (.int 0 0), (.ref 161), (.int 141 0), (.int 0 0), (.ref 166), (.int 145 0), (.int 0 0), (.ref 173), (.int 154 0), (.int 0 0), (.ref 178), (.int 156 0), (.int 0 0), (.ref 185), (.int 162 0), (.int 0 0), (.ref 192), (.int 169 0), (.int 0 0), (.ref 199), (.int 174 0), (.int 0 0), (.ref 219), (.int 178 0), (.int 0 0), (.ref 232), (.int 190 0), (.int 0 0), (.ref 253)])), List.toArray []⟩
noncomputable def oC248 (P : Params) : Obj := ⟨(.type "tuple"), none, (.seq (List.toArray []) 0), List.toArray []⟩
noncomputable def oC249 (P : Params) : Obj := ⟨(.type "builtin_function_or_method"), none, (.fields (List.toArray [(.builtin "type.__prepare__"), (.type "type")])), List.toArray []⟩
noncomputable def oC250 (P : Params) : Obj := ⟨(.type "dict"), none, (.dict (List.toArray [kE P (Str.ofString "__module__") 532 (.str (Str.ofString "markupmill.tree") 478), kE P (Str.ofString "__qualname__") 534 (.str (Str.ofString "Tree") 533), kE P (Str.ofString "__firstlineno__") 536 (.int 190 535), kE P (Str.ofString "__init__") 543 (.ref 261), kE P (Str.ofString "new_row") 556 (.ref 268), kE P (Str.ofString "row") 564 (.ref 275), kE P (Str.ofString "new_root") 571 (.ref 282), kE P (Str.ofString "add_child") 585 (.ref 289), kE P (Str.ofString "add_element") 596 (.ref 296), kE P (Str.ofString "add_text") 605 (.ref 303), kE P (Str.ofString "add_comment") 614 (.ref 310), kE P (Str.ofString "add_instruction") 624 (.ref 317), kE P (Str.ofString "element_row") 632 (.ref 324), kE P (Str.ofString "set_attribute") 644 (.ref 331), kE P (Str.ofString "add_namespace") 654 (.ref 338), kE P (Str.ofString "set_value") 663 (.ref 345), kE P (Str.ofString "kind") 671 (.ref 352), kE P (Str.ofString "name") 679 (.ref 359), kE P (Str.ofString "uri") 687 (.ref 366), kE P (Str.ofString "local") 695 (.ref 373), kE P (Str.ofString "value") 703 (.ref 380), kE P (Str.ofString "parent") 711 (.ref 387), kE P (Str.ofString "children") 719 (.ref 394), kE P (Str.ofString "attributes") 727 (.ref 401), kE P (Str.ofString "namespaces") 735 (.ref 408), kE P (Str.ofString "root_of") 743 (.ref 415), kE P (Str.ofString "is_above") 752 (.ref 422), kE P (Str.ofString "attribute_value") 762 (.ref 429), kE P (Str.ofString "__static_attributes__") 764 (.ref 430)]) 29), List.toArray []⟩
noncomputable def oC251 (P : Params) : Obj := ⟨(.type "tuple"), none, (.seq (List.toArray []) 0), List.toArray []⟩
noncomputable def oC252 (P : Params) : Obj := ⟨.none, none, (.fields (List.toArray [(.int 192 0), (.int 4 0), (.ref 260), (.int 195 0), (.int 4 0), (.ref 267), (.int 199 0), (.int 4 0), (.ref 274), (.int 204 0), (.int 4 0), (.ref 281), (.int 207 0), (.int 4 0), (.ref 288), (.int 215 0), (.int 4 0), (.ref 295), (.int 218 0), (.int 4 0), (.ref 302), (.int 221 0), (.int 4 0), (.ref 309), (.int 224 0), (.int 4 0), (.ref 316), (.int 227 0), (.int 4 0), (.ref 323), (.int 230 0), (.int 4 0), (.ref 330), (.int 233 0), (.int 4 0), (.ref 337), (.int 236 0), (.int 4 0), (.ref 344), (.int 239 0), (.int 4 0), (.ref 351), (.int 242 0), (.int 4 0), (.ref 358), (.int 245 0), (.int 4 0), (.ref 365), (.int 248 0), (.int 4 0), (.ref 372), (.int 251 0), (.int 4 0), (.ref 379), (.int 254 0), (.int 4 0), (.ref 386), (.int 257 0), (.int 4 0), (.ref 393), (.int 260 0), (.int 4 0), (.ref 400), (.int 263 0), (.int 4 0), (.ref 407), (.int 266 0), (.int 4 0), (.ref 414), (.int 269 0), (.int 4 0), (.ref 421), (.int 272 0), (.int 4 0), (.ref 428)])), List.toArray []⟩
noncomputable def oC253 (P : Params) : Obj := ⟨(.type "code"), none, (.fields (List.toArray [(.str (Str.ofString "Tree") 527), (.str (Str.ofString "Tree") 528), (.str (Str.ofString "/claim/cut.py") 529), (.int 190 0), (.int 0 0), (.int 0 0), (.int 0 0), (.int 0 0), (.ref 251), (.bool false), (.int 181 0), (.ref 252), .none, .none, .none, .none, (.int 530 0), (.int 190 0), (.str (Str.ofString "/claim/cut.py") 531)])), List.toArray []⟩
noncomputable def oC254 (P : Params) : Obj := ⟨(.type "frame"), none, .plain, List.toArray [(some (.ref 253)), (some (.ref 3)), (some (.ref 250)), none, (some (.str (Str.ofString "markupmill.tree") 478)), none, (some (.ref 0))]⟩
noncomputable def oC255 (P : Params) : Obj := ⟨(.type "tuple"), none, (.seq (List.toArray []) 0), List.toArray []⟩
noncomputable def oC256 (P : Params) : Obj := ⟨.none, none, (.fields (List.toArray [])), List.toArray []⟩
noncomputable def oC257 (P : Params) : Obj := ⟨(.type "tuple"), none, (.seq (List.toArray [(.str (Str.ofString "self") 540)]) 0), List.toArray []⟩
noncomputable def oC258 (P : Params) : Obj := ⟨(.type "tuple"), none, (.seq (List.toArray []) 0), List.toArray []⟩
noncomputable def oC259 (P : Params) : Obj := fnI (Str.ofString "__init__") (Str.ofString "Tree.__init__") (h := (rfl : methAt 38 0 = _))
noncomputable def oC260 (P : Params) : Obj := ⟨(.type "code"), none, (.fields (List.toArray [(.str (Str.ofString "__init__") 537), (.str (Str.ofString "Tree.__init__") 538), (.str (Str.ofString "/claim/cut.py") 539), (.int 192 0), (.int 1 0), (.int 0 0), (.int 0 0), (.int 3 0), (.ref 255), (.bool true), (.int 181 0), (.ref 256), .none, (.ref 257), (.ref 258), (.ref 259), (.int 541 0), (.int 192 0), (.str (Str.ofString "/claim/cut.py") 542)])), List.toArray []⟩
noncomputable def oC261 (P : Params) : Obj := fnO (Str.ofString "__init__") (Str.ofString "Tree.__init__") .none (.str (Str.ofString "markupmill.tree") 478) 260 (h := (rfl : methAt 38 0 = _))
noncomputable def oC262 (P : Params) : Obj := ⟨(.type "tuple"), none, (.seq (List.toArray []) 0), List.toArray []⟩
noncomputable def oC263 (P : Params) : Obj := ⟨.none, none, (.fields (List.toArray [])), List.toArray []⟩
noncomputable def oC264 (P : Params) : Obj := ⟨(.type "tuple"), none, (.seq (List.toArray [(.str (Str.ofString "self") 547), (.str (Str.ofString "kind") 548), (.str (Str.ofString "name") 549), (.str (Str.ofString "uri") 550), (.str (Str.ofString "local") 551), (.str (Str.ofString "value") 552), (.str (Str.ofString "parent") 553)]) 0), List.toArray []⟩
noncomputable def oC265 (P : Params) : Obj := ⟨(.type "tuple"), none, (.seq (List.toArray []) 0), List.toArray []⟩
noncomputable def oC266 (P : Params) : Obj := fnI (Str.ofString "new_row") (Str.ofString "Tree.new_row") (h := (rfl : methAt 38 1 = _))
noncomputable def oC267 (P : Params) : Obj := ⟨(.type "code"), none, (.fields (List.toArray [(.str (Str.ofString "new_row") 544), (.str (Str.ofString "Tree.new_row") 545), (.str (Str.ofString "/claim/cut.py") 546), (.int 195 0), (.int 7 0), (.int 0 0), (.int 0 0), (.int 3 0), (.ref 262), (.bool true), (.int 181 0), (.ref 263), .none, (.ref 264), (.ref 265), (.ref 266), (.int 554 0), (.int 195 0), (.str (Str.ofString "/claim/cut.py") 555)])), List.toArray []⟩
noncomputable def oC268 (P : Params) : Obj := fnO (Str.ofString "new_row") (Str.ofString "Tree.new_row") .none (.str (Str.ofString "markupmill.tree") 478) 267 (h := (rfl : methAt 38 1 = _))
noncomputable def oC269 (P : Params) : Obj := ⟨(.type "tuple"), none, (.seq (List.toArray []) 0), List.toArray []⟩
noncomputable def oC270 (P : Params) : Obj := ⟨.none, none, (.fields (List.toArray [])), List.toArray []⟩
noncomputable def oC271 (P : Params) : Obj := ⟨(.type "tuple"), none, (.seq (List.toArray [(.str (Str.ofString "self") 560), (.str (Str.ofString "node") 561)]) 0), List.toArray []⟩
noncomputable def oC272 (P : Params) : Obj := ⟨(.type "tuple"), none, (.seq (List.toArray []) 0), List.toArray []⟩
noncomputable def oC273 (P : Params) : Obj := fnI (Str.ofString "row") (Str.ofString "Tree.row") (h := (rfl : methAt 38 2 = _))
noncomputable def oC274 (P : Params) : Obj := ⟨(.type "code"), none, (.fields (List.toArray [(.str (Str.ofString "row") 557), (.str (Str.ofString "Tree.row") 558), (.str (Str.ofString "/claim/cut.py") 559), (.int 199 0), (.int 2 0), (.int 0 0), (.int 0 0), (.int 3 0), (.ref 269), (.bool true), (.int 181 0), (.ref 270), .none, (.ref 271), (.ref 272), (.ref 273), (.int 562 0), (.int 199 0), (.str (Str.ofString "/claim/cut.py") 563)])), List.toArray []⟩
noncomputable def oC275 (P : Params) : Obj := fnO (Str.ofString "row") (Str.ofString "Tree.row") .none (.str (Str.ofString "markupmill.tree") 478) 274 (h := (rfl : methAt 38 2 = _))
noncomputable def oC276 (P : Params) : Obj := ⟨(.type "tuple"), none, (.seq (List.toArray []) 0), List.toArray []⟩
noncomputable def oC277 (P : Params) : Obj := ⟨.none, none, (.fields (List.toArray [])), List.toArray []⟩
noncomputable def oC278 (P : Params) : Obj := ⟨(.type "tuple"), none, (.seq (List.toArray [(.str (Str.ofString "self") 568)]) 0), List.toArray []⟩
noncomputable def oC279 (P : Params) : Obj := ⟨(.type "tuple"), none, (.seq (List.toArray []) 0), List.toArray []⟩
noncomputable def oC280 (P : Params) : Obj := fnI (Str.ofString "new_root") (Str.ofString "Tree.new_root") (h := (rfl : methAt 38 3 = _))
noncomputable def oC281 (P : Params) : Obj := ⟨(.type "code"), none, (.fields (List.toArray [(.str (Str.ofString "new_root") 565), (.str (Str.ofString "Tree.new_root") 566), (.str (Str.ofString "/claim/cut.py") 567), (.int 204 0), (.int 1 0), (.int 0 0), (.int 0 0), (.int 3 0), (.ref 276), (.bool true), (.int 181 0), (.ref 277), .none, (.ref 278), (.ref 279), (.ref 280), (.int 569 0), (.int 204 0), (.str (Str.ofString "/claim/cut.py") 570)])), List.toArray []⟩
noncomputable def oC282 (P : Params) : Obj := fnO (Str.ofString "new_root") (Str.ofString "Tree.new_root") .none (.str (Str.ofString "markupmill.tree") 478) 281 (h := (rfl : methAt 38 3 = _))
noncomputable def oC283 (P : Params) : Obj := ⟨(.type "tuple"), none, (.seq (List.toArray []) 0), List.toArray []⟩
noncomputable def oC284 (P : Params) : Obj := ⟨.none, none, (.fields (List.toArray [])), List.toArray []⟩
noncomputable def oC285 (P : Params) : Obj := ⟨(.type "tuple"), none, (.seq (List.toArray [(.str (Str.ofString "self") 575), (.str (Str.ofString "parent") 576), (.str (Str.ofString "kind") 577), (.str (Str.ofString "name") 578), (.str (Str.ofString "uri") 579), (.str (Str.ofString "local") 580), (.str (Str.ofString "value") 581), (.str (Str.ofString "node") 582)]) 0), List.toArray []⟩
noncomputable def oC286 (P : Params) : Obj := ⟨(.type "tuple"), none, (.seq (List.toArray []) 0), List.toArray []⟩
noncomputable def oC287 (P : Params) : Obj := fnI (Str.ofString "add_child") (Str.ofString "Tree.add_child") (h := (rfl : methAt 38 4 = _))
noncomputable def oC288 (P : Params) : Obj := ⟨(.type "code"), none, (.fields (List.toArray [(.str (Str.ofString "add_child") 572), (.str (Str.ofString "Tree.add_child") 573), (.str (Str.ofString "/claim/cut.py") 574), (.int 207 0), (.int 7 0), (.int 0 0), (.int 0 0), (.int 3 0), (.ref 283), (.bool true), (.int 181 0), (.ref 284), .none, (.ref 285), (.ref 286), (.ref 287), (.int 583 0), (.int 207 0), (.str (Str.ofString "/claim/cut.py") 584)])), List.toArray []⟩
noncomputable def oC289 (P : Params) : Obj := fnO (Str.ofString "add_child") (Str.ofString "Tree.add_child") .none (.str (Str.ofString "markupmill.tree") 478) 288 (h := (rfl : methAt 38 4 = _))
noncomputable def oC290 (P : Params) : Obj := ⟨(.type "tuple"), none, (.seq (List.toArray []) 0), List.toArray []⟩
noncomputable def oC291 (P : Params) : Obj := ⟨.none, none, (.fields (List.toArray [])), List.toArray []⟩
noncomputable def oC292 (P : Params) : Obj := ⟨(.type "tuple"), none, (.seq (List.toArray [(.str (Str.ofString "self") 589), (.str (Str.ofString "parent") 590), (.str (Str.ofString "name") 591), (.str (Str.ofString "uri") 592), (.str (Str.ofString "local") 593)]) 0), List.toArray []⟩
noncomputable def oC293 (P : Params) : Obj := ⟨(.type "tuple"), none, (.seq (List.toArray []) 0), List.toArray []⟩
noncomputable def oC294 (P : Params) : Obj := fnI (Str.ofString "add_element") (Str.ofString "Tree.add_element") (h := (rfl : methAt 38 5 = _))
noncomputable def oC295 (P : Params) : Obj := ⟨(.type "code"), none, (.fields (List.toArray [(.str (Str.ofString "add_element") 586), (.str (Str.ofString "Tree.add_element") 587), (.str (Str.ofString "/claim/cut.py") 588), (.int 215 0), (.int 5 0), (.int 0 0), (.int 0 0), (.int 3 0), (.ref 290), (.bool true), (.int 181 0), (.ref 291), .none, (.ref 292), (.ref 293), (.ref 294), (.int 594 0), (.int 215 0), (.str (Str.ofString "/claim/cut.py") 595)])), List.toArray []⟩
noncomputable def oC296 (P : Params) : Obj := fnO (Str.ofString "add_element") (Str.ofString "Tree.add_element") .none (.str (Str.ofString "markupmill.tree") 478) 295 (h := (rfl : methAt 38 5 = _))
noncomputable def oC297 (P : Params) : Obj := ⟨(.type "tuple"), none, (.seq (List.toArray []) 0), List.toArray []⟩
noncomputable def oC298 (P : Params) : Obj := ⟨.none, none, (.fields (List.toArray [])), List.toArray []⟩
noncomputable def oC299 (P : Params) : Obj := ⟨(.type "tuple"), none, (.seq (List.toArray [(.str (Str.ofString "self") 600), (.str (Str.ofString "parent") 601), (.str (Str.ofString "value") 602)]) 0), List.toArray []⟩
noncomputable def oC300 (P : Params) : Obj := ⟨(.type "tuple"), none, (.seq (List.toArray []) 0), List.toArray []⟩
noncomputable def oC301 (P : Params) : Obj := fnI (Str.ofString "add_text") (Str.ofString "Tree.add_text") (h := (rfl : methAt 38 6 = _))
noncomputable def oC302 (P : Params) : Obj := ⟨(.type "code"), none, (.fields (List.toArray [(.str (Str.ofString "add_text") 597), (.str (Str.ofString "Tree.add_text") 598), (.str (Str.ofString "/claim/cut.py") 599), (.int 218 0), (.int 3 0), (.int 0 0), (.int 0 0), (.int 3 0), (.ref 297), (.bool true), (.int 181 0), (.ref 298), .none, (.ref 299), (.ref 300), (.ref 301), (.int 603 0), (.int 218 0), (.str (Str.ofString "/claim/cut.py") 604)])), List.toArray []⟩
noncomputable def oC303 (P : Params) : Obj := fnO (Str.ofString "add_text") (Str.ofString "Tree.add_text") .none (.str (Str.ofString "markupmill.tree") 478) 302 (h := (rfl : methAt 38 6 = _))
noncomputable def oC304 (P : Params) : Obj := ⟨(.type "tuple"), none, (.seq (List.toArray []) 0), List.toArray []⟩
noncomputable def oC305 (P : Params) : Obj := ⟨.none, none, (.fields (List.toArray [])), List.toArray []⟩
noncomputable def oC306 (P : Params) : Obj := ⟨(.type "tuple"), none, (.seq (List.toArray [(.str (Str.ofString "self") 609), (.str (Str.ofString "parent") 610), (.str (Str.ofString "value") 611)]) 0), List.toArray []⟩
noncomputable def oC307 (P : Params) : Obj := ⟨(.type "tuple"), none, (.seq (List.toArray []) 0), List.toArray []⟩
noncomputable def oC308 (P : Params) : Obj := fnI (Str.ofString "add_comment") (Str.ofString "Tree.add_comment") (h := (rfl : methAt 38 7 = _))
noncomputable def oC309 (P : Params) : Obj := ⟨(.type "code"), none, (.fields (List.toArray [(.str (Str.ofString "add_comment") 606), (.str (Str.ofString "Tree.add_comment") 607), (.str (Str.ofString "/claim/cut.py") 608), (.int 221 0), (.int 3 0), (.int 0 0), (.int 0 0), (.int 3 0), (.ref 304), (.bool true), (.int 181 0), (.ref 305), .none, (.ref 306), (.ref 307), (.ref 308), (.int 612 0), (.int 221 0), (.str (Str.ofString "/claim/cut.py") 613)])), List.toArray []⟩
noncomputable def oC310 (P : Params) : Obj := fnO (Str.ofString "add_comment") (Str.ofString "Tree.add_comment") .none (.str (Str.ofString "markupmill.tree") 478) 309 (h := (rfl : methAt 38 7 = _))
noncomputable def oC311 (P : Params) : Obj := ⟨(.type "tuple"), none, (.seq (List.toArray []) 0), List.toArray []⟩
noncomputable def oC312 (P : Params) : Obj := ⟨.none, none, (.fields (List.toArray [])), List.toArray []⟩
noncomputable def oC313 (P : Params) : Obj := ⟨(.type "tuple"), none, (.seq (List.toArray [(.str (Str.ofString "self") 618), (.str (Str.ofString "parent") 619), (.str (Str.ofString "target") 620), (.str (Str.ofString "data") 621)]) 0), List.toArray []⟩
noncomputable def oC314 (P : Params) : Obj := ⟨(.type "tuple"), none, (.seq (List.toArray []) 0), List.toArray []⟩
noncomputable def oC315 (P : Params) : Obj := fnI (Str.ofString "add_instruction") (Str.ofString "Tree.add_instruction") (h := (rfl : methAt 38 8 = _))
noncomputable def oC316 (P : Params) : Obj := ⟨(.type "code"), none, (.fields (List.toArray [(.str (Str.ofString "add_instruction") 615), (.str (Str.ofString "Tree.add_instruction") 616), (.str (Str.ofString "/claim/cut.py") 617), (.int 224 0), (.int 4 0), (.int 0 0), (.int 0 0), (.int 3 0), (.ref 311), (.bool true), (.int 181 0), (.ref 312), .none, (.ref 313), (.ref 314), (.ref 315), (.int 622 0), (.int 224 0), (.str (Str.ofString "/claim/cut.py") 623)])), List.toArray []⟩
noncomputable def oC317 (P : Params) : Obj := fnO (Str.ofString "add_instruction") (Str.ofString "Tree.add_instruction") .none (.str (Str.ofString "markupmill.tree") 478) 316 (h := (rfl : methAt 38 8 = _))
noncomputable def oC318 (P : Params) : Obj := ⟨(.type "tuple"), none, (.seq (List.toArray []) 0), List.toArray []⟩
noncomputable def oC319 (P : Params) : Obj := ⟨.none, none, (.fields (List.toArray [])), List.toArray []⟩
noncomputable def oC320 (P : Params) : Obj := ⟨(.type "tuple"), none, (.seq (List.toArray [(.str (Str.ofString "self") 628), (.str (Str.ofString "element") 629)]) 0), List.toArray []⟩
noncomputable def oC321 (P : Params) : Obj := ⟨(.type "tuple"), none, (.seq (List.toArray []) 0), List.toArray []⟩
noncomputable def oC322 (P : Params) : Obj := fnI (Str.ofString "element_row") (Str.ofString "Tree.element_row") (h := (rfl : methAt 38 9 = _))
noncomputable def oC323 (P : Params) : Obj := ⟨(.type "code"), none, (.fields (List.toArray [(.str (Str.ofString "element_row") 625), (.str (Str.ofString "Tree.element_row") 626), (.str (Str.ofString "/claim/cut.py") 627), (.int 227 0), (.int 2 0), (.int 0 0), (.int 0 0), (.int 3 0), (.ref 318), (.bool true), (.int 181 0), (.ref 319), .none, (.ref 320), (.ref 321), (.ref 322), (.int 630 0), (.int 227 0), (.str (Str.ofString "/claim/cut.py") 631)])), List.toArray []⟩
noncomputable def oC324 (P : Params) : Obj := fnO (Str.ofString "element_row") (Str.ofString "Tree.element_row") .none (.str (Str.ofString "markupmill.tree") 478) 323 (h := (rfl : methAt 38 9 = _))
noncomputable def oC325 (P : Params) : Obj := ⟨(.type "tuple"), none, (.seq (List.toArray []) 0), List.toArray []⟩
noncomputable def oC326 (P : Params) : Obj := ⟨.none, none, (.fields (List.toArray [])), List.toArray []⟩
noncomputable def oC327 (P : Params) : Obj := ⟨(.type "tuple"), none, (.seq (List.toArray [(.str (Str.ofString "self") 636), (.str (Str.ofString "element") 637), (.str (Str.ofString "name") 638), (.str (Str.ofString "uri") 639), (.str (Str.ofString "local") 640), (.str (Str.ofString "value") 641)]) 0), List.toArray []⟩
noncomputable def oC328 (P : Params) : Obj := ⟨(.type "tuple"), none, (.seq (List.toArray []) 0), List.toArray []⟩
noncomputable def oC329 (P : Params) : Obj := fnI (Str.ofString "set_attribute") (Str.ofString "Tree.set_attribute") (h := (rfl : methAt 38 10 = _))
noncomputable def oC330 (P : Params) : Obj := ⟨(.type "code"), none, (.fields (List.toArray [(.str (Str.ofString "set_attribute") 633), (.str (Str.ofString "Tree.set_attribute") 634), (.str (Str.ofString "/claim/cut.py") 635), (.int 230 0), (.int 6 0), (.int 0 0), (.int 0 0), (.int 3 0), (.ref 325), (.bool true), (.int 181 0), (.ref 326), .none, (.ref 327), (.ref 328), (.ref 329), (.int 642 0), (.int 230 0), (.str (Str.ofString "/claim/cut.py") 643)])), List.toArray []⟩
noncomputable def oC331 (P : Params) : Obj := fnO (Str.ofString "set_attribute") (Str.ofString "Tree.set_attribute") .none (.str (Str.ofString "markupmill.tree") 478) 330 (h := (rfl : methAt 38 10 = _))
noncomputable def oC332 (P : Params) : Obj := ⟨(.type "tuple"), none, (.seq (List.toArray []) 0), List.toArray []⟩
noncomputable def oC333 (P : Params) : Obj := ⟨.none, none, (.fields (List.toArray [])), List.toArray []⟩
noncomputable def oC334 (P : Params) : Obj := ⟨(.type "tuple"), none, (.seq (List.toArray [(.str (Str.ofString "self") 648), (.str (Str.ofString "element") 649), (.str (Str.ofString "prefix") 650), (.str (Str.ofString "uri") 651)]) 0), List.toArray []⟩
noncomputable def oC335 (P : Params) : Obj := ⟨(.type "tuple"), none, (.seq (List.toArray []) 0), List.toArray []⟩
noncomputable def oC336 (P : Params) : Obj := fnI (Str.ofString "add_namespace") (Str.ofString "Tree.add_namespace") (h := (rfl : methAt 38 11 = _))
noncomputable def oC337 (P : Params) : Obj := ⟨(.type "code"), none, (.fields (List.toArray [(.str (Str.ofString "add_namespace") 645), (.str (Str.ofString "Tree.add_namespace") 646), (.str (Str.ofString "/claim/cut.py") 647), (.int 233 0), (.int 4 0), (.int 0 0), (.int 0 0), (.int 3 0), (.ref 332), (.bool true), (.int 181 0), (.ref 333), .none, (.ref 334), (.ref 335), (.ref 336), (.int 652 0), (.int 233 0), (.str (Str.ofString "/claim/cut.py") 653)])), List.toArray []⟩
noncomputable def oC338 (P : Params) : Obj := fnO (Str.ofString "add_namespace") (Str.ofString "Tree.add_namespace") .none (.str (Str.ofString "markupmill.tree") 478) 337 (h := (rfl : methAt 38 11 = _))
noncomputable def oC339 (P : Params) : Obj := ⟨(.type "tuple"), none, (.seq (List.toArray []) 0), List.toArray []⟩
noncomputable def oC340 (P : Params) : Obj := ⟨.none, none, (.fields (List.toArray [])), List.toArray []⟩
noncomputable def oC341 (P : Params) : Obj := ⟨(.type "tuple"), none, (.seq (List.toArray [(.str (Str.ofString "self") 658), (.str (Str.ofString "node") 659), (.str (Str.ofString "value") 660)]) 0), List.toArray []⟩
noncomputable def oC342 (P : Params) : Obj := ⟨(.type "tuple"), none, (.seq (List.toArray []) 0), List.toArray []⟩
noncomputable def oC343 (P : Params) : Obj := fnI (Str.ofString "set_value") (Str.ofString "Tree.set_value") (h := (rfl : methAt 38 12 = _))
noncomputable def oC344 (P : Params) : Obj := ⟨(.type "code"), none, (.fields (List.toArray [(.str (Str.ofString "set_value") 655), (.str (Str.ofString "Tree.set_value") 656), (.str (Str.ofString "/claim/cut.py") 657), (.int 236 0), (.int 3 0), (.int 0 0), (.int 0 0), (.int 3 0), (.ref 339), (.bool true), (.int 181 0), (.ref 340), .none, (.ref 341), (.ref 342), (.ref 343), (.int 661 0), (.int 236 0), (.str (Str.ofString "/claim/cut.py") 662)])), List.toArray []⟩
noncomputable def oC345 (P : Params) : Obj := fnO (Str.ofString "set_value") (Str.ofString "Tree.set_value") .none (.str (Str.ofString "markupmill.tree") 478) 344 (h := (rfl : methAt 38 12 = _))
noncomputable def oC346 (P : Params) : Obj := ⟨(.type "tuple"), none, (.seq (List.toArray []) 0), List.toArray []⟩
noncomputable def oC347 (P : Params) : Obj := ⟨.none, none, (.fields (List.toArray [])), List.toArray []⟩
noncomputable def oC348 (P : Params) : Obj := ⟨(.type "tuple"), none, (.seq (List.toArray [(.str (Str.ofString "self") 667), (.str (Str.ofString "node") 668)]) 0), List.toArray []⟩
noncomputable def oC349 (P : Params) : Obj := ⟨(.type "tuple"), none, (.seq (List.toArray []) 0), List.toArray []⟩
noncomputable def oC350 (P : Params) : Obj := fnI (Str.ofString "kind") (Str.ofString "Tree.kind") (h := (rfl : methAt 38 13 = _))
noncomputable def oC351 (P : Params) : Obj := ⟨(.type "code"), none, (.fields (List.toArray [(.str (Str.ofString "kind") 664), (.str (Str.ofString "Tree.kind") 665), (.str (Str.ofString "/claim/cut.py") 666), (.int 239 0), (.int 2 0), (.int 0 0), (.int 0 0), (.int 3 0), (.ref 346), (.bool true), (.int 181 0), (.ref 347), .none, (.ref 348), (.ref 349), (.ref 350), (.int 669 0), (.int 239 0), (.str (Str.ofString "/claim/cut.py") 670)])), List.toArray []⟩
noncomputable def oC352 (P : Params) : Obj := fnO (Str.ofString "kind") (Str.ofString "Tree.kind") .none (.str (Str.ofString "markupmill.tree") 478) 351 (h := (rfl : methAt 38 13 = _))
noncomputable def oC353 (P : Params) : Obj := ⟨(.type "tuple"), none, (.seq (List.toArray []) 0), List.toArray []⟩
noncomputable def oC354 (P : Params) : Obj := ⟨.none, none, (.fields (List.toArray [])), List.toArray []⟩
noncomputable def oC355 (P : Params) : Obj := ⟨(.type "tuple"), none, (.seq (List.toArray [(.str (Str.ofString "self") 675), (.str (Str.ofString "node") 676)]) 0), List.toArray []⟩
noncomputable def oC356 (P : Params) : Obj := ⟨(.type "tuple"), none, (.seq (List.toArray []) 0), List.toArray []⟩
noncomputable def oC357 (P : Params) : Obj := fnI (Str.ofString "name") (Str.ofString "Tree.name") (h := (rfl : methAt 38 14 = _))
noncomputable def oC358 (P : Params) : Obj := ⟨(.type "code"), none, (.fields (List.toArray [(.str (Str.ofString "name") 672), (.str (Str.ofString "Tree.name") 673), (.str (Str.ofString "/claim/cut.py") 674), (.int 242 0), (.int 2 0), (.int 0 0), (.int 0 0), (.int 3 0), (.ref 353), (.bool true), (.int 181 0), (.ref 354), .none, (.ref 355), (.ref 356), (.ref 357), (.int 677 0), (.int 242 0), (.str (Str.ofString "/claim/cut.py") 678)])), List.toArray []⟩
noncomputable def oC359 (P : Params) : Obj := fnO (Str.ofString "name") (Str.ofString "Tree.name") .none (.str (Str.ofString "markupmill.tree") 478) 358 (h := (rfl : methAt 38 14 = _))
noncomputable def oC360 (P : Params) : Obj := ⟨(.type "tuple"), none, (.seq (List.toArray []) 0), List.toArray []⟩
noncomputable def oC361 (P : Params) : Obj := ⟨.none, none, (.fields (List.toArray [])), List.toArray []⟩
noncomputable def oC362 (P : Params) : Obj := ⟨(.type "tuple"), none, (.seq (List.toArray [(.str (Str.ofString "self") 683), (.str (Str.ofString "node") 684)]) 0), List.toArray []⟩
noncomputable def oC363 (P : Params) : Obj := ⟨(.type "tuple"), none, (.seq (List.toArray []) 0), List.toArray []⟩
noncomputable def oC364 (P : Params) : Obj := fnI (Str.ofString "uri") (Str.ofString "Tree.uri") (h := (rfl : methAt 38 15 = _))
noncomputable def oC365 (P : Params) : Obj := ⟨(.type "code"), none, (.fields (List.toArray [(.str (Str.ofString "uri") 680), (.str (Str.ofString "Tree.uri") 681), (.str (Str.ofString "/claim/cut.py") 682), (.int 245 0), (.int 2 0), (.int 0 0), (.int 0 0), (.int 3 0), (.ref 360), (.bool true), (.int 181 0), (.ref 361), .none, (.ref 362), (.ref 363), (.ref 364), (.int 685 0), (.int 245 0), (.str (Str.ofString "/claim/cut.py") 686)])), List.toArray []⟩
noncomputable def oC366 (P : Params) : Obj := fnO (Str.ofString "uri") (Str.ofString "Tree.uri") .none (.str (Str.ofString "markupmill.tree") 478) 365 (h := (rfl : methAt 38 15 = _))
noncomputable def oC367 (P : Params) : Obj := ⟨(.type "tuple"), none, (.seq (List.toArray []) 0), List.toArray []⟩
noncomputable def oC368 (P : Params) : Obj := ⟨.none, none, (.fields (List.toArray [])), List.toArray []⟩
noncomputable def oC369 (P : Params) : Obj := ⟨(.type "tuple"), none, (.seq (List.toArray [(.str (Str.ofString "self") 691), (.str (Str.ofString "node") 692)]) 0), List.toArray []⟩
noncomputable def oC370 (P : Params) : Obj := ⟨(.type "tuple"), none, (.seq (List.toArray []) 0), List.toArray []⟩
noncomputable def oC371 (P : Params) : Obj := fnI (Str.ofString "local") (Str.ofString "Tree.local") (h := (rfl : methAt 38 16 = _))
noncomputable def oC372 (P : Params) : Obj := ⟨(.type "code"), none, (.fields (List.toArray [(.str (Str.ofString "local") 688), (.str (Str.ofString "Tree.local") 689), (.str (Str.ofString "/claim/cut.py") 690), (.int 248 0), (.int 2 0), (.int 0 0), (.int 0 0), (.int 3 0), (.ref 367), (.bool true), (.int 181 0), (.ref 368), .none, (.ref 369), (.ref 370), (.ref 371), (.int 693 0), (.int 248 0), (.str (Str.ofString "/claim/cut.py") 694)])), List.toArray []⟩
noncomputable def oC373 (P : Params) : Obj := fnO (Str.ofString "local") (Str.ofString "Tree.local") .none (.str (Str.ofString "markupmill.tree") 478) 372 (h := (rfl : methAt 38 16 = _))
noncomputable def oC374 (P : Params) : Obj := ⟨(.type "tuple"), none, (.seq (List.toArray []) 0), List.toArray []⟩
noncomputable def oC375 (P : Params) : Obj := ⟨.none, none, (.fields (List.toArray [])), List.toArray []⟩
noncomputable def oC376 (P : Params) : Obj := ⟨(.type "tuple"), none, (.seq (List.toArray [(.str (Str.ofString "self") 699), (.str (Str.ofString "node") 700)]) 0), List.toArray []⟩
noncomputable def oC377 (P : Params) : Obj := ⟨(.type "tuple"), none, (.seq (List.toArray []) 0), List.toArray []⟩
noncomputable def oC378 (P : Params) : Obj := fnI (Str.ofString "value") (Str.ofString "Tree.value") (h := (rfl : methAt 38 17 = _))
noncomputable def oC379 (P : Params) : Obj := ⟨(.type "code"), none, (.fields (List.toArray [(.str (Str.ofString "value") 696), (.str (Str.ofString "Tree.value") 697), (.str (Str.ofString "/claim/cut.py") 698), (.int 251 0), (.int 2 0), (.int 0 0), (.int 0 0), (.int 3 0), (.ref 374), (.bool true), (.int 181 0), (.ref 375), .none, (.ref 376), (.ref 377), (.ref 378), (.int 701 0), (.int 251 0), (.str (Str.ofString "/claim/cut.py") 702)])), List.toArray []⟩
noncomputable def oC380 (P : Params) : Obj := fnO (Str.ofString "value") (Str.ofString "Tree.value") .none (.str (Str.ofString "markupmill.tree") 478) 379 (h := (rfl : methAt 38 17 = _))
noncomputable def oC381 (P : Params) : Obj := ⟨(.type "tuple"), none, (.seq (List.toArray []) 0), List.toArray []⟩
noncomputable def oC382 (P : Params) : Obj := ⟨.none, none, (.fields (List.toArray [])), List.toArray []⟩
noncomputable def oC383 (P : Params) : Obj := ⟨(.type "tuple"), none, (.seq (List.toArray [(.str (Str.ofString "self") 707), (.str (Str.ofString "node") 708)]) 0), List.toArray []⟩
noncomputable def oC384 (P : Params) : Obj := ⟨(.type "tuple"), none, (.seq (List.toArray []) 0), List.toArray []⟩
noncomputable def oC385 (P : Params) : Obj := fnI (Str.ofString "parent") (Str.ofString "Tree.parent") (h := (rfl : methAt 38 18 = _))
noncomputable def oC386 (P : Params) : Obj := ⟨(.type "code"), none, (.fields (List.toArray [(.str (Str.ofString "parent") 704), (.str (Str.ofString "Tree.parent") 705), (.str (Str.ofString "/claim/cut.py") 706), (.int 254 0), (.int 2 0), (.int 0 0), (.int 0 0), (.int 3 0), (.ref 381), (.bool true), (.int 181 0), (.ref 382), .none, (.ref 383), (.ref 384), (.ref 385), (.int 709 0), (.int 254 0), (.str (Str.ofString "/claim/cut.py") 710)])), List.toArray []⟩
noncomputable def oC387 (P : Params) : Obj := fnO (Str.ofString "parent") (Str.ofString "Tree.parent") .none (.str (Str.ofString "markupmill.tree") 478) 386 (h := (rfl : methAt 38 18 = _))
noncomputable def oC388 (P : Params) : Obj := ⟨(.type "tuple"), none, (.seq (List.toArray []) 0), List.toArray []⟩
noncomputable def oC389 (P : Params) : Obj := ⟨.none, none, (.fields (List.toArray [])), List.toArray []⟩
noncomputable def oC390 (P : Params) : Obj := ⟨(.type "tuple"), none, (.seq (List.toArray [(.str (Str.ofString "self") 715), (.str (Str.ofString "node") 716)]) 0), List.toArray []⟩
noncomputable def oC391 (P : Params) : Obj := ⟨(.type "tuple"), none, (.seq (List.toArray []) 0), List.toArray []⟩
noncomputable def oC392 (P : Params) : Obj := fnI (Str.ofString "children") (Str.ofString "Tree.children") (h := (rfl : methAt 38 19 = _))
noncomputable def oC393 (P : Params) : Obj := ⟨(.type "code"), none, (.fields (List.toArray [(.str (Str.ofString "children") 712), (.str (Str.ofString "Tree.children") 713), (.str (Str.ofString "/claim/cut.py") 714), (.int 257 0), (.int 2 0), (.int 0 0), (.int 0 0), (.int 3 0), (.ref 388), (.bool true), (.int 181 0), (.ref 389), .none, (.ref 390), (.ref 391), (.ref 392), (.int 717 0), (.int 257 0), (.str (Str.ofString "/claim/cut.py") 718)])), List.toArray []⟩
noncomputable def oC394 (P : Params) : Obj := fnO (Str.ofString "children") (Str.ofString "Tree.children") .none (.str (Str.ofString "markupmill.tree") 478) 393 (h := (rfl : methAt 38 19 = _))
noncomputable def oC395 (P : Params) : Obj := ⟨(.type "tuple"), none, (.seq (List.toArray []) 0), List.toArray []⟩
noncomputable def oC396 (P : Params) : Obj := ⟨.none, none, (.fields (List.toArray [])), List.toArray []⟩
noncomputable def oC397 (P : Params) : Obj := ⟨(.type "tuple"), none, (.seq (List.toArray [(.str (Str.ofString "self") 723), (.str (Str.ofString "node") 724)]) 0), List.toArray []⟩
noncomputable def oC398 (P : Params) : Obj := ⟨(.type "tuple"), none, (.seq (List.toArray []) 0), List.toArray []⟩
noncomputable def oC399 (P : Params) : Obj := fnI (Str.ofString "attributes") (Str.ofString "Tree.attributes") (h := (rfl : methAt 38 20 = _))
noncomputable def oC400 (P : Params) : Obj := ⟨(.type "code"), none, (.fields (List.toArray [(.str (Str.ofString "attributes") 720), (.str (Str.ofString "Tree.attributes") 721), (.str (Str.ofString "/claim/cut.py") 722), (.int 260 0), (.int 2 0), (.int 0 0), (.int 0 0), (.int 3 0), (.ref 395), (.bool true), (.int 181 0), (.ref 396), .none, (.ref 397), (.ref 398), (.ref 399), (.int 725 0), (.int 260 0), (.str (Str.ofString "/claim/cut.py") 726)])), List.toArray []⟩
noncomputable def oC401 (P : Params) : Obj := fnO (Str.ofString "attributes") (Str.ofString "Tree.attributes") .none (.str (Str.ofString "markupmill.tree") 478) 400 (h := (rfl : methAt 38 20 = _))
noncomputable def oC402 (P : Params) : Obj := ⟨(.type "tuple"), none, (.seq (List.toArray []) 0), List.toArray []⟩
noncomputable def oC403 (P : Params) : Obj := ⟨.none, none, (.fields (List.toArray [])), List.toArray []⟩
noncomputable def oC404 (P : Params) : Obj := ⟨(.type "tuple"), none, (.seq (List.toArray [(.str (Str.ofString "self") 731), (.str (Str.ofString "node") 732)]) 0), List.toArray []⟩
noncomputable def oC405 (P : Params) : Obj := ⟨(.type "tuple"), none, (.seq (List.toArray []) 0), List.toArray []⟩
noncomputable def oC406 (P : Params) : Obj := fnI (Str.ofString "namespaces") (Str.ofString "Tree.namespaces") (h := (rfl : methAt 38 21 = _))
noncomputable def oC407 (P : Params) : Obj := ⟨(.type "code"), none, (.fields (List.toArray [(.str (Str.ofString "namespaces") 728), (.str (Str.ofString "Tree.namespaces") 729), (.str (Str.ofString "/claim/cut.py") 730), (.int 263 0), (.int 2 0), (.int 0 0), (.int 0 0), (.int 3 0), (.ref 402), (.bool true), (.int 181 0), (.ref 403), .none, (.ref 404), (.ref 405), (.ref 406), (.int 733 0), (.int 263 0), (.str (Str.ofString "/claim/cut.py") 734)])), List.toArray []⟩
noncomputable def oC408 (P : Params) : Obj := fnO (Str.ofString "namespaces") (Str.ofString "Tree.namespaces") .none (.str (Str.ofString "markupmill.tree") 478) 407 (h := (rfl : methAt 38 21 = _))
noncomputable def oC409 (P : Params) : Obj := ⟨(.type "tuple"), none, (.seq (List.toArray []) 0), List.toArray []⟩
noncomputable def oC410 (P : Params) : Obj := ⟨.none, none, (.fields (List.toArray [])), List.toArray []⟩
noncomputable def oC411 (P : Params) : Obj := ⟨(.type "tuple"), none, (.seq (List.toArray [(.str (Str.ofString "self") 739), (.str (Str.ofString "node") 740)]) 0), List.toArray []⟩
noncomputable def oC412 (P : Params) : Obj := ⟨(.type "tuple"), none, (.seq (List.toArray []) 0), List.toArray []⟩
noncomputable def oC413 (P : Params) : Obj := fnI (Str.ofString "root_of") (Str.ofString "Tree.root_of") (h := (rfl : methAt 38 22 = _))
noncomputable def oC414 (P : Params) : Obj := ⟨(.type "code"), none, (.fields (List.toArray [(.str (Str.ofString "root_of") 736), (.str (Str.ofString "Tree.root_of") 737), (.str (Str.ofString "/claim/cut.py") 738), (.int 266 0), (.int 2 0), (.int 0 0), (.int 0 0), (.int 3 0), (.ref 409), (.bool true), (.int 181 0), (.ref 410), .none, (.ref 411), (.ref 412), (.ref 413), (.int 741 0), (.int 266 0), (.str (Str.ofString "/claim/cut.py") 742)])), List.toArray []⟩
noncomputable def oC415 (P : Params) : Obj := fnO (Str.ofString "root_of") (Str.ofString "Tree.root_of") .none (.str (Str.ofString "markupmill.tree") 478) 414 (h := (rfl : methAt 38 22 = _))
noncomputable def oC416 (P : Params) : Obj := ⟨(.type "tuple"), none, (.seq (List.toArray []) 0), List.toArray []⟩
noncomputable def oC417 (P : Params) : Obj := ⟨.none, none, (.fields (List.toArray [])), List.toArray []⟩
noncomputable def oC418 (P : Params) : Obj := ⟨(.type "tuple"), none, (.seq (List.toArray [(.str (Str.ofString "self") 747), (.str (Str.ofString "node") 748), (.str (Str.ofString "other") 749)]) 0), List.toArray []⟩
noncomputable def oC419 (P : Params) : Obj := ⟨(.type "tuple"), none, (.seq (List.toArray []) 0), List.toArray []⟩
noncomputable def oC420 (P : Params) : Obj := fnI (Str.ofString "is_above") (Str.ofString "Tree.is_above") (h := (rfl : methAt 38 23 = _))
noncomputable def oC421 (P : Params) : Obj := ⟨(.type "code"), none, (.fields (List.toArray [(.str (Str.ofString "is_above") 744), (.str (Str.ofString "Tree.is_above") 745), (.str (Str.ofString "/claim/cut.py") 746), (.int 269 0), (.int 3 0), (.int 0 0), (.int 0 0), (.int 3 0), (.ref 416), (.bool true), (.int 181 0), (.ref 417), .none, (.ref 418), (.ref 419), (.ref 420), (.int 750 0), (.int 269 0), (.str (Str.ofString "/claim/cut.py") 751)])), List.toArray []⟩
noncomputable def oC422 (P : Params) : Obj := fnO (Str.ofString "is_above") (Str.ofString "Tree.is_above") .none (.str (Str.ofString "markupmill.tree") 478) 421 (h := (rfl : methAt 38 23 = _))
noncomputable def oC423 (P : Params) : Obj := ⟨(.type "tuple"), none, (.seq (List.toArray []) 0), List.toArray []⟩
noncomputable def oC424 (P : Params) : Obj := ⟨.none, none, (.fields (List.toArray [])), List.toArray []⟩
noncomputable def oC425 (P : Params) : Obj := ⟨(.type "tuple"), none, (.seq (List.toArray [(.str (Str.ofString "self") 756), (.str (Str.ofString "element") 757), (.str (Str.ofString "uri") 758), (.str (Str.ofString "local") 759)]) 0), List.toArray []⟩
noncomputable def oC426 (P : Params) : Obj := ⟨(.type "tuple"), none, (.seq (List.toArray []) 0), List.toArray []⟩
noncomputable def oC427 (P : Params) : Obj := fnI (Str.ofString "attribute_value") (Str.ofString "Tree.attribute_value") (h := (rfl : methAt 38 24 = _))
noncomputable def oC428 (P : Params) : Obj := ⟨(.type "code"), none, (.fields (List.toArray [(.str (Str.ofString "attribute_value") 753), (.str (Str.ofString "Tree.attribute_value") 754), (.str (Str.ofString "/claim/cut.py") 755), (.int 272 0), (.int 4 0), (.int 0 0), (.int 0 0), (.int 3 0), (.ref 423), (.bool true), (.int 181 0), (.ref 424), .none, (.ref 425), (.ref 426), (.ref 427), (.int 760 0), (.int 272 0), (.str (Str.ofString "/claim/cut.py") 761)])), List.toArray []⟩
noncomputable def oC429 (P : Params) : Obj := fnO (Str.ofString "attribute_value") (Str.ofString "Tree.attribute_value") .none (.str (Str.ofString "markupmill.tree") 478) 428 (h := (rfl : methAt 38 24 = _))
noncomputable def oC430 (P : Params) : Obj := ⟨(.type "tuple"), none, (.seq (List.toArray [(.str (Str.ofString "rows") 763)]) 0), List.toArray []⟩
noncomputable def oC431 (P : Params) : Obj := ⟨(.type "dict"), none, (.dict (List.toArray [kE P (Str.ofString "__module__") 532 (.str (Str.ofString "markupmill.tree") 478), kE P (Str.ofString "__firstlineno__") 536 (.int 190 535), kE P (Str.ofString "__init__") 543 (.ref 261), kE P (Str.ofString "new_row") 556 (.ref 268), kE P (Str.ofString "row") 564 (.ref 275), kE P (Str.ofString "new_root") 571 (.ref 282), kE P (Str.ofString "add_child") 585 (.ref 289), kE P (Str.ofString "add_element") 596 (.ref 296), kE P (Str.ofString "add_text") 605 (.ref 303), kE P (Str.ofString "add_comment") 614 (.ref 310), kE P (Str.ofString "add_instruction") 624 (.ref 317), kE P (Str.ofString "element_row") 632 (.ref 324), kE P (Str.ofString "set_attribute") 644 (.ref 331), kE P (Str.ofString "add_namespace") 654 (.ref 338), kE P (Str.ofString "set_value") 663 (.ref 345), kE P (Str.ofString "kind") 671 (.ref 352), kE P (Str.ofString "name") 679 (.ref 359), kE P (Str.ofString "uri") 687 (.ref 366), kE P (Str.ofString "local") 695 (.ref 373), kE P (Str.ofString "value") 703 (.ref 380), kE P (Str.ofString "parent") 711 (.ref 387), kE P (Str.ofString "children") 719 (.ref 394), kE P (Str.ofString "attributes") 727 (.ref 401), kE P (Str.ofString "namespaces") 735 (.ref 408), kE P (Str.ofString "root_of") 743 (.ref 415), kE P (Str.ofString "is_above") 752 (.ref 422), kE P (Str.ofString "attribute_value") 762 (.ref 429), kE P (Str.ofString "__static_attributes__") 764 (.ref 430), kE P (Str.ofString "__dict__") 766 (.ref 433), kE P (Str.ofString "__weakref__") 768 (.ref 434), kE P (Str.ofString "__doc__") 769 .none]) 4), List.toArray []⟩
noncomputable def oC432 (P : Params) : Obj := ⟨(.type "type"), none, (.cls { name := (Str.ofString "Tree"), bases := [(.type "object")], mro := [(.ref 432), (.type "object")], ns := 431, qualname := (Str.ofString "Tree"), hasDict := true, slotNames := [], subclasses := [], abstract := false, collection := none, hasDel := false }), List.toArray [none, none, (some (.str (Str.ofString "Tree") 525)), (some (.str (Str.ofString "Tree") 533)), (some (.builtin "object.__new__")), (some (.bool true))]⟩
noncomputable def oC433 (P : Params) : Obj := ⟨(.type "getset_descriptor"), none, (.fields (List.toArray [(.str (Str.ofString "__dict__") 765), (.ref 432), (.builtin "function.__dict__"), (.builtin "function.__dict__#set")])), List.toArray []⟩
noncomputable def oC434 (P : Params) : Obj := ⟨(.type "getset_descriptor"), none, (.fields (List.toArray [(.str (Str.ofString "__weakref__") 767), (.ref 432), (.builtin "ExceptionGroup.__weakref__"), .none])), List.toArray []⟩
noncomputable def oC435 (P : Params) : Obj := ⟨(.type "super"), none, (.fields (List.toArray [(.ref 432), (.ref 432), (.ref 432)])), List.toArray []⟩
noncomputable def oC436 (P : Params) : Obj := ⟨(.type "builtin_function_or_method"), none, (.fields (List.toArray [(.builtin "object.__init_subclass__"), (.ref 432)])), List.toArray []⟩
noncomputable def treeC (P : Params) : BT := (.node (boot_o_0 P) (.node (boot_o_1 P) (.node (oC3 P) (.node (boot_o_7 P) (.node (oB15 P) (.node (oB31 P) (.node (oB63 P) (.node (oB127 P) (.node (oC255 P) .nil .nil) (.node (oC383 P) .nil .nil)) (.node (oB191 P) (.node (oC319 P) .nil .nil) .nil)) (.node (oB95 P) (.node (oB159 P) (.node (oC287 P) .nil .nil) (.node (oC415 P) .nil .nil)) (.node (oB223 P) (.node (oC351 P) .nil .nil) .nil))) (.node (oB47 P) (.node (oB79 P) (.node (oB143 P) (.node (oC271 P) .nil .nil) (.node (oC399 P) .nil .nil)) (.node (oB207 P) (.node (oC335 P) .nil .nil) .nil)) (.node (oB111 P) (.node (oB175 P) (.node (oC303 P) .nil .nil) (.node (oC431 P) .nil .nil)) (.node (oB239 P) (.node (oC367 P) .nil .nil) .nil)))) (.node (oB23 P) (.node (oB39 P) (.node (oB71 P) (.node (oB135 P) (.node (oC263 P) .nil .nil) (.node (oC391 P) .nil .nil)) (.node (oB199 P) (.node (oC327 P) .nil .nil) .nil)) (.node (oB103 P) (.node (oB167 P) (.node (oC295 P) .nil .nil) (.node (oC423 P) .nil .nil)) (.node (oB231 P) (.node (oC359 P) .nil .nil) .nil))) (.node (oB55 P) (.node (oB87 P) (.node (oB151 P) (.node (oC279 P) .nil .nil) (.node (oC407 P) .nil .nil)) (.node (oB215 P) (.node (oC343 P) .nil .nil) .nil)) (.node (oB119 P) (.node (oB183 P) (.node (oC311 P) .nil .nil) .nil) (.node (oB247 P) (.node (oC375 P) .nil .nil) .nil))))) (.node (oA11 P) (.node (oB19 P) (.node (oB35 P) (.node (oB67 P) (.node (oB131 P) (.node (oC259 P) .nil .nil) (.node (oC387 P) .nil .nil)) (.node (oB195 P) (.node (oC323 P) .nil .nil) .nil)) (.node (oB99 P) (.node (oB163 P) (.node (oC291 P) .nil .nil) (.node (oC419 P) .nil .nil)) (.node (oB227 P) (.node (oC355 P) .nil .nil) .nil))) (.node (oB51 P) (.node (oB83 P) (.node (oB147 P) (.node (oC275 P) .nil .nil) (.node (oC403 P) .nil .nil)) (.node (oB211 P) (.node (oC339 P) .nil .nil) .nil)) (.node (oB115 P) (.node (oB179 P) (.node (oC307 P) .nil .nil) (.node (oC435 P) .nil .nil)) (.node (oB243 P) (.node (oC371 P) .nil .nil) .nil)))) (.node (oB27 P) (.node (oB43 P) (.node (oB75 P) (.node (oB139 P) (.node (oC267 P) .nil .nil) (.node (oC395 P) .nil .nil)) (.node (oB203 P) (.node (oC331 P) .nil .nil) .nil)) (.node (oB107 P) (.node (oB171 P) (.node (oC299 P) .nil .nil) (.node (oC427 P) .nil .nil)) (.node (oB235 P) (.node (oC363 P) .nil .nil) .nil))) (.node (oB59 P) (.node (oB91 P) (.node (oB155 P) (.node (oC283 P) .nil .nil) (.node (oC411 P) .nil .nil)) (.node (oB219 P) (.node (oC347 P) .nil .nil) .nil)) (.node (oB123 P) (.node (oB187 P) (.node (oC315 P) .nil .nil) .nil) (.node (oC251 P) (.node (oC379 P) .nil .nil) .nil)))))) (.node (boot_o_5 P) (.node (boot_o_9 P) (.node (oB17 P) (.node (oB33 P) (.node (oB65 P) (.node (oB129 P) (.node (oC257 P) .nil .nil) (.node (oC385 P) .nil .nil)) (.node (oB193 P) (.node (oC321 P) .nil .nil) .nil)) (.node (oB97 P) (.node (oB161 P) (.node (oC289 P) .nil .nil) (.node (oC417 P) .nil .nil)) (.node (oB225 P) (.node (oC353 P) .nil .nil) .nil))) (.node (oB49 P) (.node (oB81 P) (.node (oB145 P) (.node (oC273 P) .nil .nil) (.node (oC401 P) .nil .nil)) (.node (oB209 P) (.node (oC337 P) .nil .nil) .nil)) (.node (oB113 P) (.node (oB177 P) (.node (oC305 P) .nil .nil) (.node (oC433 P) .nil .nil)) (.node (oB241 P) (.node (oC369 P) .nil .nil) .nil)))) (.node (oB25 P) (.node (oB41 P) (.node (oB73 P) (.node (oB137 P) (.node (oC265 P) .nil .nil) (.node (oC393 P) .nil .nil)) (.node (oB201 P) (.node (oC329 P) .nil .nil) .nil)) (.node (oB105 P) (.node (oB169 P) (.node (oC297 P) .nil .nil) (.node (oC425 P) .nil .nil)) (.node (oB233 P) (.node (oC361 P) .nil .nil) .nil))) (.node (oB57 P) (.node (oB89 P) (.node (oB153 P) (.node (oC281 P) .nil .nil) (.node (oC409 P) .nil .nil)) (.node (oB217 P) (.node (oC345 P) .nil .nil) .nil)) (.node (oB121 P) (.node (oB185 P) (.node (oC313 P) .nil .nil) .nil) (.node (oC249 P) (.node (oC377 P) .nil .nil) .nil))))) (.node (oA13 P) (.node (oB21 P) (.node (oB37 P) (.node (oB69 P) (.node (oB133 P) (.node (oC261 P) .nil .nil) (.node (oC389 P) .nil .nil)) (.node (oB197 P) (.node (oC325 P) .nil .nil) .nil)) (.node (oB101 P) (.node (oB165 P) (.node (oC293 P) .nil .nil) (.node (oC421 P) .nil .nil)) (.node (oB229 P) (.node (oC357 P) .nil .nil) .nil))) (.node (oB53 P) (.node (oB85 P) (.node (oB149 P) (.node (oC277 P) .nil .nil) (.node (oC405 P) .nil .nil)) (.node (oB213 P) (.node (oC341 P) .nil .nil) .nil)) (.node (oB117 P) (.node (oB181 P) (.node (oC309 P) .nil .nil) .nil) (.node (oB245 P) (.node (oC373 P) .nil .nil) .nil)))) (.node (oB29 P) (.node (oB45 P) (.node (oB77 P) (.node (oB141 P) (.node (oC269 P) .nil .nil) (.node (oC397 P) .nil .nil)) (.node (oB205 P) (.node (oC333 P) .nil .nil) .nil)) (.node (oB109 P) (.node (oB173 P) (.node (oC301 P) .nil .nil) (.node (oC429 P) .nil .nil)) (.node (oB237 P) (.node (oC365 P) .nil .nil) .nil))) (.node (oB61 P) (.node (oB93 P) (.node (oB157 P) (.node (oC285 P) .nil .nil) (.node (oC413 P) .nil .nil)) (.node (oB221 P) (.node (oC349 P) .nil .nil) .nil)) (.node (oB125 P) (.node (oB189 P) (.node (oC317 P) .nil .nil) .nil) (.node (oC253 P) (.node (oC381 P) .nil .nil) .nil))))))) (.node (oB2 P) (.node (boot_o_4 P) (.node (boot_o_8 P) (.node (oB16 P) (.node (oB32 P) (.node (oB64 P) (.node (oB128 P) (.node (oC256 P) .nil .nil) (.node (oC384 P) .nil .nil)) (.node (oB192 P) (.node (oC320 P) .nil .nil) .nil)) (.node (oB96 P) (.node (oB160 P) (.node (oC288 P) .nil .nil) (.node (oC416 P) .nil .nil)) (.node (oB224 P) (.node (oC352 P) .nil .nil) .nil))) (.node (oB48 P) (.node (oB80 P) (.node (oB144 P) (.node (oC272 P) .nil .nil) (.node (oC400 P) .nil .nil)) (.node (oB208 P) (.node (oC336 P) .nil .nil) .nil)) (.node (oB112 P) (.node (oB176 P) (.node (oC304 P) .nil .nil) (.node (oC432 P) .nil .nil)) (.node (oB240 P) (.node (oC368 P) .nil .nil) .nil)))) (.node (oB24 P) (.node (oB40 P) (.node (oB72 P) (.node (oB136 P) (.node (oC264 P) .nil .nil) (.node (oC392 P) .nil .nil)) (.node (oB200 P) (.node (oC328 P) .nil .nil) .nil)) (.node (oB104 P) (.node (oB168 P) (.node (oC296 P) .nil .nil) (.node (oC424 P) .nil .nil)) (.node (oB232 P) (.node (oC360 P) .nil .nil) .nil))) (.node (oB56 P) (.node (oB88 P) (.node (oB152 P) (.node (oC280 P) .nil .nil) (.node (oC408 P) .nil .nil)) (.node (oB216 P) (.node (oC344 P) .nil .nil) .nil)) (.node (oB120 P) (.node (oB184 P) (.node (oC312 P) .nil .nil) .nil) (.node (oC248 P) (.node (oC376 P) .nil .nil) .nil))))) (.node (oC12 P) (.node (oB20 P) (.node (oB36 P) (.node (oB68 P) (.node (oB132 P) (.node (oC260 P) .nil .nil) (.node (oC388 P) .nil .nil)) (.node (oB196 P) (.node (oC324 P) .nil .nil) .nil)) (.node (oB100 P) (.node (oB164 P) (.node (oC292 P) .nil .nil) (.node (oC420 P) .nil .nil)) (.node (oB228 P) (.node (oC356 P) .nil .nil) .nil))) (.node (oB52 P) (.node (oB84 P) (.node (oB148 P) (.node (oC276 P) .nil .nil) (.node (oC404 P) .nil .nil)) (.node (oB212 P) (.node (oC340 P) .nil .nil) .nil)) (.node (oB116 P) (.node (oB180 P) (.node (oC308 P) .nil .nil) (.node (oC436 P) .nil .nil)) (.node (oB244 P) (.node (oC372 P) .nil .nil) .nil)))) (.node (oB28 P) (.node (oB44 P) (.node (oB76 P) (.node (oB140 P) (.node (oC268 P) .nil .nil) (.node (oC396 P) .nil .nil)) (.node (oB204 P) (.node (oC332 P) .nil .nil) .nil)) (.node (oB108 P) (.node (oB172 P) (.node (oC300 P) .nil .nil) (.node (oC428 P) .nil .nil)) (.node (oB236 P) (.node (oC364 P) .nil .nil) .nil))) (.node (oB60 P) (.node (oB92 P) (.node (oB156 P) (.node (oC284 P) .nil .nil) (.node (oC412 P) .nil .nil)) (.node (oB220 P) (.node (oC348 P) .nil .nil) .nil)) (.node (oB124 P) (.node (oB188 P) (.node (oC316 P) .nil .nil) .nil) (.node (oC252 P) (.node (oC380 P) .nil .nil) .nil)))))) (.node (boot_o_6 P) (.node (boot_o_10 P) (.node (oB18 P) (.node (oB34 P) (.node (oB66 P) (.node (oB130 P) (.node (oC258 P) .nil .nil) (.node (oC386 P) .nil .nil)) (.node (oB194 P) (.node (oC322 P) .nil .nil) .nil)) (.node (oB98 P) (.node (oB162 P) (.node (oC290 P) .nil .nil) (.node (oC418 P) .nil .nil)) (.node (oB226 P) (.node (oC354 P) .nil .nil) .nil))) (.node (oB50 P) (.node (oB82 P) (.node (oB146 P) (.node (oC274 P) .nil .nil) (.node (oC402 P) .nil .nil)) (.node (oB210 P) (.node (oC338 P) .nil .nil) .nil)) (.node (oB114 P) (.node (oB178 P) (.node (oC306 P) .nil .nil) (.node (oC434 P) .nil .nil)) (.node (oB242 P) (.node (oC370 P) .nil .nil) .nil)))) (.node (oB26 P) (.node (oB42 P) (.node (oB74 P) (.node (oB138 P) (.node (oC266 P) .nil .nil) (.node (oC394 P) .nil .nil)) (.node (oB202 P) (.node (oC330 P) .nil .nil) .nil)) (.node (oB106 P) (.node (oB170 P) (.node (oC298 P) .nil .nil) (.node (oC426 P) .nil .nil)) (.node (oB234 P) (.node (oC362 P) .nil .nil) .nil))) (.node (oB58 P) (.node (oB90 P) (.node (oB154 P) (.node (oC282 P) .nil .nil) (.node (oC410 P) .nil .nil)) (.node (oB218 P) (.node (oC346 P) .nil .nil) .nil)) (.node (oB122 P) (.node (oB186 P) (.node (oC314 P) .nil .nil) .nil) (.node (oC250 P) (.node (oC378 P) .nil .nil) .nil))))) (.node (oA14 P) (.node (oB22 P) (.node (oB38 P) (.node (oB70 P) (.node (oB134 P) (.node (oC262 P) .nil .nil) (.node (oC390 P) .nil .nil)) (.node (oB198 P) (.node (oC326 P) .nil .nil) .nil)) (.node (oB102 P) (.node (oB166 P) (.node (oC294 P) .nil .nil) (.node (oC422 P) .nil .nil)) (.node (oB230 P) (.node (oC358 P) .nil .nil) .nil))) (.node (oB54 P) (.node (oB86 P) (.node (oB150 P) (.node (oC278 P) .nil .nil) (.node (oC406 P) .nil .nil)) (.node (oB214 P) (.node (oC342 P) .nil .nil) .nil)) (.node (oB118 P) (.node (oB182 P) (.node (oC310 P) .nil .nil) .nil) (.node (oB246 P) (.node (oC374 P) .nil .nil) .nil)))) (.node (oB30 P) (.node (oB46 P) (.node (oB78 P) (.node (oB142 P) (.node (oC270 P) .nil .nil) (.node (oC398 P) .nil .nil)) (.node (oB206 P) (.node (oC334 P) .nil .nil) .nil)) (.node (oB110 P) (.node (oB174 P) (.node (oC302 P) .nil .nil) (.node (oC430 P) .nil .nil)) (.node (oB238 P) (.node (oC366 P) .nil .nil) .nil))) (.node (oB62 P) (.node (oB94 P) (.node (oB158 P) (.node (oC286 P) .nil .nil) (.node (oC414 P) .nil .nil)) (.node (oB222 P) (.node (oC350 P) .nil .nil) .nil)) (.node (oB126 P) (.node (oB190 P) (.node (oC318 P) .nil .nil) .nil) (.node (oC254 P) (.node (oC382 P) .nil .nil) .nil))))))))
noncomputable def d3 (P : Params) : Obj := ⟨(.type "dict"), none, (.dict (List.toArray [kE P (Str.ofString "__name__") 165 (.str (Str.ofString "law_nu0045_01") 772), kE P (Str.ofString "__doc__") 166 .none, kE P (Str.ofString "__package__") 167 .none, kE P (Str.ofString "__loader__") 168 (.builtin "__main__.__loader__#opaque"), kE P (Str.ofString "__spec__") 169 .none, kE P (Str.ofString "__annotations__") 170 (.ref 6), kE P (Str.ofString "__builtins__") 171 (.ref 4), kE P (Str.ofString "__file__") 173 (.str (Str.ofString "/claim/cut.py") 172), kE P (Str.ofString "__cached__") 174 .none, kE P (Str.ofString "_wall") 193 (.ref 21), kE P (Str.ofString "NAN") 198 (.ref 22), kE P (Str.ofString "SPACES") 200 (.str (Str.ofString " \t\n\x0d") 199), kE P (Str.ofString "DIGITS") 202 (.str (Str.ofString "0123456789") 201), kE P (Str.ofString "common_divisor") 212 (.ref 29), kE P (Str.ofString "sign_of") 219 (.ref 36), kE P (Str.ofString "number_of") 229 (.ref 44), kE P (Str.ofString "is_nan") 236 (.ref 51), kE P (Str.ofString "negated") 243 (.ref 58), kE P (Str.ofString "order_of") 251 (.ref 65), kE P (Str.ofString "compared_numbers") 261 (.ref 72), kE P (Str.ofString "digits_end") 269 (.ref 79), kE P (Str.ofString "trimmed") 278 (.ref 86), kE P (Str.ofString "whole_of") 287 (.ref 93), kE P (Str.ofString "read_number") 301 (.ref 100), kE P (Str.ofString "write_number") 316 (.ref 108), kE P (Str.ofString "beneath") 329 (.ref 115), kE P (Str.ofString "string_value") 335 (.ref 120), kE P (Str.ofString "as_text") 345 (.ref 127), kE P (Str.ofString "as_number") 353 (.ref 134), kE P (Str.ofString "as_truth") 361 (.ref 141), kE P (Str.ofString "is_equality") 368 (.ref 148), kE P (Str.ofString "compared_texts") 377 (.ref 155), kE P (Str.ofString "compared_plain") 387 (.ref 162), kE P (Str.ofString "as_compared") 393 (.ref 167), kE P (Str.ofString "some_pair") 404 (.ref 174), kE P (Str.ofString "texts_of") 410 (.ref 179), kE P (Str.ofString "listed") 420 (.ref 186), kE P (Str.ofString "compared") 430 (.ref 193), kE P (Str.ofString "MarkupError") 461 (.ref 210), kE P (Str.ofString "TreeFault") 477 (.ref 223), kE P (Str.ofString "PARENTS") 482 (.ref 226), kE P (Str.ofString "NodeRow") 524 (.ref 243), kE P (Str.ofString "Tree") 771 (.ref 432), kE P (Str.ofString "_law_pool") 784 (.ref 443), kE P (Str.ofString "_law_take") 793 (.ref 450), kE P (Str.ofString "_law_one") 801 (.ref 457), kE P (Str.ofString "_law_texts") 808 (.ref 464), kE P (Str.ofString "_law_value") 814 (.ref 469), kE P (Str.ofString "_law_number") 823 (.ref 476), kE P (Str.ofString "_law_truth") 832 (.ref 483), kE P (Str.ofString "_law_numbers") 843 (.ref 490), kE P (Str.ofString "_law_plain") 854 (.ref 497), kE P (Str.ofString "_law_due") 860 (.ref 502), kE P (Str.ofString "_law_made") 871 (.ref 509), kE P (Str.ofString "law") 887 (.ref 516)]) 55), List.toArray []⟩
noncomputable def d12 (P : Params) : Obj := ⟨.none, none, (.fields (List.toArray [(.int 1 0), (.int 0 0), (.ref 20), (.int 8 0), (.int 0 0), (.ref 28), (.int 13 0), (.int 0 0), (.ref 35), (.int 19 0), (.int 0 0), (.ref 43), (.int 26 0), (.int 0 0), (.ref 50), (.int 28 0), (.int 0 0), (.ref 57), (.int 30 0), (.int 0 0), (.ref 64), (.int 34 0), (.int 0 0), (.ref 71), (.int 49 0), (.int 0 0), (.ref 78), (.int 53 0), (.int 0 0), (.ref 85), (.int 60 0), (.int 0 0), (.ref 92), (.int 65 0), (.int 0 0), (.ref 99), (.int 78 0), (.int 0 0), (.ref 107), (.int 95 0), (.int 0 0), (.ref 114), (.int 103 0), (.int 0 0), (.ref 119), (.int 108 0), (.int 0 0), (.ref 126), (.int 116 0), (.int 0 0), (.ref 133), (.int 122 0), (.int 0 0), (.ref 140), (.int 130 0), (.int 0 0), (.ref 147), (.int 132 0), (.int 0 0), (.ref 154), (.int 134 0), (.int 0 0), (.ref 161), (.int 141 0), (.int 0 0), (.ref 166), (.int 145 0), (.int 0 0), (.ref 173), (.int 154 0), (.int 0 0), (.ref 178), (.int 156 0), (.int 0 0), (.ref 185), (.int 162 0), (.int 0 0), (.ref 192), (.int 169 0), (.int 0 0), (.ref 199), (.int 174 0), (.int 0 0), (.ref 219), (.int 178 0), (.int 0 0), (.ref 232), (.int 190 0), (.int 0 0), (.ref 253), (.int 275 0), (.int 0 0), (.ref 442), (.int 282 0), (.int 0 0), (.ref 449), (.int 289 0), (.int 0 0), (.ref 456), (.int 291 0), (.int 0 0), (.ref 463), (.int 295 0), (.int 0 0), (.ref 468), (.int 308 0), (.int 0 0), (.ref 475), (.int 315 0), (.int 0 0), (.ref 482), (.int 320 0), (.int 0 0), (.ref 489), (.int 327 0), (.int 0 0), (.ref 496), (.int 334 0), (.int 0 0), (.ref 501), (.int 347 0), (.int 0 0), (.ref 508), (.int 354 0), (.int 0 0), (.ref 515)])), List.toArray []⟩
noncomputable def d437 (P : Params) : Obj := ⟨(.type "tuple"), none, (.seq (List.toArray []) 0), List.toArray []⟩
noncomputable def d438 (P : Params) : Obj := ⟨.none, none, (.fields (List.toArray [])), List.toArray []⟩
noncomputable def d439 (P : Params) : Obj := ⟨(.type "tuple"), none, (.seq (List.toArray [(.str (Str.ofString "script") 777), (.str (Str.ofString "k") 778), (.str (Str.ofString "cell") 779), (.str (Str.ofString "big") 780), (.str (Str.ofString "mixed") 781)]) 0), List.toArray []⟩
noncomputable def d440 (P : Params) : Obj := ⟨(.type "tuple"), none, (.seq (List.toArray []) 0), List.toArray []⟩
noncomputable def d441 (P : Params) : Obj := fnI (Str.ofString "_law_pool") (Str.ofString "_law_pool") (h := (rfl : defAt 40 = _))
noncomputable def d442 (P : Params) : Obj := ⟨(.type "code"), none, (.fields (List.toArray [(.str (Str.ofString "_law_pool") 774), (.str (Str.ofString "_law_pool") 775), (.str (Str.ofString "/claim/cut.py") 776), (.int 275 0), (.int 2 0), (.int 0 0), (.int 0 0), (.int 3 0), (.ref 437), (.bool true), (.int 181 0), (.ref 438), .none, (.ref 439), (.ref 440), (.ref 441), (.int 782 0), (.int 275 0), (.str (Str.ofString "/claim/cut.py") 783)])), List.toArray []⟩
noncomputable def d443 (P : Params) : Obj := fnO (Str.ofString "_law_pool") (Str.ofString "_law_pool") .none (.str (Str.ofString "law_nu0045_01") 772) 442 (h := (rfl : defAt 40 = _))
noncomputable def d444 (P : Params) : Obj := ⟨(.type "tuple"), none, (.seq (List.toArray []) 0), List.toArray []⟩
noncomputable def d445 (P : Params) : Obj := ⟨.none, none, (.fields (List.toArray [])), List.toArray []⟩
noncomputable def d446 (P : Params) : Obj := ⟨(.type "tuple"), none, (.seq (List.toArray [(.str (Str.ofString "source") 788), (.str (Str.ofString "top") 789), (.str (Str.ofString "drawn") 790)]) 0), List.toArray []⟩
noncomputable def d447 (P : Params) : Obj := ⟨(.type "tuple"), none, (.seq (List.toArray []) 0), List.toArray []⟩
noncomputable def d448 (P : Params) : Obj := fnI (Str.ofString "_law_take") (Str.ofString "_law_take") (h := (rfl : defAt 41 = _))
noncomputable def d449 (P : Params) : Obj := ⟨(.type "code"), none, (.fields (List.toArray [(.str (Str.ofString "_law_take") 785), (.str (Str.ofString "_law_take") 786), (.str (Str.ofString "/claim/cut.py") 787), (.int 282 0), (.int 2 0), (.int 0 0), (.int 0 0), (.int 3 0), (.ref 444), (.bool true), (.int 181 0), (.ref 445), .none, (.ref 446), (.ref 447), (.ref 448), (.int 791 0), (.int 282 0), (.str (Str.ofString "/claim/cut.py") 792)])), List.toArray []⟩
noncomputable def d450 (P : Params) : Obj := fnO (Str.ofString "_law_take") (Str.ofString "_law_take") .none (.str (Str.ofString "law_nu0045_01") 772) 449 (h := (rfl : defAt 41 = _))
noncomputable def d451 (P : Params) : Obj := ⟨(.type "tuple"), none, (.seq (List.toArray []) 0), List.toArray []⟩
noncomputable def d452 (P : Params) : Obj := ⟨.none, none, (.fields (List.toArray [])), List.toArray []⟩
noncomputable def d453 (P : Params) : Obj := ⟨(.type "tuple"), none, (.seq (List.toArray [(.str (Str.ofString "source") 797), (.str (Str.ofString "things") 798)]) 0), List.toArray []⟩
noncomputable def d454 (P : Params) : Obj := ⟨(.type "tuple"), none, (.seq (List.toArray []) 0), List.toArray []⟩
noncomputable def d455 (P : Params) : Obj := fnI (Str.ofString "_law_one") (Str.ofString "_law_one") (h := (rfl : defAt 42 = _))
noncomputable def d456 (P : Params) : Obj := ⟨(.type "code"), none, (.fields (List.toArray [(.str (Str.ofString "_law_one") 794), (.str (Str.ofString "_law_one") 795), (.str (Str.ofString "/claim/cut.py") 796), (.int 289 0), (.int 2 0), (.int 0 0), (.int 0 0), (.int 3 0), (.ref 451), (.bool true), (.int 181 0), (.ref 452), .none, (.ref 453), (.ref 454), (.ref 455), (.int 799 0), (.int 289 0), (.str (Str.ofString "/claim/cut.py") 800)])), List.toArray []⟩
noncomputable def d457 (P : Params) : Obj := fnO (Str.ofString "_law_one") (Str.ofString "_law_one") .none (.str (Str.ofString "law_nu0045_01") 772) 456 (h := (rfl : defAt 42 = _))
noncomputable def d458 (P : Params) : Obj := ⟨(.type "tuple"), none, (.seq (List.toArray []) 0), List.toArray []⟩
noncomputable def d459 (P : Params) : Obj := ⟨.none, none, (.fields (List.toArray [])), List.toArray []⟩
noncomputable def d460 (P : Params) : Obj := ⟨(.type "tuple"), none, (.seq (List.toArray [(.str (Str.ofString "found") 805)]) 0), List.toArray []⟩
noncomputable def d461 (P : Params) : Obj := ⟨(.type "tuple"), none, (.seq (List.toArray []) 0), List.toArray []⟩
noncomputable def d462 (P : Params) : Obj := fnI (Str.ofString "_law_texts") (Str.ofString "_law_texts") (h := (rfl : defAt 43 = _))
noncomputable def d463 (P : Params) : Obj := ⟨(.type "code"), none, (.fields (List.toArray [(.str (Str.ofString "_law_texts") 802), (.str (Str.ofString "_law_texts") 803), (.str (Str.ofString "/claim/cut.py") 804), (.int 291 0), (.int 0 0), (.int 0 0), (.int 0 0), (.int 3 0), (.ref 458), (.bool true), (.int 181 0), (.ref 459), .none, (.ref 460), (.ref 461), (.ref 462), (.int 806 0), (.int 291 0), (.str (Str.ofString "/claim/cut.py") 807)])), List.toArray []⟩
noncomputable def d464 (P : Params) : Obj := fnO (Str.ofString "_law_texts") (Str.ofString "_law_texts") .none (.str (Str.ofString "law_nu0045_01") 772) 463 (h := (rfl : defAt 43 = _))
noncomputable def d465 (P : Params) : Obj := ⟨(.type "tuple"), none, (.seq (List.toArray []) 0), List.toArray []⟩
noncomputable def d466 (P : Params) : Obj := ⟨.none, none, (.fields (List.toArray [])), List.toArray []⟩
noncomputable def d467 (P : Params) : Obj := fnI (Str.ofString "_law_value") (Str.ofString "_law_value") (h := (rfl : defAt 44 = _))
noncomputable def d468 (P : Params) : Obj := ⟨(.type "code"), none, (.fields (List.toArray [(.str (Str.ofString "_law_value") 809), (.str (Str.ofString "_law_value") 810), (.str (Str.ofString "/claim/cut.py") 811), (.int 295 0), (.int 3 0), (.int 0 0), (.int 0 0), (.int 3 0), (.ref 465), (.bool true), (.int 181 0), (.ref 466), .none, .none, .none, (.ref 467), (.int 812 0), (.int 295 0), (.str (Str.ofString "/claim/cut.py") 813)])), List.toArray []⟩
noncomputable def d469 (P : Params) : Obj := fnO (Str.ofString "_law_value") (Str.ofString "_law_value") .none (.str (Str.ofString "law_nu0045_01") 772) 468 (h := (rfl : defAt 44 = _))
noncomputable def d470 (P : Params) : Obj := ⟨(.type "tuple"), none, (.seq (List.toArray []) 0), List.toArray []⟩
noncomputable def d471 (P : Params) : Obj := ⟨.none, none, (.fields (List.toArray [])), List.toArray []⟩
noncomputable def d472 (P : Params) : Obj := ⟨(.type "tuple"), none, (.seq (List.toArray [(.str (Str.ofString "value") 818), (.str (Str.ofString "kind") 819), (.str (Str.ofString "told") 820)]) 0), List.toArray []⟩
noncomputable def d473 (P : Params) : Obj := ⟨(.type "tuple"), none, (.seq (List.toArray []) 0), List.toArray []⟩
noncomputable def d474 (P : Params) : Obj := fnI (Str.ofString "_law_number") (Str.ofString "_law_number") (h := (rfl : defAt 45 = _))
noncomputable def d475 (P : Params) : Obj := ⟨(.type "code"), none, (.fields (List.toArray [(.str (Str.ofString "_law_number") 815), (.str (Str.ofString "_law_number") 816), (.str (Str.ofString "/claim/cut.py") 817), (.int 308 0), (.int 1 0), (.int 0 0), (.int 0 0), (.int 3 0), (.ref 470), (.bool true), (.int 181 0), (.ref 471), .none, (.ref 472), (.ref 473), (.ref 474), (.int 821 0), (.int 308 0), (.str (Str.ofString "/claim/cut.py") 822)])), List.toArray []⟩
noncomputable def d476 (P : Params) : Obj := fnO (Str.ofString "_law_number") (Str.ofString "_law_number") .none (.str (Str.ofString "law_nu0045_01") 772) 475 (h := (rfl : defAt 45 = _))
noncomputable def d477 (P : Params) : Obj := ⟨(.type "tuple"), none, (.seq (List.toArray []) 0), List.toArray []⟩
noncomputable def d478 (P : Params) : Obj := ⟨.none, none, (.fields (List.toArray [])), List.toArray []⟩
noncomputable def d479 (P : Params) : Obj := ⟨(.type "tuple"), none, (.seq (List.toArray [(.str (Str.ofString "value") 827), (.str (Str.ofString "kind") 828), (.str (Str.ofString "told") 829)]) 0), List.toArray []⟩
noncomputable def d480 (P : Params) : Obj := ⟨(.type "tuple"), none, (.seq (List.toArray []) 0), List.toArray []⟩
noncomputable def d481 (P : Params) : Obj := fnI (Str.ofString "_law_truth") (Str.ofString "_law_truth") (h := (rfl : defAt 46 = _))
noncomputable def d482 (P : Params) : Obj := ⟨(.type "code"), none, (.fields (List.toArray [(.str (Str.ofString "_law_truth") 824), (.str (Str.ofString "_law_truth") 825), (.str (Str.ofString "/claim/cut.py") 826), (.int 315 0), (.int 1 0), (.int 0 0), (.int 0 0), (.int 3 0), (.ref 477), (.bool true), (.int 181 0), (.ref 478), .none, (.ref 479), (.ref 480), (.ref 481), (.int 830 0), (.int 315 0), (.str (Str.ofString "/claim/cut.py") 831)])), List.toArray []⟩
noncomputable def d483 (P : Params) : Obj := fnO (Str.ofString "_law_truth") (Str.ofString "_law_truth") .none (.str (Str.ofString "law_nu0045_01") 772) 482 (h := (rfl : defAt 46 = _))
noncomputable def d484 (P : Params) : Obj := ⟨(.type "tuple"), none, (.seq (List.toArray []) 0), List.toArray []⟩
noncomputable def d485 (P : Params) : Obj := ⟨.none, none, (.fields (List.toArray [])), List.toArray []⟩
noncomputable def d486 (P : Params) : Obj := ⟨(.type "tuple"), none, (.seq (List.toArray [(.str (Str.ofString "op") 836), (.str (Str.ofString "one") 837), (.str (Str.ofString "other") 838), (.str (Str.ofString "left") 839), (.str (Str.ofString "right") 840)]) 0), List.toArray []⟩
noncomputable def d487 (P : Params) : Obj := ⟨(.type "tuple"), none, (.seq (List.toArray []) 0), List.toArray []⟩
noncomputable def d488 (P : Params) : Obj := fnI (Str.ofString "_law_numbers") (Str.ofString "_law_numbers") (h := (rfl : defAt 47 = _))
noncomputable def d489 (P : Params) : Obj := ⟨(.type "code"), none, (.fields (List.toArray [(.str (Str.ofString "_law_numbers") 833), (.str (Str.ofString "_law_numbers") 834), (.str (Str.ofString "/claim/cut.py") 835), (.int 320 0), (.int 3 0), (.int 0 0), (.int 0 0), (.int 3 0), (.ref 484), (.bool true), (.int 181 0), (.ref 485), .none, (.ref 486), (.ref 487), (.ref 488), (.int 841 0), (.int 320 0), (.str (Str.ofString "/claim/cut.py") 842)])), List.toArray []⟩
noncomputable def d490 (P : Params) : Obj := fnO (Str.ofString "_law_numbers") (Str.ofString "_law_numbers") .none (.str (Str.ofString "law_nu0045_01") 772) 489 (h := (rfl : defAt 47 = _))
noncomputable def d491 (P : Params) : Obj := ⟨(.type "tuple"), none, (.seq (List.toArray []) 0), List.toArray []⟩
noncomputable def d492 (P : Params) : Obj := ⟨.none, none, (.fields (List.toArray [])), List.toArray []⟩
noncomputable def d493 (P : Params) : Obj := ⟨(.type "tuple"), none, (.seq (List.toArray [(.str (Str.ofString "op") 847), (.str (Str.ofString "left") 848), (.str (Str.ofString "right") 849), (.str (Str.ofString "kinds") 850), (.str (Str.ofString "is_like") 851)]) 0), List.toArray []⟩
noncomputable def d494 (P : Params) : Obj := ⟨(.type "tuple"), none, (.seq (List.toArray []) 0), List.toArray []⟩
noncomputable def d495 (P : Params) : Obj := fnI (Str.ofString "_law_plain") (Str.ofString "_law_plain") (h := (rfl : defAt 48 = _))
noncomputable def d496 (P : Params) : Obj := ⟨(.type "code"), none, (.fields (List.toArray [(.str (Str.ofString "_law_plain") 844), (.str (Str.ofString "_law_plain") 845), (.str (Str.ofString "/claim/cut.py") 846), (.int 327 0), (.int 3 0), (.int 0 0), (.int 0 0), (.int 3 0), (.ref 491), (.bool true), (.int 181 0), (.ref 492), .none, (.ref 493), (.ref 494), (.ref 495), (.int 852 0), (.int 327 0), (.str (Str.ofString "/claim/cut.py") 853)])), List.toArray []⟩
noncomputable def d497 (P : Params) : Obj := fnO (Str.ofString "_law_plain") (Str.ofString "_law_plain") .none (.str (Str.ofString "law_nu0045_01") 772) 496 (h := (rfl : defAt 48 = _))
noncomputable def d498 (P : Params) : Obj := ⟨(.type "tuple"), none, (.seq (List.toArray []) 0), List.toArray []⟩
noncomputable def d499 (P : Params) : Obj := ⟨.none, none, (.fields (List.toArray [])), List.toArray []⟩
noncomputable def d500 (P : Params) : Obj := fnI (Str.ofString "_law_due") (Str.ofString "_law_due") (h := (rfl : defAt 49 = _))
noncomputable def d501 (P : Params) : Obj := ⟨(.type "code"), none, (.fields (List.toArray [(.str (Str.ofString "_law_due") 855), (.str (Str.ofString "_law_due") 856), (.str (Str.ofString "/claim/cut.py") 857), (.int 334 0), (.int 3 0), (.int 0 0), (.int 0 0), (.int 3 0), (.ref 498), (.bool true), (.int 181 0), (.ref 499), .none, .none, .none, (.ref 500), (.int 858 0), (.int 334 0), (.str (Str.ofString "/claim/cut.py") 859)])), List.toArray []⟩
noncomputable def d502 (P : Params) : Obj := fnO (Str.ofString "_law_due") (Str.ofString "_law_due") .none (.str (Str.ofString "law_nu0045_01") 772) 501 (h := (rfl : defAt 49 = _))
noncomputable def d503 (P : Params) : Obj := ⟨(.type "tuple"), none, (.seq (List.toArray []) 0), List.toArray []⟩
noncomputable def d504 (P : Params) : Obj := ⟨.none, none, (.fields (List.toArray [])), List.toArray []⟩
noncomputable def d505 (P : Params) : Obj := ⟨(.type "tuple"), none, (.seq (List.toArray [(.str (Str.ofString "source") 864), (.str (Str.ofString "tree") 865), (.str (Str.ofString "nodes") 866), (.str (Str.ofString "top") 867), (.str (Str.ofString "turn") 868)]) 0), List.toArray []⟩
noncomputable def d506 (P : Params) : Obj := ⟨(.type "tuple"), none, (.seq (List.toArray []) 0), List.toArray []⟩
noncomputable def d507 (P : Params) : Obj := fnI (Str.ofString "_law_made") (Str.ofString "_law_made") (h := (rfl : defAt 50 = _))
noncomputable def d508 (P : Params) : Obj := ⟨(.type "code"), none, (.fields (List.toArray [(.str (Str.ofString "_law_made") 861), (.str (Str.ofString "_law_made") 862), (.str (Str.ofString "/claim/cut.py") 863), (.int 347 0), (.int 1 0), (.int 0 0), (.int 0 0), (.int 3 0), (.ref 503), (.bool true), (.int 181 0), (.ref 504), .none, (.ref 505), (.ref 506), (.ref 507), (.int 869 0), (.int 347 0), (.str (Str.ofString "/claim/cut.py") 870)])), List.toArray []⟩
noncomputable def d509 (P : Params) : Obj := fnO (Str.ofString "_law_made") (Str.ofString "_law_made") .none (.str (Str.ofString "law_nu0045_01") 772) 508 (h := (rfl : defAt 50 = _))
noncomputable def d510 (P : Params) : Obj := ⟨(.type "tuple"), none, (.seq (List.toArray []) 0), List.toArray []⟩
noncomputable def d511 (P : Params) : Obj := ⟨.none, none, (.fields (List.toArray [])), List.toArray []⟩
noncomputable def d512 (P : Params) : Obj := ⟨(.type "tuple"), none, (.seq (List.toArray [(.str (Str.ofString "script") 875), (.str (Str.ofString "k") 876), (.str (Str.ofString "source") 877), (.str (Str.ofString "tree") 878), (.str (Str.ofString "nodes") 879), (.str (Str.ofString "turn") 880), (.str (Str.ofString "left") 881), (.str (Str.ofString "right") 882), (.str (Str.ofString "op") 883), (.str (Str.ofString "told") 884)]) 0), List.toArray []⟩
noncomputable def d513 (P : Params) : Obj := ⟨(.type "tuple"), none, (.seq (List.toArray []) 0), List.toArray []⟩
noncomputable def d514 (P : Params) : Obj := fnI (Str.ofString "law") (Str.ofString "law") (h := (rfl : defAt 51 = _))
noncomputable def d515 (P : Params) : Obj := ⟨(.type "code"), none, (.fields (List.toArray [(.str (Str.ofString "law") 872), (.str (Str.ofString "law") 873), (.str (Str.ofString "/claim/cut.py") 874), (.int 354 0), (.int 1 0), (.int 0 0), (.int 0 0), (.int 3 0), (.ref 510), (.bool true), (.int 181 0), (.ref 511), .none, (.ref 512), (.ref 513), (.ref 514), (.int 885 0), (.int 354 0), (.str (Str.ofString "/claim/cut.py") 886)])), List.toArray []⟩
noncomputable def d516 (P : Params) : Obj := fnO (Str.ofString "law") (Str.ofString "law") .none (.str (Str.ofString "law_nu0045_01") 772) 515 (h := (rfl : defAt 51 = _))
noncomputable def K : Params → Frag := fun P => (nat_lit 2, oB2 P) :: (nat_lit 3, d3 P) :: (nat_lit 22, oB22 P) :: (nat_lit 28, oB28 P) :: (nat_lit 29, oB29 P) :: (nat_lit 35, oB35 P) :: (nat_lit 36, oB36 P) :: (nat_lit 37, oB37 P) :: (nat_lit 43, oB43 P) :: (nat_lit 44, oB44 P) :: (nat_lit 50, oB50 P) :: (nat_lit 51, oB51 P) :: (nat_lit 57, oB57 P) :: (nat_lit 58, oB58 P) :: (nat_lit 64, oB64 P) :: (nat_lit 65, oB65 P) :: (nat_lit 71, oB71 P) :: (nat_lit 72, oB72 P) :: (nat_lit 78, oB78 P) :: (nat_lit 79, oB79 P) :: (nat_lit 85, oB85 P) :: (nat_lit 86, oB86 P) :: (nat_lit 92, oB92 P) :: (nat_lit 93, oB93 P) :: (nat_lit 99, oB99 P) :: (nat_lit 100, oB100 P) :: (nat_lit 114, oB114 P) :: (nat_lit 115, oB115 P) :: (nat_lit 119, oB119 P) :: (nat_lit 120, oB120 P) :: (nat_lit 126, oB126 P) :: (nat_lit 127, oB127 P) :: (nat_lit 133, oB133 P) :: (nat_lit 134, oB134 P) :: (nat_lit 140, oB140 P) :: (nat_lit 141, oB141 P) :: (nat_lit 147, oB147 P) :: (nat_lit 148, oB148 P) :: (nat_lit 154, oB154 P) :: (nat_lit 155, oB155 P) :: (nat_lit 161, oB161 P) :: (nat_lit 162, oB162 P) :: (nat_lit 166, oB166 P) :: (nat_lit 167, oB167 P) :: (nat_lit 173, oB173 P) :: (nat_lit 174, oB174 P) :: (nat_lit 178, oB178 P) :: (nat_lit 179, oB179 P) :: (nat_lit 185, oB185 P) :: (nat_lit 186, oB186 P) :: (nat_lit 192, oB192 P) :: (nat_lit 193, oB193 P) :: (nat_lit 226, oB226 P) :: (nat_lit 239, oB239 P) :: (nat_lit 240, oB240 P) :: (nat_lit 242, oB242 P) :: (nat_lit 243, oB243 P) :: (nat_lit 260, oC260 P) :: (nat_lit 261, oC261 P) :: (nat_lit 267, oC267 P) :: (nat_lit 268, oC268 P) :: (nat_lit 274, oC274 P) :: (nat_lit 275, oC275 P) :: (nat_lit 281, oC281 P) :: (nat_lit 282, oC282 P) :: (nat_lit 288, oC288 P) :: (nat_lit 289, oC289 P) :: (nat_lit 295, oC295 P) :: (nat_lit 296, oC296 P) :: (nat_lit 302, oC302 P) :: (nat_lit 303, oC303 P) :: (nat_lit 351, oC351 P) :: (nat_lit 352, oC352 P) :: (nat_lit 379, oC379 P) :: (nat_lit 380, oC380 P) :: (nat_lit 393, oC393 P) :: (nat_lit 394, oC394 P) :: (nat_lit 431, oC431 P) :: (nat_lit 432, oC432 P) :: (nat_lit 442, d442 P) :: (nat_lit 443, d443 P) :: (nat_lit 449, d449 P) :: (nat_lit 450, d450 P) :: (nat_lit 456, d456 P) :: (nat_lit 457, d457 P) :: (nat_lit 463, d463 P) :: (nat_lit 464, d464 P) :: (nat_lit 468, d468 P) :: (nat_lit 469, d469 P) :: (nat_lit 475, d475 P) :: (nat_lit 476, d476 P) :: (nat_lit 482, d482 P) :: (nat_lit 483, d483 P) :: (nat_lit 489, d489 P) :: (nat_lit 490, d490 P) :: (nat_lit 496, d496 P) :: (nat_lit 497, d497 P) :: (nat_lit 501, d501 P) :: (nat_lit 502, d502 P) :: (nat_lit 508, d508 P) :: (nat_lit 509, d509 P) :: (nat_lit 515, d515 P) :: (nat_lit 516, d516 P) :: []
noncomputable def heapD (P : Params) : Heap := ⟨⟨[boot_o_0 P, boot_o_1 P, oB2 P, d3 P, boot_o_4 P, boot_o_5 P, boot_o_6 P, boot_o_7 P, boot_o_8 P, boot_o_9 P, boot_o_10 P, oA11 P, d12 P, oA13 P, oA14 P, oB15 P, oB16 P, oB17 P, oB18 P, oB19 P, oB20 P, oB21 P, oB22 P, oB23 P, oB24 P, oB25 P, oB26 P, oB27 P, oB28 P, oB29 P, oB30 P, oB31 P, oB32 P, oB33 P, oB34 P, oB35 P, oB36 P, oB37 P, oB38 P, oB39 P, oB40 P, oB41 P, oB42 P, oB43 P, oB44 P, oB45 P, oB46 P, oB47 P, oB48 P, oB49 P, oB50 P, oB51 P, oB52 P, oB53 P, oB54 P, oB55 P, oB56 P, oB57 P, oB58 P, oB59 P, oB60 P, oB61 P, oB62 P, oB63 P, oB64 P, oB65 P, oB66 P, oB67 P, oB68 P, oB69 P, oB70 P, oB71 P, oB72 P, oB73 P, oB74 P, oB75 P, oB76 P, oB77 P, oB78 P, oB79 P, oB80 P, oB81 P, oB82 P, oB83 P, oB84 P, oB85 P, oB86 P, oB87 P, oB88 P, oB89 P, oB90 P, oB91 P, oB92 P, oB93 P, oB94 P, oB95 P, oB96 P, oB97 P, oB98 P, oB99 P, oB100 P, oB101 P, oB102 P, oB103 P, oB104 P, oB105 P, oB106 P, oB107 P, oB108 P, oB109 P, oB110 P, oB111 P, oB112 P, oB113 P, oB114 P, oB115 P, oB116 P, oB117 P, oB118 P, oB119 P, oB120 P, oB121 P, oB122 P, oB123 P, oB124 P, oB125 P, oB126 P, oB127 P, oB128 P, oB129 P, oB130 P, oB131 P, oB132 P, oB133 P, oB134 P, oB135 P, oB136 P, oB137 P, oB138 P, oB139 P, oB140 P, oB141 P, oB142 P, oB143 P, oB144 P, oB145 P, oB146 P, oB147 P, oB148 P, oB149 P, oB150 P, oB151 P, oB152 P, oB153 P, oB154 P, oB155 P, oB156 P, oB157 P, oB158 P, oB159 P, oB160 P, oB161 P, oB162 P, oB163 P, oB164 P, oB165 P, oB166 P, oB167 P, oB168 P, oB169 P, oB170 P, oB171 P, oB172 P, oB173 P, oB174 P, oB175 P, oB176 P, oB177 P, oB178 P, oB179 P, oB180 P, oB181 P, oB182 P, oB183 P, oB184 P, oB185 P, oB186 P, oB187 P, oB188 P, oB189 P, oB190 P, oB191 P, oB192 P, oB193 P, oB194 P, oB195 P, oB196 P, oB197 P, oB198 P, oB199 P, oB200 P, oB201 P, oB202 P, oB203 P, oB204 P, oB205 P, oB206 P, oB207 P, oB208 P, oB209 P, oB210 P, oB211 P, oB212 P, oB213 P, oB214 P, oB215 P, oB216 P, oB217 P, oB218 P, oB219 P, oB220 P, oB221 P, oB222 P, oB223 P, oB224 P, oB225 P, oB226 P, oB227 P, oB228 P, oB229 P, oB230 P, oB231 P, oB232 P, oB233 P, oB234 P, oB235 P, oB236 P, oB237 P, oB238 P, oB239 P, oB240 P, oB241 P, oB242 P, oB243 P, oB244 P, oB245 P, oB246 P, oB247 P, oC248 P, oC249 P, oC250 P, oC251 P, oC252 P, oC253 P, oC254 P, oC255 P, oC256 P, oC257 P, oC258 P, oC259 P, oC260 P, oC261 P, oC262 P, oC263 P, oC264 P, oC265 P, oC266 P, oC267 P, oC268 P, oC269 P, oC270 P, oC271 P, oC272 P, oC273 P, oC274 P, oC275 P, oC276 P, oC277 P, oC278 P, oC279 P, oC280 P, oC281 P, oC282 P, oC283 P, oC284 P, oC285 P, oC286 P, oC287 P, oC288 P, oC289 P, oC290 P, oC291 P, oC292 P, oC293 P, oC294 P, oC295 P, oC296 P, oC297 P, oC298 P, oC299 P, oC300 P, oC301 P, oC302 P, oC303 P, oC304 P, oC305 P, oC306 P, oC307 P, oC308 P, oC309 P, oC310 P, oC311 P, oC312 P, oC313 P, oC314 P, oC315 P, oC316 P, oC317 P, oC318 P, oC319 P, oC320 P, oC321 P, oC322 P, oC323 P, oC324 P, oC325 P, oC326 P, oC327 P, oC328 P, oC329 P, oC330 P, oC331 P, oC332 P, oC333 P, oC334 P, oC335 P, oC336 P, oC337 P, oC338 P, oC339 P, oC340 P, oC341 P, oC342 P, oC343 P, oC344 P, oC345 P, oC346 P, oC347 P, oC348 P, oC349 P, oC350 P, oC351 P, oC352 P, oC353 P, oC354 P, oC355 P, oC356 P, oC357 P, oC358 P, oC359 P, oC360 P, oC361 P, oC362 P, oC363 P, oC364 P, oC365 P, oC366 P, oC367 P, oC368 P, oC369 P, oC370 P, oC371 P, oC372 P, oC373 P, oC374 P, oC375 P, oC376 P, oC377 P, oC378 P, oC379 P, oC380 P, oC381 P, oC382 P, oC383 P, oC384 P, oC385 P, oC386 P, oC387 P, oC388 P, oC389 P, oC390 P, oC391 P, oC392 P, oC393 P, oC394 P, oC395 P, oC396 P, oC397 P, oC398 P, oC399 P, oC400 P, oC401 P, oC402 P, oC403 P, oC404 P, oC405 P, oC406 P, oC407 P, oC408 P, oC409 P, oC410 P, oC411 P, oC412 P, oC413 P, oC414 P, oC415 P, oC416 P, oC417 P, oC418 P, oC419 P, oC420 P, oC421 P, oC422 P, oC423 P, oC424 P, oC425 P, oC426 P, oC427 P, oC428 P, oC429 P, oC430 P, oC431 P, oC432 P, oC433 P, oC434 P, oC435 P, oC436 P, d437 P, d438 P, d439 P, d440 P, d441 P, d442 P, d443 P, d444 P, d445 P, d446 P, d447 P, d448 P, d449 P, d450 P, d451 P, d452 P, d453 P, d454 P, d455 P, d456 P, d457 P, d458 P, d459 P, d460 P, d461 P, d462 P, d463 P, d464 P, d465 P, d466 P, d467 P, d468 P, d469 P, d470 P, d471 P, d472 P, d473 P, d474 P, d475 P, d476 P, d477 P, d478 P, d479 P, d480 P, d481 P, d482 P, d483 P, d484 P, d485 P, d486 P, d487 P, d488 P, d489 P, d490 P, d491 P, d492 P, d493 P, d494 P, d495 P, d496 P, d497 P, d498 P, d499 P, d500 P, d501 P, d502 P, d503 P, d504 P, d505 P, d506 P, d507 P, d508 P, d509 P, d510 P, d511 P, d512 P, d513 P, d514 P, d515 P, d516 P]⟩, {}⟩
noncomputable def Kas : List Addr := [nat_lit 2, nat_lit 3, nat_lit 22, nat_lit 28, nat_lit 29, nat_lit 35, nat_lit 36, nat_lit 37, nat_lit 43, nat_lit 44, nat_lit 50, nat_lit 51, nat_lit 57, nat_lit 58, nat_lit 64, nat_lit 65, nat_lit 71, nat_lit 72, nat_lit 78, nat_lit 79, nat_lit 85, nat_lit 86, nat_lit 92, nat_lit 93, nat_lit 99, nat_lit 100, nat_lit 114, nat_lit 115, nat_lit 119, nat_lit 120, nat_lit 126, nat_lit 127, nat_lit 133, nat_lit 134, nat_lit 140, nat_lit 141, nat_lit 147, nat_lit 148, nat_lit 154, nat_lit 155, nat_lit 161, nat_lit 162, nat_lit 166, nat_lit 167, nat_lit 173, nat_lit 174, nat_lit 178, nat_lit 179, nat_lit 185, nat_lit 186, nat_lit 192, nat_lit 193, nat_lit 226, nat_lit 239, nat_lit 240, nat_lit 242, nat_lit 243, nat_lit 260, nat_lit 261, nat_lit 267, nat_lit 268, nat_lit 274, nat_lit 275, nat_lit 281, nat_lit 282, nat_lit 288, nat_lit 289, nat_lit 295, nat_lit 296, nat_lit 302, nat_lit 303, nat_lit 351, nat_lit 352, nat_lit 379, nat_lit 380, nat_lit 393, nat_lit 394, nat_lit 431, nat_lit 432, nat_lit 442, nat_lit 443, nat_lit 449, nat_lit 450, nat_lit 456, nat_lit 457, nat_lit 463, nat_lit 464, nat_lit 468, nat_lit 469, nat_lit 475, nat_lit 476, nat_lit 482, nat_lit 483, nat_lit 489, nat_lit 490, nat_lit 496, nat_lit 497, nat_lit 501, nat_lit 502, nat_lit 508, nat_lit 509, nat_lit 515, nat_lit 516]
noncomputable def treeD (P : Params) : BT := (.node (boot_o_0 P) (.node (boot_o_1 P) (.node (d3 P) (.node (boot_o_7 P) (.node (oB15 P) (.node (oB31 P) (.node (oB63 P) (.node (oB127 P) (.node (oC255 P) (.node (d511 P) .nil .nil) .nil) (.node (oC383 P) .nil .nil)) (.node (oB191 P) (.node (oC319 P) .nil .nil) (.node (d447 P) .nil .nil))) (.node (oB95 P) (.node (oB159 P) (.node (oC287 P) .nil .nil) (.node (oC415 P) .nil .nil)) (.node (oB223 P) (.node (oC351 P) .nil .nil) (.node (d479 P) .nil .nil)))) (.node (oB47 P) (.node (oB79 P) (.node (oB143 P) (.node (oC271 P) .nil .nil) (.node (oC399 P) .nil .nil)) (.node (oB207 P) (.node (oC335 P) .nil .nil) (.node (d463 P) .nil .nil))) (.node (oB111 P) (.node (oB175 P) (.node (oC303 P) .nil .nil) (.node (oC431 P) .nil .nil)) (.node (oB239 P) (.node (oC367 P) .nil .nil) (.node (d495 P) .nil .nil))))) (.node (oB23 P) (.node (oB39 P) (.node (oB71 P) (.node (oB135 P) (.node (oC263 P) .nil .nil) (.node (oC391 P) .nil .nil)) (.node (oB199 P) (.node (oC327 P) .nil .nil) (.node (d455 P) .nil .nil))) (.node (oB103 P) (.node (oB167 P) (.node (oC295 P) .nil .nil) (.node (oC423 P) .nil .nil)) (.node (oB231 P) (.node (oC359 P) .nil .nil) (.node (d487 P) .nil .nil)))) (.node (oB55 P) (.node (oB87 P) (.node (oB151 P) (.node (oC279 P) .nil .nil) (.node (oC407 P) .nil .nil)) (.node (oB215 P) (.node (oC343 P) .nil .nil) (.node (d471 P) .nil .nil))) (.node (oB119 P) (.node (oB183 P) (.node (oC311 P) .nil .nil) (.node (d439 P) .nil .nil)) (.node (oB247 P) (.node (oC375 P) .nil .nil) (.node (d503 P) .nil .nil)))))) (.node (oA11 P) (.node (oB19 P) (.node (oB35 P) (.node (oB67 P) (.node (oB131 P) (.node (oC259 P) (.node (d515 P) .nil .nil) .nil) (.node (oC387 P) .nil .nil)) (.node (oB195 P) (.node (oC323 P) .nil .nil) (.node (d451 P) .nil .nil))) (.node (oB99 P) (.node (oB163 P) (.node (oC291 P) .nil .nil) (.node (oC419 P) .nil .nil)) (.node (oB227 P) (.node (oC355 P) .nil .nil) (.node (d483 P) .nil .nil)))) (.node (oB51 P) (.node (oB83 P) (.node (oB147 P) (.node (oC275 P) .nil .nil) (.node (oC403 P) .nil .nil)) (.node (oB211 P) (.node (oC339 P) .nil .nil) (.node (d467 P) .nil .nil))) (.node (oB115 P) (.node (oB179 P) (.node (oC307 P) .nil .nil) (.node (oC435 P) .nil .nil)) (.node (oB243 P) (.node (oC371 P) .nil .nil) (.node (d499 P) .nil .nil))))) (.node (oB27 P) (.node (oB43 P) (.node (oB75 P) (.node (oB139 P) (.node (oC267 P) .nil .nil) (.node (oC395 P) .nil .nil)) (.node (oB203 P) (.node (oC331 P) .nil .nil) (.node (d459 P) .nil .nil))) (.node (oB107 P) (.node (oB171 P) (.node (oC299 P) .nil .nil) (.node (oC427 P) .nil .nil)) (.node (oB235 P) (.node (oC363 P) .nil .nil) (.node (d491 P) .nil .nil)))) (.node (oB59 P) (.node (oB91 P) (.node (oB155 P) (.node (oC283 P) .nil .nil) (.node (oC411 P) .nil .nil)) (.node (oB219 P) (.node (oC347 P) .nil .nil) (.node (d475 P) .nil .nil))) (.node (oB123 P) (.node (oB187 P) (.node (oC315 P) .nil .nil) (.node (d443 P) .nil .nil)) (.node (oC251 P) (.node (oC379 P) .nil .nil) (.node (d507 P) .nil .nil))))))) (.node (boot_o_5 P) (.node (boot_o_9 P) (.node (oB17 P) (.node (oB33 P) (.node (oB65 P) (.node (oB129 P) (.node (oC257 P) (.node (d513 P) .nil .nil) .nil) (.node (oC385 P) .nil .nil)) (.node (oB193 P) (.node (oC321 P) .nil .nil) (.node (d449 P) .nil .nil))) (.node (oB97 P) (.node (oB161 P) (.node (oC289 P) .nil .nil) (.node (oC417 P) .nil .nil)) (.node (oB225 P) (.node (oC353 P) .nil .nil) (.node (d481 P) .nil .nil)))) (.node (oB49 P) (.node (oB81 P) (.node (oB145 P) (.node (oC273 P) .nil .nil) (.node (oC401 P) .nil .nil)) (.node (oB209 P) (.node (oC337 P) .nil .nil) (.node (d465 P) .nil .nil))) (.node (oB113 P) (.node (oB177 P) (.node (oC305 P) .nil .nil) (.node (oC433 P) .nil .nil)) (.node (oB241 P) (.node (oC369 P) .nil .nil) (.node (d497 P) .nil .nil))))) (.node (oB25 P) (.node (oB41 P) (.node (oB73 P) (.node (oB137 P) (.node (oC265 P) .nil .nil) (.node (oC393 P) .nil .nil)) (.node (oB201 P) (.node (oC329 P) .nil .nil) (.node (d457 P) .nil .nil))) (.node (oB105 P) (.node (oB169 P) (.node (oC297 P) .nil .nil) (.node (oC425 P) .nil .nil)) (.node (oB233 P) (.node (oC361 P) .nil .nil) (.node (d489 P) .nil .nil)))) (.node (oB57 P) (.node (oB89 P) (.node (oB153 P) (.node (oC281 P) .nil .nil) (.node (oC409 P) .nil .nil)) (.node (oB217 P) (.node (oC345 P) .nil .nil) (.node (d473 P) .nil .nil))) (.node (oB121 P) (.node (oB185 P) (.node (oC313 P) .nil .nil) (.node (d441 P) .nil .nil)) (.node (oC249 P) (.node (oC377 P) .nil .nil) (.node (d505 P) .nil .nil)))))) (.node (oA13 P) (.node (oB21 P) (.node (oB37 P) (.node (oB69 P) (.node (oB133 P) (.node (oC261 P) .nil .nil) (.node (oC389 P) .nil .nil)) (.node (oB197 P) (.node (oC325 P) .nil .nil) (.node (d453 P) .nil .nil))) (.node (oB101 P) (.node (oB165 P) (.node (oC293 P) .nil .nil) (.node (oC421 P) .nil .nil)) (.node (oB229 P) (.node (oC357 P) .nil .nil) (.node (d485 P) .nil .nil)))) (.node (oB53 P) (.node (oB85 P) (.node (oB149 P) (.node (oC277 P) .nil .nil) (.node (oC405 P) .nil .nil)) (.node (oB213 P) (.node (oC341 P) .nil .nil) (.node (d469 P) .nil .nil))) (.node (oB117 P) (.node (oB181 P) (.node (oC309 P) .nil .nil) (.node (d437 P) .nil .nil)) (.node (oB245 P) (.node (oC373 P) .nil .nil) (.node (d501 P) .nil .nil))))) (.node (oB29 P) (.node (oB45 P) (.node (oB77 P) (.node (oB141 P) (.node (oC269 P) .nil .nil) (.node (oC397 P) .nil .nil)) (.node (oB205 P) (.node (oC333 P) .nil .nil) (.node (d461 P) .nil .nil))) (.node (oB109 P) (.node (oB173 P) (.node (oC301 P) .nil .nil) (.node (oC429 P) .nil .nil)) (.node (oB237 P) (.node (oC365 P) .nil .nil) (.node (d493 P) .nil .nil)))) (.node (oB61 P) (.node (oB93 P) (.node (oB157 P) (.node (oC285 P) .nil .nil) (.node (oC413 P) .nil .nil)) (.node (oB221 P) (.node (oC349 P) .nil .nil) (.node (d477 P) .nil .nil))) (.node (oB125 P) (.node (oB189 P) (.node (oC317 P) .nil .nil) (.node (d445 P) .nil .nil)) (.node (oC253 P) (.node (oC381 P) .nil .nil) (.node (d509 P) .nil .nil)))))))) (.node (oB2 P) (.node (boot_o_4 P) (.node (boot_o_8 P) (.node (oB16 P) (.node (oB32 P) (.node (oB64 P) (.node (oB128 P) (.node (oC256 P) (.node (d512 P) .nil .nil) .nil) (.node (oC384 P) .nil .nil)) (.node (oB192 P) (.node (oC320 P) .nil .nil) (.node (d448 P) .nil .nil))) (.node (oB96 P) (.node (oB160 P) (.node (oC288 P) .nil .nil) (.node (oC416 P) .nil .nil)) (.node (oB224 P) (.node (oC352 P) .nil .nil) (.node (d480 P) .nil .nil)))) (.node (oB48 P) (.node (oB80 P) (.node (oB144 P) (.node (oC272 P) .nil .nil) (.node (oC400 P) .nil .nil)) (.node (oB208 P) (.node (oC336 P) .nil .nil) (.node (d464 P) .nil .nil))) (.node (oB112 P) (.node (oB176 P) (.node (oC304 P) .nil .nil) (.node (oC432 P) .nil .nil)) (.node (oB240 P) (.node (oC368 P) .nil .nil) (.node (d496 P) .nil .nil))))) (.node (oB24 P) (.node (oB40 P) (.node (oB72 P) (.node (oB136 P) (.node (oC264 P) .nil .nil) (.node (oC392 P) .nil .nil)) (.node (oB200 P) (.node (oC328 P) .nil .nil) (.node (d456 P) .nil .nil))) (.node (oB104 P) (.node (oB168 P) (.node (oC296 P) .nil .nil) (.node (oC424 P) .nil .nil)) (.node (oB232 P) (.node (oC360 P) .nil .nil) (.node (d488 P) .nil .nil)))) (.node (oB56 P) (.node (oB88 P) (.node (oB152 P) (.node (oC280 P) .nil .nil) (.node (oC408 P) .nil .nil)) (.node (oB216 P) (.node (oC344 P) .nil .nil) (.node (d472 P) .nil .nil))) (.node (oB120 P) (.node (oB184 P) (.node (oC312 P) .nil .nil) (.node (d440 P) .nil .nil)) (.node (oC248 P) (.node (oC376 P) .nil .nil) (.node (d504 P) .nil .nil)))))) (.node (d12 P) (.node (oB20 P) (.node (oB36 P) (.node (oB68 P) (.node (oB132 P) (.node (oC260 P) (.node (d516 P) .nil .nil) .nil) (.node (oC388 P) .nil .nil)) (.node (oB196 P) (.node (oC324 P) .nil .nil) (.node (d452 P) .nil .nil))) (.node (oB100 P) (.node (oB164 P) (.node (oC292 P) .nil .nil) (.node (oC420 P) .nil .nil)) (.node (oB228 P) (.node (oC356 P) .nil .nil) (.node (d484 P) .nil .nil)))) (.node (oB52 P) (.node (oB84 P) (.node (oB148 P) (.node (oC276 P) .nil .nil) (.node (oC404 P) .nil .nil)) (.node (oB212 P) (.node (oC340 P) .nil .nil) (.node (d468 P) .nil .nil))) (.node (oB116 P) (.node (oB180 P) (.node (oC308 P) .nil .nil) (.node (oC436 P) .nil .nil)) (.node (oB244 P) (.node (oC372 P) .nil .nil) (.node (d500 P) .nil .nil))))) (.node (oB28 P) (.node (oB44 P) (.node (oB76 P) (.node (oB140 P) (.node (oC268 P) .nil .nil) (.node (oC396 P) .nil .nil)) (.node (oB204 P) (.node (oC332 P) .nil .nil) (.node (d460 P) .nil .nil))) (.node (oB108 P) (.node (oB172 P) (.node (oC300 P) .nil .nil) (.node (oC428 P) .nil .nil)) (.node (oB236 P) (.node (oC364 P) .nil .nil) (.node (d492 P) .nil .nil)))) (.node (oB60 P) (.node (oB92 P) (.node (oB156 P) (.node (oC284 P) .nil .nil) (.node (oC412 P) .nil .nil)) (.node (oB220 P) (.node (oC348 P) .nil .nil) (.node (d476 P) .nil .nil))) (.node (oB124 P) (.node (oB188 P) (.node (oC316 P) .nil .nil) (.node (d444 P) .nil .nil)) (.node (oC252 P) (.node (oC380 P) .nil .nil) (.node (d508 P) .nil .nil))))))) (.node (boot_o_6 P) (.node (boot_o_10 P) (.node (oB18 P) (.node (oB34 P) (.node (oB66 P) (.node (oB130 P) (.node (oC258 P) (.node (d514 P) .nil .nil) .nil) (.node (oC386 P) .nil .nil)) (.node (oB194 P) (.node (oC322 P) .nil .nil) (.node (d450 P) .nil .nil))) (.node (oB98 P) (.node (oB162 P) (.node (oC290 P) .nil .nil) (.node (oC418 P) .nil .nil)) (.node (oB226 P) (.node (oC354 P) .nil .nil) (.node (d482 P) .nil .nil)))) (.node (oB50 P) (.node (oB82 P) (.node (oB146 P) (.node (oC274 P) .nil .nil) (.node (oC402 P) .nil .nil)) (.node (oB210 P) (.node (oC338 P) .nil .nil) (.node (d466 P) .nil .nil))) (.node (oB114 P) (.node (oB178 P) (.node (oC306 P) .nil .nil) (.node (oC434 P) .nil .nil)) (.node (oB242 P) (.node (oC370 P) .nil .nil) (.node (d498 P) .nil .nil))))) (.node (oB26 P) (.node (oB42 P) (.node (oB74 P) (.node (oB138 P) (.node (oC266 P) .nil .nil) (.node (oC394 P) .nil .nil)) (.node (oB202 P) (.node (oC330 P) .nil .nil) (.node (d458 P) .nil .nil))) (.node (oB106 P) (.node (oB170 P) (.node (oC298 P) .nil .nil) (.node (oC426 P) .nil .nil)) (.node (oB234 P) (.node (oC362 P) .nil .nil) (.node (d490 P) .nil .nil)))) (.node (oB58 P) (.node (oB90 P) (.node (oB154 P) (.node (oC282 P) .nil .nil) (.node (oC410 P) .nil .nil)) (.node (oB218 P) (.node (oC346 P) .nil .nil) (.node (d474 P) .nil .nil))) (.node (oB122 P) (.node (oB186 P) (.node (oC314 P) .nil .nil) (.node (d442 P) .nil .nil)) (.node (oC250 P) (.node (oC378 P) .nil .nil) (.node (d506 P) .nil .nil)))))) (.node (oA14 P) (.node (oB22 P) (.node (oB38 P) (.node (oB70 P) (.node (oB134 P) (.node (oC262 P) .nil .nil) (.node (oC390 P) .nil .nil)) (.node (oB198 P) (.node (oC326 P) .nil .nil) (.node (d454 P) .nil .nil))) (.node (oB102 P) (.node (oB166 P) (.node (oC294 P) .nil .nil) (.node (oC422 P) .nil .nil)) (.node (oB230 P) (.node (oC358 P) .nil .nil) (.node (d486 P) .nil .nil)))) (.node (oB54 P) (.node (oB86 P) (.node (oB150 P) (.node (oC278 P) .nil .nil) (.node (oC406 P) .nil .nil)) (.node (oB214 P) (.node (oC342 P) .nil .nil) (.node (d470 P) .nil .nil))) (.node (oB118 P) (.node (oB182 P) (.node (oC310 P) .nil .nil) (.node (d438 P) .nil .nil)) (.node (oB246 P) (.node (oC374 P) .nil .nil) (.node (d502 P) .nil .nil))))) (.node (oB30 P) (.node (oB46 P) (.node (oB78 P) (.node (oB142 P) (.node (oC270 P) .nil .nil) (.node (oC398 P) .nil .nil)) (.node (oB206 P) (.node (oC334 P) .nil .nil) (.node (d462 P) .nil .nil))) (.node (oB110 P) (.node (oB174 P) (.node (oC302 P) .nil .nil) (.node (oC430 P) .nil .nil)) (.node (oB238 P) (.node (oC366 P) .nil .nil) (.node (d494 P) .nil .nil)))) (.node (oB62 P) (.node (oB94 P) (.node (oB158 P) (.node (oC286 P) .nil .nil) (.node (oC414 P) .nil .nil)) (.node (oB222 P) (.node (oC350 P) .nil .nil) (.node (d478 P) .nil .nil))) (.node (oB126 P) (.node (oB190 P) (.node (oC318 P) .nil .nil) (.node (d446 P) .nil .nil)) (.node (oC254 P) (.node (oC382 P) .nil .nil) (.node (d510 P) .nil .nil)))))))))

noncomputable def q : Program := { P0 with main := { P0.main with body := P0.main.body.drop 51 } }
noncomputable def loose : List Str := (["_wall", "NAN", "SPACES", "DIGITS", "common_divisor", "sign_of", "number_of", "is_nan", "negated", "order_of", "compared_numbers", "digits_end", "trimmed", "whole_of", "read_number", "write_number", "beneath", "string_value", "as_text", "as_number", "as_truth", "is_equality", "compared_texts", "compared_plain", "as_compared", "some_pair", "texts_of", "listed", "compared", "MarkupError", "TreeFault", "PARENTS", "NodeRow", "Tree", "_law_pool", "_law_take", "_law_one", "_law_texts", "_law_value", "_law_number", "_law_truth", "_law_numbers", "_law_plain", "_law_due", "_law_made"] : List String).map Str.ofString
noncomputable def obs (s : Shared) : List (Option Obj) := Kas.map s.heap.get?
noncomputable def val (w : World) : List (Option Obj) := (K w.params).map fun p => some p.2
noncomputable def XtM (s : Shared) : Bool := xlAt q [] s && recOk [] s
noncomputable def envT : Env := { scope := P0.main.scope, locals := mainNs, globals := mainNs, cells := [], code := .ref 13, frame := some 14 }
noncomputable def bodyT : List Stmt := behindTheImports P0
noncomputable def codeT : Code := .body bodyT envT
noncomputable def qT : Pos := ⟨0, 0, 0, 0⟩
noncomputable def posB : Pos := ⟨178, 0, 189, 28⟩
noncomputable def posC : Pos := ⟨190, 0, 273, 16⟩
noncomputable def annT : Option Value := some (.ref 6)
noncomputable def sA (w : World) (os : OsState) : SharedT := ⟨treeA w.params, 15, {}, Array.mk [], {}, 187, os⟩
noncomputable def sB (w : World) (os : OsState) : SharedT := ⟨treeB w.params, 248, {}, Array.mk [], {}, 525, os⟩
noncomputable def sC (w : World) (os : OsState) : SharedT := ⟨treeC w.params, 437, {}, Array.mk [], {}, 772, os⟩
noncomputable def posD : Pos := ⟨354, 0, 369, 15⟩
noncomputable def sD (w : World) (os : OsState) : SharedT := ⟨treeD w.params, 517, {}, Array.mk [], {}, 888, os⟩
noncomputable def fD (w : World) (os : OsState) : Shared := ⟨heapD w.params, Array.mk [], {}, 888, os⟩
theorem preL (w : World) (os : OsState) : topGo treeTable P0 w 11 annT 12 ⟨boot_heap w.params, Array.mk [], boot_drawn, boot_toks, os⟩ (topStub P0) = some ((sA w os).abs, ⟨denote treeTable codeT, codeT, qT, [topFrame qT]⟩) := by kernel_rfl!
theorem blockL (w : World) (os : OsState) : segRun treeTable P0 w 11 annT 1 1 (sA w os).abs (blockOf bodyT envT codeT qT [topFrame qT]) = some (.next, (sA w os).abs, codeT, qT) := by kernel_rfl!
theorem p1 (w : World) (os : OsState) : segRunT treeTable P0 w 11 annT 1 1563 (sA w os) (piecesOf (bodyT.take 38) envT codeT qT [topFrame qT]) = some (.next, sB w os, codeT, posB) := by kernel_rfl!
theorem p2 (w : World) (os : OsState) : segRunT treeTable P0 w 11 annT 1 1017 (sB w os) (piecesOf ((bodyT.drop 38).take 1) envT codeT posB [topFrame qT]) = some (.next, sC w os, codeT, posC) := by kernel_rfl!
theorem p3 (w : World) (os : OsState) : segRunT treeTable P0 w 11 annT 1 384 (sC w os) (piecesOf (bodyT.drop 39) envT codeT posC [topFrame qT]) = some (.next, sD w os, codeT, posD) := by kernel_rfl!
theorem p4 (w : World) (os : OsState) : topRun treeTable P0 w 11 annT 2 (sD w os).abs ⟨doneF .next, codeT, posD, [topFrame qT]⟩ = some (fD w os) := by kernel_rfl!
theorem look1 (w : World) (os : OsState) : (staticsOk (importedModules P0.main.body) (boot_heap w.params) (fD w os).heap && namesBound P0 (fD w os).heap && gensDone (fD w os) && laidKept (boot_heap w.params) (fD w os).heap) = true := by kernel_rfl!
theorem look2 (w : World) (os : OsState) : openSeen q loose (importedModules P0.main.body) XtM true (fD w os) = openGood q loose := by kernel_rfl!
theorem look3 (w : World) (os : OsState) : obs (fD w os) = val w := by kernel_rfl!
theorem size0 (w : World) : ((boot_heap w.params).isNs mainGlobals && (Array.mk [] : Array GenState).size == 0, (boot_heap w.params).objs.size, (boot_heap w.params).nsMap mainGlobals "__annotations__") = (true, 11, annT) := by kernel_rfl!
theorem opens : opening P0 = plainProg P0.main.scope.names := by kernel_rfl!
theorem cut38 : (bodyT.take 38) ++ ((bodyT.drop 38).take 1 ++ (bodyT.drop 39 ++ [])) = bodyT := by kernel_rfl!
theorem run (w : World) (os : OsState) : topRun treeTable P0 w 11 annT (12 + (1 + (1563 + (1017 + (384 + 2))))) ⟨boot_heap w.params, Array.mk [], boot_drawn, boot_toks, os⟩ (topStub P0) = some ⟨heapD w.params, Array.mk [], {}, 888, os⟩ := by
  have r3 := piece_app (segRun_of (p3 w os)) (piece_nil (env := envT) (p4 w os))
  have r2 := piece_app (segRun_of (p2 w os)) r3
  have r1 := piece_app (segRun_of (p1 w os)) r2
  rw [cut38] at r1
  exact go_top (preL w os) (piece_block (blockL w os) r1)
theorem lookA (w : World) : (fun os => ((staticsOk (importedModules P0.main.body) (boot_heap w.params) (heapD w.params) && namesBound P0 (heapD w.params) && gensDone ⟨heapD w.params, Array.mk [], {}, 888, os⟩ && laidKept (boot_heap w.params) (heapD w.params)),
        openSeen q loose (importedModules P0.main.body) XtM true ⟨heapD w.params, Array.mk [], {}, 888, os⟩, obs ⟨heapD w.params, Array.mk [], {}, 888, os⟩)) = fun _ => (true, openGood q loose, val w) :=
  funext fun os => looks_pair (look1 w os) (looks_pair (look2 w os) (look3 w os))
theorem left : LeftO P0 q loose XtM obs val 6048 :=
  LeftO.of_pieces (H₀ := boot_heap) (H₁ := heapD) (gs₀ := Array.mk []) (gs₁ := Array.mk []) (d₀ := boot_drawn) (d₁ := {}) (k₀ := boot_toks) (k₁ := 888) (m₀ := 11) (ann := annT) (M := 12 + (1 + (1563 + (1017 + (384 + 2)))))
    (boot_open (p := P0) (N := 6048) opens rfl (fun s => rfl)) size0 run rfl lookA
end Mine
end
open PySem PySem.W PySem.Spec PySem.Calls PyProof.Rows
set_option maxRecDepth 100000
set_option maxHeartbeats 8000000
set_option linter.unusedVariables false
noncomputable section
namespace Mine
noncomputable abbrev MV := Str → Option Value
noncomputable abbrev Led := List (Addr × Obj)
noncomputable abbrev Sp (w : World) (mean : ExcName → Option Value) (mg mb : MV) (f : Addr) (vs : List Value) (dd uu : Nat) (news : Led) (R : Led → Value → Prop) : Prop :=
  ∀ (dp un : Nat) (gd : Option (List Code)) (cn : Str) (cs : Scope) (a : Addr) (ccd : Value) (cl : List (Str × Addr)) (outer : List Env) (A₀ : Around) (base h₀ : Heap) (L : Addr) (m : MV) (s : Shared) (Q E : Value → Shared → Prop),
    Below A₀ base outer h₀ → Fr h₀ L s.heap m → (K w.params).In h₀ → News h₀ L s.heap news → Top q (looseW q loose) mean mg mb h₀ → cs.kind = .function → dp + dd < recursionLimit → un + uu < cLine →
    (∀ (v : Value) (h' : Heap) (tk' : Nat) (news' : Led), Fr h₀ L h' m → News h₀ L h' news' → R news' v → Q v { s with heap := h', toks := tk' }) →
    wpAny (model P0 w) (ktrTop dp un gd cn cs L a ccd cl outer) (call (.ref f) vs) Q E s
theorem Sp.use {w : World} {mean : ExcName → Option Value} {mg mb : MV} {f : Addr} {vs : List Value} {dd uu : Nat} {news : Led} {R : Led → Value → Prop} (C : Sp w mean mg mb f vs dd uu news R)
    {dp un : Nat} {gd : Option (List Code)} {cn : Str} {cs : Scope} {a : Addr} {ccd : Value} {cl : List (Str × Addr)} {outer : List Env} {A₀ : Around} {base h₀ : Heap} {L : Addr} {m : MV} {s : Shared} {Q E : Value → Shared → Prop}
    (B : Below A₀ base outer h₀) (F : Fr h₀ L s.heap m) (X : (K w.params).In h₀) (N : News h₀ L s.heap news) (T : Top q (looseW q loose) mean mg mb h₀) (hk : cs.kind = .function) (hd : dp + dd < recursionLimit) (hu : un + uu < cLine)
    (h : ∀ (v : Value) (h' : Heap) (tk' : Nat) (news' : Led), Fr h₀ L h' m → News h₀ L h' news' → R news' v → Q v { s with heap := h', toks := tk' }) :
    wpAny (model P0 w) (ktrTop dp un gd cn cs L a ccd cl outer) (call (.ref f) vs) Q E s := C _ _ _ _ _ _ _ _ _ _ _ _ _ _ _ _ _ B F X N T hk hd hu h
theorem use2 {w : World} {mean : ExcName → Option Value} {mg mb : MV} {f : Addr} {vs : List Value} {dd uu : Nat} {news : Led} {R : Led → Value → Prop}
    {dp un : Nat} {gd : Option (List Code)} {cn : Str} {cs : Scope} {a : Addr} {ccd : Value} {cl : List (Str × Addr)} {outer : List Env} {A₀ : Around} {base h₀ : Heap} {L : Addr} {m : MV} {s : Shared} {Q E : Value → Shared → Prop}
    (F : Fr h₀ L s.heap m) (N : News h₀ L s.heap news) (B : Below A₀ base outer h₀) (X : (K w.params).In h₀) (T : Top q (looseW q loose) mean mg mb h₀) (hk : cs.kind = .function) (C : Sp w mean mg mb f vs dd uu news R) (hd : dp + dd < recursionLimit) (hu : un + uu < cLine)
    (h : ∀ (v : Value) (h' : Heap) (tk' : Nat) (news' : Led), Fr h₀ L h' m → News h₀ L h' news' → R news' v → Q v { s with heap := h', toks := tk' }) :
    wpAny (model P0 w) (ktrTop dp un gd cn cs L a ccd cl outer) (call (.ref f) vs) Q E s := C _ _ _ _ _ _ _ _ _ _ _ _ _ _ _ _ _ B F X N T hk hd hu h
theorem fill : (fun (_ : OpenLaw) (_ : Params → Frag) => True) PySem.Challenge.rw_nu0045_01 K := by
  k_fill
  exact True.intro
/-- the rest of a ledger, off one address -/
noncomputable def offL (d : Addr) (news : Led) : Led := news.filter fun p => p.1 != d
theorem offL_off {d : Addr} {news : Led} : ∀ p ∈ offL d news, p.1 ≠ d := fun p hp => by
  have := (List.mem_filter.mp hp).2
  simpa using this
theorem mem_offL {d : Addr} {news : Led} {p : Addr × Obj} (hp : p ∈ news) (h : p.1 ≠ d) : p ∈ offL d news := List.mem_filter.mpr ⟨hp, by simpa using h⟩
theorem of_offL {d : Addr} {news : Led} {p : Addr × Obj} (hp : p ∈ offL d news) : p ∈ news := (List.mem_filter.mp hp).1
theorem front {h₀ h : Heap} {L d : Addr} {o : Obj} {news : Led} (N : News h₀ L h news) (hm : (d, o) ∈ news) : News h₀ L h ((d, o) :: offL d news) := fun p hp => by
  rcases List.mem_cons.mp hp with rfl | hp
  · exact N _ hm
  · exact N _ (of_offL hp)
theorem lessN {h₀ h : Heap} {L : Addr} {news news' : Led} (N : News h₀ L h news) (hs : ∀ p ∈ news', p ∈ news) : News h₀ L h news' := fun p hp => N p (hs p hp)
noncomputable abbrev srcO (a b : Int) (t1 t2 : Tok) (n : Nat) : Obj := { cls := .type "list", data := .seq (List.toArray [.int a t1, .int b t2]) n }
noncomputable abbrev tupO (vs : List Value) : Obj := { cls := .type "tuple", data := .seq vs.toArray }
noncomputable def HeldK (w : World) (news : Led) (r : Addr) (o : Obj) : Prop := (r, o) ∈ news ∨ (K w.params).lookup r = some o
theorem HeldK.tail {w : World} {news : Led} {r : Addr} {o : Obj} {p : Addr × Obj} (h : HeldK w news r o) : HeldK w (p :: news) r o := h.imp (List.mem_cons_of_mem _) id
theorem HeldK.app {w : World} {news new : Led} {r : Addr} {o : Obj} (h : HeldK w news r o) : HeldK w (new ++ news) r o := h.imp (List.mem_append_right _) id
theorem HeldK.mono {w : World} {news news' : Led} {r : Addr} {o : Obj} (h : HeldK w news r o) (hs : ∀ p ∈ news, p ∈ news') : HeldK w news' r o := h.imp (hs _) id
theorem HeldK.get {w : World} {news : Led} {r : Addr} {o : Obj} {h₀ h : Heap} {L : Addr} {m : MV} (F : Fr h₀ L h m) (X : (K w.params).In h₀) (N : News h₀ L h news) (hh : HeldK w news r o) : h.get? r = some o :=
  hh.elim (fun e => (N _ e).1) fun e => F.keep _ _ (X _ _ e)
theorem heldTup {w : World} {news : Led} {r : Addr} {vs : List Value} {h₀ h : Heap} {L : Addr} {m : MV} (F : Fr h₀ L h m) (X : (K w.params).In h₀) (N : News h₀ L h news) (hh : HeldK w news r (tupO vs)) : IsTup h r vs.toArray :=
  ⟨_, hh.get F X N, rfl, _, rfl⟩
/-- a number of the project's: a pair of ints, made in the call or standing at the top -/
noncomputable def NumAt (w : World) (news : Led) (v : Value) (x y : Int) : Prop := ∃ r t1 t2, v = .ref r ∧ HeldK w news r (tupO [.int x t1, .int y t2])
theorem NumAt.tail {w : World} {news : Led} {v : Value} {x y : Int} {p : Addr × Obj} (h : NumAt w news v x y) : NumAt w (p :: news) v x y := let ⟨r, t1, t2, e, h⟩ := h; ⟨r, t1, t2, e, h.tail⟩
theorem NumAt.app {w : World} {news new : Led} {v : Value} {x y : Int} (h : NumAt w news v x y) : NumAt w (new ++ news) v x y := let ⟨r, t1, t2, e, h⟩ := h; ⟨r, t1, t2, e, h.app⟩
theorem NumAt.mono {w : World} {news news' : Led} {v : Value} {x y : Int} (h : NumAt w news v x y) (hs : ∀ p ∈ news, p ∈ news') : NumAt w news' v x y := let ⟨r, t1, t2, e, h⟩ := h; ⟨r, t1, t2, e, h.mono hs⟩
section
variable {w : World} {mean : ExcName → Option Value} {mg mb : MV} {f : Addr} {vs : List Value} {dd uu : Nat} {news : Led} {dp un : Nat} {gd : Option (List Code)} {cn : Str} {cs : Scope} {a : Addr} {ccd : Value} {cl : List (Str × Addr)} {outer : List Env} {A₀ : Around} {base h₀ : Heap} {L : Addr} {m : MV} {s : Shared} {Q E : Value → Shared → Prop}
theorem useA {c : Value} (F : Fr h₀ L s.heap m := by k_asm) (N : News h₀ L s.heap news := by k_asm) (B : Below A₀ base outer h₀ := by k_asm) (XK : (K w.params).In h₀ := by k_asm) (T : Top q (looseW q loose) mean mg mb h₀ := by k_asm) (hk : cs.kind = .function := by first | exact rfl | assumption)
    (C : Sp w mean mg mb f vs dd uu news (fun news' v => news' = news ∧ v = c)) (hd : dp + dd < recursionLimit := by ktr_room) (hu : un + uu < cLine := by ktr_units)
    (h : ∀ h' tk', Fr h₀ L h' m → News h₀ L h' news → Q c { s with heap := h', toks := tk' }) : wpAny (model P0 w) (ktrTop dp un gd cn cs L a ccd cl outer) (call (.ref f) vs) Q E s :=
  use2 F N B XK T hk C hd hu fun _ h' tk' _ F9 N9 R9 => by obtain ⟨rfl, rfl⟩ := R9; exact h h' tk' F9 N9
theorem useB {c : Tok → Value} (F : Fr h₀ L s.heap m := by k_asm) (N : News h₀ L s.heap news := by k_asm) (B : Below A₀ base outer h₀ := by k_asm) (XK : (K w.params).In h₀ := by k_asm) (T : Top q (looseW q loose) mean mg mb h₀ := by k_asm) (hk : cs.kind = .function := by first | exact rfl | assumption)
    (C : Sp w mean mg mb f vs dd uu news (fun news' v => news' = news ∧ ∃ t, v = c t)) (hd : dp + dd < recursionLimit := by ktr_room) (hu : un + uu < cLine := by ktr_units)
    (h : ∀ h' tk' t, Fr h₀ L h' m → News h₀ L h' news → Q (c t) { s with heap := h', toks := tk' }) : wpAny (model P0 w) (ktrTop dp un gd cn cs L a ccd cl outer) (call (.ref f) vs) Q E s :=
  use2 F N B XK T hk C hd hu fun _ h' tk' _ F9 N9 R9 => by obtain ⟨rfl, t, rfl⟩ := R9; exact h h' tk' t F9 N9
theorem useC {c : Value} (F : Fr h₀ L s.heap m := by k_asm) (N : News h₀ L s.heap news := by k_asm) (B : Below A₀ base outer h₀ := by k_asm) (XK : (K w.params).In h₀ := by k_asm) (T : Top q (looseW q loose) mean mg mb h₀ := by k_asm) (hk : cs.kind = .function := by first | exact rfl | assumption)
    (C : Sp w mean mg mb f vs dd uu news (fun news' v => ∃ new, news' = new ++ news ∧ v = c)) (hd : dp + dd < recursionLimit := by ktr_room) (hu : un + uu < cLine := by ktr_units)
    (h : ∀ h' tk' new, Fr h₀ L h' m → News h₀ L h' (new ++ news) → Q c { s with heap := h', toks := tk' }) : wpAny (model P0 w) (ktrTop dp un gd cn cs L a ccd cl outer) (call (.ref f) vs) Q E s :=
  use2 F N B XK T hk C hd hu fun _ h' tk' _ F9 N9 R9 => by obtain ⟨new, rfl, rfl⟩ := R9; exact h h' tk' new F9 N9
theorem useD {c : Tok → Value} (F : Fr h₀ L s.heap m := by k_asm) (N : News h₀ L s.heap news := by k_asm) (B : Below A₀ base outer h₀ := by k_asm) (XK : (K w.params).In h₀ := by k_asm) (T : Top q (looseW q loose) mean mg mb h₀ := by k_asm) (hk : cs.kind = .function := by first | exact rfl | assumption)
    (C : Sp w mean mg mb f vs dd uu news (fun news' v => ∃ new, news' = new ++ news ∧ ∃ t, v = c t)) (hd : dp + dd < recursionLimit := by ktr_room) (hu : un + uu < cLine := by ktr_units)
    (h : ∀ h' tk' new t, Fr h₀ L h' m → News h₀ L h' (new ++ news) → Q (c t) { s with heap := h', toks := tk' }) : wpAny (model P0 w) (ktrTop dp un gd cn cs L a ccd cl outer) (call (.ref f) vs) Q E s :=
  use2 F N B XK T hk C hd hu fun _ h' tk' _ F9 N9 R9 => by obtain ⟨new, rfl, t, rfl⟩ := R9; exact h h' tk' new t F9 N9
theorem useM {P P' : Led → Led → Value → Prop} (F : Fr h₀ L s.heap m := by k_asm) (N : News h₀ L s.heap news := by k_asm) (B : Below A₀ base outer h₀ := by k_asm) (XK : (K w.params).In h₀ := by k_asm) (T : Top q (looseW q loose) mean mg mb h₀ := by k_asm) (hk : cs.kind = .function := by first | exact rfl | assumption)
    (C : Sp w mean mg mb f vs dd uu news (fun news' v => ∃ new, news' = new ++ news ∧ P new news' v ∧ P' new news' v)) (hd : dp + dd < recursionLimit := by ktr_room) (hu : un + uu < cLine := by ktr_units)
    (h : ∀ v h' tk' new, Fr h₀ L h' m → News h₀ L h' (new ++ news) → P new (new ++ news) v → P' new (new ++ news) v → Q v { s with heap := h', toks := tk' }) : wpAny (model P0 w) (ktrTop dp un gd cn cs L a ccd cl outer) (call (.ref f) vs) Q E s :=
  use2 F N B XK T hk C hd hu fun _ h' tk' _ F9 N9 R9 => by obtain ⟨new, rfl, p, p'⟩ := R9; exact h _ h' tk' new F9 N9 p p'
theorem useM1 {P : Led → Led → Value → Prop} (F : Fr h₀ L s.heap m := by k_asm) (N : News h₀ L s.heap news := by k_asm) (B : Below A₀ base outer h₀ := by k_asm) (XK : (K w.params).In h₀ := by k_asm) (T : Top q (looseW q loose) mean mg mb h₀ := by k_asm) (hk : cs.kind = .function := by first | exact rfl | assumption)
    (C : Sp w mean mg mb f vs dd uu news (fun news' v => ∃ new, news' = new ++ news ∧ P new news' v)) (hd : dp + dd < recursionLimit := by ktr_room) (hu : un + uu < cLine := by ktr_units)
    (h : ∀ v h' tk' new, Fr h₀ L h' m → News h₀ L h' (new ++ news) → P new (new ++ news) v → Q v { s with heap := h', toks := tk' }) : wpAny (model P0 w) (ktrTop dp un gd cn cs L a ccd cl outer) (call (.ref f) vs) Q E s :=
  use2 F N B XK T hk C hd hu fun _ h' tk' _ F9 N9 R9 => by obtain ⟨new, rfl, p⟩ := R9; exact h _ h' tk' new F9 N9 p
theorem useP {α : Type} {X : α → Led} {P : α → Led → Value → Prop} (F : Fr h₀ L s.heap m := by k_asm) (N : News h₀ L s.heap news := by k_asm) (B : Below A₀ base outer h₀ := by k_asm) (XK : (K w.params).In h₀ := by k_asm) (T : Top q (looseW q loose) mean mg mb h₀ := by k_asm) (hk : cs.kind = .function := by first | exact rfl | assumption)
    (C : Sp w mean mg mb f vs dd uu news (fun news' v => ∃ p, news' = X p ∧ P p news' v)) (hd : dp + dd < recursionLimit := by ktr_room) (hu : un + uu < cLine := by ktr_units)
    (h : ∀ v h' tk' p, Fr h₀ L h' m → News h₀ L h' (X p) → P p (X p) v → Q v { s with heap := h', toks := tk' }) : wpAny (model P0 w) (ktrTop dp un gd cn cs L a ccd cl outer) (call (.ref f) vs) Q E s :=
  use2 F N B XK T hk C hd hu fun _ h' tk' _ F9 N9 R9 => by obtain ⟨p, rfl, hp⟩ := R9; exact h _ h' tk' p F9 N9 hp
theorem useL {α β : Type} {X : α → β → Led} {V : α → β → Value} {P : α → β → Prop} (F : Fr h₀ L s.heap m := by k_asm) (N : News h₀ L s.heap news := by k_asm) (B : Below A₀ base outer h₀ := by k_asm) (XK : (K w.params).In h₀ := by k_asm) (T : Top q (looseW q loose) mean mg mb h₀ := by k_asm) (hk : cs.kind = .function := by first | exact rfl | assumption)
    (C : Sp w mean mg mb f vs dd uu news (fun news' v => ∃ l n, news' = X l n ∧ v = V l n ∧ P l n)) (hd : dp + dd < recursionLimit := by ktr_room) (hu : un + uu < cLine := by ktr_units)
    (h : ∀ h' tk' l n, Fr h₀ L h' m → News h₀ L h' (X l n) → P l n → Q (V l n) { s with heap := h', toks := tk' }) : wpAny (model P0 w) (ktrTop dp un gd cn cs L a ccd cl outer) (call (.ref f) vs) Q E s :=
  use2 F N B XK T hk C hd hu fun _ h' tk' _ F9 N9 R9 => by obtain ⟨l, n, rfl, rfl, p⟩ := R9; exact h h' tk' l n F9 N9 p
theorem useL3 {α β γ : Type} {X : α → β → γ → Led} {V : α → β → γ → Value} {P : α → β → γ → Prop} (F : Fr h₀ L s.heap m := by k_asm) (N : News h₀ L s.heap news := by k_asm) (B : Below A₀ base outer h₀ := by k_asm) (XK : (K w.params).In h₀ := by k_asm) (T : Top q (looseW q loose) mean mg mb h₀ := by k_asm) (hk : cs.kind = .function := by first | exact rfl | assumption)
    (C : Sp w mean mg mb f vs dd uu news (fun news' v => ∃ l n c, news' = X l n c ∧ v = V l n c ∧ P l n c)) (hd : dp + dd < recursionLimit := by ktr_room) (hu : un + uu < cLine := by ktr_units)
    (h : ∀ h' tk' l n c, Fr h₀ L h' m → News h₀ L h' (X l n c) → P l n c → Q (V l n c) { s with heap := h', toks := tk' }) : wpAny (model P0 w) (ktrTop dp un gd cn cs L a ccd cl outer) (call (.ref f) vs) Q E s :=
  use2 F N B XK T hk C hd hu fun _ h' tk' _ F9 N9 R9 => by obtain ⟨l, n, c, rfl, rfl, p⟩ := R9; exact h h' tk' l n c F9 N9 p
theorem useN {x y : Int} (F : Fr h₀ L s.heap m := by k_asm) (N : News h₀ L s.heap news := by k_asm) (B : Below A₀ base outer h₀ := by k_asm) (XK : (K w.params).In h₀ := by k_asm) (T : Top q (looseW q loose) mean mg mb h₀ := by k_asm) (hk : cs.kind = .function := by first | exact rfl | assumption)
    (C : Sp w mean mg mb f vs dd uu news (fun news' v => ∃ new, news' = new ++ news ∧ NumAt w new v x y)) (hd : dp + dd < recursionLimit := by ktr_room) (hu : un + uu < cLine := by ktr_units)
    (h : ∀ h' tk' new r t1 t2, Fr h₀ L h' m → News h₀ L h' (new ++ news) → HeldK w new r (tupO [.int x t1, .int y t2]) → Q (.ref r) { s with heap := h', toks := tk' }) : wpAny (model P0 w) (ktrTop dp un gd cn cs L a ccd cl outer) (call (.ref f) vs) Q E s :=
  use2 F N B XK T hk C hd hu fun _ h' tk' _ F9 N9 R9 => by obtain ⟨new, rfl, r, t1, t2, rfl, p⟩ := R9; exact h h' tk' new r t1 t2 F9 N9 p
theorem useNN {x y : Int} (F : Fr h₀ L s.heap m := by k_asm) (N : News h₀ L s.heap news := by k_asm) (B : Below A₀ base outer h₀ := by k_asm) (XK : (K w.params).In h₀ := by k_asm) (T : Top q (looseW q loose) mean mg mb h₀ := by k_asm) (hk : cs.kind = .function := by first | exact rfl | assumption)
    (C : Sp w mean mg mb f vs dd uu news (fun news' v => ∃ new, news' = new ++ news ∧ NumAt w news' v x y)) (hd : dp + dd < recursionLimit := by ktr_room) (hu : un + uu < cLine := by ktr_units)
    (h : ∀ h' tk' new r t1 t2, Fr h₀ L h' m → News h₀ L h' (new ++ news) → HeldK w (new ++ news) r (tupO [.int x t1, .int y t2]) → Q (.ref r) { s with heap := h', toks := tk' }) : wpAny (model P0 w) (ktrTop dp un gd cn cs L a ccd cl outer) (call (.ref f) vs) Q E s :=
  use2 F N B XK T hk C hd hu fun _ h' tk' _ F9 N9 R9 => by obtain ⟨new, rfl, r, t1, t2, rfl, p⟩ := R9; exact h h' tk' new r t1 t2 F9 N9 p
theorem useX {α : Type} {V : α → Value} {P P' : Led → α → Prop} (F : Fr h₀ L s.heap m := by k_asm) (N : News h₀ L s.heap news := by k_asm) (B : Below A₀ base outer h₀ := by k_asm) (XK : (K w.params).In h₀ := by k_asm) (T : Top q (looseW q loose) mean mg mb h₀ := by k_asm) (hk : cs.kind = .function := by first | exact rfl | assumption)
    (C : Sp w mean mg mb f vs dd uu news (fun news' v => ∃ new d, news' = new ++ news ∧ v = V d ∧ P new d ∧ P' new d)) (hd : dp + dd < recursionLimit := by ktr_room) (hu : un + uu < cLine := by ktr_units)
    (h : ∀ h' tk' new d, Fr h₀ L h' m → News h₀ L h' (new ++ news) → P new d → P' new d → Q (V d) { s with heap := h', toks := tk' }) : wpAny (model P0 w) (ktrTop dp un gd cn cs L a ccd cl outer) (call (.ref f) vs) Q E s :=
  use2 F N B XK T hk C hd hu fun _ h' tk' _ F9 N9 R9 => by obtain ⟨new, d, rfl, rfl, p, p'⟩ := R9; exact h h' tk' new d F9 N9 p p'
theorem useT {α β γ δ ε ζ η : Type} {X : α → β → γ → δ → ε → ζ → η → Led} {V : α → β → γ → δ → ε → ζ → η → Value} {P P' P'' : α → β → γ → δ → ε → ζ → η → Prop} (F : Fr h₀ L s.heap m := by k_asm) (N : News h₀ L s.heap news := by k_asm) (B : Below A₀ base outer h₀ := by k_asm) (XK : (K w.params).In h₀ := by k_asm) (T : Top q (looseW q loose) mean mg mb h₀ := by k_asm) (hk : cs.kind = .function := by first | exact rfl | assumption)
    (C : Sp w mean mg mb f vs dd uu news (fun news' v => ∃ x1 x2 x3 x4 x5 x6 x7, news' = X x1 x2 x3 x4 x5 x6 x7 ∧ v = V x1 x2 x3 x4 x5 x6 x7 ∧ P x1 x2 x3 x4 x5 x6 x7 ∧ P' x1 x2 x3 x4 x5 x6 x7 ∧ P'' x1 x2 x3 x4 x5 x6 x7)) (hd : dp + dd < recursionLimit := by ktr_room) (hu : un + uu < cLine := by ktr_units)
    (h : ∀ h' tk' x1 x2 x3 x4 x5 x6 x7, Fr h₀ L h' m → News h₀ L h' (X x1 x2 x3 x4 x5 x6 x7) → P x1 x2 x3 x4 x5 x6 x7 → P' x1 x2 x3 x4 x5 x6 x7 → P'' x1 x2 x3 x4 x5 x6 x7 → Q (V x1 x2 x3 x4 x5 x6 x7) { s with heap := h', toks := tk' }) : wpAny (model P0 w) (ktrTop dp un gd cn cs L a ccd cl outer) (call (.ref f) vs) Q E s :=
  use2 F N B XK T hk C hd hu fun _ h' tk' _ F9 N9 R9 => by obtain ⟨x1, x2, x3, x4, x5, x6, x7, rfl, rfl, p, p', p''⟩ := R9; exact h h' tk' x1 x2 x3 x4 x5 x6 x7 F9 N9 p p' p''
theorem useO {α β γ δ ε ζ : Type} {X : α → β → γ → δ → ε → Led} {P : α → β → γ → δ → ε → Prop} {P' : ζ → Value → Prop} (F : Fr h₀ L s.heap m := by k_asm) (N : News h₀ L s.heap news := by k_asm) (B : Below A₀ base outer h₀ := by k_asm) (XK : (K w.params).In h₀ := by k_asm) (T : Top q (looseW q loose) mean mg mb h₀ := by k_asm) (hk : cs.kind = .function := by first | exact rfl | assumption)
    (C : Sp w mean mg mb f vs dd uu news (fun news' v => ∃ x1 x2 x3 x4 x5, news' = X x1 x2 x3 x4 x5 ∧ P x1 x2 x3 x4 x5 ∧ ∃ i, P' i v)) (hd : dp + dd < recursionLimit := by ktr_room) (hu : un + uu < cLine := by ktr_units)
    (h : ∀ v h' tk' x1 x2 x3 x4 x5 i, Fr h₀ L h' m → News h₀ L h' (X x1 x2 x3 x4 x5) → P x1 x2 x3 x4 x5 → P' i v → Q v { s with heap := h', toks := tk' }) : wpAny (model P0 w) (ktrTop dp un gd cn cs L a ccd cl outer) (call (.ref f) vs) Q E s :=
  use2 F N B XK T hk C hd hu fun _ h' tk' _ F9 N9 R9 => by obtain ⟨x1, x2, x3, x4, x5, rfl, p, i, p'⟩ := R9; exact h _ h' tk' x1 x2 x3 x4 x5 i F9 N9 p p'
end
theorem ex2 {α β : Type} {P : α → β → Prop} {G : Prop} (h : ∃ x1 x2, P x1 x2) (k : ∀ x1 x2, P x1 x2 → G) : G := by obtain ⟨x1, x2, h⟩ := h; exact k x1 x2 h
theorem ex3 {α β γ : Type} {P : α → β → γ → Prop} {G : Prop} (h : ∃ x1 x2 x3, P x1 x2 x3) (k : ∀ x1 x2 x3, P x1 x2 x3 → G) : G := by obtain ⟨x1, x2, x3, h⟩ := h; exact k x1 x2 x3 h
theorem ex4 {α β γ δ : Type} {P : α → β → γ → δ → Prop} {G : Prop} (h : ∃ x1 x2 x3 x4, P x1 x2 x3 x4) (k : ∀ x1 x2 x3 x4, P x1 x2 x3 x4 → G) : G := by obtain ⟨x1, x2, x3, x4, h⟩ := h; exact k x1 x2 x3 x4 h
theorem ex5 {α β γ δ ε : Type} {P : α → β → γ → δ → ε → Prop} {G : Prop} (h : ∃ x1 x2 x3 x4 x5, P x1 x2 x3 x4 x5) (k : ∀ x1 x2 x3 x4 x5, P x1 x2 x3 x4 x5 → G) : G := by obtain ⟨x1, x2, x3, x4, x5, h⟩ := h; exact k x1 x2 x3 x4 x5 h
theorem ex6 {α β γ δ ε ζ : Type} {P : α → β → γ → δ → ε → ζ → Prop} {G : Prop} (h : ∃ x1 x2 x3 x4 x5 x6, P x1 x2 x3 x4 x5 x6) (k : ∀ x1 x2 x3 x4 x5 x6, P x1 x2 x3 x4 x5 x6 → G) : G := by obtain ⟨x1, x2, x3, x4, x5, x6, h⟩ := h; exact k x1 x2 x3 x4 x5 x6 h
theorem an2 {p1 p2 G : Prop} (h : p1 ∧ p2) (k : p1 → p2 → G) : G := by obtain ⟨h1, h2⟩ := h; exact k h1 h2
theorem an3 {p1 p2 p3 G : Prop} (h : p1 ∧ p2 ∧ p3) (k : p1 → p2 → p3 → G) : G := by obtain ⟨h1, h2, h3⟩ := h; exact k h1 h2 h3
theorem an4 {p1 p2 p3 p4 G : Prop} (h : p1 ∧ p2 ∧ p3 ∧ p4) (k : p1 → p2 → p3 → p4 → G) : G := by obtain ⟨h1, h2, h3, h4⟩ := h; exact k h1 h2 h3 h4
theorem an5 {p1 p2 p3 p4 p5 G : Prop} (h : p1 ∧ p2 ∧ p3 ∧ p4 ∧ p5) (k : p1 → p2 → p3 → p4 → p5 → G) : G := by obtain ⟨h1, h2, h3, h4, h5⟩ := h; exact k h1 h2 h3 h4 h5
theorem an7 {p1 p2 p3 p4 p5 p6 p7 G : Prop} (h : p1 ∧ p2 ∧ p3 ∧ p4 ∧ p5 ∧ p6 ∧ p7) (k : p1 → p2 → p3 → p4 → p5 → p6 → p7 → G) : G := by obtain ⟨h1, h2, h3, h4, h5, h6, h7⟩ := h; exact k h1 h2 h3 h4 h5 h6 h7
section
variable {a d I C D' : Addr} {o : Obj} {l l' : Led} {dp x y z r lim : Nat}
theorem ltL (h : ∀ p ∈ l, p.1 < d) (m : (a, o) ∈ l) : @LT.lt Nat _ a d := h _ m
theorem neL (h : ∀ p ∈ l, p.1 < d) (m : (a, o) ∈ l) : a ≠ d := Nat.ne_of_lt (h _ m)
theorem neS (h : ∀ p ∈ l, p.1 < d) (m : (a, o) ∈ l) : a ≠ d + 1 := Nat.ne_of_lt (Nat.lt_succ_of_lt (h _ m))
theorem neSS (h : ∀ p ∈ l, p.1 < d) (m : (a, o) ∈ l) : a ≠ d + 1 + 1 := Nat.ne_of_lt (Nat.lt_succ_of_lt (Nat.lt_succ_of_lt (h _ m)))
theorem neV (l2 : @LT.lt Nat _ d x) (h : ∀ p ∈ l, p.1 < d) (m : (a, o) ∈ l) : a ≠ x := Nat.ne_of_lt (Nat.lt_trans (h _ m) l2)
theorem ltV (l2 : @LT.lt Nat _ d x) (h : ∀ p ∈ l', p.1 < d) (s : ∀ p ∈ l, p ∈ l') : ∀ p ∈ l, p.1 < x := fun p hp => Nat.lt_trans (h p (s p hp)) l2
theorem neA (h : ∀ p ∈ l, p.1 ≠ d) (m : (a, o) ∈ l) : a ≠ d := h _ m
theorem neOI (h : LCg.Off3 I C D' l) (m : (a, o) ∈ l) : a ≠ I := (h.mem _ m).1
theorem neOC (h : LCg.Off3 I C D' l) (m : (a, o) ∈ l) : a ≠ C := (h.mem _ m).2.1
theorem neOD (h : LCg.Off3 I C D' l) (m : (a, o) ∈ l) : a ≠ D' := (h.mem _ m).2.2
theorem ltSub (h : ∀ p ∈ l', p.1 < d) (s : ∀ p ∈ l, p ∈ l') : ∀ p ∈ l, p.1 < d := fun p hp => h p (s p hp)
theorem neSub (h : ∀ p ∈ l', p.1 < d) (s : ∀ p ∈ l, p ∈ l') : ∀ p ∈ l, p.1 ≠ d := fun p hp => Nat.ne_of_lt (h p (s p hp))
theorem neSub2 (h : ∀ p ∈ l', p.1 ≠ d) (s : ∀ p ∈ l, p ∈ l') : ∀ p ∈ l, p.1 ≠ d := fun p hp => h p (s p hp)
theorem offSub (h : LCg.Off3 I C D' l') (s : ∀ p ∈ l, p ∈ l') : LCg.Off3 I C D' l := LCg.Off3.of fun p hp => h.mem p (s p hp)
theorem rm1 (h : dp + r < lim) : dp < lim := Nat.lt_of_le_of_lt (Nat.le_add_right _ _) h
theorem rm2 (h : dp + r < lim) (e : Nat.ble x r = true) : dp + x < lim := Nat.lt_of_le_of_lt (Nat.add_le_add_left (Nat.le_of_ble_eq_true e) _) h
theorem rm3 (h : dp + r < lim) (e : Nat.ble (x + y) r = true) : dp + x + y < lim := by rw [Nat.add_assoc]; exact rm2 h e
theorem rm4 (h : dp + r < lim) (e : Nat.ble (x + y + z) r = true) : dp + x + y + z < lim := by rw [Nat.add_assoc (dp + x)]; exact rm3 h (by rw [← Nat.add_assoc]; exact e)
end
theorem fm1 (x : Int) : 0 ≤ Int.fmod x 2147483647 ∧ Int.fmod x 2147483647 < 2147483647 := by
  rw [Int.fmod_eq_emod_of_nonneg _ (by decide)]; omega
theorem fm2 (x : Int) : 0 ≤ Int.fmod x 2147483629 ∧ Int.fmod x 2147483629 < 2147483629 := by
  rw [Int.fmod_eq_emod_of_nonneg _ (by decide)]; omega
theorem mulok (x y : Int) : IntMulOk (Int.fmod x 2147483647) y := by
  have := fm1 x
  exact IntMulOk.of_left (intBits_le_64 (by omega) (by omega))
theorem intv {x y : Int} (t : Tok) (h : x = y) : ∃ t', Value.int x t = Value.int y t' := ⟨t, by rw [h]⟩
theorem strv {x y : Str} (t : Tok) (h : x = y) : ∃ t', Value.str x t = Value.str y t' := ⟨t, by rw [h]⟩
theorem boov {x y : Bool} (h : x = y) : Value.bool x = Value.bool y := by rw [h]
noncomputable def sgn (n : Int) : Int := if 0 < n then 1 else if n < 0 then -1 else 0
noncomputable def nanB (a : Int × Int) : Bool := a.1 == 0 && a.2 == 0
noncomputable def orderZ (a b : Int × Int) : Int := if a.2 = 0 ∨ b.2 = 0 then sgn ((if a.2 = 0 then a.1 else 0) - (if b.2 = 0 then b.1 else 0)) else sgn (a.1 * b.2 - b.1 * a.2)
noncomputable def cmpNum (op : Str) (a b : Int × Int) : Bool :=
  if nanB a || nanB b then op == Str.ofString "!=" else
  if op == Str.ofString "=" then orderZ a b == 0 else
  if op == Str.ofString "!=" then orderZ a b != 0 else
  if op == Str.ofString "<" then decide (orderZ a b < 0) else
  if op == Str.ofString "<=" then decide (orderZ a b ≤ 0) else
  if op == Str.ofString ">" then decide (orderZ a b > 0) else
  decide (orderZ a b ≥ 0)
/-- a row of the tree's: its addresses, the toks of its dict's keys, what it holds -/
structure RD where
  r : Addr
  rd : Addr
  lc : Addr
  k1 : Tok
  k2 : Tok
  k3 : Tok
  k4 : Tok
  k5 : Tok
  k6 : Tok
  k7 : Tok
  k8 : Tok
  k9 : Tok
  kind : Str
  value : Str
  tk : Tok
  tv : Tok
  nm : Value
  ur : Value
  lo : Value
  pa : Value
  la : Value
  ln : Value
  nc : Nat
  kv : List Value
noncomputable abbrev enW (w : World) (x : Str) (t : Tok) (v : Value) : DictEntry := ⟨PyData.keyHash w.params x, .str x t, v⟩
noncomputable abbrev RD.es (w : World) (R : RD) : List DictEntry := [enW w (Str.ofString "kind") R.k1 (.str R.kind R.tk), enW w (Str.ofString "name") R.k2 R.nm, enW w (Str.ofString "uri") R.k3 R.ur, enW w (Str.ofString "local") R.k4 R.lo, enW w (Str.ofString "value") R.k5 (.str R.value R.tv), enW w (Str.ofString "parent") R.k6 R.pa, enW w (Str.ofString "children") R.k7 (.ref R.lc), enW w (Str.ofString "attributes") R.k8 R.la, enW w (Str.ofString "namespaces") R.k9 R.ln]
noncomputable def RowAt (w : World) (news : Led) (R : RD) : Prop := (R.r, instObj 243 R.rd) ∈ news ∧ (R.rd, dictOf (R.es w) 9) ∈ news ∧ (R.lc, listOf R.kv.toArray R.nc) ∈ news
structure TD where
  td : Addr
  rl : Addr
  k : Tok
  nr : Nat
  rows : List RD
noncomputable def TreeAt (w : World) (news : Led) (t : Addr) (D : TD) : Prop := (t, instObj 432 D.td) ∈ news ∧ (D.td, dictOf [enW w (Str.ofString "rows") D.k (.ref D.rl)] 1) ∈ news ∧ (D.rl, listOf (D.rows.map fun R => Value.ref R.r).toArray D.nr) ∈ news ∧ ∀ R ∈ D.rows, RowAt w news R
theorem RowAt.mono {w : World} {news news' : Led} {R : RD} (h : RowAt w news R) (hs : ∀ p ∈ news, p ∈ news') : RowAt w news' R := ⟨hs _ h.1, hs _ h.2.1, hs _ h.2.2⟩
theorem TreeAt.mono {w : World} {news news' : Led} {t : Addr} {D : TD} (h : TreeAt w news t D) (hs : ∀ p ∈ news, p ∈ news') : TreeAt w news' t D := ⟨hs _ h.1, hs _ h.2.1, hs _ h.2.2.1, fun R hR => (h.2.2.2 R hR).mono hs⟩
theorem TreeAt.tail {w : World} {news : Led} {t : Addr} {D : TD} {p : Addr × Obj} (h : TreeAt w news t D) : TreeAt w (p :: news) t D := h.mono fun _ => List.mem_cons_of_mem _
theorem TreeAt.app {w : World} {news new : Led} {t : Addr} {D : TD} (h : TreeAt w news t D) : TreeAt w (new ++ news) t D := h.mono fun _ => List.mem_append_right _
theorem listItem {prog : Program} {w : World} {A : Around} {E : Value → Shared → Prop} {s : Shared} {h₀ : Heap} {L : Addr} {news : Led} {value slice : PySem.Expr} {l : Addr} {vs : List Value} {n : Nat} {k : Int} {u : Tok} {v : Value} {Q : Value → Shared → Prop}
    (N : News h₀ L s.heap news) (hm : (l, W.listOf vs.toArray n) ∈ news) (h0 : 0 ≤ k) (hhi : k < 2 ^ 63) (hx : vs[k.toNat]? = some v) (h : Q v s)
    (hs : subscripted slice false (.ref l) (.int k u) = operate [.ref l, .int k u] (getItem (.ref l) (.int k u)) := by with_unfolding_all rfl) :
    wpAny (model prog w) A (subscriptTail value slice (.ref l) (.int k u)) Q E s := by
  have hl : s.heap.IsList l vs.toArray := ⟨_, (N _ hm).1, rfl, _, rfl⟩
  exact tail_any hl.typeIs slot_list_getitem.lookup (wpAny_getItem_list hl h0 hhi (by simpa using hx) h) hs
theorem listIs {h₀ h : Heap} {L : Addr} {news : Led} {l : Addr} {vs : List Value} {n : Nat} (N : News h₀ L h news) (hm : (l, W.listOf vs.toArray n) ∈ news) : h.IsList l vs.toArray := ⟨_, (N _ hm).1, rfl, _, rfl⟩
theorem sizeOK {l : List Value} (h : l.length ≤ 1000) : l.toArray.size ≤ sizeLine := by
  rw [List.size_toArray, sizeLine_eq]; omega
theorem ltOfAllLt {d : Addr} {l : Led} : AllLt d l → ∀ p ∈ l, p.1 < d := by
  induction l with
  | nil => intro _ p hp; cases hp
  | cons x r ih =>
    intro h p hp
    rcases List.mem_cons.mp hp with rfl | hp
    · exact h.1
    · exact ih h.2 p hp
theorem neOfAllLt {d : Addr} {l : Led} (h : AllLt d l) : ∀ p ∈ l, p.1 ≠ d := fun p hp => Nat.ne_of_lt (ltOfAllLt h p hp)
theorem neOfLt {d : Addr} {l : Led} (h : ∀ p ∈ l, p.1 < d) : ∀ p ∈ l, p.1 ≠ d := fun p hp => Nat.ne_of_lt (h p hp)
/-- row i is an element that holds one text x -/
noncomputable def ElemAt (D : TD) (i : Nat) (x : Str) : Prop := ∃ (R : RD) (j : Nat) (R' : RD) (tc : Tok), D.rows[i]? = some R ∧ R.kind = Str.ofString "element" ∧ R.kv = [.int (j : Int) tc] ∧ D.rows[j]? = some R' ∧ R'.kind = Str.ofString "text" ∧ R'.value = x ∧ R'.kv = []
theorem andR1 {a P : Prop} (h : a ∧ P) : P := h.2
theorem andR2 {a b P : Prop} (h : a ∧ b ∧ P) : P := h.2.2
theorem andR3 {a b c P : Prop} (h : a ∧ b ∧ c ∧ P) : P := h.2.2.2
theorem andR4 {a b c d P : Prop} (h : a ∧ b ∧ c ∧ d ∧ P) : P := h.2.2.2.2
theorem andR5 {a b c d e P : Prop} (h : a ∧ b ∧ c ∧ d ∧ e ∧ P) : P := h.2.2.2.2.2
theorem join1 (x : Str) : Txt.join (Str.ofString "") [x] = x := by
  first | rfl | (simp [Txt.join]; done) | (unfold Txt.join; rfl)
theorem back {h₀ g h h' : Heap} {L L' : Addr} {m' : MV} {new news : Led} (kN : News h₀ L h' new) (N : News h₀ L h news) (G : GSub h g []) (F' : Fr g L' h' m') : News h₀ L h' (new ++ news) := fun p hp => by
  rcases List.mem_append.mp hp with hp | hp
  · exact kN p hp
  · exact ⟨F'.keep _ _ (G _ _ (N p hp).1 (List.not_mem_nil)), (N p hp).2⟩
theorem idxIn {prog : Program} {w : World} {A : Around} {E : Value → Shared → Prop} {s : Shared} {x y : Str} {t u : Tok} {Q : Value → Shared → Prop} (hA : A.handled = none) (ho : (Builtin.Str.occurrences x y 0 x.length 1).isEmpty = false)
    (h : Q (.int (Txt.find x y) s.toks) { s with toks := s.toks + 1 }) : wpAny (model prog w) A (call (.builtin "str.index") [.str x t, .str y u]) Q E s :=
  index_or hA (fun _ e => by rw [ho] at e; cases e) (fun _ _ => h)
theorem numCast {w : World} {news : Led} {v : Value} {x y x' y' : Int} (h : NumAt w news v x y) (e1 : x = x') (e2 : y = y') : NumAt w news v x' y' := e1 ▸ e2 ▸ h
theorem nanK (w : World) : (K w.params).lookup 22 = some (tupO [.int 0 196, .int 0 197]) := by kernel_rfl!
/-- the texts that the law draws, and the numbers that they tell -/
noncomputable def menuT : List Str := [Str.ofString "", Str.ofString " 1 ", Str.ofString "-2", Str.ofString "1", Str.ofString "1.0", Str.ofString "1.5", Str.ofString "2", Str.ofString "a"]
noncomputable def numOf (x : Str) : Int × Int := if x = Str.ofString "1" then (1, 1) else if x = Str.ofString "2" then (2, 1) else if x = Str.ofString "1.5" then (3, 2) else if x = Str.ofString " 1 " then (1, 1) else if x = Str.ofString "-2" then (-2, 1) else if x = Str.ofString "1.0" then (1, 1) else (0, 0)
noncomputable def menuN : List (Int × Int) := [(1, 1), (3, 2), (-2, 1), (0, 1), (0, 0), (1, 0), (-1, 0), (2, 1)]
inductive V where
  | set (xs : List (Nat × Str))
  | num (a : Int × Int)
  | txt (x : Str)
  | tru (b : Bool)
noncomputable def RepV (w : World) (news : Led) (D : TD) (v : Value) : V → Prop
  | .set xs => ∃ l vs n, v = .ref l ∧ (l, W.listOf vs.toArray n) ∈ news ∧ IntsAre vs (xs.map fun p => (p.1 : Int)) ∧ (∀ p ∈ xs, ElemAt D p.1 p.2 ∧ p.2 ∈ menuT) ∧ xs.length ≤ 10
  | .num a => NumAt w news v a.1 a.2 ∧ a ∈ menuN
  | .txt x => (∃ t, v = .str x t) ∧ x ∈ menuT
  | .tru b => v = .bool b
noncomputable def truthV : V → Bool
  | .set xs => !xs.isEmpty
  | .num a => a.1 != 0
  | .txt x => x != Str.ofString ""
  | .tru b => b
noncomputable def firstT : List (Nat × Str) → Str
  | [] => Str.ofString ""
  | p :: _ => p.2
noncomputable def numV : V → Int × Int
  | .set xs => numOf (firstT xs)
  | .num a => a
  | .txt x => numOf x
  | .tru b => if b then (1, 1) else (0, 1)
noncomputable def textV : V → Str
  | .set xs => firstT xs
  | .txt x => x
  | _ => Str.ofString ""
theorem RepV.mono {w : World} {news news' : Led} {D : TD} {v : Value} {X : V} (h : RepV w news D v X) (hs : ∀ p ∈ news, p ∈ news') : RepV w news' D v X := by
  cases X with
  | set xs => obtain ⟨l, vs, n, e, hm, r⟩ := h; exact ⟨l, vs, n, e, hs _ hm, r⟩
  | num a => exact ⟨h.1.mono hs, h.2⟩
  | txt x => exact h
  | tru b => exact h
theorem RepV.tail {w : World} {news : Led} {D : TD} {v : Value} {X : V} {p : Addr × Obj} (h : RepV w news D v X) : RepV w (p :: news) D v X := h.mono fun _ => List.mem_cons_of_mem _
theorem RepV.app {w : World} {news new : Led} {D : TD} {v : Value} {X : V} (h : RepV w news D v X) : RepV w (new ++ news) D v X := h.mono fun _ => List.mem_append_right _
theorem menu_len {x : Str} (h : x ∈ menuT) : x.length ≤ 1000 := by
  simp only [menuT, List.mem_cons, List.not_mem_nil, or_false] at h
  rcases h with rfl | rfl | rfl | rfl | rfl | rfl | rfl | rfl <;> decide +kernel
noncomputable def isTru : V → Bool
  | .tru _ => true
  | _ => false
noncomputable def isTxt : V → Bool
  | .txt _ => true
  | _ => false
noncomputable def isNum : V → Bool
  | .num _ => true
  | _ => false
noncomputable def isSet : V → Bool
  | .set _ => true
  | _ => false
noncomputable def eqOp (op : Str) : Bool := op == Str.ofString "=" || op == Str.ofString "!="
noncomputable def plainV (op : Str) (X Y : V) : Bool :=
  if eqOp op then
    if isTru X || isTru Y then (truthV X == truthV Y) == (op == Str.ofString "=")
    else if isTxt X && isTxt Y then (textV X == textV Y) == (op == Str.ofString "=")
    else cmpNum op (numV X) (numV Y)
  else cmpNum op (numV X) (numV Y)
theorem numOf_menu (x : Str) : numOf x ∈ menuN := by
  unfold numOf
  repeat' split
  all_goals decide +kernel
theorem small_menuN {a : Int × Int} (h : a ∈ menuN) : a.1.natAbs ≤ 1000 ∧ a.2.natAbs ≤ 1000 := by
  simp only [menuN, List.mem_cons, List.not_mem_nil, or_false] at h
  rcases h with rfl | rfl | rfl | rfl | rfl | rfl | rfl | rfl <;> decide +kernel
theorem numV_menu {w : World} {news : Led} {D : TD} {v : Value} {X : V} (h : RepV w news D v X) : numV X ∈ menuN := by
  cases X with
  | set xs => exact numOf_menu _
  | num a => exact h.2
  | txt x => exact numOf_menu _
  | tru b => cases b <;> decide +kernel
theorem numV_small {w : World} {news : Led} {D : TD} {v : Value} {X : V} (h : RepV w news D v X) : (numV X).1.natAbs ≤ 1000 ∧ (numV X).2.natAbs ≤ 1000 := small_menuN (numV_menu h)
theorem repTru {w : World} {news : Led} {D : TD} (b : Bool) : RepV w news D (.bool b) (.tru b) := rfl
section
variable {prog : Program} {w : World} {A : Around} {E : Value → Shared → Prop} {s : Shared} {h₀ : Heap} {L : Addr} {m : MV} {news : Led} {D : TD} {v : Value} {X : V} {Q : Value → Shared → Prop}
theorem isi_rep_bool (F : Fr h₀ L s.heap m) (X0 : (K w.params).In h₀) (N : News h₀ L s.heap news) (hv : RepV w news D v X) (h : ∀ k, Q (.bool (isTru X)) { s with toks := k }) : wpAny (model prog w) A (PySem.call (.builtin "isinstance") [v, .type "bool"]) Q E s := by
  cases X with
  | set xs => obtain ⟨l, vs, n, rfl, hm, _⟩ := hv; exact IsiPair.list_bool (N _ hm).1 rfl (h _)
  | num a => obtain ⟨⟨r, t1, t2, rfl, hm⟩, _⟩ := hv; exact IsiPair.tuple_bool (hm.get F X0 N) rfl (h _)
  | txt x => obtain ⟨⟨t, rfl⟩, _⟩ := hv; exact IsiPair.str_bool (h _)
  | tru b => subst hv; exact IsiPair.bool_bool (h _)
theorem isi_rep_str (F : Fr h₀ L s.heap m) (X0 : (K w.params).In h₀) (N : News h₀ L s.heap news) (hv : RepV w news D v X) (h : ∀ k, Q (.bool (isTxt X)) { s with toks := k }) : wpAny (model prog w) A (PySem.call (.builtin "isinstance") [v, .type "str"]) Q E s := by
  cases X with
  | set xs => obtain ⟨l, vs, n, rfl, hm, _⟩ := hv; exact IsiPair.list_str (N _ hm).1 rfl (h _)
  | num a => obtain ⟨⟨r, t1, t2, rfl, hm⟩, _⟩ := hv; exact IsiPair.tuple_str (hm.get F X0 N) rfl (h _)
  | txt x => obtain ⟨⟨t, rfl⟩, _⟩ := hv; exact IsiPair.str_str (h _)
  | tru b => subst hv; exact IsiPair.bool_str (h _)
theorem isi_rep_list (F : Fr h₀ L s.heap m) (X0 : (K w.params).In h₀) (N : News h₀ L s.heap news) (hv : RepV w news D v X) (h : ∀ k, Q (.bool (isSet X)) { s with toks := k }) : wpAny (model prog w) A (PySem.call (.builtin "isinstance") [v, .type "list"]) Q E s := by
  cases X with
  | set xs => obtain ⟨l, vs, n, rfl, hm, _⟩ := hv; exact IsiPair.list_list (N _ hm).1 rfl (h _)
  | num a => obtain ⟨⟨r, t1, t2, rfl, hm⟩, _⟩ := hv; exact IsiPair.tuple_list (hm.get F X0 N) rfl (h _)
  | txt x => obtain ⟨⟨t, rfl⟩, _⟩ := hv; exact IsiPair.str_list (h _)
  | tru b => subst hv; exact IsiPair.bool_list (h _)
theorem isi_rep_tuple (F : Fr h₀ L s.heap m) (X0 : (K w.params).In h₀) (N : News h₀ L s.heap news) (hv : RepV w news D v X) (h : ∀ k, Q (.bool (isNum X)) { s with toks := k }) : wpAny (model prog w) A (PySem.call (.builtin "isinstance") [v, .type "tuple"]) Q E s := by
  cases X with
  | set xs => obtain ⟨l, vs, n, rfl, hm, _⟩ := hv; exact IsiPair.list_tuple (N _ hm).1 rfl (h _)
  | num a => obtain ⟨⟨r, t1, t2, rfl, hm⟩, _⟩ := hv; exact IsiPair.tuple_tuple (hm.get F X0 N) rfl (h _)
  | txt x => obtain ⟨⟨t, rfl⟩, _⟩ := hv; exact IsiPair.str_tuple (h _)
  | tru b => subst hv; exact IsiPair.bool_tuple (h _)
end
noncomputable def Fresh (new news : Led) : Prop := ∀ p ∈ new, ∀ p' ∈ news, p.1 ≠ p'.1
theorem fresh {h₀ g h h' : Heap} {L L' : Addr} {new news : Led} (N2 : News g L' h' new) (N : News h₀ L h news) (G : GSub h g []) : Fresh new news := fun p hp p' hp' e => by
  have := G _ _ (N p' hp').1 List.not_mem_nil
  rw [← e, (N2 p hp).2.2] at this
  cases this
noncomputable def Reps (w : World) (news : Led) (D : TD) (vs : List Value) (Ys : List V) : Prop := vs.length = Ys.length ∧ ∀ (i : Nat) (v : Value) (Y : V), vs[i]? = some v → Ys[i]? = some Y → RepV w news D v Y
theorem Reps.mono {w : World} {news news' : Led} {D : TD} {vs : List Value} {Ys : List V} (h : Reps w news D vs Ys) (hs : ∀ p ∈ news, p ∈ news') : Reps w news' D vs Ys := ⟨h.1, fun i v Y a b => (h.2 i v Y a b).mono hs⟩
theorem Reps.tail {w : World} {news : Led} {D : TD} {vs : List Value} {Ys : List V} {p : Addr × Obj} (h : Reps w news D vs Ys) : Reps w (p :: news) D vs Ys := h.mono fun _ => List.mem_cons_of_mem _
theorem Reps.app {w : World} {news new : Led} {D : TD} {vs : List Value} {Ys : List V} (h : Reps w news D vs Ys) : Reps w (new ++ news) D vs Ys := h.mono fun _ => List.mem_append_right _
theorem Reps.nil {w : World} {news : Led} {D : TD} : Reps w news D [] [] := ⟨rfl, fun i v Y a _ => by simp at a⟩
theorem Reps.snoc {w : World} {news : Led} {D : TD} {vs : List Value} {Ys : List V} {v : Value} {Y : V} (h : Reps w news D vs Ys) (hv : RepV w news D v Y) : Reps w news D (vs ++ [v]) (Ys ++ [Y]) := by
  refine ⟨by simp [h.1], fun i u Z a b => ?_⟩
  rcases Nat.lt_trichotomy i vs.length with hlt | heq | hgt
  · rw [List.getElem?_append_left hlt] at a
    rw [List.getElem?_append_left (h.1 ▸ hlt)] at b
    exact h.2 i u Z a b
  · subst heq
    rw [List.getElem?_append_right (Nat.le_refl _), Nat.sub_self] at a
    rw [h.1, List.getElem?_append_right (Nat.le_refl _), Nat.sub_self] at b
    simp at a b
    subst a b
    exact hv
  · rw [List.getElem?_eq_none (by simp; omega)] at a
    cases a
theorem Reps.one {w : World} {news : Led} {D : TD} {v : Value} {Y : V} (hv : RepV w news D v Y) : Reps w news D [v] [Y] := Reps.nil.snoc hv
section
open LCg
variable {prog : Program} {w : World} {A : Around} {h₀ : Heap} {L : Addr} {m : MV} {env : Env} {elt : PySem.Expr} {x : Str} {scope : Scope} {cl : List (Str × Addr)} {s : Shared} {S : Led → Prop} {P : Nat → Value → Prop} {Fin : List Value → Led → Prop}
/-- a comprehension's turns by an invariant -/
theorem comp_ind {n : Nat} {news₀ : Led} (Inv : Nat → List Value → Led → Prop) (h0 : Inv 0 [] news₀)
    (turn : ∀ i ys news v I oI C oC Dd m₂ h tk (E' : Value → Shared → Prop), i < n → Inv i ys news → P i v → NsObj oC m₂ → m₂ x = some v → Fr h₀ L h m → News h₀ L h ((I, oI) :: (C, oC) :: (Dd, lst ys) :: news) → Off3 I C Dd news → ((@Ne Nat I C) ∧ (@Ne Nat I Dd) ∧ (@Ne Nat C Dd)) →
      wpAny (model prog w) A (eval elt (compEnvC scope cl C env)) (CompEnd h₀ L m { s with heap := h, toks := tk } I oI C oC Dd (lst ys) S (fun y news' => Inv (i + 1) (ys ++ [y]) news')) E' { s with heap := h, toks := tk })
    (fin : ∀ ys news, Inv n ys news → Fin ys news) : CompRest prog w A h₀ L m env elt x scope cl s S P Fin n 0 [] news₀ := by
  have key : ∀ (j i : Nat) (ys : List Value) (news : Led), i + j = n → Inv i ys news → CompRest prog w A h₀ L m env elt x scope cl s S P Fin j i ys news := by
    intro j
    induction j with
    | zero => intro i ys news hi hI; exact CompRest.zero (fin _ _ (by rw [show n = i by omega]; exact hI))
    | succ j ih =>
      intro i ys news hi hI
      refine CompRest.succ ?_
      intro v I oI C oC Dd m₂ h tk E' hv hC hx F N off ne
      refine wpAny_mono (turn i ys news v I oI C oC Dd m₂ h tk E' (by omega) hI hv hC hx F N off ne) (fun y s₂ hq => ?_) fun _ _ e => e
      obtain ⟨h', tk', nw, e, F', N', off', hS, hn⟩ := hq
      exact ⟨h', tk', nw, e, F', N', off', hS, ih (i + 1) _ _ (by omega) hn⟩
  exact key n 0 [] news₀ (by omega) h0
end
noncomputable def ListAt (w : World) (news : Led) (D : TD) (v : Value) (Ys : List V) : Prop := ∃ l n vs, v = .ref l ∧ (l, W.listOf vs.toArray n) ∈ news ∧ Reps w news D vs Ys ∧ vs.length ≤ 10
theorem ListAt.mono {w : World} {news news' : Led} {D : TD} {v : Value} {Ys : List V} (h : ListAt w news D v Ys) (hs : ∀ p ∈ news, p ∈ news') : ListAt w news' D v Ys := let ⟨l, n, vs, e, hm, hr, hl⟩ := h; ⟨l, n, vs, e, hs _ hm, hr.mono hs, hl⟩
theorem ListAt.tail {w : World} {news : Led} {D : TD} {v : Value} {Ys : List V} {p : Addr × Obj} (h : ListAt w news D v Ys) : ListAt w (p :: news) D v Ys := h.mono fun _ => List.mem_cons_of_mem _
theorem ListAt.app {w : World} {news new : Led} {D : TD} {v : Value} {Ys : List V} (h : ListAt w news D v Ys) : ListAt w (new ++ news) D v Ys := h.mono fun _ => List.mem_append_right _
noncomputable def listedV (op : Str) (X Y : V) : List V := match X with
  | .set xs => if eqOp op && !isNum Y then xs.map fun p => V.txt p.2 else xs.map fun p => V.num (numOf p.2)
  | X => if eqOp op then [X] else [V.num (numV X)]
theorem off3App {I C Dd : Addr} {oI oC oD : Obj} {new news : Led} (hf : Fresh new ((I, oI) :: (C, oC) :: (Dd, oD) :: news)) (ho : LCg.Off3 I C Dd news) : LCg.Off3 I C Dd (new ++ news) := LCg.Off3.of fun p hp => by
  rcases List.mem_append.mp hp with hp | hp
  · exact ⟨hf p hp _ List.mem_cons_self, hf p hp _ (List.mem_cons_of_mem _ List.mem_cons_self), hf p hp _ (List.mem_cons_of_mem _ (List.mem_cons_of_mem _ List.mem_cons_self))⟩
  · exact ho.mem p hp
theorem subApp {a b c : Addr × Obj} {new news : Led} : ∀ p ∈ a :: b :: c :: (new ++ news), p ∈ new ++ (a :: b :: c :: news) := fun p hp => by
  simp only [List.mem_cons, List.mem_append] at hp ⊢
  rcases hp with h | h | h | h | h <;> simp [h]
theorem readR {w : World} {news new : Led} {v : Value} {x y : Int} (hf : Fresh new news) (h : NumAt w new v x y) : ∃ nw, new ++ news = nw ++ news ∧ NumAt w (new ++ news) v x y ∧ Fresh nw news ∧ NumAt w nw v x y :=
  ⟨new, rfl, h.mono fun _ hp => List.mem_append_left _ hp, hf, h⟩
theorem isSet_set (xs : List (Nat × Str)) : isSet (V.set xs) = true := rfl
theorem isSet_num (a : Int × Int) : isSet (V.num a) = false := rfl
theorem isSet_txt (x : Str) : isSet (V.txt x) = false := rfl
theorem isSet_tru (b : Bool) : isSet (V.tru b) = false := rfl
theorem isNum_set (xs : List (Nat × Str)) : isNum (V.set xs) = false := rfl
theorem isNum_num (a : Int × Int) : isNum (V.num a) = true := rfl
theorem isNum_txt (x : Str) : isNum (V.txt x) = false := rfl
theorem isNum_tru (b : Bool) : isNum (V.tru b) = false := rfl
theorem isTxt_set (xs : List (Nat × Str)) : isTxt (V.set xs) = false := rfl
theorem isTxt_num (a : Int × Int) : isTxt (V.num a) = false := rfl
theorem isTxt_txt (x : Str) : isTxt (V.txt x) = true := rfl
theorem isTxt_tru (b : Bool) : isTxt (V.tru b) = false := rfl
theorem isTru_set (xs : List (Nat × Str)) : isTru (V.set xs) = false := rfl
theorem isTru_num (a : Int × Int) : isTru (V.num a) = false := rfl
theorem isTru_txt (x : Str) : isTru (V.txt x) = false := rfl
theorem isTru_tru (b : Bool) : isTru (V.tru b) = true := rfl
theorem np1 {p b : Prop} (h : p ∧ b) : p := h.1
theorem np2 {a p b : Prop} (h : a ∧ p ∧ b) : p := h.2.1
theorem np3 {a b p : Prop} (h : a ∧ b ∧ p) : p := h.2.2
theorem nq11 {p b c : Prop} (h : (p ∧ b) ∧ c) : p := h.1.1
theorem nq12 {a p b c : Prop} (h : (a ∧ p ∧ b) ∧ c) : p := h.1.2.1
theorem nq13 {a b p c : Prop} (h : (a ∧ b ∧ p) ∧ c) : p := h.1.2.2
theorem nq21 {x p b c : Prop} (h : x ∧ (p ∧ b) ∧ c) : p := h.2.1.1
theorem nq22 {x a p b c : Prop} (h : x ∧ (a ∧ p ∧ b) ∧ c) : p := h.2.1.2.1
theorem nq23 {x a b p c : Prop} (h : x ∧ (a ∧ b ∧ p) ∧ c) : p := h.2.1.2.2
theorem nq31 {x y p b c : Prop} (h : x ∧ y ∧ (p ∧ b) ∧ c) : p := h.2.2.1.1
theorem nq32 {x y a p b c : Prop} (h : x ∧ y ∧ (a ∧ p ∧ b) ∧ c) : p := h.2.2.1.2.1
theorem nq33 {x y a b p c : Prop} (h : x ∧ y ∧ (a ∧ b ∧ p) ∧ c) : p := h.2.2.1.2.2
theorem neLt {a b : Addr} (h : @LT.lt Nat _ a b) : a ≠ b := Nat.ne_of_lt h
theorem neGt {a b : Addr} (h : @LT.lt Nat _ b a) : a ≠ b := Nat.ne_of_gt h
section
variable {M : Model} {A : Around} {K' : Frag} {h₀ : Heap} {L a : Addr} {m : MV} {s : Shared} {p : Program} {loose : List Str} {mg mb : MV} {cn : Str} {cs : Scope} {ccd : Value} {cl : List (Str × Addr)} {f : Str} {g : Addr} {Q E : Value → Shared → Prop} {pos p0 p1 p2 p3 p4 : Pos} {x1 x2 x3 x4 : Str} {v1 v2 v3 v4 : Value}
theorem bigCall1 (F : Fr h₀ L s.heap m) (X : K'.In h₀) (T : TopRead p loose mg mb h₀) (e : nsIn K' mainGlobals f = some (some (.ref g))) (hg : keepIn K' (.ref g) = true) (hv1 : m x1 = some v1) (h : wpAny M A (call (.ref g) [v1]) Q E s)
    (hk : cs.kind = .function := by rfl) (hf : (envX cn cs L a ccd cl).kindOf f = some .globalImplicit := by rfl) (hx1 : (envX cn cs L a ccd cl).kindOf x1 = some .local := by rfl) (hd : (f == ("__debug__" : Str)) = false := by decide) (hd1 : (x1 == ("__debug__" : Str)) = false := by decide) :
    wpAny M A (eval (.Call (.Name f p0) [.Name x1 p1] [] pos) (envX cn cs L a ccd cl)) Q E s := by
  refine Call_ ?_
  refine nameX_K F X T e ?_ hk hf hd
  refine callWith_K X hg ?_
  refine args_cons ?_
  refine nameX_L F hv1 ?_ hk hx1 hd1
  refine args_nil ?_
  exact ⟨X.keeps F.keep, h⟩
theorem bigCall2 (F : Fr h₀ L s.heap m) (X : K'.In h₀) (T : TopRead p loose mg mb h₀) (e : nsIn K' mainGlobals f = some (some (.ref g))) (hg : keepIn K' (.ref g) = true) (hv1 : m x1 = some v1) (hv2 : m x2 = some v2) (h : wpAny M A (call (.ref g) [v1, v2]) Q E s)
    (hk : cs.kind = .function := by rfl) (hf : (envX cn cs L a ccd cl).kindOf f = some .globalImplicit := by rfl) (hx1 : (envX cn cs L a ccd cl).kindOf x1 = some .local := by rfl) (hx2 : (envX cn cs L a ccd cl).kindOf x2 = some .local := by rfl) (hd : (f == ("__debug__" : Str)) = false := by decide) (hd1 : (x1 == ("__debug__" : Str)) = false := by decide) (hd2 : (x2 == ("__debug__" : Str)) = false := by decide) :
    wpAny M A (eval (.Call (.Name f p0) [.Name x1 p1, .Name x2 p2] [] pos) (envX cn cs L a ccd cl)) Q E s := by
  refine Call_ ?_
  refine nameX_K F X T e ?_ hk hf hd
  refine callWith_K X hg ?_
  refine args_cons ?_
  refine nameX_L F hv1 ?_ hk hx1 hd1
  refine args_cons ?_
  refine nameX_L F hv2 ?_ hk hx2 hd2
  refine args_nil ?_
  exact ⟨X.keeps F.keep, h⟩
theorem bigCall3 (F : Fr h₀ L s.heap m) (X : K'.In h₀) (T : TopRead p loose mg mb h₀) (e : nsIn K' mainGlobals f = some (some (.ref g))) (hg : keepIn K' (.ref g) = true) (hv1 : m x1 = some v1) (hv2 : m x2 = some v2) (hv3 : m x3 = some v3) (h : wpAny M A (call (.ref g) [v1, v2, v3]) Q E s)
    (hk : cs.kind = .function := by rfl) (hf : (envX cn cs L a ccd cl).kindOf f = some .globalImplicit := by rfl) (hx1 : (envX cn cs L a ccd cl).kindOf x1 = some .local := by rfl) (hx2 : (envX cn cs L a ccd cl).kindOf x2 = some .local := by rfl) (hx3 : (envX cn cs L a ccd cl).kindOf x3 = some .local := by rfl) (hd : (f == ("__debug__" : Str)) = false := by decide) (hd1 : (x1 == ("__debug__" : Str)) = false := by decide) (hd2 : (x2 == ("__debug__" : Str)) = false := by decide) (hd3 : (x3 == ("__debug__" : Str)) = false := by decide) :
    wpAny M A (eval (.Call (.Name f p0) [.Name x1 p1, .Name x2 p2, .Name x3 p3] [] pos) (envX cn cs L a ccd cl)) Q E s := by
  refine Call_ ?_
  refine nameX_K F X T e ?_ hk hf hd
  refine callWith_K X hg ?_
  refine args_cons ?_
  refine nameX_L F hv1 ?_ hk hx1 hd1
  refine args_cons ?_
  refine nameX_L F hv2 ?_ hk hx2 hd2
  refine args_cons ?_
  refine nameX_L F hv3 ?_ hk hx3 hd3
  refine args_nil ?_
  exact ⟨X.keeps F.keep, h⟩
theorem bigCall4 (F : Fr h₀ L s.heap m) (X : K'.In h₀) (T : TopRead p loose mg mb h₀) (e : nsIn K' mainGlobals f = some (some (.ref g))) (hg : keepIn K' (.ref g) = true) (hv1 : m x1 = some v1) (hv2 : m x2 = some v2) (hv3 : m x3 = some v3) (hv4 : m x4 = some v4) (h : wpAny M A (call (.ref g) [v1, v2, v3, v4]) Q E s)
    (hk : cs.kind = .function := by rfl) (hf : (envX cn cs L a ccd cl).kindOf f = some .globalImplicit := by rfl) (hx1 : (envX cn cs L a ccd cl).kindOf x1 = some .local := by rfl) (hx2 : (envX cn cs L a ccd cl).kindOf x2 = some .local := by rfl) (hx3 : (envX cn cs L a ccd cl).kindOf x3 = some .local := by rfl) (hx4 : (envX cn cs L a ccd cl).kindOf x4 = some .local := by rfl) (hd : (f == ("__debug__" : Str)) = false := by decide) (hd1 : (x1 == ("__debug__" : Str)) = false := by decide) (hd2 : (x2 == ("__debug__" : Str)) = false := by decide) (hd3 : (x3 == ("__debug__" : Str)) = false := by decide) (hd4 : (x4 == ("__debug__" : Str)) = false := by decide) :
    wpAny M A (eval (.Call (.Name f p0) [.Name x1 p1, .Name x2 p2, .Name x3 p3, .Name x4 p4] [] pos) (envX cn cs L a ccd cl)) Q E s := by
  refine Call_ ?_
  refine nameX_K F X T e ?_ hk hf hd
  refine callWith_K X hg ?_
  refine args_cons ?_
  refine nameX_L F hv1 ?_ hk hx1 hd1
  refine args_cons ?_
  refine nameX_L F hv2 ?_ hk hx2 hd2
  refine args_cons ?_
  refine nameX_L F hv3 ?_ hk hx3 hd3
  refine args_cons ?_
  refine nameX_L F hv4 ?_ hk hx4 hd4
  refine args_nil ?_
  exact ⟨X.keeps F.keep, h⟩
end

set_option compiler.extract_closed false
set_option compiler.reuse false
local macro_rules | `(tactic| k_mem) => `(tactic| first | with_reducible exact List.mem_cons_self | (with_reducible refine' List.mem_cons_of_mem _ ?_; k_mem) | (refine' List.mem_append_right _ ?_; k_mem) | with_reducible assumption)
local macro_rules | `(tactic| ktr_rel) => `(tactic| first | with_reducible assumption | ((with_reducible show HeldK _ (_ :: _) _ _); exact HeldK.tail (by ktr_rel)) | ((with_reducible show HeldK _ (_ ++ _) _ _); exact HeldK.app (by ktr_rel)) | ((with_reducible show NumAt _ (_ :: _) _ _ _); exact NumAt.tail (by ktr_rel)) | ((with_reducible show NumAt _ (_ ++ _) _ _ _); exact NumAt.app (by ktr_rel)) | ((with_reducible show TreeAt _ (_ :: _) _ _); exact TreeAt.tail (by ktr_rel)) | ((with_reducible show TreeAt _ (_ ++ _) _ _); exact TreeAt.app (by ktr_rel)))
local macro_rules | `(tactic| k_lt $h:ident) => `(tactic| skip)
local macro_rules | `(tactic| k_lt2 $h:ident) => `(tactic| skip)
local macro_rules | `(tactic| ktr_call 20 $c:term) => `(tactic| first | (with_reducible refine' neL $c ?m; (case m => k_mem)) | (with_reducible refine' neA $c ?m; (case m => k_mem)) | (with_reducible refine' neOI $c ?m; (case m => k_mem)) | (with_reducible refine' neOC $c ?m; (case m => k_mem)) | (with_reducible refine' neOD $c ?m; (case m => k_mem)) | (with_reducible refine' neS $c ?m; (case m => k_mem)) | (with_reducible refine' neSS $c ?m; (case m => k_mem)) | with_reducible exact np1 $c | with_reducible exact np2 $c | with_reducible exact np3 $c | with_reducible exact neLt $c | (with_reducible refine' neV $c (by with_reducible assumption) ?m; (case m => k_mem)))
local macro_rules | `(tactic| k_ne) => `(tactic| first | with_reducible assumption | (refine Ne.symm ?_; with_reducible assumption) | ktr_call 20 (by with_reducible assumption) | (refine Ne.symm ?_; ktr_call 20 (by with_reducible assumption)) | fail)
local macro_rules | `(tactic| k_all) => `(tactic| first | with_reducible assumption | exact neOfLt (by with_reducible assumption) | (refine' neSub (by with_reducible assumption) (fun p hp => ?m); (case m => k_mem)) | (refine' neSub2 (by with_reducible assumption) (fun p hp => ?m); (case m => k_mem)))
local macro_rules | `(tactic| walk_at "binaryOp Mult int int") => `(tactic| (refine mul_int ?_ ?hmm; (case hmm => exact mulok _ _)))
local macro_rules | `(tactic| tb_start) => `(tactic| (refine' code_defC ?k1 ?k2 ?k3 ?k4 ?k5 ?kA ?kF ?kK ?k6 ?k7 ?k8 ?k9 ?kB ?kD ?_ ?c2 ?c3 ?c4; (case kA => exact rfl); (case kF => exact rfl); (case kK => assumption); (case k1 => k_asm); (case k2 => k_asm); (case k3 => k_asm); (case k4 => k_asm); (case k5 => k_asm); (case k6 => k_is); (case k7 => k_is); (case k8 => ktr_room); (case k9 => exact BindsTo.of_eq rfl); (case kB => exact rfl); (case kD => decide +kernel); (case c2 => exact rfl); (case c3 => exact rfl); (case c4 => exact rfl); k_whole; intro g' L' h' tk' cells' FG' F' N' Y' B' X' T' l1; (try k_lt l1); k_cells Y'; (try simp only [List.cons_append, List.nil_append] at N'); (try dsimp only); (try k_fold)))
local macro_rules | `(tactic| lcg_off) => `(tactic| first | with_reducible assumption | exact andR1 (by with_reducible assumption) | exact andR2 (by with_reducible assumption) | exact andR3 (by with_reducible assumption) | exact andR4 (by with_reducible assumption) | exact andR5 (by with_reducible assumption) | (refine' offSub (by with_reducible assumption) (fun p hp => ?m); (case m => k_mem)) | (refine And.intro ⟨by k_ne, by k_ne, by k_ne⟩ ?_; lcg_off))
local macro_rules | `(tactic| walk_at "CompEnd") => `(tactic| (k_dflt (refine' LCg.CompEnd.intro ?F ?N _ (fun _ h9 => h9) ?o ?s ?_; (case F => k_asm); (case N => k_asm); (case o => lcg_off); (case s => lcg_src))))
local macro_rules | `(tactic| ktr_rel) => `(tactic| first | with_reducible assumption | ((with_reducible show RepV _ (_ :: _) _ _ _); exact RepV.tail (by ktr_rel)) | ((with_reducible show RepV _ (_ ++ _) _ _ _); exact RepV.app (by ktr_rel)))
local macro_rules | `(tactic| ktr_rel) => `(tactic| first | with_reducible assumption | ((with_reducible show Reps _ (_ :: _) _ _ _); exact Reps.tail (by ktr_rel)) | ((with_reducible show Reps _ (_ ++ _) _ _ _); exact Reps.app (by ktr_rel)))
local macro_rules | `(tactic| ktr_rel) => `(tactic| first | with_reducible assumption | ((with_reducible show ListAt _ (_ :: _) _ _ _); exact ListAt.tail (by ktr_rel)) | ((with_reducible show ListAt _ (_ ++ _) _ _ _); exact ListAt.app (by ktr_rel)))
local macro_rules | `(tactic| ktr_room) => `(tactic| first | exact rm1 (by with_reducible assumption) | exact rm2 (by with_reducible assumption) (by exact rfl) | exact rm3 (by with_reducible assumption) (by exact rfl) | exact rm4 (by with_reducible assumption) (by exact rfl) | ((try simp only [depth_under_make, depth_under_kw, depth_in1, depth_deeper, depth_caller]); (try dsimp only [ktrTop]); omega))
local macro_rules | `(tactic| ktr_units) => `(tactic| first | exact rm1 (by with_reducible assumption) | exact rm2 (by with_reducible assumption) (by exact rfl) | exact rm3 (by with_reducible assumption) (by exact rfl) | exact rm4 (by with_reducible assumption) (by exact rfl) | (have hcL9 := cLine_is; (try simp only [units_in1, units_deeper, Around.mark_units, units_caller]); (try dsimp only [ktrTop]); omega))
local macro_rules | `(tactic| k_in) => `(tactic| first | with_reducible assumption | exact Frag.In.keeps (by k_asm) (Fr.keep (by k_asm)) | fail)

section
/-- what one turn of a loop over a list of the ledger's leaves -/
noncomputable def TurnL (h₀ : Heap) (L : Addr) (news : Led) (I : Addr) (oI : Obj) (s : Shared) (Jn : MV → Prop) (Q : Flow → Shared → Prop) (f : Flow) (s₂ : Shared) : Prop :=
  match f with
  | .ret v => Q (.ret v) s₂
  | .brk => Q .next s₂
  | _ => ∃ h' tk m₂, s₂ = { s with heap := h', toks := tk } ∧ Fr h₀ L h' m₂ ∧ News h₀ L h' ((I, oI) :: news) ∧ Jn m₂
theorem TurnL.ret {h₀ : Heap} {L : Addr} {news : Led} {I : Addr} {oI : Obj} {s : Shared} {Jn : MV → Prop} {Q : Flow → Shared → Prop} {v : Value} {s₂ : Shared} (h : Q (.ret v) s₂) : TurnL h₀ L news I oI s Jn Q (.ret v) s₂ := h
theorem TurnL.next {h₀ : Heap} {L : Addr} {news : Led} {I : Addr} {oI : Obj} {s : Shared} {Jn : MV → Prop} {Q : Flow → Shared → Prop} {h' : Heap} {tk : Nat} {m₂ : MV} (F : Fr h₀ L h' m₂) (N : News h₀ L h' ((I, oI) :: news)) (hJ : Jn m₂) :
    TurnL h₀ L news I oI s Jn Q .next { s with heap := h', toks := tk } := ⟨h', tk, m₂, rfl, F, N, hJ⟩
section
variable {prog : Program} {w : World} {A : Around} {E : Value → Shared → Prop} {s : Shared} {env : Env} {h₀ : Heap} {x : Str} {body : List Stmt} {Q : Flow → Shared → Prop}
theorem Iter_led {l : Addr} {vs : List Value} {n : Nat} {m₀ : MV} {news : Led} {L : Addr} (J : MV → Nat → MV → Prop) (hh : A.handled = none) (hm : (l, W.listOf vs.toArray n) ∈ news) (F : Fr h₀ L s.heap m₀) (hL : env.locals = L) (N : News h₀ L s.heap news) (h0 : J m₀ 0 m₀)
    (turn : ∀ i v m₁ I oI h tk, vs[i]? = some v → J m₀ i m₁ → (∀ p ∈ news, p.1 ≠ I) → Fr h₀ L h (fun y => if y = x then some v else m₁ y) → News h₀ L h ((I, oI) :: news) →
      wpAny (model prog w) A (execs body env) (TurnL h₀ L news I oI s (J m₀ (i + 1)) Q) E { s with heap := h, toks := tk })
    (done : ∀ h tk m', Fr h₀ L h m' → News h₀ L h news → J m₀ vs.length m' → Q .next { s with heap := h, toks := tk }) :
    wpAny (model prog w) A (pyIter (.ref l)) (fun it s₂ => LoopAtV prog w A h₀ env x body Q E it s₂) E s := by
  subst hL
  have hls := listIs N hm
  have hlt : l < s.heap.objs.size := Heap.lt_size (N _ hm).1
  have hne : l ≠ s.heap.objs.size := Nat.ne_of_lt hlt
  have hlL : l ≠ env.locals := (N _ hm).2.1
  have hl0 : h₀.get? l = none := (N _ hm).2.2
  refine wpAny_pyIter_list hls ?_
  have W := Walks.list (prog := prog) (w := w) hh s.heap.objs.size l hne vs.toArray
  have hIn : ∀ p ∈ news, p.1 ≠ s.heap.objs.size := fun p hp => Nat.ne_of_lt (Heap.lt_size (N p hp).1)
  have hLI : env.locals ≠ s.heap.objs.size := Nat.ne_of_lt F.ns.lt
  have hI0 : h₀.get? s.heap.objs.size = none := next_is_new F
  refine ⟨s.heap.objs.size, _, _, _, _, _, m₀, news, fun i m₁ nw => nw = news ∧ J m₀ i m₁, rfl, W, ?_, ?_, ?_, ⟨⟨_, Heap.get?_push_size _ rfl, rfl, rfl⟩, hls.at fun o e => Heap.get?_push_of_some _ e⟩, F.push _,
    fun p hp => ⟨Heap.get?_push_of_some _ (N p hp).1, (N p hp).2⟩, ⟨rfl, h0⟩, ?_, ?_⟩
  · intro hm'
    rcases List.mem_cons.mp hm' with e | hm'
    · exact hLI e
    · exact hlL (List.mem_singleton.mp hm').symm
  · intro b hb
    rw [List.mem_singleton.mp hb]
    exact hI0
  · intro p hp hI
    exact hIn p hp (List.mem_singleton.mp hI)
  · rintro i v m₁ news₁ s₁ own ⟨hh', tk', rfl⟩ hi hv ⟨rfl, hJ⟩ hoff hsub hget hall hst F₁ N₁
    obtain ⟨oI, heI, _⟩ := id hst.1
    have N₂ : News h₀ env.locals hh' ((s.heap.objs.size, oI) :: news₁) := fun p hp => by
      rcases List.mem_cons.mp hp with rfl | hp
      · exact ⟨heI, Ne.symm hLI, hI0⟩
      · exact N₁ p (List.mem_append_right _ hp)
    refine wpAny_mono (turn i v m₁ _ oI hh' tk' (by simpa using hv) hJ hIn F₁ N₂) (fun f s₃ h₃ => ?_) fun _ _ e => e
    have put : ∀ h' tk m₂, Fr h₀ env.locals h' m₂ → News h₀ env.locals h' ((s.heap.objs.size, oI) :: news₁) → J m₀ (i + 1) m₂ →
        LoopStepU h₀ env.locals [s.heap.objs.size] own (fun m₁ nw => nw = news₁ ∧ J m₀ (i + 1) m₁) { s with heap := hh', toks := tk' } .next { s with heap := h', toks := tk } := by
      intro h' tk m₂ F' N' hJ'
      refine ⟨rfl, h', tk, m₂, news₁, rfl, F', fun p hp => ?_, fun p hp hI => hIn p hp (List.mem_singleton.mp hI), rfl, hJ'⟩
      rcases List.mem_append.mp hp with hp | hp
      · rcases List.mem_cons.mp (hsub p hp) with e | e
        · have e2 := hget p hp
          have e3 := heI
          rw [e] at e2
          have : p = (s.heap.objs.size, oI) := by
            obtain ⟨a, o⟩ := p
            dsimp only at e e2
            subst e
            exact congrArg _ (Option.some.inj (e2.symm.trans e3))
          rw [this]
          exact N' _ List.mem_cons_self
        · have e := List.mem_singleton.mp e
          have e2 := hget p hp
          have e3 := (N₁ _ (List.mem_append_right own hm)).1
          have : p = (l, PySem.W.listOf vs.toArray n) := by
            obtain ⟨a, o⟩ := p
            dsimp only at e e2
            subst e
            exact congrArg _ (Option.some.inj (e2.symm.trans e3))
          rw [this]
          exact N' _ (List.mem_cons_of_mem _ hm)
      · exact N' p (List.mem_cons_of_mem _ hp)
    cases f with
    | ret v => exact h₃
    | brk => exact h₃
    | cont =>
      obtain ⟨h', tk, m₂, rfl, F', N', hJ'⟩ := h₃
      exact put h' tk m₂ F' N' hJ'
    | next =>
      obtain ⟨h', tk, m₂, rfl, F', N', hJ'⟩ := h₃
      exact put h' tk m₂ F' N' hJ'
  · rintro h' tk m' news' F' N' _ ⟨rfl, hJ⟩
    exact done h' tk m' F' N' (by simpa using hJ)
end
theorem two_self {m₀ : MV} {a b : Str} (ha : m₀ a = none) (hb : m₀ b = none) : m₀ = fun z => if z = a then none else if z = b then none else m₀ z := by
  funext z
  by_cases h : z = a
  · rw [if_pos h, h, ha]
  · rw [if_neg h]
    by_cases h' : z = b
    · rw [if_pos h', h', hb]
    · rw [if_neg h']
theorem two_turn {m₀ : MV} {a b : Str} {x y u u' : Option Value} (hab : a ≠ b) : (fun z => if z = b then u' else (fun z => if z = a then u else (fun z => if z = a then x else if z = b then y else m₀ z) z) z) = fun z => if z = a then u else if z = b then u' else m₀ z := by
  funext z
  dsimp only
  by_cases h : z = a
  · have : z ≠ b := fun e => hab (h ▸ e)
    simp [h, hab]
  · by_cases h' : z = b <;> simp [h, h', Ne.symm hab]
theorem one_turn {m₀ : MV} {a : Str} {x u : Option Value} : (fun z => if z = a then u else (fun z => if z = a then x else m₀ z) z) = fun z => if z = a then u else m₀ z := by
  funext z
  dsimp only
  by_cases h : z = a <;> simp [h]
theorem one_self {m₀ : MV} {a : Str} {x : Option Value} (ha : m₀ a = x) : m₀ = fun z => if z = a then x else m₀ z := by
  funext z
  by_cases h : z = a
  · rw [if_pos h, h, ha]
  · rw [if_neg h]
theorem Reps.at {w : World} {news : Led} {D : TD} {vs : List Value} {Ys : List V} (h : Reps w news D vs Ys) {i : Nat} {v : Value} (hv : vs[i]? = some v) : ∃ Y, Ys[i]? = some Y ∧ RepV w news D v Y := by
  have hi : i < Ys.length := by
    rw [← h.1]
    exact (List.getElem?_eq_some_iff.mp hv).1
  exact ⟨Ys[i], List.getElem?_eq_getElem hi, h.2 i v _ hv (List.getElem?_eq_getElem hi)⟩
end
section
/-- a dict of the law's texts, each with its number -/
noncomputable def keysT : List Str := [Str.ofString "1", Str.ofString "2", Str.ofString "1.5", Str.ofString "", Str.ofString "a", Str.ofString " 1 ", Str.ofString "-2", Str.ofString "1.0"]
noncomputable def TextsAt (w : World) (news : Led) (d : Addr) : Prop := ∃ o kvs, (d, o) ∈ news ∧ o.IsDictOf (PySem.strKind P0 w) kvs ∧ (d == sysModules) = false ∧ kvs.map (·.1) = keysT ∧ ∀ x ∈ menuT, ∃ v, valueAt kvs x = some v ∧ NumAt w news v (numOf x).1 (numOf x).2
theorem TextsAt.mono {w : World} {news news' : Led} {d : Addr} (h : TextsAt w news d) (hs : ∀ p ∈ news, p ∈ news') : TextsAt w news' d :=
  let ⟨o, kvs, hm, hd, lo, hk, hv⟩ := h
  ⟨o, kvs, hs _ hm, hd, lo, hk, fun x hx => let ⟨v, hv, hn⟩ := hv x hx; ⟨v, hv, hn.mono hs⟩⟩
theorem TextsAt.tail {w : World} {news : Led} {d : Addr} {p : Addr × Obj} (h : TextsAt w news d) : TextsAt w (p :: news) d := h.mono fun _ => List.mem_cons_of_mem _
theorem TextsAt.app {w : World} {news new : Led} {d : Addr} (h : TextsAt w news d) : TextsAt w (new ++ news) d := h.mono fun _ => List.mem_append_right _
section
variable {prog : Program} {w : World} {KK : Type} [DecidableEq KK] {knd : KeyKind prog w KK} {A : Around} {E : Value → Shared → Prop} {s : Shared} {h₀ : Heap} {L d : Addr} {m : MV}
  {news : Led} {g : Obj → Led} {kvs more : List (KK × Value)} {o ob : Obj}
theorem upd_any {o₂ : Addr} {Q : Value → Shared → Prop} (F : Fr h₀ L s.heap m) (N : News h₀ L s.heap news) (U : UpdF d o news g) (hd : o.IsDictOf knd kvs) (hm₂ : (o₂, ob) ∈ news) (hd₂ : ob.IsDictOf knd more)
    (lo : (o₂ == sysModules) = false) (hne : d ≠ o₂) (hsz : kvs.length + more.length ≤ sizeLine)
    (h : ∀ h' o', Fr h₀ L h' m → News h₀ L h' (g o') → o'.IsDictOf knd (merged kvs more) → Q .none { s with heap := h' }) :
    wpAny (model prog w) A (call (.builtin "dict.update") [.ref d, .ref o₂]) Q E s := by
  have hD₂ := kda_dict N hm₂ hd₂
  obtain ⟨pre, post, rfl, hg, a, b⟩ := U.split
  have hm := N (d, o) (List.mem_append_right _ (.head _))
  have hD : s.heap.DictOf knd d kvs := Heap.dictOf_iff.mpr ⟨o, hm.1, hd⟩
  refine call_meetsIn PySem.F.slot_dict_update hD.typeIs PySem.F.entry_dict_update (PySem.F.args_dict_update_2 _ _) (meets_dict_update knd d o₂ hne lo)
    ⟨kvs, more, hD, hD₂, hsz, fun h' hmm _ hs => ?_⟩
  obtain ⟨o', ho', hd'⟩ := Heap.dictOf_iff.mp hmm
  exact h h' o' (F.change hs hm.2.1 hm.2.2) (hg o' ▸ N.setIn a b hs ho') hd'
end
end
section
/-- what the law's source holds -/
noncomputable def SB (a b : Int) : Prop := 0 ≤ a ∧ 0 ≤ b ∧ b < 2147483648
theorem offL_ne {d : Addr} {p : Addr × Obj} {l : Led} (h : p.1 ≠ d) : offL d (p :: l) = p :: offL d l := by
  simp [offL, List.filter_cons, h]
theorem offL_self {d : Addr} {o : Obj} {l : Led} : offL d ((d, o) :: l) = offL d l := by
  simp [offL, List.filter_cons]
theorem offL_all {d : Addr} {l : Led} (h : ∀ p ∈ l, p.1 ≠ d) : offL d l = l := List.filter_eq_self.mpr fun p hp => by simpa using h p hp
theorem offL_app {d : Addr} {l l' : Led} : offL d (l ++ l') = offL d l ++ offL d l' := List.filter_append ..
theorem offL_off' {d : Addr} {l : Led} : ∀ p ∈ offL d l, p.1 ≠ d := offL_off
theorem listItemB {prog : Program} {w : World} {A : Around} {E : Value → Shared → Prop} {s : Shared} {h₀ : Heap} {L : Addr} {news : Led} {value slice : PySem.Expr} {l : Addr} {vs : List Value} {n : Nat} {k : Int} {u : Tok} {Q : Value → Shared → Prop}
    (N : News h₀ L s.heap news) (hm : (l, W.listOf vs.toArray n) ∈ news) (h0 : 0 ≤ k) (hlen : vs.length ≤ 1000) (hhi : k < (vs.length : Int)) (h : ∀ v (i : Nat), k = (i : Int) → vs[i]? = some v → Q v s)
    (hs : subscripted slice false (.ref l) (.int k u) = operate [.ref l, .int k u] (getItem (.ref l) (.int k u)) := by with_unfolding_all rfl) :
    wpAny (model prog w) A (subscriptTail value slice (.ref l) (.int k u)) Q E s := by
  have hlt : k.toNat < vs.length := by omega
  exact listItem N hm h0 (by omega) (List.getElem?_eq_getElem hlt) (h _ k.toNat (by omega) (List.getElem?_eq_getElem hlt)) hs
theorem addL {prog : Program} {w : World} {A : Around} {E : Value → Shared → Prop} {s : Shared} {h₀ : Heap} {L : Addr} {m : MV} {news : Led} {l b : Addr} {vs ws : List Value} {n k : Nat} {Q : Value → Shared → Prop} (F : Fr h₀ L s.heap m) (N : News h₀ L s.heap news) (hl : (l, W.listOf vs.toArray n) ∈ news) (hb : (b, W.listOf ws.toArray k) ∈ news)
    (hv : vs.length ≤ 1000) (hw : ws.length ≤ 1000)
    (h : ∀ D' h', Fr h₀ L h' m → News h₀ L h' ((D', W.listOf (vs ++ ws).toArray 0) :: news) → (∀ p ∈ news, p.1 < D') → Q (.ref D') { s with heap := h' }) :
    wpAny (model prog w) A (binaryOp .Add (.ref l) (.ref b)) Q E s :=
  add_lists F N (listIs N hl) (listIs N hb) (fun h' F' N' => h _ h' F' N' fun p hp => Heap.lt_size (N p hp).1) (by rw [sizeLine_eq]; omega)
end
section
/-- the law's own word of a value: a pair of its kind and what it tells -/
noncomputable def kindL : V → Str
  | .set _ => Str.ofString "set"
  | .num _ => Str.ofString "number"
  | .txt _ => Str.ofString "text"
  | .tru _ => Str.ofString "truth"
noncomputable def ToldAt (w : World) (news : Led) (D : TD) (u : Value) : V → Prop
  | .set xs => ListAt w news D u (xs.map fun p => V.txt p.2)
  | .num a => NumAt w news u a.1 a.2
  | .txt x => ∃ t, u = .str x t
  | .tru b => u = .bool b
noncomputable def OkV : V → Prop
  | .set xs => xs.length ≤ 10 ∧ ∀ p ∈ xs, p.2 ∈ menuT
  | .num a => a ∈ menuN
  | .txt x => x ∈ menuT
  | .tru _ => True
noncomputable def RepL (w : World) (news : Led) (D : TD) (v : Value) (X : V) : Prop := ∃ r t u, v = .ref r ∧ (r, tupO [.str (kindL X) t, u]) ∈ news ∧ ToldAt w news D u X ∧ OkV X
theorem ToldAt.mono {w : World} {news news' : Led} {D : TD} {u : Value} {X : V} (h : ToldAt w news D u X) (hs : ∀ p ∈ news, p ∈ news') : ToldAt w news' D u X := by
  cases X with
  | set xs => exact ListAt.mono h hs
  | num a => exact NumAt.mono h hs
  | txt x => exact h
  | tru b => exact h
theorem RepL.mono {w : World} {news news' : Led} {D : TD} {v : Value} {X : V} (h : RepL w news D v X) (hs : ∀ p ∈ news, p ∈ news') : RepL w news' D v X :=
  let ⟨r, t, u, e, hm, ht, ho⟩ := h; ⟨r, t, u, e, hs _ hm, ht.mono hs, ho⟩
theorem RepL.tail {w : World} {news : Led} {D : TD} {v : Value} {X : V} {p : Addr × Obj} (h : RepL w news D v X) : RepL w (p :: news) D v X := h.mono fun _ => List.mem_cons_of_mem _
theorem RepL.app {w : World} {news new : Led} {D : TD} {v : Value} {X : V} (h : RepL w news D v X) : RepL w (new ++ news) D v X := h.mono fun _ => List.mem_append_right _
theorem RepL.ok {w : World} {news : Led} {D : TD} {v : Value} {X : V} (h : RepL w news D v X) : OkV X := let ⟨_, _, _, _, _, _, ho⟩ := h; ho
theorem OkV.menu {X : V} (h : OkV X) : numV X ∈ menuN := by
  cases X with
  | set xs => exact numOf_menu _
  | num a => exact h
  | txt x => exact numOf_menu _
  | tru b => cases b <;> decide +kernel
end
section
/-- a goal at which the walk is to stop -/
noncomputable def Halt (P : Prop) : Prop := P
theorem Halt.go {P : Prop} (h : Halt P) : P := h
/-- ways that meet: what each of them leaves -/
noncomputable def Joined (h₀ : Heap) (L : Addr) (m : MV) (s : Shared) (base : Led) (R : Led → Value → Prop) (v : Value) (s' : Shared) : Prop :=
  ∃ h' tk' new, s' = { s with heap := h', toks := tk' } ∧ Fr h₀ L h' m ∧ News h₀ L h' (new ++ base) ∧ R (new ++ base) v
theorem joined {M : Model} {A : Around} {t : Sem Value} {Q E : Value → Shared → Prop} {h₀ : Heap} {L : Addr} {m : MV} {s : Shared} {base : Led} {R : Led → Value → Prop} (_ : Fr h₀ L s.heap m) (_ : News h₀ L s.heap base)
    (h : wpAny M A t (Joined h₀ L m s base R) E s) (k : ∀ v h' tk' new, Fr h₀ L h' m → News h₀ L h' (new ++ base) → R (new ++ base) v → Q v { s with heap := h', toks := tk' }) : wpAny M A t Q E s :=
  wpAny_mono h (fun v s' hj => by obtain ⟨h', tk', new, rfl, F, N, hR⟩ := hj; exact k v h' tk' new F N hR) fun _ _ e => e
theorem Joined.intro {h₀ : Heap} {L : Addr} {m : MV} {s : Shared} {base : Led} {R : Led → Value → Prop} {v : Value} {h' : Heap} {tk' : Nat} (new : Led) (F : Fr h₀ L h' m) (N : News h₀ L h' (new ++ base)) (hR : R (new ++ base) v) :
    Joined h₀ L m s base R v { s with heap := h', toks := tk' } := ⟨h', tk', new, rfl, F, N, hR⟩
noncomputable def RepsL (w : World) (news : Led) (D : TD) (vs : List Value) (Ys : List V) : Prop := vs.length = Ys.length ∧ ∀ (i : Nat) (v : Value) (Y : V), vs[i]? = some v → Ys[i]? = some Y → RepL w news D v Y
theorem RepsL.mono {w : World} {news news' : Led} {D : TD} {vs : List Value} {Ys : List V} (h : RepsL w news D vs Ys) (hs : ∀ p ∈ news, p ∈ news') : RepsL w news' D vs Ys := ⟨h.1, fun i v Y a b => (h.2 i v Y a b).mono hs⟩
theorem RepsL.nil {w : World} {news : Led} {D : TD} : RepsL w news D [] [] := ⟨rfl, fun i v Y a _ => by simp at a⟩
theorem RepsL.snoc {w : World} {news : Led} {D : TD} {vs : List Value} {Ys : List V} {v : Value} {Y : V} (h : RepsL w news D vs Ys) (hv : RepL w news D v Y) : RepsL w news D (vs ++ [v]) (Ys ++ [Y]) := by
  refine ⟨by simp [h.1], fun i u Z a b => ?_⟩
  rcases Nat.lt_trichotomy i vs.length with hlt | heq | hgt
  · rw [List.getElem?_append_left hlt] at a
    rw [List.getElem?_append_left (h.1 ▸ hlt)] at b
    exact h.2 i u Z a b
  · subst heq
    rw [List.getElem?_append_right (Nat.le_refl _), Nat.sub_self] at a
    rw [h.1, List.getElem?_append_right (Nat.le_refl _), Nat.sub_self] at b
    simp at a b
    subst a b
    exact hv
  · rw [List.getElem?_eq_none (by simp; omega)] at a
    cases a
theorem RepsL.one {w : World} {news : Led} {D : TD} {v : Value} {Y : V} (hv : RepL w news D v Y) : RepsL w news D [v] [Y] := RepsL.nil.snoc hv
theorem RepsL.at {w : World} {news : Led} {D : TD} {vs : List Value} {Ys : List V} (h : RepsL w news D vs Ys) {i : Nat} {v : Value} (hv : vs[i]? = some v) : ∃ Y, Ys[i]? = some Y ∧ RepL w news D v Y := by
  have hi : i < Ys.length := by
    rw [← h.1]
    exact (List.getElem?_eq_some_iff.mp hv).1
  exact ⟨Ys[i], List.getElem?_eq_getElem hi, h.2 i v _ hv (List.getElem?_eq_getElem hi)⟩
noncomputable def ListL (w : World) (news : Led) (D : TD) (v : Value) (Ys : List V) : Prop := ∃ l n vs, v = .ref l ∧ (l, W.listOf vs.toArray n) ∈ news ∧ RepsL w news D vs Ys ∧ vs.length ≤ 10
theorem ListL.mono {w : World} {news news' : Led} {D : TD} {v : Value} {Ys : List V} (h : ListL w news D v Ys) (hs : ∀ p ∈ news, p ∈ news') : ListL w news' D v Ys := let ⟨l, n, vs, e, hm, hr, hl⟩ := h; ⟨l, n, vs, e, hs _ hm, hr.mono hs, hl⟩
theorem ListL.tail {w : World} {news : Led} {D : TD} {v : Value} {Ys : List V} {p : Addr × Obj} (h : ListL w news D v Ys) : ListL w (p :: news) D v Ys := h.mono fun _ => List.mem_cons_of_mem _
theorem ListL.app {w : World} {news new : Led} {D : TD} {v : Value} {Ys : List V} (h : ListL w news D v Ys) : ListL w (new ++ news) D v Ys := h.mono fun _ => List.mem_append_right _
noncomputable def itemsV : V → List V
  | .set xs => xs.map fun p => V.txt p.2
  | X => [X]
noncomputable def dueV (op : Str) (X Y : V) : Bool :=
  if !isSet X && !isSet Y then plainV op X Y
  else if isTru X || isTru Y then plainV op (.tru (truthV X)) (.tru (truthV Y))
  else (itemsV X).any fun a => (itemsV Y).any fun b => plainV op a b
theorem itemsV_no {X : V} (h : isSet X = false) : itemsV X = [X] := by cases X <;> first | rfl | cases h
theorem repLTru {w : World} {news : Led} {D : TD} {r : Addr} {t : Tok} {b : Bool} (h : (r, tupO [.str (Str.ofString "truth") t, .bool b]) ∈ news) : RepL w news D (.ref r) (.tru b) := ⟨_, _, _, rfl, h, rfl, trivial⟩
end
section
section
variable {prog : Program} {w : World} {A : Around} {E : Value → Shared → Prop} {s : Shared} {env : Env} {h₀ : Heap} {x : Str} {body : List Stmt} {Q : Flow → Shared → Prop}
/-- a loop over a range: what holds of the ledger between its turns; the names that it stores -/
theorem rangeLed {L r : Addr} {a₀ b₀ : Int} {t₀ u₀ v₀ : Tok} {n : Nat} {m₀ : MV} {news : Led} (st : List Str) (J : Nat → Led → Prop) (hh : A.handled = none) (hr : IsRange s.heap r a₀ b₀ 1 t₀ u₀ v₀) (hsmall : Builtin.Range.small a₀ b₀ 1 = true) (hn : Builtin.Range.rangeSize a₀ b₀ 1 = (n : Int))
    (F : Fr h₀ L s.heap m₀) (hL : env.locals = L) (N : News h₀ L s.heap news) (hj : J 0 news)
    (turn : ∀ i k t (u : MV) nx h tk own, i < n → k = a₀ + (i : Int) → TbOff own nx → J i nx → Fr h₀ L h (fun y => if y = x then some (.int k t) else if st.contains y then u y else m₀ y) → News h₀ L h (nx ++ own) →
      wpAny (model prog w) A (execs body env) (TbPost h₀ L (fun m₁ nx' => (∀ z, st.contains z = false → m₁ z = m₀ z) ∧ J (i + 1) nx') own { s with heap := h, toks := tk } Q) E { s with heap := h, toks := tk })
    (done : ∀ (u : MV) nx h tk, J n nx → Fr h₀ L h (fun y => if st.contains y then u y else m₀ y) → News h₀ L h nx → Q .next { s with heap := h, toks := tk }) :
    wpAny (model prog w) A (pyIter (.ref r)) (fun it s₂ => LoopAtV prog w A h₀ env x body Q E it s₂) E s := by
  subst hL
  have ext : ∀ m₁ : MV, (∀ z, st.contains z = false → m₁ z = m₀ z) → m₁ = fun y => if st.contains y then m₁ y else m₀ y := fun m₁ hm => by
    funext z
    cases h : st.contains z with
    | true => simp
    | false => simp [hm z h]
  refine tbr_invG (fun i m₁ nx => (∀ z, st.contains z = false → m₁ z = m₀ z) ∧ J i nx) hh hr hsmall hn F N ⟨fun _ _ => rfl, hj⟩ ?_ ?_
  · rintro i k t m₁ nx h tk own hk hoff ⟨hm, hJ⟩ F₁ N₁
    have hb : i < n ∧ k = a₀ + (i : Int) := by
      rw [rangeKs, List.getElem?_map] at hk
      cases e : (List.range n)[i]? with
      | none => rw [e] at hk; cases hk
      | some j =>
        rw [e] at hk
        have h1 := List.getElem?_eq_some_iff.mp e
        obtain ⟨h2, h3⟩ := h1
        rw [List.getElem_range] at h3
        subst h3
        rw [List.length_range] at h2
        exact ⟨h2, (Option.some.inj hk).symm⟩
    have e : (fun y => if y = x then some (Value.int k t) else m₁ y) = fun y => if y = x then some (Value.int k t) else if st.contains y then m₁ y else m₀ y := by
      funext z
      by_cases hz : z = x
      · simp [hz]
      · simp only [if_neg hz]
        exact congrFun (ext m₁ hm) z
    rw [e] at F₁
    exact turn i k t m₁ nx h tk own hb.1 hb.2 hoff hJ F₁ N₁
  · rintro m₁ nx h tk ⟨hm, hJ⟩ F₁ N₁
    rw [ext m₁ hm] at F₁
    exact done m₁ nx h tk hJ F₁ N₁
end
theorem TbPost.next' {h₀ : Heap} {L : Addr} {J : MV → Led → Prop} {own news' nx : Led} {s₁ : Shared} {Q : Flow → Shared → Prop} {h' : Heap} {tk : Nat} {m' : MV} (F : Fr h₀ L h' m') (N : News h₀ L h' news') (h1 : ∀ p ∈ nx, p ∈ news') (h2 : ∀ p ∈ own, p ∈ news') (ho : TbOff own nx) (hJ : J m' nx) :
    TbPost h₀ L J own s₁ Q .next { s₁ with heap := h', toks := tk } := ⟨h', tk, m', news', nx, rfl, F, N, h1, h2, ho, hJ⟩
theorem keepC {st : List Str} {x : Str} {v : Option Value} {m' m₀ : MV} (hx : st.contains x = true) (h : ∀ z, st.contains z = false → m' z = m₀ z) : ∀ z, st.contains z = false → (fun y => if y = x then v else m' y) z = m₀ z := fun z hz => by
  have : z ≠ x := fun e => by rw [e, hx] at hz; cases hz
  simp only [if_neg this]
  exact h z hz
theorem keepI {st : List Str} {u m₀ : MV} : ∀ z, st.contains z = false → (fun y => if st.contains y then u y else m₀ y) z = m₀ z := fun z hz => by
  simp only [hz]
  rfl
theorem keepS {st st' : List Str} {u m' m₀ : MV} (hs : ∀ z, st'.contains z = true → st.contains z = true) (h : ∀ z, st.contains z = false → m' z = m₀ z) : ∀ z, st.contains z = false → (fun y => if st'.contains y then u y else m' y) z = m₀ z := fun z hz => by
  have : st'.contains z = false := by
    cases e : st'.contains z with
    | false => rfl
    | true => rw [hs z e] at hz; cases hz
  simp only [this]
  exact h z hz
end
section
theorem well_said : PySem.Challenge.rw_nu0045_01.wellSaid = true := by
  unfold OpenLaw.wellSaid
  repeat' (with_reducible refine look_both ?_ ?_)
  all_goals decide +kernel
end
section
theorem take_sp (w : World) (mean : ExcName → Option Value) (mg mb : MV) (rest : Led) (src : Addr) (a b top : Int) (t1 t2 tt : Tok) (n : Nat) (hoff : ∀ p ∈ rest, p.1 ≠ src) (ha : 0 ≤ a) (hb : 0 ≤ b) (hb2 : b < 2147483648) (ht : 0 < top) (ht2 : top < 1073741824) :
   Sp w mean mg mb 450 [.ref src, .int top tt] 2 8 ((src, srcO a b t1 t2 n) :: rest) (fun news' v => ∃ a' b' r t1 t2 tr n, news' = (src, srcO a' b' t1 t2 n) :: rest ∧ v = .int r tr ∧ 0 ≤ a' ∧ 0 ≤ b' ∧ b' < 2147483648 ∧ 0 ≤ r ∧ r < top) := by
  intro dp un gd cn cs aa ccd cl outer A₀ base h₀ L m s Q E B F X N T hk hd hu hret
  refine wpAny_call ?_
  k_dflt ktr_enter
  (repeat' (first | (k_unfold; (try dsimp only)) | (k_end; wrow_close) | (k_here; (with_reducible show wpAny _ _ (subscriptTail (PySem.Expr.Name ..) _ (Value.ref _) (Value.int _ _)) _ _ _); (with_reducible refine' listItem (by k_dflt (k_asm)) (by k_dflt (k_mem)) (by k_dflt (decide)) (by k_dflt (decide)) (by k_dflt (exact rfl)) ?_)) | (k_here; (with_reducible show wpAny _ _ (subscriptTail (PySem.Expr.Name ..) _ (Value.ref _) (Value.int _ _)) _ _ _); (with_reducible refine' item_tupleT (by k_dflt (exact heldTup (by k_asm) (by k_asm) (by k_asm) (by ktr_rel))) (by k_dflt (decide)) (by k_dflt (decide)) (by k_dflt (rfl)) (by k_dflt (rfl)) ?_); k_dflt (k_whole)) | walk1 | (dsimp only; walk1) | (dsimp only; with_reducible show wpAny _ _ _ _ _ _) | (leave1; (try dsimp only)) | fail "no step"))
  all_goals (simp only [Int.toNat_zero, Int.toNat_one, List.getD_cons_zero, List.getD_cons_succ] at *)
  all_goals (
    (have e1 := fm1 (b * 39373 + 7)); (have e2 := fm2 ((b * 39373 + 7).fmod 2147483647 * (b * 39373 + 7).fmod 2147483647))
    (refine hret _ _ _ _ (by k_asm) (by k_asm) ⟨_, _, _, _, _, _, _, rfl, rfl, ?_, ?_, ?_, ?_, ?_⟩) <;> clear hret <;>
    first | omega | exact Int.fdiv_nonneg ha (Int.le_of_lt ht) | exact Int.fmod_nonneg_of_pos _ ht | exact Int.fmod_lt_of_pos _ ht)
end
section
theorem is_nan_sp (w : World) (mean : ExcName → Option Value) (mg mb : MV) (news : Led) (v : Value) (x y : Int) (hm : NumAt w news v x y) :
   Sp w mean mg mb 51 [v] 2 8 news (fun news' v => news' = news ∧ v = .bool (x == 0 && y == 0)) := by
  intro dp un gd cn cs aa ccd cl outer A₀ base h₀ L m s Q E B F X N T hk hd hu hret
  obtain ⟨r, t1, t2, rfl, hm⟩ := hm
  refine wpAny_call ?_
  k_dflt ktr_enter
  (repeat' (first | (k_unfold; (try dsimp only)) | (k_end; wrow_close) | (k_here; first | ((with_reducible show wpAny _ _ (eval (Expr.Call (Expr.Name _ _) [Expr.Name _ _] [] _) _) _ _ _); k_dflt (refine' bigCall1 (by k_asm) (by k_asm) (by k_asm) (by k_is) (by k_is) (by rfl) ?_; k_whole)) | ((with_reducible show wpAny _ _ (eval (Expr.Call (Expr.Name _ _) [Expr.Name _ _, Expr.Name _ _] [] _) _) _ _ _); k_dflt (refine' bigCall2 (by k_asm) (by k_asm) (by k_asm) (by k_is) (by k_is) (by rfl) (by rfl) ?_; k_whole)) | ((with_reducible show wpAny _ _ (eval (Expr.Call (Expr.Name _ _) [Expr.Name _ _, Expr.Name _ _, Expr.Name _ _] [] _) _) _ _ _); k_dflt (refine' bigCall3 (by k_asm) (by k_asm) (by k_asm) (by k_is) (by k_is) (by rfl) (by rfl) (by rfl) ?_; k_whole)) | ((with_reducible show wpAny _ _ (eval (Expr.Call (Expr.Name _ _) [Expr.Name _ _, Expr.Name _ _, Expr.Name _ _, Expr.Name _ _] [] _) _) _ _ _); k_dflt (refine' bigCall4 (by k_asm) (by k_asm) (by k_asm) (by k_is) (by k_is) (by rfl) (by rfl) (by rfl) (by rfl) ?_; k_whole))) | (k_here; (with_reducible show wpAny _ _ (subscriptTail (PySem.Expr.Name ..) _ (Value.ref _) (Value.int _ _)) _ _ _); (with_reducible refine' listItem (by k_dflt (k_asm)) (by k_dflt (k_mem)) (by k_dflt (decide)) (by k_dflt (decide)) (by k_dflt (exact rfl)) ?_)) | (k_here; (with_reducible show wpAny _ _ (subscriptTail (PySem.Expr.Name ..) _ (Value.ref _) (Value.int _ _)) _ _ _); (with_reducible refine' item_tupleT (by k_dflt (exact heldTup (by k_asm) (by k_asm) (by k_asm) (by ktr_rel))) (by k_dflt (decide)) (by k_dflt (decide)) (by k_dflt (rfl)) (by k_dflt (rfl)) ?_); k_dflt (k_whole)) | walk1 | (dsimp only; walk1) | (dsimp only; with_reducible show wpAny _ _ _ _ _ _) | (leave1; (try dsimp only)) | fail "no step"))
  all_goals (refine hret _ _ _ _ (by k_asm) (by k_asm) ⟨rfl, ?_⟩)
  all_goals (simp_all)
theorem negated_sp (w : World) (mean : ExcName → Option Value) (mg mb : MV) (news : Led) (v : Value) (x y : Int) (hm : NumAt w news v x y) :
   Sp w mean mg mb 58 [v] 2 8 news (fun news' v => ∃ p, news' = p :: news ∧ NumAt w (p :: news) v (-x) y) := by
  intro dp un gd cn cs aa ccd cl outer A₀ base h₀ L m s Q E B F X N T hk hd hu hret
  obtain ⟨r, t1, t2, rfl, hm⟩ := hm
  refine wpAny_call ?_
  k_dflt ktr_enter
  (repeat' (first | (k_unfold; (try dsimp only)) | (k_end; wrow_close) | (k_here; first | ((with_reducible show wpAny _ _ (eval (Expr.Call (Expr.Name _ _) [Expr.Name _ _] [] _) _) _ _ _); k_dflt (refine' bigCall1 (by k_asm) (by k_asm) (by k_asm) (by k_is) (by k_is) (by rfl) ?_; k_whole)) | ((with_reducible show wpAny _ _ (eval (Expr.Call (Expr.Name _ _) [Expr.Name _ _, Expr.Name _ _] [] _) _) _ _ _); k_dflt (refine' bigCall2 (by k_asm) (by k_asm) (by k_asm) (by k_is) (by k_is) (by rfl) (by rfl) ?_; k_whole)) | ((with_reducible show wpAny _ _ (eval (Expr.Call (Expr.Name _ _) [Expr.Name _ _, Expr.Name _ _, Expr.Name _ _] [] _) _) _ _ _); k_dflt (refine' bigCall3 (by k_asm) (by k_asm) (by k_asm) (by k_is) (by k_is) (by rfl) (by rfl) (by rfl) ?_; k_whole)) | ((with_reducible show wpAny _ _ (eval (Expr.Call (Expr.Name _ _) [Expr.Name _ _, Expr.Name _ _, Expr.Name _ _, Expr.Name _ _] [] _) _) _ _ _); k_dflt (refine' bigCall4 (by k_asm) (by k_asm) (by k_asm) (by k_is) (by k_is) (by rfl) (by rfl) (by rfl) (by rfl) ?_; k_whole))) | (k_here; (with_reducible show wpAny _ _ (subscriptTail (PySem.Expr.Name ..) _ (Value.ref _) (Value.int _ _)) _ _ _); (with_reducible refine' listItem (by k_dflt (k_asm)) (by k_dflt (k_mem)) (by k_dflt (decide)) (by k_dflt (decide)) (by k_dflt (exact rfl)) ?_)) | (k_here; (with_reducible show wpAny _ _ (subscriptTail (PySem.Expr.Name ..) _ (Value.ref _) (Value.int _ _)) _ _ _); (with_reducible refine' item_tupleT (by k_dflt (exact heldTup (by k_asm) (by k_asm) (by k_asm) (by ktr_rel))) (by k_dflt (decide)) (by k_dflt (decide)) (by k_dflt (rfl)) (by k_dflt (rfl)) ?_); k_dflt (k_whole)) | walk1 | (dsimp only; walk1) | (dsimp only; with_reducible show wpAny _ _ _ _ _ _) | (leave1; (try dsimp only)) | fail "no step"))
  all_goals (exact hret _ _ _ _ (by k_asm) (by k_asm) ⟨_, rfl, _, _, _, rfl, .inl (.head _)⟩)
theorem sign_of_sp (w : World) (mean : ExcName → Option Value) (mg mb : MV) (news : Led) (n : Int) (t : Tok) : Sp w mean mg mb 36 [.int n t] 2 8 news (fun news' v => news' = news ∧ ∃ t, v = .int (sgn n) t) := by
  intro dp un gd cn cs a ccd cl outer A₀ base h₀ L m s Q E B F X N T hk hd hu hret
  refine wpAny_call ?_
  k_dflt ktr_enter
  (repeat' (first | (k_unfold; (try dsimp only)) | (k_end; wrow_close) | (k_here; first | ((with_reducible show wpAny _ _ (eval (Expr.Call (Expr.Name _ _) [Expr.Name _ _] [] _) _) _ _ _); k_dflt (refine' bigCall1 (by k_asm) (by k_asm) (by k_asm) (by k_is) (by k_is) (by rfl) ?_; k_whole)) | ((with_reducible show wpAny _ _ (eval (Expr.Call (Expr.Name _ _) [Expr.Name _ _, Expr.Name _ _] [] _) _) _ _ _); k_dflt (refine' bigCall2 (by k_asm) (by k_asm) (by k_asm) (by k_is) (by k_is) (by rfl) (by rfl) ?_; k_whole)) | ((with_reducible show wpAny _ _ (eval (Expr.Call (Expr.Name _ _) [Expr.Name _ _, Expr.Name _ _, Expr.Name _ _] [] _) _) _ _ _); k_dflt (refine' bigCall3 (by k_asm) (by k_asm) (by k_asm) (by k_is) (by k_is) (by rfl) (by rfl) (by rfl) ?_; k_whole)) | ((with_reducible show wpAny _ _ (eval (Expr.Call (Expr.Name _ _) [Expr.Name _ _, Expr.Name _ _, Expr.Name _ _, Expr.Name _ _] [] _) _) _ _ _); k_dflt (refine' bigCall4 (by k_asm) (by k_asm) (by k_asm) (by k_is) (by k_is) (by rfl) (by rfl) (by rfl) (by rfl) ?_; k_whole))) | (k_here; (with_reducible show wpAny _ _ (subscriptTail (PySem.Expr.Name ..) _ (Value.ref _) (Value.int _ _)) _ _ _); (with_reducible refine' listItem (by k_dflt (k_asm)) (by k_dflt (k_mem)) (by k_dflt (decide)) (by k_dflt (decide)) (by k_dflt (exact rfl)) ?_)) | (k_here; (with_reducible show wpAny _ _ (subscriptTail (PySem.Expr.Name ..) _ (Value.ref _) (Value.int _ _)) _ _ _); (with_reducible refine' item_tupleT (by k_dflt (exact heldTup (by k_asm) (by k_asm) (by k_asm) (by ktr_rel))) (by k_dflt (decide)) (by k_dflt (decide)) (by k_dflt (rfl)) (by k_dflt (rfl)) ?_); k_dflt (k_whole)) | walk1 | (dsimp only; walk1) | (dsimp only; with_reducible show wpAny _ _ _ _ _ _) | (leave1; (try dsimp only)) | fail "no step"))
  all_goals (exact hret _ _ _ _ (by k_asm) (by k_asm) ⟨rfl, intv _ (by unfold sgn; (repeat' split) <;> omega)⟩)
theorem order_of_sp (w : World) (mean : ExcName → Option Value) (mg mb : MV) (news : Led) (va vb : Value) (a b : Int × Int) (hma : NumAt w news va a.1 a.2) (hmb : NumAt w news vb b.1 b.2) 
   (ha : a.1.natAbs ≤ 1000 ∧ a.2.natAbs ≤ 1000) (hb : b.1.natAbs ≤ 1000 ∧ b.2.natAbs ≤ 1000) :
   Sp w mean mg mb 65 [va, vb] 4 16 news (fun news' v => news' = news ∧ ∃ t, v = .int (orderZ a b) t) := by
  intro dp un gd cn cs aa ccd cl outer A₀ base h₀ L m s Q E B F X N T hk hd hu hret
  obtain ⟨a1, a2⟩ := a
  obtain ⟨b1, b2⟩ := b
  obtain ⟨ra, ta1, ta2, rfl, hma⟩ := hma
  obtain ⟨rb, tb1, tb2, rfl, hmb⟩ := hmb
  refine wpAny_call ?_
  k_dflt ktr_enter
  (repeat' (first | (k_unfold; (try dsimp only)) | (k_end; wrow_close) | ((with_reducible show wpAny _ _ (PySem.call (Value.ref _) _) _ _ _); first | (k_here; (with_reducible show wpAny _ _ (PySem.call (Value.ref 36) _) _ _ _); k_dflt ((refine' useB (C := (sign_of_sp _ _ _ _ _ _ _)) (h := ?_); intro _ _ _ _ _; (try k_sweep); (try dsimp only)))) | fail) | (k_here; first | ((with_reducible show wpAny _ _ (eval (Expr.Call (Expr.Name _ _) [Expr.Name _ _] [] _) _) _ _ _); k_dflt (refine' bigCall1 (by k_asm) (by k_asm) (by k_asm) (by k_is) (by k_is) (by rfl) ?_; k_whole)) | ((with_reducible show wpAny _ _ (eval (Expr.Call (Expr.Name _ _) [Expr.Name _ _, Expr.Name _ _] [] _) _) _ _ _); k_dflt (refine' bigCall2 (by k_asm) (by k_asm) (by k_asm) (by k_is) (by k_is) (by rfl) (by rfl) ?_; k_whole)) | ((with_reducible show wpAny _ _ (eval (Expr.Call (Expr.Name _ _) [Expr.Name _ _, Expr.Name _ _, Expr.Name _ _] [] _) _) _ _ _); k_dflt (refine' bigCall3 (by k_asm) (by k_asm) (by k_asm) (by k_is) (by k_is) (by rfl) (by rfl) (by rfl) ?_; k_whole)) | ((with_reducible show wpAny _ _ (eval (Expr.Call (Expr.Name _ _) [Expr.Name _ _, Expr.Name _ _, Expr.Name _ _, Expr.Name _ _] [] _) _) _ _ _); k_dflt (refine' bigCall4 (by k_asm) (by k_asm) (by k_asm) (by k_is) (by k_is) (by rfl) (by rfl) (by rfl) (by rfl) ?_; k_whole))) | (k_here; (with_reducible show wpAny _ _ (subscriptTail (PySem.Expr.Name ..) _ (Value.ref _) (Value.int _ _)) _ _ _); (with_reducible refine' listItem (by k_dflt (k_asm)) (by k_dflt (k_mem)) (by k_dflt (decide)) (by k_dflt (decide)) (by k_dflt (exact rfl)) ?_)) | (k_here; (with_reducible show wpAny _ _ (subscriptTail (PySem.Expr.Name ..) _ (Value.ref _) (Value.int _ _)) _ _ _); (with_reducible refine' item_tupleT (by k_dflt (exact heldTup (by k_asm) (by k_asm) (by k_asm) (by ktr_rel))) (by k_dflt (decide)) (by k_dflt (decide)) (by k_dflt (rfl)) (by k_dflt (rfl)) ?_); k_dflt (k_whole)) | walk1 | (dsimp only; walk1) | (dsimp only; with_reducible show wpAny _ _ _ _ _ _) | (leave1; (try dsimp only)) | fail "no step"))
  all_goals (exact hret _ _ _ _ (by k_asm) (by k_asm) ⟨rfl, intv _ (by clear hret; simp only [orderZ]; (repeat' split) <;> (first | rfl | (simp_all; done) | (exfalso; simp_all; done) | (exfalso; omega)))⟩)
theorem compared_numbers_sp (w : World) (mean : ExcName → Option Value) (mg mb : MV) (news : Led) (op : Str) (top : Tok) (va vb : Value) (a b : Int × Int) (hma : NumAt w news va a.1 a.2) (hmb : NumAt w news vb b.1 b.2) 
   (ha : a.1.natAbs ≤ 1000 ∧ a.2.natAbs ≤ 1000) (hb : b.1.natAbs ≤ 1000 ∧ b.2.natAbs ≤ 1000) :
   Sp w mean mg mb 72 [.str op top, va, vb] 6 24 news (fun news' v => news' = news ∧ v = .bool (cmpNum op a b)) := by
  intro dp un gd cn cs aa ccd cl outer A₀ base h₀ L m s Q E B F X N T hk hd hu hret
  refine wpAny_call ?_
  k_dflt ktr_enter
  (repeat' (first | (k_unfold; (try dsimp only)) | (k_end; wrow_close) | ((with_reducible show wpAny _ _ (PySem.call (Value.ref _) _) _ _ _); first | (k_here; (with_reducible show wpAny _ _ (PySem.call (Value.ref 65) _) _ _ _); k_dflt ((refine' useB (C := (order_of_sp _ _ _ _ _ _ _ _ _ (by ktr_rel) (by ktr_rel) (by assumption) (by assumption))) (h := ?_); intro _ _ _ _ _; (try k_sweep); (try dsimp only)))) | (k_here; (with_reducible show wpAny _ _ (PySem.call (Value.ref 51) _) _ _ _); k_dflt ((refine' useA (C := (is_nan_sp _ _ _ _ _ _ _ _ (by ktr_rel))) (h := ?_); intro _ _ _ _; (try k_sweep); (try dsimp only)))) | (k_here; (with_reducible show wpAny _ _ (PySem.call (Value.ref 36) _) _ _ _); k_dflt ((refine' useB (C := (sign_of_sp _ _ _ _ _ _ _)) (h := ?_); intro _ _ _ _ _; (try k_sweep); (try dsimp only)))) | fail) | (k_here; first | ((with_reducible show wpAny _ _ (eval (Expr.Call (Expr.Name _ _) [Expr.Name _ _] [] _) _) _ _ _); k_dflt (refine' bigCall1 (by k_asm) (by k_asm) (by k_asm) (by k_is) (by k_is) (by rfl) ?_; k_whole)) | ((with_reducible show wpAny _ _ (eval (Expr.Call (Expr.Name _ _) [Expr.Name _ _, Expr.Name _ _] [] _) _) _ _ _); k_dflt (refine' bigCall2 (by k_asm) (by k_asm) (by k_asm) (by k_is) (by k_is) (by rfl) (by rfl) ?_; k_whole)) | ((with_reducible show wpAny _ _ (eval (Expr.Call (Expr.Name _ _) [Expr.Name _ _, Expr.Name _ _, Expr.Name _ _] [] _) _) _ _ _); k_dflt (refine' bigCall3 (by k_asm) (by k_asm) (by k_asm) (by k_is) (by k_is) (by rfl) (by rfl) (by rfl) ?_; k_whole)) | ((with_reducible show wpAny _ _ (eval (Expr.Call (Expr.Name _ _) [Expr.Name _ _, Expr.Name _ _, Expr.Name _ _, Expr.Name _ _] [] _) _) _ _ _); k_dflt (refine' bigCall4 (by k_asm) (by k_asm) (by k_asm) (by k_is) (by k_is) (by rfl) (by rfl) (by rfl) (by rfl) ?_; k_whole))) | (k_here; (with_reducible show wpAny _ _ (subscriptTail (PySem.Expr.Name ..) _ (Value.ref _) (Value.int _ _)) _ _ _); (with_reducible refine' listItem (by k_dflt (k_asm)) (by k_dflt (k_mem)) (by k_dflt (decide)) (by k_dflt (decide)) (by k_dflt (exact rfl)) ?_)) | (k_here; (with_reducible show wpAny _ _ (subscriptTail (PySem.Expr.Name ..) _ (Value.ref _) (Value.int _ _)) _ _ _); (with_reducible refine' item_tupleT (by k_dflt (exact heldTup (by k_asm) (by k_asm) (by k_asm) (by ktr_rel))) (by k_dflt (decide)) (by k_dflt (decide)) (by k_dflt (rfl)) (by k_dflt (rfl)) ?_); k_dflt (k_whole)) | walk1 | (dsimp only; walk1) | (dsimp only; with_reducible show wpAny _ _ _ _ _ _) | (leave1; (try dsimp only)) | fail "no step"))
  all_goals (exact hret _ _ _ _ (by k_asm) (by k_asm) ⟨rfl, boov (by clear hret hma hmb B F X N T hk hd hu ha hb; first | (simp only [cmpNum, nanB, *]; done) | (simp only [cmpNum, nanB, *]; rfl) | (simp only [cmpNum, nanB, *]; simp; done))⟩)
theorem is_equality_sp (w : World) (mean : ExcName → Option Value) (mg mb : MV) (news : Led) (op : Str) (top : Tok) :
   Sp w mean mg mb 148 [.str op top] 2 8 news (fun news' v => news' = news ∧ v = .bool (op == Str.ofString "=" || op == Str.ofString "!=")) := by
  intro dp un gd cn cs aa ccd cl outer A₀ base h₀ L m s Q E B F X N T hk hd hu hret
  refine wpAny_call ?_
  k_dflt ktr_enter
  (repeat' (first | (k_unfold; (try dsimp only)) | (k_end; wrow_close) | ((with_reducible show wpAny _ _ (PySem.call (Value.ref _) _) _ _ _); first | (k_here; (with_reducible show wpAny _ _ (PySem.call (Value.ref 65) _) _ _ _); k_dflt ((refine' useB (C := (order_of_sp _ _ _ _ _ _ _ _ _ (by ktr_rel) (by ktr_rel) (by assumption) (by assumption))) (h := ?_); intro _ _ _ _ _; (try k_sweep); (try dsimp only)))) | (k_here; (with_reducible show wpAny _ _ (PySem.call (Value.ref 51) _) _ _ _); k_dflt ((refine' useA (C := (is_nan_sp _ _ _ _ _ _ _ _ (by ktr_rel))) (h := ?_); intro _ _ _ _; (try k_sweep); (try dsimp only)))) | (k_here; (with_reducible show wpAny _ _ (PySem.call (Value.ref 36) _) _ _ _); k_dflt ((refine' useB (C := (sign_of_sp _ _ _ _ _ _ _)) (h := ?_); intro _ _ _ _ _; (try k_sweep); (try dsimp only)))) | fail) | (k_here; first | ((with_reducible show wpAny _ _ (eval (Expr.Call (Expr.Name _ _) [Expr.Name _ _] [] _) _) _ _ _); k_dflt (refine' bigCall1 (by k_asm) (by k_asm) (by k_asm) (by k_is) (by k_is) (by rfl) ?_; k_whole)) | ((with_reducible show wpAny _ _ (eval (Expr.Call (Expr.Name _ _) [Expr.Name _ _, Expr.Name _ _] [] _) _) _ _ _); k_dflt (refine' bigCall2 (by k_asm) (by k_asm) (by k_asm) (by k_is) (by k_is) (by rfl) (by rfl) ?_; k_whole)) | ((with_reducible show wpAny _ _ (eval (Expr.Call (Expr.Name _ _) [Expr.Name _ _, Expr.Name _ _, Expr.Name _ _] [] _) _) _ _ _); k_dflt (refine' bigCall3 (by k_asm) (by k_asm) (by k_asm) (by k_is) (by k_is) (by rfl) (by rfl) (by rfl) ?_; k_whole)) | ((with_reducible show wpAny _ _ (eval (Expr.Call (Expr.Name _ _) [Expr.Name _ _, Expr.Name _ _, Expr.Name _ _, Expr.Name _ _] [] _) _) _ _ _); k_dflt (refine' bigCall4 (by k_asm) (by k_asm) (by k_asm) (by k_is) (by k_is) (by rfl) (by rfl) (by rfl) (by rfl) ?_; k_whole))) | (k_here; (with_reducible show wpAny _ _ (subscriptTail (PySem.Expr.Name ..) _ (Value.ref _) (Value.int _ _)) _ _ _); (with_reducible refine' listItem (by k_dflt (k_asm)) (by k_dflt (k_mem)) (by k_dflt (decide)) (by k_dflt (decide)) (by k_dflt (exact rfl)) ?_)) | (k_here; (with_reducible show wpAny _ _ (subscriptTail (PySem.Expr.Name ..) _ (Value.ref _) (Value.int _ _)) _ _ _); (with_reducible refine' item_tupleT (by k_dflt (exact heldTup (by k_asm) (by k_asm) (by k_asm) (by ktr_rel))) (by k_dflt (decide)) (by k_dflt (decide)) (by k_dflt (rfl)) (by k_dflt (rfl)) ?_); k_dflt (k_whole)) | walk1 | (dsimp only; walk1) | (dsimp only; with_reducible show wpAny _ _ _ _ _ _) | (leave1; (try dsimp only)) | fail "no step"))
  all_goals (exact hret _ _ _ _ (by k_asm) (by k_asm) ⟨rfl, boov (by clear hret; simp_all)⟩)
theorem compared_texts_sp (w : World) (mean : ExcName → Option Value) (mg mb : MV) (news : Led) (op x y : Str) (top tx ty : Tok) :
   Sp w mean mg mb 155 [.str op top, .str x tx, .str y ty] 2 8 news (fun news' v => news' = news ∧ v = .bool ((x == y) == (op == Str.ofString "="))) := by
  intro dp un gd cn cs aa ccd cl outer A₀ base h₀ L m s Q E B F X N T hk hd hu hret
  refine wpAny_call ?_
  k_dflt ktr_enter
  (repeat' (first | (k_unfold; (try dsimp only)) | (k_end; wrow_close) | ((with_reducible show wpAny _ _ (PySem.call (Value.ref _) _) _ _ _); first | (k_here; (with_reducible show wpAny _ _ (PySem.call (Value.ref 65) _) _ _ _); k_dflt ((refine' useB (C := (order_of_sp _ _ _ _ _ _ _ _ _ (by ktr_rel) (by ktr_rel) (by assumption) (by assumption))) (h := ?_); intro _ _ _ _ _; (try k_sweep); (try dsimp only)))) | (k_here; (with_reducible show wpAny _ _ (PySem.call (Value.ref 51) _) _ _ _); k_dflt ((refine' useA (C := (is_nan_sp _ _ _ _ _ _ _ _ (by ktr_rel))) (h := ?_); intro _ _ _ _; (try k_sweep); (try dsimp only)))) | (k_here; (with_reducible show wpAny _ _ (PySem.call (Value.ref 36) _) _ _ _); k_dflt ((refine' useB (C := (sign_of_sp _ _ _ _ _ _ _)) (h := ?_); intro _ _ _ _ _; (try k_sweep); (try dsimp only)))) | fail) | (k_here; first | ((with_reducible show wpAny _ _ (eval (Expr.Call (Expr.Name _ _) [Expr.Name _ _] [] _) _) _ _ _); k_dflt (refine' bigCall1 (by k_asm) (by k_asm) (by k_asm) (by k_is) (by k_is) (by rfl) ?_; k_whole)) | ((with_reducible show wpAny _ _ (eval (Expr.Call (Expr.Name _ _) [Expr.Name _ _, Expr.Name _ _] [] _) _) _ _ _); k_dflt (refine' bigCall2 (by k_asm) (by k_asm) (by k_asm) (by k_is) (by k_is) (by rfl) (by rfl) ?_; k_whole)) | ((with_reducible show wpAny _ _ (eval (Expr.Call (Expr.Name _ _) [Expr.Name _ _, Expr.Name _ _, Expr.Name _ _] [] _) _) _ _ _); k_dflt (refine' bigCall3 (by k_asm) (by k_asm) (by k_asm) (by k_is) (by k_is) (by rfl) (by rfl) (by rfl) ?_; k_whole)) | ((with_reducible show wpAny _ _ (eval (Expr.Call (Expr.Name _ _) [Expr.Name _ _, Expr.Name _ _, Expr.Name _ _, Expr.Name _ _] [] _) _) _ _ _); k_dflt (refine' bigCall4 (by k_asm) (by k_asm) (by k_asm) (by k_is) (by k_is) (by rfl) (by rfl) (by rfl) (by rfl) ?_; k_whole))) | (k_here; (with_reducible show wpAny _ _ (subscriptTail (PySem.Expr.Name ..) _ (Value.ref _) (Value.int _ _)) _ _ _); (with_reducible refine' listItem (by k_dflt (k_asm)) (by k_dflt (k_mem)) (by k_dflt (decide)) (by k_dflt (decide)) (by k_dflt (exact rfl)) ?_)) | (k_here; (with_reducible show wpAny _ _ (subscriptTail (PySem.Expr.Name ..) _ (Value.ref _) (Value.int _ _)) _ _ _); (with_reducible refine' item_tupleT (by k_dflt (exact heldTup (by k_asm) (by k_asm) (by k_asm) (by ktr_rel))) (by k_dflt (decide)) (by k_dflt (decide)) (by k_dflt (rfl)) (by k_dflt (rfl)) ?_); k_dflt (k_whole)) | walk1 | (dsimp only; walk1) | (dsimp only; with_reducible show wpAny _ _ _ _ _ _) | (leave1; (try dsimp only)) | fail "no step"))
  all_goals (exact hret _ _ _ _ (by k_asm) (by k_asm) ⟨rfl, boov (by clear hret; simp_all)⟩)
end
section
theorem row_sp (w : World) (mean : ExcName → Option Value) (mg mb : MV) (news : Led) (t : Addr) (D : TD) (i : Nat) (R : RD) (ti : Tok) (hT : TreeAt w news t D) (hi : D.rows[i]? = some R) (hl : D.rows.length ≤ 1000) :
   Sp w mean mg mb 275 [.ref t, .int i ti] 2 8 news (fun news' v => news' = news ∧ v = .ref R.r) := by
  intro dp un gd cn cs aa ccd cl outer A₀ base h₀ L m s Q E B F X N T hk hd hu hret
  refine an4 hT fun m1 m2 m3 m4 => ?_
  clear hT
  have hx : (D.rows.map fun R => Value.ref R.r)[((i : Nat) : Int).toNat]? = some (.ref R.r) := by simp [hi]
  have hlt : i < D.rows.length := (List.getElem?_eq_some_iff.mp hi).1
  refine wpAny_call ?_
  k_dflt ktr_enter
  (repeat' (first | (k_unfold; (try dsimp only)) | (k_end; wrow_close) | (k_here; (with_reducible show wpAny _ _ (callWith _ (Value.builtin _) [_] _ _) _ _ _); (with_reducible refine' callWith_method1 ?_ (by k_dflt (rfl)) (by k_dflt (rfl)))) | (k_here; (with_reducible show wpAny _ _ (PySem.call (Value.type _) [Value.ref _]) _ _ _); k_dflt (refine' list_copyK (by k_asm) (by k_asm) (by exact listIs (by k_asm) (by k_mem)) ?_ (by exact sizeOK (by assumption)); k_whole); intro _ _ _ _ _ _; (try k_sweep)) | (k_here; (with_reducible show wpAny _ _ (subscriptTail (PySem.Expr.Attribute ..) _ (Value.ref _) (Value.int _ _)) _ _ _); (with_reducible refine' listItem (by k_dflt (k_asm)) (by k_dflt (k_mem)) (by k_dflt (omega)) (by k_dflt (omega)) (by k_dflt (assumption)) ?_)) | (k_here; (with_reducible show wpAny _ _ (PySem.call (Value.builtin "len") [Value.ref _]) _ _ _); (with_reducible refine' kst_len (by k_dflt (k_asm)) (by k_dflt (k_mem)) (List.length_map _) (by k_dflt (omega)) ?_)) | walk1 | (dsimp only; walk1) | (dsimp only; with_reducible show wpAny _ _ _ _ _ _) | (leave1; (try dsimp only)) | fail "no step"))
  all_goals (exact hret _ _ _ _ (by k_asm) (by k_asm) ⟨rfl, rfl⟩)
theorem kind_sp (w : World) (mean : ExcName → Option Value) (mg mb : MV) (news : Led) (t : Addr) (D : TD) (i : Nat) (R : RD) (ti : Tok) (hT : TreeAt w news t D) (hi : D.rows[i]? = some R) (hl : D.rows.length ≤ 1000) :
   Sp w mean mg mb 352 [.ref t, .int i ti] 4 16 news (fun news' v => news' = news ∧ v = .str R.kind R.tk) := by
  intro dp un gd cn cs aa ccd cl outer A₀ base h₀ L m s Q E B F X N T hk hd hu hret
  refine an4 hT fun m1 m2 m3 m4 => ?_
  refine an3 (m4 R (List.mem_of_getElem? hi)) fun r1 r2 r3 => ?_
  refine wpAny_call ?_
  k_dflt ktr_enter
  (repeat' (first | (k_unfold; (try dsimp only)) | (k_end; wrow_close) | ((with_reducible show wpAny _ _ (PySem.call (Value.ref _) _) _ _ _); first | (k_here; (with_reducible show wpAny _ _ (PySem.call (Value.ref 275) _) _ _ _); k_dflt ((refine' useA (C := (row_sp _ _ _ _ _ _ _ _ _ _ (by ktr_rel) (by with_reducible assumption) (by with_reducible assumption))) (h := ?_); intro _ _ _ _; (try k_sweep); (try dsimp only)))) | fail) | (k_here; (with_reducible show wpAny _ _ (callWith _ (Value.builtin _) [_] _ _) _ _ _); (with_reducible refine' callWith_method1 ?_ (by k_dflt (rfl)) (by k_dflt (rfl)))) | (k_here; (with_reducible show wpAny _ _ (PySem.call (Value.type _) [Value.ref _]) _ _ _); k_dflt (refine' list_copyK (by k_asm) (by k_asm) (by exact listIs (by k_asm) (by k_mem)) ?_ (by exact sizeOK (by assumption)); k_whole); intro _ _ _ _ _ _; (try k_sweep)) | (k_here; (with_reducible show wpAny _ _ (subscriptTail (PySem.Expr.Attribute ..) _ (Value.ref _) (Value.int _ _)) _ _ _); (with_reducible refine' listItem (by k_dflt (k_asm)) (by k_dflt (k_mem)) (by k_dflt (omega)) (by k_dflt (omega)) (by k_dflt (assumption)) ?_)) | (k_here; (with_reducible show wpAny _ _ (PySem.call (Value.builtin "len") [Value.ref _]) _ _ _); (with_reducible refine' kst_len (by k_dflt (k_asm)) (by k_dflt (k_mem)) (List.length_map _) (by k_dflt (omega)) ?_)) | walk1 | (dsimp only; walk1) | (dsimp only; with_reducible show wpAny _ _ _ _ _ _) | (leave1; (try dsimp only)) | fail "no step"))
  all_goals (exact hret _ _ _ _ (by k_asm) (by k_asm) ⟨rfl, rfl⟩)
theorem value_sp (w : World) (mean : ExcName → Option Value) (mg mb : MV) (news : Led) (t : Addr) (D : TD) (i : Nat) (R : RD) (ti : Tok) (hT : TreeAt w news t D) (hi : D.rows[i]? = some R) (hl : D.rows.length ≤ 1000) :
   Sp w mean mg mb 380 [.ref t, .int i ti] 4 16 news (fun news' v => news' = news ∧ v = .str R.value R.tv) := by
  intro dp un gd cn cs aa ccd cl outer A₀ base h₀ L m s Q E B F X N T hk hd hu hret
  refine an4 hT fun m1 m2 m3 m4 => ?_
  refine an3 (m4 R (List.mem_of_getElem? hi)) fun r1 r2 r3 => ?_
  refine wpAny_call ?_
  k_dflt ktr_enter
  (repeat' (first | (k_unfold; (try dsimp only)) | (k_end; wrow_close) | ((with_reducible show wpAny _ _ (PySem.call (Value.ref _) _) _ _ _); first | (k_here; (with_reducible show wpAny _ _ (PySem.call (Value.ref 275) _) _ _ _); k_dflt ((refine' useA (C := (row_sp _ _ _ _ _ _ _ _ _ _ (by ktr_rel) (by with_reducible assumption) (by with_reducible assumption))) (h := ?_); intro _ _ _ _; (try k_sweep); (try dsimp only)))) | fail) | (k_here; (with_reducible show wpAny _ _ (callWith _ (Value.builtin _) [_] _ _) _ _ _); (with_reducible refine' callWith_method1 ?_ (by k_dflt (rfl)) (by k_dflt (rfl)))) | (k_here; (with_reducible show wpAny _ _ (PySem.call (Value.type _) [Value.ref _]) _ _ _); k_dflt (refine' list_copyK (by k_asm) (by k_asm) (by exact listIs (by k_asm) (by k_mem)) ?_ (by exact sizeOK (by assumption)); k_whole); intro _ _ _ _ _ _; (try k_sweep)) | (k_here; (with_reducible show wpAny _ _ (subscriptTail (PySem.Expr.Attribute ..) _ (Value.ref _) (Value.int _ _)) _ _ _); (with_reducible refine' listItem (by k_dflt (k_asm)) (by k_dflt (k_mem)) (by k_dflt (omega)) (by k_dflt (omega)) (by k_dflt (assumption)) ?_)) | (k_here; (with_reducible show wpAny _ _ (PySem.call (Value.builtin "len") [Value.ref _]) _ _ _); (with_reducible refine' kst_len (by k_dflt (k_asm)) (by k_dflt (k_mem)) (List.length_map _) (by k_dflt (omega)) ?_)) | walk1 | (dsimp only; walk1) | (dsimp only; with_reducible show wpAny _ _ _ _ _ _) | (leave1; (try dsimp only)) | fail "no step"))
  all_goals (exact hret _ _ _ _ (by k_asm) (by k_asm) ⟨rfl, rfl⟩)
theorem children_sp (w : World) (mean : ExcName → Option Value) (mg mb : MV) (news : Led) (t : Addr) (D : TD) (i : Nat) (R : RD) (ti : Tok) (kv : List Value) (hT : TreeAt w news t D) (hi : D.rows[i]? = some R) (hl : D.rows.length ≤ 1000) (hkv : R.kv = kv) (hkl : kv.length ≤ 1000) :
   Sp w mean mg mb 394 [.ref t, .int i ti] 4 16 news (fun news' v => ∃ l n, news' = (l, W.listOf kv.toArray n) :: news ∧ v = .ref l ∧ ∀ p ∈ news, p.1 < l) := by
  intro dp un gd cn cs aa ccd cl outer A₀ base h₀ L m s Q E B F X N T hk hd hu hret
  refine an4 hT fun m1 m2 m3 m4 => ?_
  refine an3 (m4 R (List.mem_of_getElem? hi)) fun r1 r2 r3 => ?_
  rw [hkv] at r3
  refine wpAny_call ?_
  k_dflt ktr_enter
  (repeat' (first | (k_unfold; (try dsimp only)) | (k_end; wrow_close) | ((with_reducible show wpAny _ _ (PySem.call (Value.ref _) _) _ _ _); first | (k_here; (with_reducible show wpAny _ _ (PySem.call (Value.ref 275) _) _ _ _); k_dflt ((refine' useA (C := (row_sp _ _ _ _ _ _ _ _ _ _ (by ktr_rel) (by with_reducible assumption) (by with_reducible assumption))) (h := ?_); intro _ _ _ _; (try k_sweep); (try dsimp only)))) | fail) | (k_here; (with_reducible show wpAny _ _ (callWith _ (Value.builtin _) [_] _ _) _ _ _); (with_reducible refine' callWith_method1 ?_ (by k_dflt (rfl)) (by k_dflt (rfl)))) | (k_here; (with_reducible show wpAny _ _ (PySem.call (Value.type _) [Value.ref _]) _ _ _); k_dflt (refine' list_copyK (by k_asm) (by k_asm) (by exact listIs (by k_asm) (by k_mem)) ?_ (by exact sizeOK (by assumption)); k_whole); intro _ _ _ _ _ _; (try k_sweep)) | (k_here; (with_reducible show wpAny _ _ (subscriptTail (PySem.Expr.Attribute ..) _ (Value.ref _) (Value.int _ _)) _ _ _); (with_reducible refine' listItem (by k_dflt (k_asm)) (by k_dflt (k_mem)) (by k_dflt (omega)) (by k_dflt (omega)) (by k_dflt (assumption)) ?_)) | (k_here; (with_reducible show wpAny _ _ (PySem.call (Value.builtin "len") [Value.ref _]) _ _ _); (with_reducible refine' kst_len (by k_dflt (k_asm)) (by k_dflt (k_mem)) (List.length_map _) (by k_dflt (omega)) ?_)) | walk1 | (dsimp only; walk1) | (dsimp only; with_reducible show wpAny _ _ _ _ _ _) | (leave1; (try dsimp only)) | fail "no step"))
  all_goals (exact hret _ _ _ _ (by k_asm) (by k_asm) ⟨_, _, rfl, rfl, by assumption⟩)
end
section
theorem beneath_sp (w : World) (mean : ExcName → Option Value) (mg mb : MV) (news : Led) (t : Addr) (D : TD) (i j : Nat) (R R' : RD) (ti tc : Tok) (hT : TreeAt w news t D) (hi : D.rows[i]? = some R) (hl : D.rows.length ≤ 1000)
   (hkv : R.kv = [.int (j : Int) tc]) (hj : D.rows[j]? = some R') (hkv' : R'.kv = []) :
   Sp w mean mg mb 115 [.ref t, .int i ti] 8 100 news (fun news' v => ∃ l n tc, news' = (l, W.listOf [.int (j : Int) tc].toArray n) :: news ∧ v = .ref l ∧ ∀ p ∈ news, p.1 < l) := by
  intro dp un gd cn cs aa ccd cl outer A₀ base h₀ L m s Q E B F X N T hk hd hu hret
  obtain ⟨m1, m2, m3, m4⟩ := id hT
  refine wpAny_call ?_
  k_dflt ktr_enter
  (repeat' (first | (k_unfold; (try dsimp only)) | (k_end; wrow_close) | ((with_reducible show wpAny _ _ (PySem.call (Value.ref _) _) _ _ _); first | (k_here; (with_reducible show wpAny _ _ (PySem.call (Value.ref 394) _) _ _ _); k_dflt ((refine' useL (C := (children_sp _ _ _ _ _ _ _ _ _ _ _ (by ktr_rel) (by with_reducible assumption) (by with_reducible assumption) (by with_reducible assumption) (by simp))) (h := ?_); intro _ _ _ _ _ _ _; (try k_sweep); (try dsimp only)))) | fail) | (k_here; (with_reducible show wpAny _ _ (callWith _ (Value.builtin _) [_] _ _) _ _ _); (with_reducible refine' callWith_method1 ?_ (by k_dflt (rfl)) (by k_dflt (rfl)))) | (k_here; (with_reducible show wpAny _ _ (compareOp CmpOp.NotEq (Value.ref _) (Value.ref _)) _ _ _); k_dflt (refine ke_ne_ints (listIs (by k_asm) (by k_mem)) (listIs (by k_asm) (by k_mem)) (by l_ints) (by l_ints) (by ktr_units) ?_); ke_norm) | walk1 | (dsimp only; walk1) | (dsimp only; with_reducible show wpAny _ _ _ _ _ _) | (leave1; (try dsimp only)) | fail "no step"))
  all_goals (refine' hret _ _ _ _ (by k_asm) (lessN (by k_asm) ?hs) ⟨_, _, _, rfl, rfl, ?hl⟩)
  case hs => exact List.forall_mem_cons.mpr ⟨by k_mem, fun p hp => by k_mem⟩
  case hl => first | assumption | exact ltSub (by with_reducible assumption) (fun p hp => by k_mem)
end
section
local macro_rules | `(tactic| ktr_call 21 $c:term) => `(tactic| first | with_reducible exact nq11 $c | with_reducible exact nq12 $c | with_reducible exact nq13 $c | with_reducible exact nq21 $c | with_reducible exact nq22 $c | with_reducible exact nq23 $c | with_reducible exact nq31 $c | with_reducible exact nq32 $c | with_reducible exact nq33 $c)
local macro_rules | `(tactic| k_ne) => `(tactic| first | ktr_call 21 (by with_reducible assumption) | (refine Ne.symm ?_; ktr_call 21 (by with_reducible assumption)) | fail)
local macro_rules | `(tactic| walk_at "call ref") => `(tactic| (k_here; (with_reducible show wpAny _ _ (PySem.call (Value.ref 115) _) _ _ _); k_dflt ((refine' useL3 (C := (beneath_sp _ _ _ _ _ _ _ _ _ _ _ _ _ (by ktr_rel) (by with_reducible assumption) (by with_reducible assumption) rfl (by with_reducible assumption) rfl)) (h := ?_); intro _ _ _ _ _ _ _ _; (try k_sweep); (try dsimp only)))))
theorem string_value_sp (w : World) (mean : ExcName → Option Value) (mg mb : MV) (news : Led) (t : Addr) (D : TD) (i : Nat) (x : Str) (ti : Tok) (hT : TreeAt w news t D) (hE : ElemAt D i x) (hl : D.rows.length ≤ 1000) (hx : x.length ≤ 1000) :
   Sp w mean mg mb 120 [.ref t, .int i ti] 12 200 news (fun news' v => news' = news ∧ ∃ t, v = .str x t) := by
  intro dp un gd cn cs aa ccd cl outer A₀ base h₀ L m s Q E B F X N T hk hd hu hret
  refine an4 hT fun m1 m2 m3 m4 => ?_
  refine ex4 hE fun R j R' tc zz1 => ?_
  refine an7 zz1 fun hi hkd hkv hj hkd' hv' hkv' => ?_
  clear hE zz1
  cases R
  cases R'
  dsimp only at hkd hkv hkd' hv' hkv'
  subst hkd hkv hkd' hv' hkv'
  refine wpAny_call ?_
  k_dflt tb_start
  (repeat' (first | (k_unfold; (try dsimp only)) | (k_end; wrow_close) | ((with_reducible show wpAny _ _ (PySem.call (Value.ref _) _) _ _ _); first | (k_here; (with_reducible show wpAny _ _ (PySem.call (Value.ref 380) _) _ _ _); k_dflt ((refine' useA (C := (value_sp _ _ _ _ _ _ _ _ _ _ (by ktr_rel) (by with_reducible assumption) (by with_reducible assumption))) (h := ?_); intro _ _ _ _; (try k_sweep); (try dsimp only)))) | (k_here; (with_reducible show wpAny _ _ (PySem.call (Value.ref 352) _) _ _ _); k_dflt ((refine' useA (C := (kind_sp _ _ _ _ _ _ _ _ _ _ (by ktr_rel) (by with_reducible assumption) (by with_reducible assumption))) (h := ?_); intro _ _ _ _; (try k_sweep); (try dsimp only)))) | fail) | (k_here; (with_reducible show wpAny _ _ (callWith _ (Value.builtin _) [_] _ _) _ _ _); (with_reducible refine' callWith_method1 ?_ (by k_dflt (rfl)) (by k_dflt (rfl)))) | walk1 | (dsimp only; walk1) | (dsimp only; with_reducible show wpAny _ _ _ _ _ _) | (leave1; (try dsimp only)) | fail "no step"))
  all_goals (exact hret _ _ _ _ (by k_asm) (lessN (by k_asm) (fun p hp => by k_mem)) ⟨rfl, strv _ (join1 _)⟩)
end
section
theorem as_truth_sp (w : World) (mean : ExcName → Option Value) (mg mb : MV) (news : Led) (v : Value) (t : Value) (D : TD) (X : V) (hv : RepV w news D v X) :
   Sp w mean mg mb 141 [v, t] 4 200 news (fun news' v => news' = news ∧ v = .bool (truthV X)) := by
  intro dp un gd cn cs aa ccd cl outer A₀ base h₀ L m s Q E B F X0 N T hk hd hu hret
  cases X with
  | set xs =>
    refine ex3 hv fun l vs n zz2 => ?_
    refine an5 zz2 fun ee3 hm hi hall hlen => ?_
    clear hv zz2
    subst ee3
    refine wpAny_call ?_
    k_dflt ktr_enter
    (repeat' (first | (k_unfold; (try dsimp only)) | (k_end; wrow_close) | (k_here; (with_reducible show wpAny _ _ (callWith _ (Value.builtin _) [_] _ _) _ _ _); (with_reducible refine' callWith_method1 ?_ (by k_dflt (rfl)) (by k_dflt (rfl)))) | (k_here; (first | ((with_reducible show wpAny _ _ (PySem.call (Value.builtin "isinstance") [_, Value.type "bool"]) _ _ _); (with_reducible refine' isi_rep_bool (by k_dflt (k_asm)) (by k_dflt (k_asm)) (by k_dflt (k_asm)) (by k_dflt (ktr_rel)) ?_)) | ((with_reducible show wpAny _ _ (PySem.call (Value.builtin "isinstance") [_, Value.type "str"]) _ _ _); (with_reducible refine' isi_rep_str (by k_dflt (k_asm)) (by k_dflt (k_asm)) (by k_dflt (k_asm)) (by k_dflt (ktr_rel)) ?_)) | ((with_reducible show wpAny _ _ (PySem.call (Value.builtin "isinstance") [_, Value.type "list"]) _ _ _); (with_reducible refine' isi_rep_list (by k_dflt (k_asm)) (by k_dflt (k_asm)) (by k_dflt (k_asm)) (by k_dflt (ktr_rel)) ?_)) | ((with_reducible show wpAny _ _ (PySem.call (Value.builtin "isinstance") [_, Value.type "tuple"]) _ _ _); (with_reducible refine' isi_rep_tuple (by k_dflt (k_asm)) (by k_dflt (k_asm)) (by k_dflt (k_asm)) (by k_dflt (ktr_rel)) ?_))); intro _; (try simp only [isSet_set, isSet_num, isSet_txt, isSet_tru, isNum_set, isNum_num, isNum_txt, isNum_tru, isTxt_set, isTxt_num, isTxt_txt, isTxt_tru, isTru_set, isTru_num, isTru_txt, isTru_tru])) | (k_here; (with_reducible show wpAny _ _ (subscriptTail (PySem.Expr.Name ..) _ (Value.ref _) (Value.int _ _)) _ _ _); (with_reducible refine' listItem (by k_dflt (k_asm)) (by k_dflt (k_mem)) (by k_dflt (decide)) (by k_dflt (decide)) (by k_dflt (exact rfl)) ?_)) | (k_here; (with_reducible show wpAny _ _ (PySem.call (Value.builtin "isinstance") [Value.ref _, Value.type _]) _ _ _); (first | with_reducible refine' IsiPair.tuple_bool (by k_dflt (exact HeldK.get (by k_asm) (by k_asm) (by k_asm) (by ktr_rel))) (by k_dflt (exact rfl)) ?_ | with_reducible refine' IsiPair.tuple_tuple (by k_dflt (exact HeldK.get (by k_asm) (by k_asm) (by k_asm) (by ktr_rel))) (by k_dflt (exact rfl)) ?_ | with_reducible refine' IsiPair.tuple_str (by k_dflt (exact HeldK.get (by k_asm) (by k_asm) (by k_asm) (by ktr_rel))) (by k_dflt (exact rfl)) ?_ | with_reducible refine' IsiPair.tuple_list (by k_dflt (exact HeldK.get (by k_asm) (by k_asm) (by k_asm) (by ktr_rel))) (by k_dflt (exact rfl)) ?_)) | (k_here; (with_reducible show wpAny _ _ (compareOp CmpOp.NotEq (Value.ref _) (Value.ref _)) _ _ _); k_dflt (refine ke_ne_ints (listIs (by k_asm) (by k_mem)) (listIs (by k_asm) (by k_mem)) (by l_ints) (by l_ints) (by ktr_units) ?_); ke_norm) | (k_here; (with_reducible show wpAny _ _ (subscriptTail (PySem.Expr.Name ..) _ (Value.ref _) (Value.int _ _)) _ _ _); (with_reducible refine' item_tupleT (by k_dflt (exact heldTup (by k_asm) (by k_asm) (by k_asm) (by ktr_rel))) (by k_dflt (decide)) (by k_dflt (decide)) (by k_dflt (rfl)) (by k_dflt (rfl)) ?_); k_dflt (k_whole)) | walk1 | (dsimp only; walk1) | (dsimp only; with_reducible show wpAny _ _ _ _ _ _) | (leave1; (try dsimp only)) | fail "no step"))
    all_goals (exact hret _ _ _ _ (by k_asm) (by first | k_asm | exact lessN (by k_asm) (fun p hp => by k_mem)) ⟨rfl, boov (by clear hret; first | rfl | (cases xs <;> simp [truthV]; done) | (simp [truthV]; done))⟩)
  | num a =>
    refine an2 hv fun zz4 hmenu => ?_
    refine ex3 zz4 fun r t1 t2 zz5 => ?_
    refine an2 zz5 fun ee6 hm => ?_
    clear hv zz4 zz5
    subst ee6
    refine wpAny_call ?_
    k_dflt ktr_enter
    (repeat' (first | (k_unfold; (try dsimp only)) | (k_end; wrow_close) | (k_here; (with_reducible show wpAny _ _ (callWith _ (Value.builtin _) [_] _ _) _ _ _); (with_reducible refine' callWith_method1 ?_ (by k_dflt (rfl)) (by k_dflt (rfl)))) | (k_here; (first | ((with_reducible show wpAny _ _ (PySem.call (Value.builtin "isinstance") [_, Value.type "bool"]) _ _ _); (with_reducible refine' isi_rep_bool (by k_dflt (k_asm)) (by k_dflt (k_asm)) (by k_dflt (k_asm)) (by k_dflt (ktr_rel)) ?_)) | ((with_reducible show wpAny _ _ (PySem.call (Value.builtin "isinstance") [_, Value.type "str"]) _ _ _); (with_reducible refine' isi_rep_str (by k_dflt (k_asm)) (by k_dflt (k_asm)) (by k_dflt (k_asm)) (by k_dflt (ktr_rel)) ?_)) | ((with_reducible show wpAny _ _ (PySem.call (Value.builtin "isinstance") [_, Value.type "list"]) _ _ _); (with_reducible refine' isi_rep_list (by k_dflt (k_asm)) (by k_dflt (k_asm)) (by k_dflt (k_asm)) (by k_dflt (ktr_rel)) ?_)) | ((with_reducible show wpAny _ _ (PySem.call (Value.builtin "isinstance") [_, Value.type "tuple"]) _ _ _); (with_reducible refine' isi_rep_tuple (by k_dflt (k_asm)) (by k_dflt (k_asm)) (by k_dflt (k_asm)) (by k_dflt (ktr_rel)) ?_))); intro _; (try simp only [isSet_set, isSet_num, isSet_txt, isSet_tru, isNum_set, isNum_num, isNum_txt, isNum_tru, isTxt_set, isTxt_num, isTxt_txt, isTxt_tru, isTru_set, isTru_num, isTru_txt, isTru_tru])) | (k_here; (with_reducible show wpAny _ _ (subscriptTail (PySem.Expr.Name ..) _ (Value.ref _) (Value.int _ _)) _ _ _); (with_reducible refine' listItem (by k_dflt (k_asm)) (by k_dflt (k_mem)) (by k_dflt (decide)) (by k_dflt (decide)) (by k_dflt (exact rfl)) ?_)) | (k_here; (with_reducible show wpAny _ _ (PySem.call (Value.builtin "isinstance") [Value.ref _, Value.type _]) _ _ _); (first | with_reducible refine' IsiPair.tuple_bool (by k_dflt (exact HeldK.get (by k_asm) (by k_asm) (by k_asm) (by ktr_rel))) (by k_dflt (exact rfl)) ?_ | with_reducible refine' IsiPair.tuple_tuple (by k_dflt (exact HeldK.get (by k_asm) (by k_asm) (by k_asm) (by ktr_rel))) (by k_dflt (exact rfl)) ?_ | with_reducible refine' IsiPair.tuple_str (by k_dflt (exact HeldK.get (by k_asm) (by k_asm) (by k_asm) (by ktr_rel))) (by k_dflt (exact rfl)) ?_ | with_reducible refine' IsiPair.tuple_list (by k_dflt (exact HeldK.get (by k_asm) (by k_asm) (by k_asm) (by ktr_rel))) (by k_dflt (exact rfl)) ?_)) | (k_here; (with_reducible show wpAny _ _ (compareOp CmpOp.NotEq (Value.ref _) (Value.ref _)) _ _ _); k_dflt (refine ke_ne_ints (listIs (by k_asm) (by k_mem)) (listIs (by k_asm) (by k_mem)) (by l_ints) (by l_ints) (by ktr_units) ?_); ke_norm) | (k_here; (with_reducible show wpAny _ _ (subscriptTail (PySem.Expr.Name ..) _ (Value.ref _) (Value.int _ _)) _ _ _); (with_reducible refine' item_tupleT (by k_dflt (exact heldTup (by k_asm) (by k_asm) (by k_asm) (by ktr_rel))) (by k_dflt (decide)) (by k_dflt (decide)) (by k_dflt (rfl)) (by k_dflt (rfl)) ?_); k_dflt (k_whole)) | walk1 | (dsimp only; walk1) | (dsimp only; with_reducible show wpAny _ _ _ _ _ _) | (leave1; (try dsimp only)) | fail "no step"))
    all_goals (exact hret _ _ _ _ (by k_asm) (by first | k_asm | exact lessN (by k_asm) (fun p hp => by k_mem)) ⟨rfl, boov (by clear hret; first | rfl | (cases xs <;> simp [truthV]; done) | (simp [truthV]; done))⟩)
  | txt x =>
    refine an2 hv fun zz7 hmenu => ?_
    refine Exists.elim zz7 fun tx ee9 => ?_
    clear hv zz7
    subst ee9
    refine wpAny_call ?_
    k_dflt ktr_enter
    (repeat' (first | (k_unfold; (try dsimp only)) | (k_end; wrow_close) | (k_here; (with_reducible show wpAny _ _ (callWith _ (Value.builtin _) [_] _ _) _ _ _); (with_reducible refine' callWith_method1 ?_ (by k_dflt (rfl)) (by k_dflt (rfl)))) | (k_here; (first | ((with_reducible show wpAny _ _ (PySem.call (Value.builtin "isinstance") [_, Value.type "bool"]) _ _ _); (with_reducible refine' isi_rep_bool (by k_dflt (k_asm)) (by k_dflt (k_asm)) (by k_dflt (k_asm)) (by k_dflt (ktr_rel)) ?_)) | ((with_reducible show wpAny _ _ (PySem.call (Value.builtin "isinstance") [_, Value.type "str"]) _ _ _); (with_reducible refine' isi_rep_str (by k_dflt (k_asm)) (by k_dflt (k_asm)) (by k_dflt (k_asm)) (by k_dflt (ktr_rel)) ?_)) | ((with_reducible show wpAny _ _ (PySem.call (Value.builtin "isinstance") [_, Value.type "list"]) _ _ _); (with_reducible refine' isi_rep_list (by k_dflt (k_asm)) (by k_dflt (k_asm)) (by k_dflt (k_asm)) (by k_dflt (ktr_rel)) ?_)) | ((with_reducible show wpAny _ _ (PySem.call (Value.builtin "isinstance") [_, Value.type "tuple"]) _ _ _); (with_reducible refine' isi_rep_tuple (by k_dflt (k_asm)) (by k_dflt (k_asm)) (by k_dflt (k_asm)) (by k_dflt (ktr_rel)) ?_))); intro _; (try simp only [isSet_set, isSet_num, isSet_txt, isSet_tru, isNum_set, isNum_num, isNum_txt, isNum_tru, isTxt_set, isTxt_num, isTxt_txt, isTxt_tru, isTru_set, isTru_num, isTru_txt, isTru_tru])) | (k_here; (with_reducible show wpAny _ _ (subscriptTail (PySem.Expr.Name ..) _ (Value.ref _) (Value.int _ _)) _ _ _); (with_reducible refine' listItem (by k_dflt (k_asm)) (by k_dflt (k_mem)) (by k_dflt (decide)) (by k_dflt (decide)) (by k_dflt (exact rfl)) ?_)) | (k_here; (with_reducible show wpAny _ _ (PySem.call (Value.builtin "isinstance") [Value.ref _, Value.type _]) _ _ _); (first | with_reducible refine' IsiPair.tuple_bool (by k_dflt (exact HeldK.get (by k_asm) (by k_asm) (by k_asm) (by ktr_rel))) (by k_dflt (exact rfl)) ?_ | with_reducible refine' IsiPair.tuple_tuple (by k_dflt (exact HeldK.get (by k_asm) (by k_asm) (by k_asm) (by ktr_rel))) (by k_dflt (exact rfl)) ?_ | with_reducible refine' IsiPair.tuple_str (by k_dflt (exact HeldK.get (by k_asm) (by k_asm) (by k_asm) (by ktr_rel))) (by k_dflt (exact rfl)) ?_ | with_reducible refine' IsiPair.tuple_list (by k_dflt (exact HeldK.get (by k_asm) (by k_asm) (by k_asm) (by ktr_rel))) (by k_dflt (exact rfl)) ?_)) | (k_here; (with_reducible show wpAny _ _ (compareOp CmpOp.NotEq (Value.ref _) (Value.ref _)) _ _ _); k_dflt (refine ke_ne_ints (listIs (by k_asm) (by k_mem)) (listIs (by k_asm) (by k_mem)) (by l_ints) (by l_ints) (by ktr_units) ?_); ke_norm) | (k_here; (with_reducible show wpAny _ _ (subscriptTail (PySem.Expr.Name ..) _ (Value.ref _) (Value.int _ _)) _ _ _); (with_reducible refine' item_tupleT (by k_dflt (exact heldTup (by k_asm) (by k_asm) (by k_asm) (by ktr_rel))) (by k_dflt (decide)) (by k_dflt (decide)) (by k_dflt (rfl)) (by k_dflt (rfl)) ?_); k_dflt (k_whole)) | walk1 | (dsimp only; walk1) | (dsimp only; with_reducible show wpAny _ _ _ _ _ _) | (leave1; (try dsimp only)) | fail "no step"))
    all_goals (exact hret _ _ _ _ (by k_asm) (by first | k_asm | exact lessN (by k_asm) (fun p hp => by k_mem)) ⟨rfl, boov (by clear hret; first | rfl | (cases xs <;> simp [truthV]; done) | (simp [truthV]; done))⟩)
  | tru b =>
    subst hv
    refine wpAny_call ?_
    k_dflt ktr_enter
    (repeat' (first | (k_unfold; (try dsimp only)) | (k_end; wrow_close) | (k_here; (with_reducible show wpAny _ _ (callWith _ (Value.builtin _) [_] _ _) _ _ _); (with_reducible refine' callWith_method1 ?_ (by k_dflt (rfl)) (by k_dflt (rfl)))) | (k_here; (first | ((with_reducible show wpAny _ _ (PySem.call (Value.builtin "isinstance") [_, Value.type "bool"]) _ _ _); (with_reducible refine' isi_rep_bool (by k_dflt (k_asm)) (by k_dflt (k_asm)) (by k_dflt (k_asm)) (by k_dflt (ktr_rel)) ?_)) | ((with_reducible show wpAny _ _ (PySem.call (Value.builtin "isinstance") [_, Value.type "str"]) _ _ _); (with_reducible refine' isi_rep_str (by k_dflt (k_asm)) (by k_dflt (k_asm)) (by k_dflt (k_asm)) (by k_dflt (ktr_rel)) ?_)) | ((with_reducible show wpAny _ _ (PySem.call (Value.builtin "isinstance") [_, Value.type "list"]) _ _ _); (with_reducible refine' isi_rep_list (by k_dflt (k_asm)) (by k_dflt (k_asm)) (by k_dflt (k_asm)) (by k_dflt (ktr_rel)) ?_)) | ((with_reducible show wpAny _ _ (PySem.call (Value.builtin "isinstance") [_, Value.type "tuple"]) _ _ _); (with_reducible refine' isi_rep_tuple (by k_dflt (k_asm)) (by k_dflt (k_asm)) (by k_dflt (k_asm)) (by k_dflt (ktr_rel)) ?_))); intro _; (try simp only [isSet_set, isSet_num, isSet_txt, isSet_tru, isNum_set, isNum_num, isNum_txt, isNum_tru, isTxt_set, isTxt_num, isTxt_txt, isTxt_tru, isTru_set, isTru_num, isTru_txt, isTru_tru])) | (k_here; (with_reducible show wpAny _ _ (subscriptTail (PySem.Expr.Name ..) _ (Value.ref _) (Value.int _ _)) _ _ _); (with_reducible refine' listItem (by k_dflt (k_asm)) (by k_dflt (k_mem)) (by k_dflt (decide)) (by k_dflt (decide)) (by k_dflt (exact rfl)) ?_)) | (k_here; (with_reducible show wpAny _ _ (PySem.call (Value.builtin "isinstance") [Value.ref _, Value.type _]) _ _ _); (first | with_reducible refine' IsiPair.tuple_bool (by k_dflt (exact HeldK.get (by k_asm) (by k_asm) (by k_asm) (by ktr_rel))) (by k_dflt (exact rfl)) ?_ | with_reducible refine' IsiPair.tuple_tuple (by k_dflt (exact HeldK.get (by k_asm) (by k_asm) (by k_asm) (by ktr_rel))) (by k_dflt (exact rfl)) ?_ | with_reducible refine' IsiPair.tuple_str (by k_dflt (exact HeldK.get (by k_asm) (by k_asm) (by k_asm) (by ktr_rel))) (by k_dflt (exact rfl)) ?_ | with_reducible refine' IsiPair.tuple_list (by k_dflt (exact HeldK.get (by k_asm) (by k_asm) (by k_asm) (by ktr_rel))) (by k_dflt (exact rfl)) ?_)) | (k_here; (with_reducible show wpAny _ _ (compareOp CmpOp.NotEq (Value.ref _) (Value.ref _)) _ _ _); k_dflt (refine ke_ne_ints (listIs (by k_asm) (by k_mem)) (listIs (by k_asm) (by k_mem)) (by l_ints) (by l_ints) (by ktr_units) ?_); ke_norm) | (k_here; (with_reducible show wpAny _ _ (subscriptTail (PySem.Expr.Name ..) _ (Value.ref _) (Value.int _ _)) _ _ _); (with_reducible refine' item_tupleT (by k_dflt (exact heldTup (by k_asm) (by k_asm) (by k_asm) (by ktr_rel))) (by k_dflt (decide)) (by k_dflt (decide)) (by k_dflt (rfl)) (by k_dflt (rfl)) ?_); k_dflt (k_whole)) | walk1 | (dsimp only; walk1) | (dsimp only; with_reducible show wpAny _ _ _ _ _ _) | (leave1; (try dsimp only)) | fail "no step"))
    all_goals (exact hret _ _ _ _ (by k_asm) (by first | k_asm | exact lessN (by k_asm) (fun p hp => by k_mem)) ⟨rfl, boov (by clear hret; first | rfl | (cases xs <;> simp [truthV]; done) | (simp [truthV]; done))⟩)
end
section
theorem as_text_sp (w : World) (mean : ExcName → Option Value) (mg mb : MV) (news : Led) (v : Value) (t : Addr) (D : TD) (X : V) (hT : TreeAt w news t D) (hl : D.rows.length ≤ 1000) (hv : RepV w news D v X) (hX : (∃ xs, X = .set xs) ∨ ∃ x, X = .txt x) :
   Sp w mean mg mb 127 [v, .ref t] 14 400 news (fun news' v => news' = news ∧ ∃ t, v = .str (textV X) t) := by
  intro dp un gd cn cs aa ccd cl outer A₀ base h₀ L m s Q E B F X0 N T hk hd hu hret
  rcases hX with ⟨xs, rfl⟩ | ⟨x, rfl⟩
  · refine ex3 hv fun l vs n zz10 => ?_
    refine an5 zz10 fun ee11 hm hi hall hlen => ?_
    clear hv zz10
    subst ee11
    cases xs with
    | nil =>
      cases hi
      refine wpAny_call ?_
      k_dflt ktr_enter
      (repeat' (first | (k_unfold; (try dsimp only)) | (k_end; wrow_close) | ((with_reducible show wpAny _ _ (PySem.call (Value.ref _) _) _ _ _); first | (k_here; (with_reducible show wpAny _ _ (PySem.call (Value.ref 120) _) _ _ _); k_dflt ((refine' useB (C := (string_value_sp _ _ _ _ _ _ _ _ _ _ (by ktr_rel) (by with_reducible assumption) (by with_reducible assumption) (by with_reducible assumption))) (h := ?_); intro _ _ _ _ _; (try k_sweep); (try dsimp only)))) | fail) | (k_here; (with_reducible show wpAny _ _ (callWith _ (Value.builtin _) [_] _ _) _ _ _); (with_reducible refine' callWith_method1 ?_ (by k_dflt (rfl)) (by k_dflt (rfl)))) | (k_here; (first | ((with_reducible show wpAny _ _ (PySem.call (Value.builtin "isinstance") [_, Value.type "bool"]) _ _ _); (with_reducible refine' isi_rep_bool (by k_dflt (k_asm)) (by k_dflt (k_asm)) (by k_dflt (k_asm)) (by k_dflt (ktr_rel)) ?_)) | ((with_reducible show wpAny _ _ (PySem.call (Value.builtin "isinstance") [_, Value.type "str"]) _ _ _); (with_reducible refine' isi_rep_str (by k_dflt (k_asm)) (by k_dflt (k_asm)) (by k_dflt (k_asm)) (by k_dflt (ktr_rel)) ?_)) | ((with_reducible show wpAny _ _ (PySem.call (Value.builtin "isinstance") [_, Value.type "list"]) _ _ _); (with_reducible refine' isi_rep_list (by k_dflt (k_asm)) (by k_dflt (k_asm)) (by k_dflt (k_asm)) (by k_dflt (ktr_rel)) ?_)) | ((with_reducible show wpAny _ _ (PySem.call (Value.builtin "isinstance") [_, Value.type "tuple"]) _ _ _); (with_reducible refine' isi_rep_tuple (by k_dflt (k_asm)) (by k_dflt (k_asm)) (by k_dflt (k_asm)) (by k_dflt (ktr_rel)) ?_))); intro _; (try simp only [isSet_set, isSet_num, isSet_txt, isSet_tru, isNum_set, isNum_num, isNum_txt, isNum_tru, isTxt_set, isTxt_num, isTxt_txt, isTxt_tru, isTru_set, isTru_num, isTru_txt, isTru_tru])) | (k_here; (with_reducible show wpAny _ _ (subscriptTail (PySem.Expr.Name ..) _ (Value.ref _) (Value.int _ _)) _ _ _); (with_reducible refine' listItem (by k_dflt (k_asm)) (by k_dflt (k_mem)) (by k_dflt (decide)) (by k_dflt (decide)) (by k_dflt (exact rfl)) ?_)) | (k_here; (with_reducible show wpAny _ _ (PySem.call (Value.builtin "isinstance") [Value.ref _, Value.type _]) _ _ _); (first | with_reducible refine' IsiPair.tuple_bool (by k_dflt (exact HeldK.get (by k_asm) (by k_asm) (by k_asm) (by ktr_rel))) (by k_dflt (exact rfl)) ?_ | with_reducible refine' IsiPair.tuple_tuple (by k_dflt (exact HeldK.get (by k_asm) (by k_asm) (by k_asm) (by ktr_rel))) (by k_dflt (exact rfl)) ?_ | with_reducible refine' IsiPair.tuple_str (by k_dflt (exact HeldK.get (by k_asm) (by k_asm) (by k_asm) (by ktr_rel))) (by k_dflt (exact rfl)) ?_ | with_reducible refine' IsiPair.tuple_list (by k_dflt (exact HeldK.get (by k_asm) (by k_asm) (by k_asm) (by ktr_rel))) (by k_dflt (exact rfl)) ?_)) | (k_here; (with_reducible show wpAny _ _ (compareOp CmpOp.NotEq (Value.ref _) (Value.ref _)) _ _ _); k_dflt (refine ke_ne_ints (listIs (by k_asm) (by k_mem)) (listIs (by k_asm) (by k_mem)) (by l_ints) (by l_ints) (by ktr_units) ?_); ke_norm) | (k_here; (with_reducible show wpAny _ _ (subscriptTail (PySem.Expr.Name ..) _ (Value.ref _) (Value.int _ _)) _ _ _); (with_reducible refine' item_tupleT (by k_dflt (exact heldTup (by k_asm) (by k_asm) (by k_asm) (by ktr_rel))) (by k_dflt (decide)) (by k_dflt (decide)) (by k_dflt (rfl)) (by k_dflt (rfl)) ?_); k_dflt (k_whole)) | walk1 | (dsimp only; walk1) | (dsimp only; with_reducible show wpAny _ _ _ _ _ _) | (leave1; (try dsimp only)) | fail "no step"))
      all_goals (exact hret _ _ _ _ (by k_asm) (by first | k_asm | exact lessN (by k_asm) (fun p hp => by k_mem)) ⟨rfl, strv _ rfl⟩)
    | cons p rest =>
      obtain ⟨i, x⟩ := p
      cases hi with
      | cons _ ti hi' =>
      refine an2 (hall (i, x) List.mem_cons_self) fun hE hmx => ?_
      have hxl := menu_len hmx
      dsimp only at hE hmx hxl hm
      refine wpAny_call ?_
      k_dflt ktr_enter
      (repeat' (first | (k_unfold; (try dsimp only)) | (k_end; wrow_close) | ((with_reducible show wpAny _ _ (PySem.call (Value.ref _) _) _ _ _); first | (k_here; (with_reducible show wpAny _ _ (PySem.call (Value.ref 120) _) _ _ _); k_dflt ((refine' useB (C := (string_value_sp _ _ _ _ _ _ _ _ _ _ (by ktr_rel) (by with_reducible assumption) (by with_reducible assumption) (by with_reducible assumption))) (h := ?_); intro _ _ _ _ _; (try k_sweep); (try dsimp only)))) | fail) | (k_here; (with_reducible show wpAny _ _ (callWith _ (Value.builtin _) [_] _ _) _ _ _); (with_reducible refine' callWith_method1 ?_ (by k_dflt (rfl)) (by k_dflt (rfl)))) | (k_here; (first | ((with_reducible show wpAny _ _ (PySem.call (Value.builtin "isinstance") [_, Value.type "bool"]) _ _ _); (with_reducible refine' isi_rep_bool (by k_dflt (k_asm)) (by k_dflt (k_asm)) (by k_dflt (k_asm)) (by k_dflt (ktr_rel)) ?_)) | ((with_reducible show wpAny _ _ (PySem.call (Value.builtin "isinstance") [_, Value.type "str"]) _ _ _); (with_reducible refine' isi_rep_str (by k_dflt (k_asm)) (by k_dflt (k_asm)) (by k_dflt (k_asm)) (by k_dflt (ktr_rel)) ?_)) | ((with_reducible show wpAny _ _ (PySem.call (Value.builtin "isinstance") [_, Value.type "list"]) _ _ _); (with_reducible refine' isi_rep_list (by k_dflt (k_asm)) (by k_dflt (k_asm)) (by k_dflt (k_asm)) (by k_dflt (ktr_rel)) ?_)) | ((with_reducible show wpAny _ _ (PySem.call (Value.builtin "isinstance") [_, Value.type "tuple"]) _ _ _); (with_reducible refine' isi_rep_tuple (by k_dflt (k_asm)) (by k_dflt (k_asm)) (by k_dflt (k_asm)) (by k_dflt (ktr_rel)) ?_))); intro _; (try simp only [isSet_set, isSet_num, isSet_txt, isSet_tru, isNum_set, isNum_num, isNum_txt, isNum_tru, isTxt_set, isTxt_num, isTxt_txt, isTxt_tru, isTru_set, isTru_num, isTru_txt, isTru_tru])) | (k_here; (with_reducible show wpAny _ _ (subscriptTail (PySem.Expr.Name ..) _ (Value.ref _) (Value.int _ _)) _ _ _); (with_reducible refine' listItem (by k_dflt (k_asm)) (by k_dflt (k_mem)) (by k_dflt (decide)) (by k_dflt (decide)) (by k_dflt (exact rfl)) ?_)) | (k_here; (with_reducible show wpAny _ _ (PySem.call (Value.builtin "isinstance") [Value.ref _, Value.type _]) _ _ _); (first | with_reducible refine' IsiPair.tuple_bool (by k_dflt (exact HeldK.get (by k_asm) (by k_asm) (by k_asm) (by ktr_rel))) (by k_dflt (exact rfl)) ?_ | with_reducible refine' IsiPair.tuple_tuple (by k_dflt (exact HeldK.get (by k_asm) (by k_asm) (by k_asm) (by ktr_rel))) (by k_dflt (exact rfl)) ?_ | with_reducible refine' IsiPair.tuple_str (by k_dflt (exact HeldK.get (by k_asm) (by k_asm) (by k_asm) (by ktr_rel))) (by k_dflt (exact rfl)) ?_ | with_reducible refine' IsiPair.tuple_list (by k_dflt (exact HeldK.get (by k_asm) (by k_asm) (by k_asm) (by ktr_rel))) (by k_dflt (exact rfl)) ?_)) | (k_here; (with_reducible show wpAny _ _ (compareOp CmpOp.NotEq (Value.ref _) (Value.ref _)) _ _ _); k_dflt (refine ke_ne_ints (listIs (by k_asm) (by k_mem)) (listIs (by k_asm) (by k_mem)) (by l_ints) (by l_ints) (by ktr_units) ?_); ke_norm) | (k_here; (with_reducible show wpAny _ _ (subscriptTail (PySem.Expr.Name ..) _ (Value.ref _) (Value.int _ _)) _ _ _); (with_reducible refine' item_tupleT (by k_dflt (exact heldTup (by k_asm) (by k_asm) (by k_asm) (by ktr_rel))) (by k_dflt (decide)) (by k_dflt (decide)) (by k_dflt (rfl)) (by k_dflt (rfl)) ?_); k_dflt (k_whole)) | walk1 | (dsimp only; walk1) | (dsimp only; with_reducible show wpAny _ _ _ _ _ _) | (leave1; (try dsimp only)) | fail "no step"))
      all_goals first
        | exact hret _ _ _ _ (by k_asm) (by first | k_asm | exact lessN (by k_asm) (fun p hp => by k_mem)) ⟨rfl, strv _ rfl⟩
        | (exfalso; clear hret; simp_all; done)
  · refine an2 hv fun zz12 hmenu => ?_
    refine Exists.elim zz12 fun tx ee14 => ?_
    clear hv zz12
    subst ee14
    refine wpAny_call ?_
    k_dflt ktr_enter
    (repeat' (first | (k_unfold; (try dsimp only)) | (k_end; wrow_close) | ((with_reducible show wpAny _ _ (PySem.call (Value.ref _) _) _ _ _); first | (k_here; (with_reducible show wpAny _ _ (PySem.call (Value.ref 120) _) _ _ _); k_dflt ((refine' useB (C := (string_value_sp _ _ _ _ _ _ _ _ _ _ (by ktr_rel) (by with_reducible assumption) (by with_reducible assumption) (by with_reducible assumption))) (h := ?_); intro _ _ _ _ _; (try k_sweep); (try dsimp only)))) | fail) | (k_here; (with_reducible show wpAny _ _ (callWith _ (Value.builtin _) [_] _ _) _ _ _); (with_reducible refine' callWith_method1 ?_ (by k_dflt (rfl)) (by k_dflt (rfl)))) | (k_here; (first | ((with_reducible show wpAny _ _ (PySem.call (Value.builtin "isinstance") [_, Value.type "bool"]) _ _ _); (with_reducible refine' isi_rep_bool (by k_dflt (k_asm)) (by k_dflt (k_asm)) (by k_dflt (k_asm)) (by k_dflt (ktr_rel)) ?_)) | ((with_reducible show wpAny _ _ (PySem.call (Value.builtin "isinstance") [_, Value.type "str"]) _ _ _); (with_reducible refine' isi_rep_str (by k_dflt (k_asm)) (by k_dflt (k_asm)) (by k_dflt (k_asm)) (by k_dflt (ktr_rel)) ?_)) | ((with_reducible show wpAny _ _ (PySem.call (Value.builtin "isinstance") [_, Value.type "list"]) _ _ _); (with_reducible refine' isi_rep_list (by k_dflt (k_asm)) (by k_dflt (k_asm)) (by k_dflt (k_asm)) (by k_dflt (ktr_rel)) ?_)) | ((with_reducible show wpAny _ _ (PySem.call (Value.builtin "isinstance") [_, Value.type "tuple"]) _ _ _); (with_reducible refine' isi_rep_tuple (by k_dflt (k_asm)) (by k_dflt (k_asm)) (by k_dflt (k_asm)) (by k_dflt (ktr_rel)) ?_))); intro _; (try simp only [isSet_set, isSet_num, isSet_txt, isSet_tru, isNum_set, isNum_num, isNum_txt, isNum_tru, isTxt_set, isTxt_num, isTxt_txt, isTxt_tru, isTru_set, isTru_num, isTru_txt, isTru_tru])) | (k_here; (with_reducible show wpAny _ _ (subscriptTail (PySem.Expr.Name ..) _ (Value.ref _) (Value.int _ _)) _ _ _); (with_reducible refine' listItem (by k_dflt (k_asm)) (by k_dflt (k_mem)) (by k_dflt (decide)) (by k_dflt (decide)) (by k_dflt (exact rfl)) ?_)) | (k_here; (with_reducible show wpAny _ _ (PySem.call (Value.builtin "isinstance") [Value.ref _, Value.type _]) _ _ _); (first | with_reducible refine' IsiPair.tuple_bool (by k_dflt (exact HeldK.get (by k_asm) (by k_asm) (by k_asm) (by ktr_rel))) (by k_dflt (exact rfl)) ?_ | with_reducible refine' IsiPair.tuple_tuple (by k_dflt (exact HeldK.get (by k_asm) (by k_asm) (by k_asm) (by ktr_rel))) (by k_dflt (exact rfl)) ?_ | with_reducible refine' IsiPair.tuple_str (by k_dflt (exact HeldK.get (by k_asm) (by k_asm) (by k_asm) (by ktr_rel))) (by k_dflt (exact rfl)) ?_ | with_reducible refine' IsiPair.tuple_list (by k_dflt (exact HeldK.get (by k_asm) (by k_asm) (by k_asm) (by ktr_rel))) (by k_dflt (exact rfl)) ?_)) | (k_here; (with_reducible show wpAny _ _ (compareOp CmpOp.NotEq (Value.ref _) (Value.ref _)) _ _ _); k_dflt (refine ke_ne_ints (listIs (by k_asm) (by k_mem)) (listIs (by k_asm) (by k_mem)) (by l_ints) (by l_ints) (by ktr_units) ?_); ke_norm) | (k_here; (with_reducible show wpAny _ _ (subscriptTail (PySem.Expr.Name ..) _ (Value.ref _) (Value.int _ _)) _ _ _); (with_reducible refine' item_tupleT (by k_dflt (exact heldTup (by k_asm) (by k_asm) (by k_asm) (by ktr_rel))) (by k_dflt (decide)) (by k_dflt (decide)) (by k_dflt (rfl)) (by k_dflt (rfl)) ?_); k_dflt (k_whole)) | walk1 | (dsimp only; walk1) | (dsimp only; with_reducible show wpAny _ _ _ _ _ _) | (leave1; (try dsimp only)) | fail "no step"))
    all_goals (exact hret _ _ _ _ (by k_asm) (by k_asm) ⟨rfl, strv _ rfl⟩)
end
section
local macro_rules | `(tactic| walk_at "CompSrc") => `(tactic| (k_here; k_dflt (refine LCg.CompSrc.ledger (by rfl) (by k_asm) (by k_asm) (by k_mem) (by exact sizeOK (by omega)) ?_; intro g')))
theorem texts_of_sp (w : World) (mean : ExcName → Option Value) (mg mb : MV) (news : Led) (v : Value) (t : Addr) (D : TD) (xs : List (Nat × Str)) (hT : TreeAt w news t D) (hl : D.rows.length ≤ 1000) (hv : RepV w news D v (.set xs)) :
   Sp w mean mg mb 179 [.ref t, v] 16 400 news (fun news' r => ∃ p, news' = p :: news ∧ ListAt w news' D r (xs.map fun p => V.txt p.2)) := by
  intro dp un gd cn cs aa ccd cl outer A₀ base h₀ L m s Q E B F X0 N T hk hd hu hret
  refine ex3 hv fun l vs n zz29 => ?_
  refine an5 zz29 fun ee30 hm hi hall hlen => ?_
  clear hv zz29
  subst ee30
  have hvl : vs.length ≤ 10 := by have := hi.length; simp at this; omega
  refine wpAny_call ?_
  k_dflt tb_start
  (repeat' (first | (k_unfold; (try dsimp only)) | (k_end; wrow_close) | ((with_reducible show wpAny _ _ (PySem.call (Value.ref _) _) _ _ _); first | (k_here; (with_reducible show wpAny _ _ (PySem.call (Value.ref 120) _) _ _ _); k_dflt ((refine' useB (C := (string_value_sp _ _ _ _ _ _ _ _ _ _ (by ktr_rel) (by with_reducible assumption) (by with_reducible assumption) (by with_reducible assumption))) (h := ?_); intro _ _ _ _ _; (try k_sweep); (try dsimp only)))) | fail) | walk1 | (dsimp only; walk1) | (dsimp only; with_reducible show wpAny _ _ _ _ _ _) | (leave1; (try dsimp only)) | fail "no step"))
  rename_i o1 d1 N1 g1
  refine' comp_ind (fun i ys news' => news' = (_, o1) :: news ∧ Reps w news D ys ((xs.take i).map fun p => V.txt p.2)) ⟨rfl, Reps.nil⟩ ?turn ?fin
  case turn =>
    intro i ys news' v I oI C oC Dd m₂ h tk E' hi' hI hv hC hx F' N' off' ne'
    refine an2 hI fun ee31 hR => ?_
    clear hI
    subst ee31
    refine ex2 (hi.at i v (by simpa using hv)) fun k tk' zz32 => ?_
    refine an2 zz32 fun ee33 hk => ?_
    clear zz32
    subst ee33
    have zq34 : ∃ p, xs[i]? = some p ∧ k = (p.1 : Int) := by
      rw [List.getElem?_map] at hk
      cases e : xs[i]? with
      | none => rw [e] at hk; cases hk
      | some p => rw [e] at hk; exact ⟨p, rfl, (Option.some.inj hk).symm⟩
    refine Exists.elim zq34 fun p zz35 => ?_
    refine an2 zz35 fun hp ee36 => ?_
    subst ee36
    refine an2 (hall p (List.mem_of_getElem? hp)) fun hE hmx => ?_
    have hxl := menu_len hmx
    (repeat' (first | (k_unfold; (try dsimp only)) | (k_end; wrow_close) | ((with_reducible show wpAny _ _ (PySem.call (Value.ref _) _) _ _ _); first | (k_here; (with_reducible show wpAny _ _ (PySem.call (Value.ref 120) _) _ _ _); k_dflt ((refine' useB (C := (string_value_sp _ _ _ _ _ _ _ _ _ _ (by ktr_rel) (by with_reducible assumption) (by with_reducible assumption) (by with_reducible assumption))) (h := ?_); intro _ _ _ _ _; (try k_sweep); (try dsimp only)))) | fail) | walk1 | (dsimp only; walk1) | (dsimp only; with_reducible show wpAny _ _ _ _ _ _) | (leave1; (try dsimp only)) | fail "no step"))
    rw [List.take_add_one, hp, Option.toList, List.map_append]
    exact hR.snoc ⟨⟨_, rfl⟩, hmx⟩
  case fin =>
    intro ys news' hI
    refine an2 hI fun ee37 hR => ?_
    clear hI
    subst ee37
    have hsz : xs.length = vs.length := by have := hi.length; simp at this; omega
    rw [List.size_toArray, ← hsz, List.take_length] at hR
    have hlen9 : ys.length ≤ 10 := by rw [hR.1, List.length_map]; exact hlen
    (repeat' (first | (k_unfold; (try dsimp only)) | (k_end; wrow_close) | ((with_reducible show wpAny _ _ (PySem.call (Value.ref _) _) _ _ _); first | (k_here; (with_reducible show wpAny _ _ (PySem.call (Value.ref 120) _) _ _ _); k_dflt ((refine' useB (C := (string_value_sp _ _ _ _ _ _ _ _ _ _ (by ktr_rel) (by with_reducible assumption) (by with_reducible assumption) (by with_reducible assumption))) (h := ?_); intro _ _ _ _ _; (try k_sweep); (try dsimp only)))) | fail) | walk1 | (dsimp only; walk1) | (dsimp only; with_reducible show wpAny _ _ _ _ _ _) | (leave1; (try dsimp only)) | fail "no step"))
    refine' hret _ _ _ _ (by k_asm) (lessN (by k_asm) ?hs) ⟨_, rfl, _, _, _, rfl, List.mem_cons_self, hR.tail, hlen9⟩
    case hs => exact List.forall_mem_cons.mpr ⟨by k_mem, fun p hp => by k_mem⟩
end
section
local macro_rules | `(tactic| walk_at "none such") => `(tactic| fail)
/-- one pair of some_pair's -/
noncomputable def hitV (op : Str) : V → V → Bool
  | .txt x, Y => (x == textV Y) == (op == Str.ofString "=")
  | X, Y => cmpNum op (numV X) (numV Y)
noncomputable def pairV (op : Str) (Xs Ys : List V) : Bool := Xs.any fun X => Ys.any fun Y => hitV op X Y
/-- the items that some_pair meets: all texts, or all numbers -/
noncomputable def likeV (Xs Ys : List V) : Prop := ∀ X ∈ Xs, ∀ Y ∈ Ys, (isTxt X = true ∧ isTxt Y = true) ∨ (isNum X = true ∧ isNum Y = true)
local macro_rules | `(tactic| walk_at "exec For Name Name cons nil") => `(tactic| (k_here; (rename Fr _ _ _ _ => lF'); (with_unfolding_all refine' For_invVF lF' ?k1 ?k2 ?_; (case k1 => exact rfl); (case k2 => exact rfl); k_whole)))
theorem some_pair_sp (w : World) (mean : ExcName → Option Value) (mg mb : MV) (news : Led) (op : Str) (top : Tok) (lv rv : Value) (D : TD) (Xs Ys : List V) (hlv : ListAt w news D lv Xs) (hrv : ListAt w news D rv Ys) (hlike : likeV Xs Ys) :
   Sp w mean mg mb 174 [.str op top, lv, rv] 16 400 news (fun news' r => news' = news ∧ r = .bool (pairV op Xs Ys)) := by
  intro dp un gd cn cs aa ccd cl outer A₀ base h₀ L m s Q E B F X0 N T hk hd hu hret
  refine ex3 hlv fun l n vs zz1 => ?_
  refine an4 zz1 fun ee2 hm hr hvl => ?_
  clear hlv zz1
  subst ee2
  refine ex3 hrv fun l' n' vs' zz3 => ?_
  refine an4 zz3 fun ee4 hm' hr' hvl' => ?_
  clear hrv zz3
  subst ee4
  refine wpAny_call ?_
  k_dflt ktr_enter
  (repeat' (first | (k_unfold; (try dsimp only)) | (k_end; wrow_close) | ((with_reducible show wpAny _ _ (PySem.call (Value.ref _) _) _ _ _); first | (k_here; (with_reducible show wpAny _ _ (PySem.call (Value.ref 72) _) _ _ _); k_dflt ((refine' useA (C := (compared_numbers_sp _ _ _ _ _ _ _ _ _ _ _ (by ktr_rel) (by ktr_rel) (by with_reducible assumption) (by with_reducible assumption))) (h := ?_); intro _ _ _ _; (try k_sweep); (try dsimp only)))) | (k_here; (with_reducible show wpAny _ _ (PySem.call (Value.ref 155) _) _ _ _); k_dflt ((refine' useA (C := (compared_texts_sp _ _ _ _ _ _ _ _ _ _ _)) (h := ?_); intro _ _ _ _; (try k_sweep); (try dsimp only)))) | fail) | (k_here; first | ((with_reducible show wpAny _ _ (eval (Expr.Call (Expr.Name _ _) [Expr.Name _ _] [] _) _) _ _ _); k_dflt (refine' bigCall1 (by k_asm) (by k_asm) (by k_asm) (by k_is) (by k_is) (by rfl) ?_; k_whole)) | ((with_reducible show wpAny _ _ (eval (Expr.Call (Expr.Name _ _) [Expr.Name _ _, Expr.Name _ _] [] _) _) _ _ _); k_dflt (refine' bigCall2 (by k_asm) (by k_asm) (by k_asm) (by k_is) (by k_is) (by rfl) (by rfl) ?_; k_whole)) | ((with_reducible show wpAny _ _ (eval (Expr.Call (Expr.Name _ _) [Expr.Name _ _, Expr.Name _ _, Expr.Name _ _] [] _) _) _ _ _); k_dflt (refine' bigCall3 (by k_asm) (by k_asm) (by k_asm) (by k_is) (by k_is) (by rfl) (by rfl) (by rfl) ?_; k_whole)) | ((with_reducible show wpAny _ _ (eval (Expr.Call (Expr.Name _ _) [Expr.Name _ _, Expr.Name _ _, Expr.Name _ _, Expr.Name _ _] [] _) _) _ _ _); k_dflt (refine' bigCall4 (by k_asm) (by k_asm) (by k_asm) (by k_is) (by k_is) (by rfl) (by rfl) (by rfl) (by rfl) ?_; k_whole))) | (k_here; (with_reducible show wpAny _ _ (callWith _ (Value.builtin _) [_] _ _) _ _ _); (with_reducible refine' callWith_method1 ?_ (by k_dflt (rfl)) (by k_dflt (rfl)))) | (k_here; (first | ((with_reducible show wpAny _ _ (PySem.call (Value.builtin "isinstance") [_, Value.type "bool"]) _ _ _); (with_reducible refine' isi_rep_bool (by k_dflt (k_asm)) (by k_dflt (k_asm)) (by k_dflt (k_asm)) (by k_dflt (ktr_rel)) ?_)) | ((with_reducible show wpAny _ _ (PySem.call (Value.builtin "isinstance") [_, Value.type "str"]) _ _ _); (with_reducible refine' isi_rep_str (by k_dflt (k_asm)) (by k_dflt (k_asm)) (by k_dflt (k_asm)) (by k_dflt (ktr_rel)) ?_)) | ((with_reducible show wpAny _ _ (PySem.call (Value.builtin "isinstance") [_, Value.type "list"]) _ _ _); (with_reducible refine' isi_rep_list (by k_dflt (k_asm)) (by k_dflt (k_asm)) (by k_dflt (k_asm)) (by k_dflt (ktr_rel)) ?_)) | ((with_reducible show wpAny _ _ (PySem.call (Value.builtin "isinstance") [_, Value.type "tuple"]) _ _ _); (with_reducible refine' isi_rep_tuple (by k_dflt (k_asm)) (by k_dflt (k_asm)) (by k_dflt (k_asm)) (by k_dflt (ktr_rel)) ?_))); intro _; (try simp only [isSet_set, isSet_num, isSet_txt, isSet_tru, isNum_set, isNum_num, isNum_txt, isNum_tru, isTxt_set, isTxt_num, isTxt_txt, isTxt_tru, isTru_set, isTru_num, isTru_txt, isTru_tru])) | (k_here; (with_reducible show wpAny _ _ (PySem.call (Value.builtin "isinstance") [Value.ref _, Value.type _]) _ _ _); (first | with_reducible refine' IsiPair.tuple_bool (by k_dflt (exact HeldK.get (by k_asm) (by k_asm) (by k_asm) (by ktr_rel))) (by k_dflt (exact rfl)) ?_ | with_reducible refine' IsiPair.tuple_tuple (by k_dflt (exact HeldK.get (by k_asm) (by k_asm) (by k_asm) (by ktr_rel))) (by k_dflt (exact rfl)) ?_ | with_reducible refine' IsiPair.tuple_str (by k_dflt (exact HeldK.get (by k_asm) (by k_asm) (by k_asm) (by ktr_rel))) (by k_dflt (exact rfl)) ?_ | with_reducible refine' IsiPair.tuple_list (by k_dflt (exact HeldK.get (by k_asm) (by k_asm) (by k_asm) (by ktr_rel))) (by k_dflt (exact rfl)) ?_)) | walk1 | (dsimp only; walk1) | (dsimp only; with_reducible show wpAny _ _ _ _ _ _) | (leave1; (try dsimp only)) | fail "no step"))
  rename_i FG1 F1 N1 B1 X1 T1 qk1 ek1 tk1
  refine' Iter_led (fun m₀ i m₁ => (∃ a b, m₁ = fun z => if z = Str.ofString "left" then a else if z = Str.ofString "right" then b else m₀ z) ∧ ∀ k X, k < i → Xs[k]? = some X → (Ys.any fun Y => hitV op X Y) = false) ?hh hm (by k_asm) ?hL (by k_asm) ⟨⟨none, none, two_self ?a ?b⟩, fun k X hk => absurd hk (Nat.not_lt_zero k)⟩ ?turn ?done
  case hh => exact rfl
  case hL => exact rfl
  case a => rfl
  case b => rfl
  case turn =>
    rintro i v m₁ I oI h tk hv ⟨⟨a, b, rfl⟩, hJ⟩ hI F2 N2
    refine Exists.elim (hr.at hv) fun X zz5 => ?_
    refine an2 zz5 fun hX hXv => ?_
    clear zz5
    (repeat' (first | (k_unfold; (try dsimp only)) | (k_end; wrow_close) | ((with_reducible show wpAny _ _ (PySem.call (Value.ref _) _) _ _ _); first | (k_here; (with_reducible show wpAny _ _ (PySem.call (Value.ref 72) _) _ _ _); k_dflt ((refine' useA (C := (compared_numbers_sp _ _ _ _ _ _ _ _ _ _ _ (by ktr_rel) (by ktr_rel) (by with_reducible assumption) (by with_reducible assumption))) (h := ?_); intro _ _ _ _; (try k_sweep); (try dsimp only)))) | (k_here; (with_reducible show wpAny _ _ (PySem.call (Value.ref 155) _) _ _ _); k_dflt ((refine' useA (C := (compared_texts_sp _ _ _ _ _ _ _ _ _ _ _)) (h := ?_); intro _ _ _ _; (try k_sweep); (try dsimp only)))) | fail) | (k_here; first | ((with_reducible show wpAny _ _ (eval (Expr.Call (Expr.Name _ _) [Expr.Name _ _] [] _) _) _ _ _); k_dflt (refine' bigCall1 (by k_asm) (by k_asm) (by k_asm) (by k_is) (by k_is) (by rfl) ?_; k_whole)) | ((with_reducible show wpAny _ _ (eval (Expr.Call (Expr.Name _ _) [Expr.Name _ _, Expr.Name _ _] [] _) _) _ _ _); k_dflt (refine' bigCall2 (by k_asm) (by k_asm) (by k_asm) (by k_is) (by k_is) (by rfl) (by rfl) ?_; k_whole)) | ((with_reducible show wpAny _ _ (eval (Expr.Call (Expr.Name _ _) [Expr.Name _ _, Expr.Name _ _, Expr.Name _ _] [] _) _) _ _ _); k_dflt (refine' bigCall3 (by k_asm) (by k_asm) (by k_asm) (by k_is) (by k_is) (by rfl) (by rfl) (by rfl) ?_; k_whole)) | ((with_reducible show wpAny _ _ (eval (Expr.Call (Expr.Name _ _) [Expr.Name _ _, Expr.Name _ _, Expr.Name _ _, Expr.Name _ _] [] _) _) _ _ _); k_dflt (refine' bigCall4 (by k_asm) (by k_asm) (by k_asm) (by k_is) (by k_is) (by rfl) (by rfl) (by rfl) (by rfl) ?_; k_whole))) | (k_here; (with_reducible show wpAny _ _ (callWith _ (Value.builtin _) [_] _ _) _ _ _); (with_reducible refine' callWith_method1 ?_ (by k_dflt (rfl)) (by k_dflt (rfl)))) | (k_here; (first | ((with_reducible show wpAny _ _ (PySem.call (Value.builtin "isinstance") [_, Value.type "bool"]) _ _ _); (with_reducible refine' isi_rep_bool (by k_dflt (k_asm)) (by k_dflt (k_asm)) (by k_dflt (k_asm)) (by k_dflt (ktr_rel)) ?_)) | ((with_reducible show wpAny _ _ (PySem.call (Value.builtin "isinstance") [_, Value.type "str"]) _ _ _); (with_reducible refine' isi_rep_str (by k_dflt (k_asm)) (by k_dflt (k_asm)) (by k_dflt (k_asm)) (by k_dflt (ktr_rel)) ?_)) | ((with_reducible show wpAny _ _ (PySem.call (Value.builtin "isinstance") [_, Value.type "list"]) _ _ _); (with_reducible refine' isi_rep_list (by k_dflt (k_asm)) (by k_dflt (k_asm)) (by k_dflt (k_asm)) (by k_dflt (ktr_rel)) ?_)) | ((with_reducible show wpAny _ _ (PySem.call (Value.builtin "isinstance") [_, Value.type "tuple"]) _ _ _); (with_reducible refine' isi_rep_tuple (by k_dflt (k_asm)) (by k_dflt (k_asm)) (by k_dflt (k_asm)) (by k_dflt (ktr_rel)) ?_))); intro _; (try simp only [isSet_set, isSet_num, isSet_txt, isSet_tru, isNum_set, isNum_num, isNum_txt, isNum_tru, isTxt_set, isTxt_num, isTxt_txt, isTxt_tru, isTru_set, isTru_num, isTru_txt, isTru_tru])) | (k_here; (with_reducible show wpAny _ _ (PySem.call (Value.builtin "isinstance") [Value.ref _, Value.type _]) _ _ _); (first | with_reducible refine' IsiPair.tuple_bool (by k_dflt (exact HeldK.get (by k_asm) (by k_asm) (by k_asm) (by ktr_rel))) (by k_dflt (exact rfl)) ?_ | with_reducible refine' IsiPair.tuple_tuple (by k_dflt (exact HeldK.get (by k_asm) (by k_asm) (by k_asm) (by ktr_rel))) (by k_dflt (exact rfl)) ?_ | with_reducible refine' IsiPair.tuple_str (by k_dflt (exact HeldK.get (by k_asm) (by k_asm) (by k_asm) (by ktr_rel))) (by k_dflt (exact rfl)) ?_ | with_reducible refine' IsiPair.tuple_list (by k_dflt (exact HeldK.get (by k_asm) (by k_asm) (by k_asm) (by ktr_rel))) (by k_dflt (exact rfl)) ?_)) | walk1 | (dsimp only; walk1) | (dsimp only; with_reducible show wpAny _ _ _ _ _ _) | (leave1; (try dsimp only)) | fail "no step"))
    refine' Iter_led (fun m₀ j m₁ => (∃ b, m₁ = fun z => if z = Str.ofString "right" then b else m₀ z) ∧ ∀ k Y, k < j → Ys[k]? = some Y → hitV op X Y = false) ?hh2 ?hm2 (by k_asm) ?hL2 (by k_asm) ⟨⟨_, one_self rfl⟩, fun k X hk => absurd hk (Nat.not_lt_zero k)⟩ ?turn2 ?done2
    case hh2 => exact rfl
    case hm2 => k_mem
    case hL2 => exact rfl
    case turn2 =>
      rintro j u m₁ I' oI' h tk hu' ⟨⟨b', rfl⟩, hJ'⟩ hI' F3 N3
      refine Exists.elim (hr'.at hu') fun Y zz6 => ?_
      refine an2 zz6 fun hY hYv => ?_
      clear zz6
      have hl := hlike X (List.mem_of_getElem? hX) Y (List.mem_of_getElem? hY)
      have goT : hitV op X Y = true → pairV op Xs Ys = true := fun e => List.any_eq_true.mpr ⟨X, List.mem_of_getElem? hX, List.any_eq_true.mpr ⟨Y, List.mem_of_getElem? hY, e⟩⟩
      have goF : hitV op X Y = false → ∀ k Z, k < j + 1 → Ys[k]? = some Z → hitV op X Z = false := fun e k Z hk hZ => by
        rcases Nat.lt_or_ge k j with h | h
        · exact hJ' k Z h hZ
        · have : k = j := by omega
          subst this
          rw [hY] at hZ
          cases hZ
          exact e
      clear hJ hJ' hv hu' hX hY hlike hr hr'
      cases X <;> cases Y <;> first | (exfalso; simp [isTxt, isNum] at hl; done) | skip
      case num a a' =>
        clear hl
        have sX := small_menuN hXv.2
        have sY := small_menuN hYv.2
        have nX := hXv.1
        have nY := hYv.1
        refine an2 hXv fun zz7 _ => ?_
        refine ex3 zz7 fun r1 t1 t2 zz8 => ?_
        refine an2 zz8 fun ee9 hr1 => ?_
        clear hXv zz7 zz8
        subst ee9
        refine an2 hYv fun zz10 _ => ?_
        refine ex3 zz10 fun r3 t3 t4 zz11 => ?_
        refine an2 zz11 fun ee12 hr3 => ?_
        clear hYv zz10 zz11
        subst ee12
        (repeat' (first | (k_unfold; (try dsimp only)) | (k_end; wrow_close) | ((with_reducible show wpAny _ _ (PySem.call (Value.ref _) _) _ _ _); first | (k_here; (with_reducible show wpAny _ _ (PySem.call (Value.ref 72) _) _ _ _); k_dflt ((refine' useA (C := (compared_numbers_sp _ _ _ _ _ _ _ _ _ _ _ (by ktr_rel) (by ktr_rel) (by with_reducible assumption) (by with_reducible assumption))) (h := ?_); intro _ _ _ _; (try k_sweep); (try dsimp only)))) | (k_here; (with_reducible show wpAny _ _ (PySem.call (Value.ref 155) _) _ _ _); k_dflt ((refine' useA (C := (compared_texts_sp _ _ _ _ _ _ _ _ _ _ _)) (h := ?_); intro _ _ _ _; (try k_sweep); (try dsimp only)))) | fail) | (k_here; first | ((with_reducible show wpAny _ _ (eval (Expr.Call (Expr.Name _ _) [Expr.Name _ _] [] _) _) _ _ _); k_dflt (refine' bigCall1 (by k_asm) (by k_asm) (by k_asm) (by k_is) (by k_is) (by rfl) ?_; k_whole)) | ((with_reducible show wpAny _ _ (eval (Expr.Call (Expr.Name _ _) [Expr.Name _ _, Expr.Name _ _] [] _) _) _ _ _); k_dflt (refine' bigCall2 (by k_asm) (by k_asm) (by k_asm) (by k_is) (by k_is) (by rfl) (by rfl) ?_; k_whole)) | ((with_reducible show wpAny _ _ (eval (Expr.Call (Expr.Name _ _) [Expr.Name _ _, Expr.Name _ _, Expr.Name _ _] [] _) _) _ _ _); k_dflt (refine' bigCall3 (by k_asm) (by k_asm) (by k_asm) (by k_is) (by k_is) (by rfl) (by rfl) (by rfl) ?_; k_whole)) | ((with_reducible show wpAny _ _ (eval (Expr.Call (Expr.Name _ _) [Expr.Name _ _, Expr.Name _ _, Expr.Name _ _, Expr.Name _ _] [] _) _) _ _ _); k_dflt (refine' bigCall4 (by k_asm) (by k_asm) (by k_asm) (by k_is) (by k_is) (by rfl) (by rfl) (by rfl) (by rfl) ?_; k_whole))) | (k_here; (with_reducible show wpAny _ _ (callWith _ (Value.builtin _) [_] _ _) _ _ _); (with_reducible refine' callWith_method1 ?_ (by k_dflt (rfl)) (by k_dflt (rfl)))) | (k_here; (first | ((with_reducible show wpAny _ _ (PySem.call (Value.builtin "isinstance") [_, Value.type "bool"]) _ _ _); (with_reducible refine' isi_rep_bool (by k_dflt (k_asm)) (by k_dflt (k_asm)) (by k_dflt (k_asm)) (by k_dflt (ktr_rel)) ?_)) | ((with_reducible show wpAny _ _ (PySem.call (Value.builtin "isinstance") [_, Value.type "str"]) _ _ _); (with_reducible refine' isi_rep_str (by k_dflt (k_asm)) (by k_dflt (k_asm)) (by k_dflt (k_asm)) (by k_dflt (ktr_rel)) ?_)) | ((with_reducible show wpAny _ _ (PySem.call (Value.builtin "isinstance") [_, Value.type "list"]) _ _ _); (with_reducible refine' isi_rep_list (by k_dflt (k_asm)) (by k_dflt (k_asm)) (by k_dflt (k_asm)) (by k_dflt (ktr_rel)) ?_)) | ((with_reducible show wpAny _ _ (PySem.call (Value.builtin "isinstance") [_, Value.type "tuple"]) _ _ _); (with_reducible refine' isi_rep_tuple (by k_dflt (k_asm)) (by k_dflt (k_asm)) (by k_dflt (k_asm)) (by k_dflt (ktr_rel)) ?_))); intro _; (try simp only [isSet_set, isSet_num, isSet_txt, isSet_tru, isNum_set, isNum_num, isNum_txt, isNum_tru, isTxt_set, isTxt_num, isTxt_txt, isTxt_tru, isTru_set, isTru_num, isTru_txt, isTru_tru])) | (k_here; (with_reducible show wpAny _ _ (PySem.call (Value.builtin "isinstance") [Value.ref _, Value.type _]) _ _ _); (first | with_reducible refine' IsiPair.tuple_bool (by k_dflt (exact HeldK.get (by k_asm) (by k_asm) (by k_asm) (by ktr_rel))) (by k_dflt (exact rfl)) ?_ | with_reducible refine' IsiPair.tuple_tuple (by k_dflt (exact HeldK.get (by k_asm) (by k_asm) (by k_asm) (by ktr_rel))) (by k_dflt (exact rfl)) ?_ | with_reducible refine' IsiPair.tuple_str (by k_dflt (exact HeldK.get (by k_asm) (by k_asm) (by k_asm) (by ktr_rel))) (by k_dflt (exact rfl)) ?_ | with_reducible refine' IsiPair.tuple_list (by k_dflt (exact HeldK.get (by k_asm) (by k_asm) (by k_asm) (by ktr_rel))) (by k_dflt (exact rfl)) ?_)) | walk1 | (dsimp only; walk1) | (dsimp only; with_reducible show wpAny _ _ _ _ _ _) | (leave1; (try dsimp only)) | fail "no step"))
        all_goals first
          | (refine TurnL.ret ?_
             dsimp only
             refine TurnL.ret ?_
             dsimp only
             (repeat' (first | (k_unfold; (try dsimp only)) | (k_end; wrow_close) | ((with_reducible show wpAny _ _ (PySem.call (Value.ref _) _) _ _ _); first | (k_here; (with_reducible show wpAny _ _ (PySem.call (Value.ref 72) _) _ _ _); k_dflt ((refine' useA (C := (compared_numbers_sp _ _ _ _ _ _ _ _ _ _ _ (by ktr_rel) (by ktr_rel) (by with_reducible assumption) (by with_reducible assumption))) (h := ?_); intro _ _ _ _; (try k_sweep); (try dsimp only)))) | (k_here; (with_reducible show wpAny _ _ (PySem.call (Value.ref 155) _) _ _ _); k_dflt ((refine' useA (C := (compared_texts_sp _ _ _ _ _ _ _ _ _ _ _)) (h := ?_); intro _ _ _ _; (try k_sweep); (try dsimp only)))) | fail) | (k_here; first | ((with_reducible show wpAny _ _ (eval (Expr.Call (Expr.Name _ _) [Expr.Name _ _] [] _) _) _ _ _); k_dflt (refine' bigCall1 (by k_asm) (by k_asm) (by k_asm) (by k_is) (by k_is) (by rfl) ?_; k_whole)) | ((with_reducible show wpAny _ _ (eval (Expr.Call (Expr.Name _ _) [Expr.Name _ _, Expr.Name _ _] [] _) _) _ _ _); k_dflt (refine' bigCall2 (by k_asm) (by k_asm) (by k_asm) (by k_is) (by k_is) (by rfl) (by rfl) ?_; k_whole)) | ((with_reducible show wpAny _ _ (eval (Expr.Call (Expr.Name _ _) [Expr.Name _ _, Expr.Name _ _, Expr.Name _ _] [] _) _) _ _ _); k_dflt (refine' bigCall3 (by k_asm) (by k_asm) (by k_asm) (by k_is) (by k_is) (by rfl) (by rfl) (by rfl) ?_; k_whole)) | ((with_reducible show wpAny _ _ (eval (Expr.Call (Expr.Name _ _) [Expr.Name _ _, Expr.Name _ _, Expr.Name _ _, Expr.Name _ _] [] _) _) _ _ _); k_dflt (refine' bigCall4 (by k_asm) (by k_asm) (by k_asm) (by k_is) (by k_is) (by rfl) (by rfl) (by rfl) (by rfl) ?_; k_whole))) | (k_here; (with_reducible show wpAny _ _ (callWith _ (Value.builtin _) [_] _ _) _ _ _); (with_reducible refine' callWith_method1 ?_ (by k_dflt (rfl)) (by k_dflt (rfl)))) | (k_here; (first | ((with_reducible show wpAny _ _ (PySem.call (Value.builtin "isinstance") [_, Value.type "bool"]) _ _ _); (with_reducible refine' isi_rep_bool (by k_dflt (k_asm)) (by k_dflt (k_asm)) (by k_dflt (k_asm)) (by k_dflt (ktr_rel)) ?_)) | ((with_reducible show wpAny _ _ (PySem.call (Value.builtin "isinstance") [_, Value.type "str"]) _ _ _); (with_reducible refine' isi_rep_str (by k_dflt (k_asm)) (by k_dflt (k_asm)) (by k_dflt (k_asm)) (by k_dflt (ktr_rel)) ?_)) | ((with_reducible show wpAny _ _ (PySem.call (Value.builtin "isinstance") [_, Value.type "list"]) _ _ _); (with_reducible refine' isi_rep_list (by k_dflt (k_asm)) (by k_dflt (k_asm)) (by k_dflt (k_asm)) (by k_dflt (ktr_rel)) ?_)) | ((with_reducible show wpAny _ _ (PySem.call (Value.builtin "isinstance") [_, Value.type "tuple"]) _ _ _); (with_reducible refine' isi_rep_tuple (by k_dflt (k_asm)) (by k_dflt (k_asm)) (by k_dflt (k_asm)) (by k_dflt (ktr_rel)) ?_))); intro _; (try simp only [isSet_set, isSet_num, isSet_txt, isSet_tru, isNum_set, isNum_num, isNum_txt, isNum_tru, isTxt_set, isTxt_num, isTxt_txt, isTxt_tru, isTru_set, isTru_num, isTru_txt, isTru_tru])) | (k_here; (with_reducible show wpAny _ _ (PySem.call (Value.builtin "isinstance") [Value.ref _, Value.type _]) _ _ _); (first | with_reducible refine' IsiPair.tuple_bool (by k_dflt (exact HeldK.get (by k_asm) (by k_asm) (by k_asm) (by ktr_rel))) (by k_dflt (exact rfl)) ?_ | with_reducible refine' IsiPair.tuple_tuple (by k_dflt (exact HeldK.get (by k_asm) (by k_asm) (by k_asm) (by ktr_rel))) (by k_dflt (exact rfl)) ?_ | with_reducible refine' IsiPair.tuple_str (by k_dflt (exact HeldK.get (by k_asm) (by k_asm) (by k_asm) (by ktr_rel))) (by k_dflt (exact rfl)) ?_ | with_reducible refine' IsiPair.tuple_list (by k_dflt (exact HeldK.get (by k_asm) (by k_asm) (by k_asm) (by ktr_rel))) (by k_dflt (exact rfl)) ?_)) | walk1 | (dsimp only; walk1) | (dsimp only; with_reducible show wpAny _ _ _ _ _ _) | (leave1; (try dsimp only)) | fail "no step"))
             exact hret _ _ _ _ (by k_asm) (lessN (by k_asm) (fun p hp => by k_mem)) ⟨rfl, boov (goT (by assumption)).symm⟩)
          | (refine' TurnL.next ?F9 ?N9 ?J9
             case F9 => k_asm
             case N9 => k_asm
             case J9 =>
               rw [one_turn]
               exact ⟨⟨_, rfl⟩, goF (by assumption)⟩)
      case txt x y =>
        clear hl
        refine an2 hXv fun zz13 _ => ?_
        refine Exists.elim zz13 fun t1 ee15 => ?_
        clear hXv zz13
        subst ee15
        refine an2 hYv fun zz16 _ => ?_
        refine Exists.elim zz16 fun t2 ee18 => ?_
        clear hYv zz16
        subst ee18
        (repeat' (first | (k_unfold; (try dsimp only)) | (k_end; wrow_close) | ((with_reducible show wpAny _ _ (PySem.call (Value.ref _) _) _ _ _); first | (k_here; (with_reducible show wpAny _ _ (PySem.call (Value.ref 72) _) _ _ _); k_dflt ((refine' useA (C := (compared_numbers_sp _ _ _ _ _ _ _ _ _ _ _ (by ktr_rel) (by ktr_rel) (by with_reducible assumption) (by with_reducible assumption))) (h := ?_); intro _ _ _ _; (try k_sweep); (try dsimp only)))) | (k_here; (with_reducible show wpAny _ _ (PySem.call (Value.ref 155) _) _ _ _); k_dflt ((refine' useA (C := (compared_texts_sp _ _ _ _ _ _ _ _ _ _ _)) (h := ?_); intro _ _ _ _; (try k_sweep); (try dsimp only)))) | fail) | (k_here; first | ((with_reducible show wpAny _ _ (eval (Expr.Call (Expr.Name _ _) [Expr.Name _ _] [] _) _) _ _ _); k_dflt (refine' bigCall1 (by k_asm) (by k_asm) (by k_asm) (by k_is) (by k_is) (by rfl) ?_; k_whole)) | ((with_reducible show wpAny _ _ (eval (Expr.Call (Expr.Name _ _) [Expr.Name _ _, Expr.Name _ _] [] _) _) _ _ _); k_dflt (refine' bigCall2 (by k_asm) (by k_asm) (by k_asm) (by k_is) (by k_is) (by rfl) (by rfl) ?_; k_whole)) | ((with_reducible show wpAny _ _ (eval (Expr.Call (Expr.Name _ _) [Expr.Name _ _, Expr.Name _ _, Expr.Name _ _] [] _) _) _ _ _); k_dflt (refine' bigCall3 (by k_asm) (by k_asm) (by k_asm) (by k_is) (by k_is) (by rfl) (by rfl) (by rfl) ?_; k_whole)) | ((with_reducible show wpAny _ _ (eval (Expr.Call (Expr.Name _ _) [Expr.Name _ _, Expr.Name _ _, Expr.Name _ _, Expr.Name _ _] [] _) _) _ _ _); k_dflt (refine' bigCall4 (by k_asm) (by k_asm) (by k_asm) (by k_is) (by k_is) (by rfl) (by rfl) (by rfl) (by rfl) ?_; k_whole))) | (k_here; (with_reducible show wpAny _ _ (callWith _ (Value.builtin _) [_] _ _) _ _ _); (with_reducible refine' callWith_method1 ?_ (by k_dflt (rfl)) (by k_dflt (rfl)))) | (k_here; (first | ((with_reducible show wpAny _ _ (PySem.call (Value.builtin "isinstance") [_, Value.type "bool"]) _ _ _); (with_reducible refine' isi_rep_bool (by k_dflt (k_asm)) (by k_dflt (k_asm)) (by k_dflt (k_asm)) (by k_dflt (ktr_rel)) ?_)) | ((with_reducible show wpAny _ _ (PySem.call (Value.builtin "isinstance") [_, Value.type "str"]) _ _ _); (with_reducible refine' isi_rep_str (by k_dflt (k_asm)) (by k_dflt (k_asm)) (by k_dflt (k_asm)) (by k_dflt (ktr_rel)) ?_)) | ((with_reducible show wpAny _ _ (PySem.call (Value.builtin "isinstance") [_, Value.type "list"]) _ _ _); (with_reducible refine' isi_rep_list (by k_dflt (k_asm)) (by k_dflt (k_asm)) (by k_dflt (k_asm)) (by k_dflt (ktr_rel)) ?_)) | ((with_reducible show wpAny _ _ (PySem.call (Value.builtin "isinstance") [_, Value.type "tuple"]) _ _ _); (with_reducible refine' isi_rep_tuple (by k_dflt (k_asm)) (by k_dflt (k_asm)) (by k_dflt (k_asm)) (by k_dflt (ktr_rel)) ?_))); intro _; (try simp only [isSet_set, isSet_num, isSet_txt, isSet_tru, isNum_set, isNum_num, isNum_txt, isNum_tru, isTxt_set, isTxt_num, isTxt_txt, isTxt_tru, isTru_set, isTru_num, isTru_txt, isTru_tru])) | (k_here; (with_reducible show wpAny _ _ (PySem.call (Value.builtin "isinstance") [Value.ref _, Value.type _]) _ _ _); (first | with_reducible refine' IsiPair.tuple_bool (by k_dflt (exact HeldK.get (by k_asm) (by k_asm) (by k_asm) (by ktr_rel))) (by k_dflt (exact rfl)) ?_ | with_reducible refine' IsiPair.tuple_tuple (by k_dflt (exact HeldK.get (by k_asm) (by k_asm) (by k_asm) (by ktr_rel))) (by k_dflt (exact rfl)) ?_ | with_reducible refine' IsiPair.tuple_str (by k_dflt (exact HeldK.get (by k_asm) (by k_asm) (by k_asm) (by ktr_rel))) (by k_dflt (exact rfl)) ?_ | with_reducible refine' IsiPair.tuple_list (by k_dflt (exact HeldK.get (by k_asm) (by k_asm) (by k_asm) (by ktr_rel))) (by k_dflt (exact rfl)) ?_)) | walk1 | (dsimp only; walk1) | (dsimp only; with_reducible show wpAny _ _ _ _ _ _) | (leave1; (try dsimp only)) | fail "no step"))
        all_goals first
          | (refine TurnL.ret ?_
             dsimp only
             refine TurnL.ret ?_
             dsimp only
             (repeat' (first | (k_unfold; (try dsimp only)) | (k_end; wrow_close) | ((with_reducible show wpAny _ _ (PySem.call (Value.ref _) _) _ _ _); first | (k_here; (with_reducible show wpAny _ _ (PySem.call (Value.ref 72) _) _ _ _); k_dflt ((refine' useA (C := (compared_numbers_sp _ _ _ _ _ _ _ _ _ _ _ (by ktr_rel) (by ktr_rel) (by with_reducible assumption) (by with_reducible assumption))) (h := ?_); intro _ _ _ _; (try k_sweep); (try dsimp only)))) | (k_here; (with_reducible show wpAny _ _ (PySem.call (Value.ref 155) _) _ _ _); k_dflt ((refine' useA (C := (compared_texts_sp _ _ _ _ _ _ _ _ _ _ _)) (h := ?_); intro _ _ _ _; (try k_sweep); (try dsimp only)))) | fail) | (k_here; first | ((with_reducible show wpAny _ _ (eval (Expr.Call (Expr.Name _ _) [Expr.Name _ _] [] _) _) _ _ _); k_dflt (refine' bigCall1 (by k_asm) (by k_asm) (by k_asm) (by k_is) (by k_is) (by rfl) ?_; k_whole)) | ((with_reducible show wpAny _ _ (eval (Expr.Call (Expr.Name _ _) [Expr.Name _ _, Expr.Name _ _] [] _) _) _ _ _); k_dflt (refine' bigCall2 (by k_asm) (by k_asm) (by k_asm) (by k_is) (by k_is) (by rfl) (by rfl) ?_; k_whole)) | ((with_reducible show wpAny _ _ (eval (Expr.Call (Expr.Name _ _) [Expr.Name _ _, Expr.Name _ _, Expr.Name _ _] [] _) _) _ _ _); k_dflt (refine' bigCall3 (by k_asm) (by k_asm) (by k_asm) (by k_is) (by k_is) (by rfl) (by rfl) (by rfl) ?_; k_whole)) | ((with_reducible show wpAny _ _ (eval (Expr.Call (Expr.Name _ _) [Expr.Name _ _, Expr.Name _ _, Expr.Name _ _, Expr.Name _ _] [] _) _) _ _ _); k_dflt (refine' bigCall4 (by k_asm) (by k_asm) (by k_asm) (by k_is) (by k_is) (by rfl) (by rfl) (by rfl) (by rfl) ?_; k_whole))) | (k_here; (with_reducible show wpAny _ _ (callWith _ (Value.builtin _) [_] _ _) _ _ _); (with_reducible refine' callWith_method1 ?_ (by k_dflt (rfl)) (by k_dflt (rfl)))) | (k_here; (first | ((with_reducible show wpAny _ _ (PySem.call (Value.builtin "isinstance") [_, Value.type "bool"]) _ _ _); (with_reducible refine' isi_rep_bool (by k_dflt (k_asm)) (by k_dflt (k_asm)) (by k_dflt (k_asm)) (by k_dflt (ktr_rel)) ?_)) | ((with_reducible show wpAny _ _ (PySem.call (Value.builtin "isinstance") [_, Value.type "str"]) _ _ _); (with_reducible refine' isi_rep_str (by k_dflt (k_asm)) (by k_dflt (k_asm)) (by k_dflt (k_asm)) (by k_dflt (ktr_rel)) ?_)) | ((with_reducible show wpAny _ _ (PySem.call (Value.builtin "isinstance") [_, Value.type "list"]) _ _ _); (with_reducible refine' isi_rep_list (by k_dflt (k_asm)) (by k_dflt (k_asm)) (by k_dflt (k_asm)) (by k_dflt (ktr_rel)) ?_)) | ((with_reducible show wpAny _ _ (PySem.call (Value.builtin "isinstance") [_, Value.type "tuple"]) _ _ _); (with_reducible refine' isi_rep_tuple (by k_dflt (k_asm)) (by k_dflt (k_asm)) (by k_dflt (k_asm)) (by k_dflt (ktr_rel)) ?_))); intro _; (try simp only [isSet_set, isSet_num, isSet_txt, isSet_tru, isNum_set, isNum_num, isNum_txt, isNum_tru, isTxt_set, isTxt_num, isTxt_txt, isTxt_tru, isTru_set, isTru_num, isTru_txt, isTru_tru])) | (k_here; (with_reducible show wpAny _ _ (PySem.call (Value.builtin "isinstance") [Value.ref _, Value.type _]) _ _ _); (first | with_reducible refine' IsiPair.tuple_bool (by k_dflt (exact HeldK.get (by k_asm) (by k_asm) (by k_asm) (by ktr_rel))) (by k_dflt (exact rfl)) ?_ | with_reducible refine' IsiPair.tuple_tuple (by k_dflt (exact HeldK.get (by k_asm) (by k_asm) (by k_asm) (by ktr_rel))) (by k_dflt (exact rfl)) ?_ | with_reducible refine' IsiPair.tuple_str (by k_dflt (exact HeldK.get (by k_asm) (by k_asm) (by k_asm) (by ktr_rel))) (by k_dflt (exact rfl)) ?_ | with_reducible refine' IsiPair.tuple_list (by k_dflt (exact HeldK.get (by k_asm) (by k_asm) (by k_asm) (by ktr_rel))) (by k_dflt (exact rfl)) ?_)) | walk1 | (dsimp only; walk1) | (dsimp only; with_reducible show wpAny _ _ _ _ _ _) | (leave1; (try dsimp only)) | fail "no step"))
             exact hret _ _ _ _ (by k_asm) (lessN (by k_asm) (fun p hp => by k_mem)) ⟨rfl, boov (goT (by assumption)).symm⟩)
          | (refine' TurnL.next ?F9 ?N9 ?J9
             case F9 => k_asm
             case N9 => k_asm
             case J9 =>
               rw [one_turn]
               exact ⟨⟨_, rfl⟩, goF (by assumption)⟩)
    case done2 =>
      rintro h tk m' F3 N3 ⟨⟨b', rfl⟩, hJ'⟩
      rw [two_turn (by decide)] at F3
      (repeat' (first | (k_unfold; (try dsimp only)) | (k_end; wrow_close) | ((with_reducible show wpAny _ _ (PySem.call (Value.ref _) _) _ _ _); first | (k_here; (with_reducible show wpAny _ _ (PySem.call (Value.ref 72) _) _ _ _); k_dflt ((refine' useA (C := (compared_numbers_sp _ _ _ _ _ _ _ _ _ _ _ (by ktr_rel) (by ktr_rel) (by with_reducible assumption) (by with_reducible assumption))) (h := ?_); intro _ _ _ _; (try k_sweep); (try dsimp only)))) | (k_here; (with_reducible show wpAny _ _ (PySem.call (Value.ref 155) _) _ _ _); k_dflt ((refine' useA (C := (compared_texts_sp _ _ _ _ _ _ _ _ _ _ _)) (h := ?_); intro _ _ _ _; (try k_sweep); (try dsimp only)))) | fail) | (k_here; first | ((with_reducible show wpAny _ _ (eval (Expr.Call (Expr.Name _ _) [Expr.Name _ _] [] _) _) _ _ _); k_dflt (refine' bigCall1 (by k_asm) (by k_asm) (by k_asm) (by k_is) (by k_is) (by rfl) ?_; k_whole)) | ((with_reducible show wpAny _ _ (eval (Expr.Call (Expr.Name _ _) [Expr.Name _ _, Expr.Name _ _] [] _) _) _ _ _); k_dflt (refine' bigCall2 (by k_asm) (by k_asm) (by k_asm) (by k_is) (by k_is) (by rfl) (by rfl) ?_; k_whole)) | ((with_reducible show wpAny _ _ (eval (Expr.Call (Expr.Name _ _) [Expr.Name _ _, Expr.Name _ _, Expr.Name _ _] [] _) _) _ _ _); k_dflt (refine' bigCall3 (by k_asm) (by k_asm) (by k_asm) (by k_is) (by k_is) (by rfl) (by rfl) (by rfl) ?_; k_whole)) | ((with_reducible show wpAny _ _ (eval (Expr.Call (Expr.Name _ _) [Expr.Name _ _, Expr.Name _ _, Expr.Name _ _, Expr.Name _ _] [] _) _) _ _ _); k_dflt (refine' bigCall4 (by k_asm) (by k_asm) (by k_asm) (by k_is) (by k_is) (by rfl) (by rfl) (by rfl) (by rfl) ?_; k_whole))) | (k_here; (with_reducible show wpAny _ _ (callWith _ (Value.builtin _) [_] _ _) _ _ _); (with_reducible refine' callWith_method1 ?_ (by k_dflt (rfl)) (by k_dflt (rfl)))) | (k_here; (first | ((with_reducible show wpAny _ _ (PySem.call (Value.builtin "isinstance") [_, Value.type "bool"]) _ _ _); (with_reducible refine' isi_rep_bool (by k_dflt (k_asm)) (by k_dflt (k_asm)) (by k_dflt (k_asm)) (by k_dflt (ktr_rel)) ?_)) | ((with_reducible show wpAny _ _ (PySem.call (Value.builtin "isinstance") [_, Value.type "str"]) _ _ _); (with_reducible refine' isi_rep_str (by k_dflt (k_asm)) (by k_dflt (k_asm)) (by k_dflt (k_asm)) (by k_dflt (ktr_rel)) ?_)) | ((with_reducible show wpAny _ _ (PySem.call (Value.builtin "isinstance") [_, Value.type "list"]) _ _ _); (with_reducible refine' isi_rep_list (by k_dflt (k_asm)) (by k_dflt (k_asm)) (by k_dflt (k_asm)) (by k_dflt (ktr_rel)) ?_)) | ((with_reducible show wpAny _ _ (PySem.call (Value.builtin "isinstance") [_, Value.type "tuple"]) _ _ _); (with_reducible refine' isi_rep_tuple (by k_dflt (k_asm)) (by k_dflt (k_asm)) (by k_dflt (k_asm)) (by k_dflt (ktr_rel)) ?_))); intro _; (try simp only [isSet_set, isSet_num, isSet_txt, isSet_tru, isNum_set, isNum_num, isNum_txt, isNum_tru, isTxt_set, isTxt_num, isTxt_txt, isTxt_tru, isTru_set, isTru_num, isTru_txt, isTru_tru])) | (k_here; (with_reducible show wpAny _ _ (PySem.call (Value.builtin "isinstance") [Value.ref _, Value.type _]) _ _ _); (first | with_reducible refine' IsiPair.tuple_bool (by k_dflt (exact HeldK.get (by k_asm) (by k_asm) (by k_asm) (by ktr_rel))) (by k_dflt (exact rfl)) ?_ | with_reducible refine' IsiPair.tuple_tuple (by k_dflt (exact HeldK.get (by k_asm) (by k_asm) (by k_asm) (by ktr_rel))) (by k_dflt (exact rfl)) ?_ | with_reducible refine' IsiPair.tuple_str (by k_dflt (exact HeldK.get (by k_asm) (by k_asm) (by k_asm) (by ktr_rel))) (by k_dflt (exact rfl)) ?_ | with_reducible refine' IsiPair.tuple_list (by k_dflt (exact HeldK.get (by k_asm) (by k_asm) (by k_asm) (by ktr_rel))) (by k_dflt (exact rfl)) ?_)) | walk1 | (dsimp only; walk1) | (dsimp only; with_reducible show wpAny _ _ _ _ _ _) | (leave1; (try dsimp only)) | fail "no step"))
      refine' TurnL.next (by k_asm) (by k_asm) ?_
      refine ⟨⟨_, _, rfl⟩, fun k Z hk hZ => ?_⟩
      rcases Nat.lt_or_ge k i with h | h
      · exact hJ k Z h hZ
      · have : k = i := by omega
        subst this
        rw [hX] at hZ
        cases hZ
        refine List.any_eq_false.mpr fun Y hY => ?_
        obtain ⟨n9, hn9, rfl⟩ := List.getElem_of_mem hY
        rw [hJ' n9 _ (by rw [hr'.1]; exact hn9) (List.getElem?_eq_getElem hn9)]
        exact Bool.false_ne_true
  case done =>
    rintro h tk m' F2 N2 ⟨⟨a, b, rfl⟩, hJ⟩
    have hF : pairV op Xs Ys = false := by
      refine List.any_eq_false.mpr fun X hX => ?_
      obtain ⟨n9, hn9, rfl⟩ := List.getElem_of_mem hX
      rw [hJ n9 _ (by rw [hr.1]; exact hn9) (List.getElem?_eq_getElem hn9)]
      exact Bool.false_ne_true
    (repeat' (first | (k_unfold; (try dsimp only)) | (k_end; wrow_close) | ((with_reducible show wpAny _ _ (PySem.call (Value.ref _) _) _ _ _); first | (k_here; (with_reducible show wpAny _ _ (PySem.call (Value.ref 72) _) _ _ _); k_dflt ((refine' useA (C := (compared_numbers_sp _ _ _ _ _ _ _ _ _ _ _ (by ktr_rel) (by ktr_rel) (by with_reducible assumption) (by with_reducible assumption))) (h := ?_); intro _ _ _ _; (try k_sweep); (try dsimp only)))) | (k_here; (with_reducible show wpAny _ _ (PySem.call (Value.ref 155) _) _ _ _); k_dflt ((refine' useA (C := (compared_texts_sp _ _ _ _ _ _ _ _ _ _ _)) (h := ?_); intro _ _ _ _; (try k_sweep); (try dsimp only)))) | fail) | (k_here; first | ((with_reducible show wpAny _ _ (eval (Expr.Call (Expr.Name _ _) [Expr.Name _ _] [] _) _) _ _ _); k_dflt (refine' bigCall1 (by k_asm) (by k_asm) (by k_asm) (by k_is) (by k_is) (by rfl) ?_; k_whole)) | ((with_reducible show wpAny _ _ (eval (Expr.Call (Expr.Name _ _) [Expr.Name _ _, Expr.Name _ _] [] _) _) _ _ _); k_dflt (refine' bigCall2 (by k_asm) (by k_asm) (by k_asm) (by k_is) (by k_is) (by rfl) (by rfl) ?_; k_whole)) | ((with_reducible show wpAny _ _ (eval (Expr.Call (Expr.Name _ _) [Expr.Name _ _, Expr.Name _ _, Expr.Name _ _] [] _) _) _ _ _); k_dflt (refine' bigCall3 (by k_asm) (by k_asm) (by k_asm) (by k_is) (by k_is) (by rfl) (by rfl) (by rfl) ?_; k_whole)) | ((with_reducible show wpAny _ _ (eval (Expr.Call (Expr.Name _ _) [Expr.Name _ _, Expr.Name _ _, Expr.Name _ _, Expr.Name _ _] [] _) _) _ _ _); k_dflt (refine' bigCall4 (by k_asm) (by k_asm) (by k_asm) (by k_is) (by k_is) (by rfl) (by rfl) (by rfl) (by rfl) ?_; k_whole))) | (k_here; (with_reducible show wpAny _ _ (callWith _ (Value.builtin _) [_] _ _) _ _ _); (with_reducible refine' callWith_method1 ?_ (by k_dflt (rfl)) (by k_dflt (rfl)))) | (k_here; (first | ((with_reducible show wpAny _ _ (PySem.call (Value.builtin "isinstance") [_, Value.type "bool"]) _ _ _); (with_reducible refine' isi_rep_bool (by k_dflt (k_asm)) (by k_dflt (k_asm)) (by k_dflt (k_asm)) (by k_dflt (ktr_rel)) ?_)) | ((with_reducible show wpAny _ _ (PySem.call (Value.builtin "isinstance") [_, Value.type "str"]) _ _ _); (with_reducible refine' isi_rep_str (by k_dflt (k_asm)) (by k_dflt (k_asm)) (by k_dflt (k_asm)) (by k_dflt (ktr_rel)) ?_)) | ((with_reducible show wpAny _ _ (PySem.call (Value.builtin "isinstance") [_, Value.type "list"]) _ _ _); (with_reducible refine' isi_rep_list (by k_dflt (k_asm)) (by k_dflt (k_asm)) (by k_dflt (k_asm)) (by k_dflt (ktr_rel)) ?_)) | ((with_reducible show wpAny _ _ (PySem.call (Value.builtin "isinstance") [_, Value.type "tuple"]) _ _ _); (with_reducible refine' isi_rep_tuple (by k_dflt (k_asm)) (by k_dflt (k_asm)) (by k_dflt (k_asm)) (by k_dflt (ktr_rel)) ?_))); intro _; (try simp only [isSet_set, isSet_num, isSet_txt, isSet_tru, isNum_set, isNum_num, isNum_txt, isNum_tru, isTxt_set, isTxt_num, isTxt_txt, isTxt_tru, isTru_set, isTru_num, isTru_txt, isTru_tru])) | (k_here; (with_reducible show wpAny _ _ (PySem.call (Value.builtin "isinstance") [Value.ref _, Value.type _]) _ _ _); (first | with_reducible refine' IsiPair.tuple_bool (by k_dflt (exact HeldK.get (by k_asm) (by k_asm) (by k_asm) (by ktr_rel))) (by k_dflt (exact rfl)) ?_ | with_reducible refine' IsiPair.tuple_tuple (by k_dflt (exact HeldK.get (by k_asm) (by k_asm) (by k_asm) (by ktr_rel))) (by k_dflt (exact rfl)) ?_ | with_reducible refine' IsiPair.tuple_str (by k_dflt (exact HeldK.get (by k_asm) (by k_asm) (by k_asm) (by ktr_rel))) (by k_dflt (exact rfl)) ?_ | with_reducible refine' IsiPair.tuple_list (by k_dflt (exact HeldK.get (by k_asm) (by k_asm) (by k_asm) (by ktr_rel))) (by k_dflt (exact rfl)) ?_)) | walk1 | (dsimp only; walk1) | (dsimp only; with_reducible show wpAny _ _ _ _ _ _) | (leave1; (try dsimp only)) | fail "no step"))
    exact hret _ _ _ _ (by k_asm) (by k_asm) ⟨rfl, boov hF.symm⟩
end
section
local macro_rules | `(tactic| walk_at "eval Dict") => `(tactic| (k_here; k_dflt (refine' kdn_str ?q ?F ?N ?b ?a ?l ?e ?n ?_; (case q => rfl); (case F => k_asm); (case N => first | k_asm | exact News.nil); (case b => exact Top.nolimit (by k_asm)); (case a => rfl); (case l => rfl); (case e => exact List.cons_ne_nil _ _); (case n => exact Nat.le_of_ble_eq_true rfl)); intro d' h' o' F' N' l1 lo' hd'; (try k_lt l1)))
theorem law_texts_sp (w : World) (mean : ExcName → Option Value) (mg mb : MV) (news : Led) :
   Sp w mean mg mb 464 [] 4 100 news (fun news' v => ∃ new d, news' = new ++ news ∧ v = .ref d ∧ TextsAt w new d ∧ Fresh new news) := by
  intro dp un gd cn cs aa ccd cl outer A₀ base h₀ L m s Q E B F X0 N T hk hd hu hret
  refine wpAny_call ?_
  k_dflt (refine' code_defG (news := []) ?k1 ?k2 ?k3 ?k4 ?k5 ?kA ?kF ?kK ?k6 ?k7 ?k8 ?k9 ?kB ?_ ?c2 ?c3 ?c4 ?c5; (case kA => exact rfl); (case kF => exact rfl); (case kK => assumption); (case k1 => k_asm); (case k2 => k_asm); (case k3 => k_asm); (case k4 => exact News.nil); (case k5 => k_asm); (case k6 => k_is); (case k7 => k_is); (case k8 => ktr_room); (case k9 => exact BindsTo.of_eq rfl); (case c5 => decide); (case kB => exact locs rfl); (case c2 => exact rfl); (case c3 => exact rfl); (case c4 => exact rfl); k_whole; intro _ _ _ _ _ _ _ _ _ _; (try dsimp only); (try k_fold))
  (repeat' (first | (k_unfold; (try dsimp only)) | (k_end; wrow_close) | (k_here; (with_reducible show wpAny _ _ (call (Value.builtin "dict.update") [Value.ref _, Value.ref _]) _ _ _); k_dflt (refine' upd_any (knd := PySem.strKind _ _) (by k_asm) (by k_asm) (by k_updF) (by k_asm) (by k_mem) (by k_asm) (by k_asm) (by k_ne) (by rw [sizeLine_eq]; exact Nat.le_of_ble_eq_true (by with_unfolding_all rfl)) ?_;    ); intro _ _ _ N' _; (try dsimp only at N')) | (k_here; (with_reducible show wpAny _ _ (getMethod (Value.ref _) (Str.ofString "update") _) _ _ _); (with_reducible refine' kdl_method (knd := PySem.strKind _ _) PySem.F.slot_dict_update PySem.F.type_dict_update (by k_dflt (k_asm)) (by k_dflt (k_mem)) (by k_dflt (k_asm)) ?_)) | (k_here; (with_reducible show wpAny _ _ (callWith _ (Value.builtin _) [_] _ _) _ _ _); (with_reducible refine' callWith_method1 ?_ (by k_dflt (rfl)) (by k_dflt (rfl)))) | walk1 | (dsimp only; walk1) | (dsimp only; with_reducible show wpAny _ _ _ _ _ _) | (leave1; (try dsimp only)) | fail "no step"))
  refine' hret _ _ _ _ (by k_asm) (back ?kN N ?G ?F') ⟨_, _, rfl, rfl, ⟨_, _, ?mem, ?hd, ?lo, ?ks, ?vals⟩, fresh ?N2 N ?G⟩
  case kN => assumption
  case G => assumption
  case F' => assumption
  case N2 => assumption
  case mem => k_mem
  case hd => assumption
  case lo => assumption
  case ks => rfl
  case vals =>
    clear hret
    intro x hx
    simp only [menuT, List.mem_cons, List.not_mem_nil, or_false] at hx
    rcases hx with rfl | rfl | rfl | rfl | rfl | rfl | rfl | rfl
    all_goals (refine' ⟨_, rfl, numCast ⟨_, _, _, rfl, .inl ?mem9⟩ ?e1 ?e2⟩; (case mem9 => k_mem); (case e1 => decide +kernel); (case e2 => decide +kernel))
end
section
theorem take_at (w : World) (mean : ExcName → Option Value) (mg mb : MV) (news : Led) (src : Addr) (a b top : Int) (t1 t2 tt : Tok) (n : Nat) (hm : (src, srcO a b t1 t2 n) ∈ news) (hb : SB a b) (ht : 0 < top) (ht2 : top < 1073741824) :
   Sp w mean mg mb 450 [.ref src, .int top tt] 2 8 news (fun news' v => ∃ a' b' r t1 t2 tr n, news' = (src, srcO a' b' t1 t2 n) :: offL src news ∧ v = .int r tr ∧ SB a' b' ∧ 0 ≤ r ∧ r < top) := by
  intro dp un gd cn cs aa ccd cl outer A₀ base h₀ L m s Q E B F X N T hk hd hu hret
  refine take_sp w mean mg mb (offL src news) src a b top t1 t2 tt n offL_off hb.1 hb.2.1 hb.2.2 ht ht2 dp un gd cn cs aa ccd cl outer A₀ base h₀ L m s Q E B F X (front N hm) T hk hd hu fun v h' tk' news' F' N' R' => hret v h' tk' news' F' N' ?_
  obtain ⟨a', b', r, u1, u2, tr, n', rfl, rfl, h1, h2, h3, h4, h5⟩ := R'
  exact ⟨a', b', r, u1, u2, tr, n', rfl, rfl, ⟨h1, h2, h3⟩, h4, h5⟩
theorem law_one_sp (w : World) (mean : ExcName → Option Value) (mg mb : MV) (news : Led) (src l : Addr) (a b : Int) (t1 t2 : Tok) (k : Nat) (vs : List Value) (n : Nat) (hm : (src, srcO a b t1 t2 k) ∈ news) (hb : SB a b) (hl : (l, W.listOf vs.toArray n) ∈ news) (hne : l ≠ src) (h0 : 0 < vs.length) (h1 : vs.length ≤ 1000) :
   Sp w mean mg mb 457 [.ref src, .ref l] 4 16 news (fun news' v => ∃ a' b' t1 t2 n, news' = (src, srcO a' b' t1 t2 n) :: offL src news ∧ SB a' b' ∧ ∃ i : Nat, vs[i]? = some v) := by
  intro dp un gd cn cs aa ccd cl outer A₀ base h₀ L m s Q E B F X N T hk hd hu hret
  have hl' : (l, W.listOf vs.toArray n) ∈ offL src news := mem_offL hl hne
  refine wpAny_call ?_
  k_dflt ktr_enter
  (repeat' (first | (k_unfold; (try dsimp only)) | (k_end; wrow_close) | ((with_reducible show wpAny _ _ (PySem.call (Value.ref _) _) _ _ _); first | (k_here; (with_reducible show wpAny _ _ (PySem.call (Value.ref 450) _) _ _ _); k_dflt ((refine' useT (C := (take_at _ _ _ _ _ _ _ _ _ _ _ _ _ (by k_mem) (by with_reducible assumption) (by omega) (by omega))) (h := ?_); intro _ _ _ _ _ _ _ _ _ _ _ _ _ _; (try k_sweep); (try dsimp only)))) | fail) | (k_here; (with_reducible show wpAny _ _ (subscriptTail (PySem.Expr.Name ..) _ (Value.ref _) (Value.int _ _)) _ _ _); (with_reducible refine' listItemB (by k_dflt (k_asm)) (by k_dflt (k_mem)) (by k_dflt (omega)) (by k_dflt (omega)) (by k_dflt (omega)) ?h (by k_dflt (with_unfolding_all rfl))); intro _ _ _ _) | (k_here; (with_reducible show wpAny _ _ (PySem.call (Value.builtin "len") [Value.ref _]) _ _ _); (with_reducible refine' kst_len (by k_dflt (k_asm)) (by k_dflt (k_mem)) rfl (by k_dflt (omega)) ?_)) | (k_here; (with_reducible show wpAny _ _ (callWith _ (Value.builtin _) [_] _ _) _ _ _); (with_reducible refine' callWith_method1 ?_ (by k_dflt (rfl)) (by k_dflt (rfl)))) | (k_here; (with_reducible show wpAny _ _ (PySem.call (Value.builtin "len") [Value.ref _]) _ _ _); (with_reducible refine' kst_len (by k_dflt (k_asm)) (by k_dflt (k_mem)) (List.length_map _) (by k_dflt (omega)) ?_)) | walk1 | (dsimp only; walk1) | (dsimp only; with_reducible show wpAny _ _ _ _ _ _) | (leave1; (try dsimp only)) | fail "no step"))
  exact hret _ _ _ _ (by k_asm) (by k_asm) ⟨_, _, _, _, _, rfl, by assumption, _, by assumption⟩
end
section
theorem txtLen {x : Str} (h : x ∈ menuT) : decide ((x.length : Int) > 0) = truthV (V.txt x) := by
  simp only [menuT, List.mem_cons, List.not_mem_nil, or_false] at h
  rcases h with rfl | rfl | rfl | rfl | rfl | rfl | rfl | rfl <;> decide +kernel
theorem law_truth_sp (w : World) (mean : ExcName → Option Value) (mg mb : MV) (news : Led) (v : Value) (D : TD) (X : V) (hv : RepL w news D v X) :
   Sp w mean mg mb 483 [v] 4 200 news (fun news' v => news' = news ∧ v = .bool (truthV X)) := by
  intro dp un gd cn cs aa ccd cl outer A₀ base h₀ L m s Q E B F X0 N T hk hd hu hret
  refine ex3 hv fun r t u zz70 => ?_
  refine an4 zz70 fun ee71 hm ht ho => ?_
  clear hv zz70
  subst ee71
  cases X with
  | set xs =>
    refine ex3 ht fun l n vs zz72 => ?_
    refine an4 zz72 fun ee73 hml hr hvl => ?_
    clear ht zz72
    subst ee73
    have hlen : vs.length = xs.length := by rw [hr.1, List.length_map]
    dsimp only [kindL] at hm
    refine wpAny_call ?_
    k_dflt ktr_enter
    (repeat' (first | (k_unfold; (try dsimp only)) | (k_end; wrow_close) | (k_here; (with_reducible show wpAny _ _ (PySem.call (Value.builtin "len") [Value.ref _]) _ _ _); (with_reducible refine' kst_len (by k_dflt (k_asm)) (by k_dflt (k_mem)) rfl (by k_dflt (omega)) ?_)) | (k_here; (with_reducible show wpAny _ _ (callWith _ (Value.builtin _) [_] _ _) _ _ _); (with_reducible refine' callWith_method1 ?_ (by k_dflt (rfl)) (by k_dflt (rfl)))) | (k_here; (with_reducible show wpAny _ _ (subscriptTail (PySem.Expr.Name ..) _ (Value.ref _) (Value.int _ _)) _ _ _); (with_reducible refine' listItem (by k_dflt (k_asm)) (by k_dflt (k_mem)) (by k_dflt (decide)) (by k_dflt (decide)) (by k_dflt (exact rfl)) ?_)) | (k_here; (with_reducible show wpAny _ _ (PySem.call (Value.builtin "len") [Value.ref _]) _ _ _); (with_reducible refine' kst_len (by k_dflt (k_asm)) (by k_dflt (k_mem)) (List.length_map _) (by k_dflt (omega)) ?_)) | (k_here; (with_reducible show wpAny _ _ (subscriptTail (PySem.Expr.Name ..) _ (Value.ref _) (Value.int _ _)) _ _ _); (with_reducible refine' item_tupleT (by k_dflt (exact heldTup (by k_asm) (by k_asm) (by k_asm) (by ktr_rel))) (by k_dflt (decide)) (by k_dflt (decide)) (by k_dflt (rfl)) (by k_dflt (rfl)) ?_); k_dflt (k_whole)) | walk1 | (dsimp only; walk1) | (dsimp only; with_reducible show wpAny _ _ _ _ _ _) | (leave1; (try dsimp only)) | fail "no step"))
    all_goals (exact hret _ _ _ _ (by k_asm) (by k_asm) ⟨rfl, boov (by clear hret; rw [hlen]; cases xs <;> simp [truthV])⟩)
  | num a =>
    refine ex3 ht fun r' t1 t2 zz74 => ?_
    refine an2 zz74 fun ee75 hm' => ?_
    clear ht zz74
    subst ee75
    dsimp only [kindL] at hm
    refine wpAny_call ?_
    k_dflt ktr_enter
    (repeat' (first | (k_unfold; (try dsimp only)) | (k_end; wrow_close) | (k_here; (with_reducible show wpAny _ _ (PySem.call (Value.builtin "len") [Value.ref _]) _ _ _); (with_reducible refine' kst_len (by k_dflt (k_asm)) (by k_dflt (k_mem)) rfl (by k_dflt (omega)) ?_)) | (k_here; (with_reducible show wpAny _ _ (callWith _ (Value.builtin _) [_] _ _) _ _ _); (with_reducible refine' callWith_method1 ?_ (by k_dflt (rfl)) (by k_dflt (rfl)))) | (k_here; (with_reducible show wpAny _ _ (subscriptTail (PySem.Expr.Name ..) _ (Value.ref _) (Value.int _ _)) _ _ _); (with_reducible refine' listItem (by k_dflt (k_asm)) (by k_dflt (k_mem)) (by k_dflt (decide)) (by k_dflt (decide)) (by k_dflt (exact rfl)) ?_)) | (k_here; (with_reducible show wpAny _ _ (PySem.call (Value.builtin "len") [Value.ref _]) _ _ _); (with_reducible refine' kst_len (by k_dflt (k_asm)) (by k_dflt (k_mem)) (List.length_map _) (by k_dflt (omega)) ?_)) | (k_here; (with_reducible show wpAny _ _ (subscriptTail (PySem.Expr.Name ..) _ (Value.ref _) (Value.int _ _)) _ _ _); (with_reducible refine' item_tupleT (by k_dflt (exact heldTup (by k_asm) (by k_asm) (by k_asm) (by ktr_rel))) (by k_dflt (decide)) (by k_dflt (decide)) (by k_dflt (rfl)) (by k_dflt (rfl)) ?_); k_dflt (k_whole)) | walk1 | (dsimp only; walk1) | (dsimp only; with_reducible show wpAny _ _ _ _ _ _) | (leave1; (try dsimp only)) | fail "no step"))
    all_goals (exact hret _ _ _ _ (by k_asm) (by k_asm) ⟨rfl, boov (by clear hret; simp [truthV])⟩)
  | txt x =>
    refine Exists.elim ht fun t' ee77 => ?_
    clear ht
    subst ee77
    have hxl := menu_len ho
    dsimp only [kindL] at hm
    refine wpAny_call ?_
    k_dflt ktr_enter
    (repeat' (first | (k_unfold; (try dsimp only)) | (k_end; wrow_close) | (k_here; (with_reducible show wpAny _ _ (PySem.call (Value.builtin "len") [Value.ref _]) _ _ _); (with_reducible refine' kst_len (by k_dflt (k_asm)) (by k_dflt (k_mem)) rfl (by k_dflt (omega)) ?_)) | (k_here; (with_reducible show wpAny _ _ (callWith _ (Value.builtin _) [_] _ _) _ _ _); (with_reducible refine' callWith_method1 ?_ (by k_dflt (rfl)) (by k_dflt (rfl)))) | (k_here; (with_reducible show wpAny _ _ (subscriptTail (PySem.Expr.Name ..) _ (Value.ref _) (Value.int _ _)) _ _ _); (with_reducible refine' listItem (by k_dflt (k_asm)) (by k_dflt (k_mem)) (by k_dflt (decide)) (by k_dflt (decide)) (by k_dflt (exact rfl)) ?_)) | (k_here; (with_reducible show wpAny _ _ (PySem.call (Value.builtin "len") [Value.ref _]) _ _ _); (with_reducible refine' kst_len (by k_dflt (k_asm)) (by k_dflt (k_mem)) (List.length_map _) (by k_dflt (omega)) ?_)) | (k_here; (with_reducible show wpAny _ _ (subscriptTail (PySem.Expr.Name ..) _ (Value.ref _) (Value.int _ _)) _ _ _); (with_reducible refine' item_tupleT (by k_dflt (exact heldTup (by k_asm) (by k_asm) (by k_asm) (by ktr_rel))) (by k_dflt (decide)) (by k_dflt (decide)) (by k_dflt (rfl)) (by k_dflt (rfl)) ?_); k_dflt (k_whole)) | walk1 | (dsimp only; walk1) | (dsimp only; with_reducible show wpAny _ _ _ _ _ _) | (leave1; (try dsimp only)) | fail "no step"))
    all_goals (exact hret _ _ _ _ (by k_asm) (by k_asm) ⟨rfl, boov (by clear hret; exact txtLen ho)⟩)
  | tru b =>
    dsimp only [ToldAt] at ht
    subst ht
    dsimp only [kindL] at hm
    refine wpAny_call ?_
    k_dflt ktr_enter
    (repeat' (first | (k_unfold; (try dsimp only)) | (k_end; wrow_close) | (k_here; (with_reducible show wpAny _ _ (PySem.call (Value.builtin "len") [Value.ref _]) _ _ _); (with_reducible refine' kst_len (by k_dflt (k_asm)) (by k_dflt (k_mem)) rfl (by k_dflt (omega)) ?_)) | (k_here; (with_reducible show wpAny _ _ (callWith _ (Value.builtin _) [_] _ _) _ _ _); (with_reducible refine' callWith_method1 ?_ (by k_dflt (rfl)) (by k_dflt (rfl)))) | (k_here; (with_reducible show wpAny _ _ (subscriptTail (PySem.Expr.Name ..) _ (Value.ref _) (Value.int _ _)) _ _ _); (with_reducible refine' listItem (by k_dflt (k_asm)) (by k_dflt (k_mem)) (by k_dflt (decide)) (by k_dflt (decide)) (by k_dflt (exact rfl)) ?_)) | (k_here; (with_reducible show wpAny _ _ (PySem.call (Value.builtin "len") [Value.ref _]) _ _ _); (with_reducible refine' kst_len (by k_dflt (k_asm)) (by k_dflt (k_mem)) (List.length_map _) (by k_dflt (omega)) ?_)) | (k_here; (with_reducible show wpAny _ _ (subscriptTail (PySem.Expr.Name ..) _ (Value.ref _) (Value.int _ _)) _ _ _); (with_reducible refine' item_tupleT (by k_dflt (exact heldTup (by k_asm) (by k_asm) (by k_asm) (by ktr_rel))) (by k_dflt (decide)) (by k_dflt (decide)) (by k_dflt (rfl)) (by k_dflt (rfl)) ?_); k_dflt (k_whole)) | walk1 | (dsimp only; walk1) | (dsimp only; with_reducible show wpAny _ _ _ _ _ _) | (leave1; (try dsimp only)) | fail "no step"))
    all_goals (exact hret _ _ _ _ (by k_asm) (by k_asm) ⟨rfl, boov rfl⟩)
end
section
theorem textsItem {w : World} {A : Around} {E : Value → Shared → Prop} {s : Shared} {h₀ : Heap} {L d : Addr} {news : Led} {x : Str} {t : Tok} {value slice : PySem.Expr} {Q : Value → Shared → Prop} (N : News h₀ L s.heap news) (hT : TextsAt w news d) (hx : x ∈ menuT)
    (h : ∀ v, NumAt w news v (numOf x).1 (numOf x).2 → Q v { s with toks := s.toks + 1 })
    (hs : subscripted slice false (.ref d) (.str x t) = operate [.ref d, .str x t] (getItem (.ref d) (.str x t)) := by with_unfolding_all rfl) (hg : ∀ r, letTemporaryGo value (.ref d) r = pure () := by intro _; with_unfolding_all rfl) :
    wpAny (model P0 w) A (subscriptTail value slice (.ref d) (.str x t)) Q E s := by
  obtain ⟨o, kvs, hm, hd, lo, hk, hv⟩ := hT
  obtain ⟨v, hv, hn⟩ := hv x hx
  exact kda_item N hm hd (strKind_is _ _ _ _) hv (h v hn) hs hg
local macro_rules | `(tactic| ktr_rel) => `(tactic| first | with_reducible assumption | ((with_reducible show TextsAt _ (_ :: _) _); exact TextsAt.tail (by ktr_rel)) | ((with_reducible show TextsAt _ (_ ++ _) _); first | exact TextsAt.mono (by with_reducible assumption) (fun _ hp => List.mem_append_left _ hp) | exact TextsAt.app (by ktr_rel)))
theorem lastCons {a b : Addr × Obj} {n1 n2 : Led} : a :: b :: (n1 ++ n2) = (a :: b :: n1) ++ n2 := rfl
theorem firstItem {w : World} {news : Led} {D : TD} {vs : List Value} {xs : List (Nat × Str)} (hr : Reps w news D vs (xs.map fun p => V.txt p.2)) (t0 : Tok) : ∃ t, (vs ++ [.str (Str.ofString "") t0])[(0 : Int).toNat]? = some (.str (firstT xs) t) := by
  cases xs with
  | nil =>
    have : vs = [] := List.eq_nil_of_length_eq_zero hr.1
    subst this
    exact ⟨t0, rfl⟩
  | cons p r =>
    cases vs with
    | nil => have := hr.1; simp at this
    | cons v vs =>
      obtain ⟨⟨t, rfl⟩, _⟩ := hr.2 0 v (V.txt p.2) rfl rfl
      exact ⟨t, rfl⟩
theorem law_number_sp (w : World) (mean : ExcName → Option Value) (mg mb : MV) (news : Led) (v : Value) (D : TD) (X : V) (hv : RepL w news D v X) :
   Sp w mean mg mb 476 [v] 8 400 news (fun news' v => ∃ new, news' = new ++ news ∧ NumAt w news' v (numV X).1 (numV X).2) := by
  intro dp un gd cn cs aa ccd cl outer A₀ base h₀ L m s Q E B F X0 N T hk hd hu hret
  refine ex3 hv fun r t u zz78 => ?_
  refine an4 zz78 fun ee79 hm ht ho => ?_
  clear hv zz78
  subst ee79
  cases X with
  | set xs =>
    refine ex3 ht fun l n vs zz80 => ?_
    refine an4 zz80 fun ee81 hml hr hvl => ?_
    clear ht zz80
    subst ee81
    have ho' : firstT xs ∈ menuT := by cases xs with | nil => exact List.mem_cons_self | cons p r => exact ho.2 p List.mem_cons_self
    dsimp only [kindL] at hm
    refine wpAny_call ?_
    k_dflt ktr_enter
    (repeat' (first | (k_unfold; (try dsimp only)) | (k_end; wrow_close) | ((with_reducible show wpAny _ _ (PySem.call (Value.ref _) _) _ _ _); first | (k_here; (with_reducible show wpAny _ _ (PySem.call (Value.ref 464) _) _ _ _); k_dflt ((refine' useX (C := (law_texts_sp _ _ _ _ _)) (h := ?_); intro _ _ _ _ _ _ _ _; (try k_sweep); (try dsimp only)))) | fail) | (k_here; (with_reducible show wpAny _ _ (binaryOp _ (Value.ref _) (Value.ref _)) _ _ _); (with_reducible refine' addL (by k_dflt (k_asm)) (by k_dflt (k_asm)) (by k_dflt (k_mem)) (by k_dflt (k_mem)) (by k_dflt (first | omega | simp)) (by k_dflt (first | omega | simp)) ?_); intro _ _ _ _ _) | (k_here; (with_reducible show wpAny _ _ (subscriptTail _ _ (Value.ref _) (Value.str _ _)) _ _ _); (with_reducible refine' textsItem (by k_dflt (k_asm)) (by k_dflt (ktr_rel)) (by k_dflt (with_reducible assumption)) ?_ (by k_dflt (with_unfolding_all rfl)) (by k_dflt (intro _; with_unfolding_all rfl))); intro _ _) | walk1 | (dsimp only; walk1) | (dsimp only; with_reducible show wpAny _ _ _ _ _ _) | (leave1; (try dsimp only)) | fail "no step"))
    obtain ⟨t9, i9⟩ := firstItem hr _
    k_here
    (with_reducible refine' listItem ?N ?m ?a ?b i9 ?_)
    case N => k_asm
    case m => k_mem
    case a => decide
    case b => decide
    (repeat' (first | (k_unfold; (try dsimp only)) | (k_end; wrow_close) | ((with_reducible show wpAny _ _ (PySem.call (Value.ref _) _) _ _ _); first | (k_here; (with_reducible show wpAny _ _ (PySem.call (Value.ref 464) _) _ _ _); k_dflt ((refine' useX (C := (law_texts_sp _ _ _ _ _)) (h := ?_); intro _ _ _ _ _ _ _ _; (try k_sweep); (try dsimp only)))) | fail) | (k_here; (with_reducible show wpAny _ _ (binaryOp _ (Value.ref _) (Value.ref _)) _ _ _); (with_reducible refine' addL (by k_dflt (k_asm)) (by k_dflt (k_asm)) (by k_dflt (k_mem)) (by k_dflt (k_mem)) (by k_dflt (first | omega | simp)) (by k_dflt (first | omega | simp)) ?_); intro _ _ _ _ _) | (k_here; (with_reducible show wpAny _ _ (subscriptTail _ _ (Value.ref _) (Value.str _ _)) _ _ _); (with_reducible refine' textsItem (by k_dflt (k_asm)) (by k_dflt (ktr_rel)) (by k_dflt (with_reducible assumption)) ?_ (by k_dflt (with_unfolding_all rfl)) (by k_dflt (intro _; with_unfolding_all rfl))); intro _ _) | walk1 | (dsimp only; walk1) | (dsimp only; with_reducible show wpAny _ _ _ _ _ _) | (leave1; (try dsimp only)) | fail "no step"))
    all_goals (exact hret _ _ _ _ (by k_asm) (by k_asm) ⟨_, lastCons, by assumption⟩)
  | num a =>
    refine ex3 ht fun r' t1 t2 zz83 => ?_
    refine an2 zz83 fun ee84 hm' => ?_
    clear ht zz83
    subst ee84
    dsimp only [kindL] at hm
    refine wpAny_call ?_
    k_dflt ktr_enter
    (repeat' (first | (k_unfold; (try dsimp only)) | (k_end; wrow_close) | ((with_reducible show wpAny _ _ (PySem.call (Value.ref _) _) _ _ _); first | (k_here; (with_reducible show wpAny _ _ (PySem.call (Value.ref 464) _) _ _ _); k_dflt ((refine' useX (C := (law_texts_sp _ _ _ _ _)) (h := ?_); intro _ _ _ _ _ _ _ _; (try k_sweep); (try dsimp only)))) | fail) | (k_here; (with_reducible show wpAny _ _ (binaryOp _ (Value.ref _) (Value.ref _)) _ _ _); (with_reducible refine' addL (by k_dflt (k_asm)) (by k_dflt (k_asm)) (by k_dflt (k_mem)) (by k_dflt (k_mem)) (by k_dflt (first | omega | simp)) (by k_dflt (first | omega | simp)) ?_); intro _ _ _ _ _) | (k_here; (with_reducible show wpAny _ _ (subscriptTail _ _ (Value.ref _) (Value.str _ _)) _ _ _); (with_reducible refine' textsItem (by k_dflt (k_asm)) (by k_dflt (ktr_rel)) (by k_dflt (with_reducible assumption)) ?_ (by k_dflt (with_unfolding_all rfl)) (by k_dflt (intro _; with_unfolding_all rfl))); intro _ _) | walk1 | (dsimp only; walk1) | (dsimp only; with_reducible show wpAny _ _ _ _ _ _) | (leave1; (try dsimp only)) | fail "no step"))
    all_goals (exact hret _ _ _ _ (by k_asm) (by k_asm) ⟨[], rfl, _, _, _, rfl, hm'⟩)
  | txt x =>
    refine Exists.elim ht fun t' ee86 => ?_
    clear ht
    subst ee86
    have ho' : x ∈ menuT := ho
    dsimp only [kindL] at hm
    refine wpAny_call ?_
    k_dflt ktr_enter
    (repeat' (first | (k_unfold; (try dsimp only)) | (k_end; wrow_close) | ((with_reducible show wpAny _ _ (PySem.call (Value.ref _) _) _ _ _); first | (k_here; (with_reducible show wpAny _ _ (PySem.call (Value.ref 464) _) _ _ _); k_dflt ((refine' useX (C := (law_texts_sp _ _ _ _ _)) (h := ?_); intro _ _ _ _ _ _ _ _; (try k_sweep); (try dsimp only)))) | fail) | (k_here; (with_reducible show wpAny _ _ (binaryOp _ (Value.ref _) (Value.ref _)) _ _ _); (with_reducible refine' addL (by k_dflt (k_asm)) (by k_dflt (k_asm)) (by k_dflt (k_mem)) (by k_dflt (k_mem)) (by k_dflt (first | omega | simp)) (by k_dflt (first | omega | simp)) ?_); intro _ _ _ _ _) | (k_here; (with_reducible show wpAny _ _ (subscriptTail _ _ (Value.ref _) (Value.str _ _)) _ _ _); (with_reducible refine' textsItem (by k_dflt (k_asm)) (by k_dflt (ktr_rel)) (by k_dflt (with_reducible assumption)) ?_ (by k_dflt (with_unfolding_all rfl)) (by k_dflt (intro _; with_unfolding_all rfl))); intro _ _) | walk1 | (dsimp only; walk1) | (dsimp only; with_reducible show wpAny _ _ _ _ _ _) | (leave1; (try dsimp only)) | fail "no step"))
    all_goals (exact hret _ _ _ _ (by k_asm) (by k_asm) ⟨_, rfl, by assumption⟩)
  | tru b =>
    dsimp only [ToldAt] at ht
    subst ht
    dsimp only [kindL] at hm
    refine wpAny_call ?_
    k_dflt ktr_enter
    (repeat' (first | (k_unfold; (try dsimp only)) | (k_end; wrow_close) | ((with_reducible show wpAny _ _ (PySem.call (Value.ref _) _) _ _ _); first | (k_here; (with_reducible show wpAny _ _ (PySem.call (Value.ref 464) _) _ _ _); k_dflt ((refine' useX (C := (law_texts_sp _ _ _ _ _)) (h := ?_); intro _ _ _ _ _ _ _ _; (try k_sweep); (try dsimp only)))) | fail) | (k_here; (with_reducible show wpAny _ _ (binaryOp _ (Value.ref _) (Value.ref _)) _ _ _); (with_reducible refine' addL (by k_dflt (k_asm)) (by k_dflt (k_asm)) (by k_dflt (k_mem)) (by k_dflt (k_mem)) (by k_dflt (first | omega | simp)) (by k_dflt (first | omega | simp)) ?_); intro _ _ _ _ _) | (k_here; (with_reducible show wpAny _ _ (subscriptTail _ _ (Value.ref _) (Value.str _ _)) _ _ _); (with_reducible refine' textsItem (by k_dflt (k_asm)) (by k_dflt (ktr_rel)) (by k_dflt (with_reducible assumption)) ?_ (by k_dflt (with_unfolding_all rfl)) (by k_dflt (intro _; with_unfolding_all rfl))); intro _ _) | walk1 | (dsimp only; walk1) | (dsimp only; with_reducible show wpAny _ _ _ _ _ _) | (leave1; (try dsimp only)) | fail "no step"))
    all_goals (exact hret _ _ _ _ (by k_asm) (by k_asm) ⟨[_], rfl, numCast ⟨_, _, _, rfl, .inl List.mem_cons_self⟩ (by cases b <;> rfl) (by cases b <;> rfl)⟩)
end
section
noncomputable def opsL : List Str := [Str.ofString "=", Str.ofString "!=", Str.ofString "<", Str.ofString "<=", Str.ofString ">", Str.ofString ">="]
theorem numEq {w : World} {A : Around} {E : Value → Shared → Prop} {s : Shared} {h₀ : Heap} {L : Addr} {m : MV} {news : Led} {v u : Value} {x y x' y' : Int} {Q : Value → Shared → Prop} (F : Fr h₀ L s.heap m) (X : (K w.params).In h₀) (N : News h₀ L s.heap news)
    (hv : NumAt w news v x y) (hu : NumAt w news u x' y') (hun : A.units + 64 < cLine) (h : Q (.bool (decide (x = x' ∧ y = y'))) s) : wpAny (model P0 w) A (compareOp .Eq v u) Q E s := by
  obtain ⟨r, t1, t2, rfl, h1⟩ := hv
  obtain ⟨r', t3, t4, rfl, h2⟩ := hu
  refine eq_dataH (reads_tuple_at (h1.get F X N) rfl rfl (.cons (.int _ _) (.cons (.int _ _) .nil))) (reads_tuple_at (h2.get F X N) rfl rfl (.cons (.int _ _) (.cons (.int _ _) .nil))) (by rfl) (by rfl) hun ?_
  have e : PyData.eqv (.tuple [.int x, .int y]) (.tuple [.int x', .int y']) = decide (x = x' ∧ y = y') := by
    by_cases e1 : x = x' <;> by_cases e2 : y = y' <;> simp [PyData.eqv, PyData.eqvAll, e1, e2]
  rw [e]
  exact h
local macro_rules | `(tactic| walk_at "eval Dict") => `(tactic| (k_here; k_dflt (refine' kdn_str ?q ?F ?N ?b ?a ?l ?e ?n ?_; (case q => rfl); (case F => k_asm); (case N => first | k_asm | exact News.nil); (case b => exact Top.nolimit (by k_asm)); (case a => rfl); (case l => rfl); (case e => exact List.cons_ne_nil _ _); (case n => exact Nat.le_of_ble_eq_true rfl)); intro d' h' o' F' N' l1 lo' hd'; (try k_lt l1); (try dsimp only)))
theorem linN {a1 a2 : Int} (h : (a1, a2) ∈ menuN) : -2 ≤ a1 ∧ a1 ≤ 3 ∧ 0 ≤ a2 ∧ a2 ≤ 2 := by
  simp only [menuN, List.mem_cons, List.not_mem_nil, or_false, Prod.mk.injEq] at h
  rcases h with ⟨rfl, rfl⟩ | ⟨rfl, rfl⟩ | ⟨rfl, rfl⟩ | ⟨rfl, rfl⟩ | ⟨rfl, rfl⟩ | ⟨rfl, rfl⟩ | ⟨rfl, rfl⟩ | ⟨rfl, rfl⟩ <;> decide
noncomputable def pickB (op : Str) (e1 e2 e3 e4 e5 e6 : Bool) : Bool := if op = Str.ofString "=" then e1 else if op = Str.ofString "!=" then e2 else if op = Str.ofString "<" then e3 else if op = Str.ofString "<=" then e4 else if op = Str.ofString ">" then e5 else e6
theorem pickOp {op : Str} {k1 k2 k3 k4 k5 k6 : Tok} {e1 e2 e3 e4 e5 e6 : Bool} (h : op ∈ opsL) : valueAt (strPairs [(Value.str (Str.ofString "=") k1, Value.bool e1), (Value.str (Str.ofString "!=") k2, Value.bool e2), (Value.str (Str.ofString "<") k3, Value.bool e3), (Value.str (Str.ofString "<=") k4, Value.bool e4), (Value.str (Str.ofString ">") k5, Value.bool e5), (Value.str (Str.ofString ">=") k6, Value.bool e6)]) op = some (.bool (pickB op e1 e2 e3 e4 e5 e6)) := by
  simp only [opsL, List.mem_cons, List.not_mem_nil, or_false] at h
  rcases h with rfl | rfl | rfl | rfl | rfl | rfl <;> rfl
theorem tabA : ∀ op ∈ opsL, ∀ a ∈ menuN, ∀ b ∈ menuN, ¬(a.1 = 0 ∧ a.2 = 0) → ¬(b.1 = 0 ∧ b.2 = 0) → (a.2 = 0 ∨ b.2 = 0) → pickB op ((if (a.2 == 0) = true then 1 else 0) * a.1 == (if (b.2 == 0) = true then 1 else 0) * b.1) ((if (a.2 == 0) = true then 1 else 0) * a.1 != (if (b.2 == 0) = true then 1 else 0) * b.1) (decide ((if (a.2 == 0) = true then 1 else 0) * a.1 < (if (b.2 == 0) = true then 1 else 0) * b.1)) (decide ((if (a.2 == 0) = true then 1 else 0) * a.1 ≤ (if (b.2 == 0) = true then 1 else 0) * b.1)) (decide ((if (a.2 == 0) = true then 1 else 0) * a.1 > (if (b.2 == 0) = true then 1 else 0) * b.1)) (decide ((if (a.2 == 0) = true then 1 else 0) * a.1 ≥ (if (b.2 == 0) = true then 1 else 0) * b.1)) = cmpNum op a b := by
  decide +kernel
theorem tabB : ∀ op ∈ opsL, ∀ a ∈ menuN, ∀ b ∈ menuN, ¬(a.1 = 0 ∧ a.2 = 0) → ¬(b.1 = 0 ∧ b.2 = 0) → a.2 ≠ 0 → b.2 ≠ 0 → pickB op ((a.1 * if 1 > b.2 then 1 else b.2) == (b.1 * if 1 > a.2 then 1 else a.2)) ((a.1 * if 1 > b.2 then 1 else b.2) != (b.1 * if 1 > a.2 then 1 else a.2)) (decide ((a.1 * if 1 > b.2 then 1 else b.2) < (b.1 * if 1 > a.2 then 1 else a.2))) (decide ((a.1 * if 1 > b.2 then 1 else b.2) ≤ (b.1 * if 1 > a.2 then 1 else a.2))) (decide ((a.1 * if 1 > b.2 then 1 else b.2) > (b.1 * if 1 > a.2 then 1 else a.2))) (decide ((a.1 * if 1 > b.2 then 1 else b.2) ≥ (b.1 * if 1 > a.2 then 1 else a.2))) = cmpNum op a b := by
  decide +kernel
theorem tabN : ∀ op ∈ opsL, ∀ a ∈ menuN, ∀ b ∈ menuN, (a.1 = 0 ∧ a.2 = 0) ∨ (b.1 = 0 ∧ b.2 = 0) → (op == Str.ofString "!=") = cmpNum op a b := by
  decide +kernel
local macro_rules | `(tactic| walk_at "ite") => `(tactic| (k_here; first | with_reducible refine ite_tt ?_ | with_reducible refine ite_ff ?_ | (with_reducible refine split_ieq ?_ ?_ <;> intro _)))
local macro_rules | `(tactic| walk_at "getItem ref str") => `(tactic| (k_here; k_dflt (refine wpAny_getItem_of (strKind_is _ _ _ _) (kda_dict (by k_asm) (by k_mem) (by assumption)).mapOf (pickOp (by assumption)) ?_)))
theorem law_numbers_sp (w : World) (mean : ExcName → Option Value) (mg mb : MV) (news : Led) (op : Str) (top : Tok) (va vb : Value) (a b : Int × Int) (hop : op ∈ opsL) (hma : NumAt w news va a.1 a.2) (hmb : NumAt w news vb b.1 b.2) (ha : a ∈ menuN) (hb : b ∈ menuN) :
   Sp w mean mg mb 490 [.str op top, va, vb] 4 200 news (fun news' v => ∃ new, news' = new ++ news ∧ v = .bool (cmpNum op a b)) := by
  intro dp un gd cn cs aa ccd cl outer A₀ base h₀ L m s Q E B F X N T hk hd hu hret
  obtain ⟨a1, a2⟩ := a
  obtain ⟨b1, b2⟩ := b
  have sa := linN ha
  have sb := linN hb
  dsimp only at hma hmb
  obtain ⟨ra, ta1, ta2, rfl, hma⟩ := hma
  obtain ⟨rb, tb1, tb2, rfl, hmb⟩ := hmb
  refine wpAny_call ?_
  k_dflt ktr_enter
  (repeat' (first | (k_unfold; (try dsimp only)) | (k_end; wrow_close) | (k_here; (with_reducible show wpAny _ _ (compareOp CmpOp.Eq (Value.ref _) (Value.ref _)) _ _ _); k_dflt (refine numEq (by k_asm) (by k_asm) (by k_asm) ⟨_, _, _, rfl, by ktr_rel⟩ ⟨_, _, _, rfl, .inl (by k_mem)⟩ (by ktr_units) ?_)) | (k_here; (with_reducible show wpAny _ _ (callWith _ (Value.builtin _) [_] _ _) _ _ _); (with_reducible refine' callWith_method1 ?_ (by k_dflt (rfl)) (by k_dflt (rfl)))) | (k_here; (with_reducible show wpAny _ _ (subscriptTail (PySem.Expr.Name ..) _ (Value.ref _) (Value.int _ _)) _ _ _); (with_reducible refine' listItem (by k_dflt (k_asm)) (by k_dflt (k_mem)) (by k_dflt (decide)) (by k_dflt (decide)) (by k_dflt (exact rfl)) ?_)) | (k_here; (with_reducible show wpAny _ _ (subscriptTail (PySem.Expr.Name ..) _ (Value.ref _) (Value.int _ _)) _ _ _); (with_reducible refine' item_tupleT (by k_dflt (exact heldTup (by k_asm) (by k_asm) (by k_asm) (by ktr_rel))) (by k_dflt (decide)) (by k_dflt (decide)) (by k_dflt (rfl)) (by k_dflt (rfl)) ?_); k_dflt (k_whole)) | walk1 | (dsimp only; walk1) | (dsimp only; with_reducible show wpAny _ _ _ _ _ _) | (leave1; (try dsimp only)) | fail "no step"))
  · exact hret _ _ _ _ (by k_asm) (by k_asm) ⟨[_], rfl, boov (tabN op hop _ ha _ hb (.inl (by assumption)))⟩
  · exact hret _ _ _ _ (by k_asm) (by k_asm) ⟨[_, _], rfl, boov (tabN op hop _ ha _ hb (.inr (by assumption)))⟩
  · exact hret _ _ _ _ (by k_asm) (by k_asm) ⟨[_, _, _, _, _], rfl, boov (tabA op hop _ ha _ hb (by assumption) (by assumption) (.inl (by assumption)))⟩
  · exact hret _ _ _ _ (by k_asm) (by k_asm) ⟨[_, _, _, _, _], rfl, boov (tabA op hop _ ha _ hb (by assumption) (by assumption) (.inr (by assumption)))⟩
  · exact hret _ _ _ _ (by k_asm) (by k_asm) ⟨[_, _, _, _], rfl, boov (tabB op hop _ ha _ hb (by assumption) (by assumption) (by assumption) (by assumption))⟩
end
section
local macro_rules | `(tactic| ktr_rel) => `(tactic| first | with_reducible assumption | ((with_reducible show RepL _ (_ :: _) _ _ _); exact RepL.tail (by ktr_rel)) | ((with_reducible show RepL _ (_ ++ _) _ _ _); exact RepL.app (by ktr_rel)))
theorem strs2Eq {w : World} {A : Around} {E : Value → Shared → Prop} {s : Shared} {h₀ : Heap} {L a b : Addr} {news : Led} {x1 x2 y1 y2 : Str} {t1 t2 t3 t4 : Tok} {n k : Nat} {Q : Value → Shared → Prop} (N : News h₀ L s.heap news)
    (ha : (a, W.listOf [.str x1 t1, .str x2 t2].toArray n) ∈ news) (hb : (b, W.listOf [.str y1 t3, .str y2 t4].toArray k) ∈ news) (hun : A.units + 64 < cLine) (h : Q (.bool (decide (x1 = y1 ∧ x2 = y2))) s) : wpAny (model P0 w) A (compareOp .Eq (.ref a) (.ref b)) Q E s := by
  refine SeqAt.eq_listAt (e := fun j => if j = 0 then x1 == y1 else x2 == y2) (listIs N ha) (listIs N hb) rfl (by omega) (fun j h1 h2 => ?_) ?_
  · match j, h1, h2 with
    | 0, _, _ => exact PySem.SeqAt.EqAt.str_str x1 t1 y1 t3
    | 1, _, _ => exact PySem.SeqAt.EqAt.str_str x2 t2 y2 t4
  · have e : (List.range (#[Value.str x1 t1, Value.str x2 t2] : Array Value).size).all (fun j => if j = 0 then x1 == y1 else x2 == y2) = decide (x1 = y1 ∧ x2 = y2) := by
      by_cases e1 : x1 = y1 <;> by_cases e2 : x2 = y2 <;> simp [List.range, List.range.loop, e1, e2]
    exact e ▸ h
theorem appMid4 {a b c : Led} {x y z u : Addr × Obj} {n : Led} : a ++ (b ++ (c ++ x :: y :: z :: u :: n)) = (a ++ (b ++ (c ++ [x, y, z, u]))) ++ n := by simp
theorem appMid2 {a b c : Led} {x y z : Addr × Obj} {n : Led} : a ++ (b ++ (c ++ x :: y :: z :: n)) = (a ++ (b ++ (c ++ [x, y, z]))) ++ n := by simp
theorem eqAny {op : Str} {b : Bool} (h : ([Str.ofString "=", Str.ofString "!="].any fun x => x == op) = b) : eqOp op = b := by
  rw [← h]
  simp only [eqOp, List.any_cons, List.any_nil, Bool.or_false]
  rw [Bool.beq_comm (a := op), Bool.beq_comm (a := op)]
theorem kindTru (X : V) : (kindL X == Str.ofString "truth") = isTru X := by cases X <;> rfl
theorem kindTxt (X : V) : (kindL X == Str.ofString "text") = isTxt X := by cases X <;> rfl
theorem kindSet (X : V) : (kindL X == Str.ofString "set") = isSet X := by cases X <;> rfl
theorem truAny {X Y : V} {b : Bool} (h : ([kindL X, kindL Y].any fun x => x == Str.ofString "truth") = b) : (isTru X || isTru Y) = b := by
  rw [← h, ← kindTru, ← kindTru]
  simp
theorem plainA {op : Str} {X Y : V} (h1 : ([Str.ofString "=", Str.ofString "!="].any fun x => x == op) = true) (h2 : ([kindL X, kindL Y].any fun x => x == Str.ofString "truth") = true) : ((truthV X == truthV Y) == (op == Str.ofString "=")) = plainV op X Y := by
  unfold plainV
  rw [if_pos (eqAny h1), if_pos (truAny h2)]
theorem plainB {op x y : Str} (h1 : ([Str.ofString "=", Str.ofString "!="].any fun x => x == op) = true) : ((x == y) == (op == Str.ofString "=")) = plainV op (.txt x) (.txt y) := by
  unfold plainV
  rw [if_pos (eqAny h1)]
  rfl
theorem plainC {op : Str} {X Y : V} (h1 : ([Str.ofString "=", Str.ofString "!="].any fun x => x == op) = true) (h2 : ([kindL X, kindL Y].any fun x => x == Str.ofString "truth") = false) (h3 : ¬(kindL X = Str.ofString "text" ∧ kindL Y = Str.ofString "text")) : cmpNum op (numV X) (numV Y) = plainV op X Y := by
  unfold plainV
  have h4 : (isTxt X && isTxt Y) = false := by
    rw [← kindTxt, ← kindTxt]
    simpa using h3
  rw [if_pos (eqAny h1), truAny h2, if_neg Bool.false_ne_true, h4, if_neg Bool.false_ne_true]
theorem plainD {op : Str} {X Y : V} (h1 : ([Str.ofString "=", Str.ofString "!="].any fun x => x == op) = false) : cmpNum op (numV X) (numV Y) = plainV op X Y := by
  unfold plainV
  rw [eqAny h1, if_neg Bool.false_ne_true]
theorem kindTextX {X : V} (h : kindL X = Str.ofString "text") : ∃ x, X = .txt x := by
  have : isTxt X = true := by rw [← kindTxt, h]; rfl
  cases X <;> first | exact ⟨_, rfl⟩ | cases this
theorem law_plain_sp (w : World) (mean : ExcName → Option Value) (mg mb : MV) (news : Led) (op : Str) (top : Tok) (v u : Value) (D : TD) (X Y : V) (hop : op ∈ opsL) (hv : RepL w news D v X) (hu : RepL w news D u Y) :
   Sp w mean mg mb 497 [.str op top, v, u] 12 700 news (fun news' v => ∃ new, news' = new ++ news ∧ v = .bool (plainV op X Y)) := by
  intro dp un gd cn cs aa ccd cl outer A₀ base h₀ L m s Q E B F X0 N T hk hd hu' hret
  have mX := hv.ok.menu
  have mY := hu.ok.menu
  refine ex3 hv fun r t x zz91 => ?_
  refine an3 zz91 fun ee92 hm hx => ?_
  clear zz91
  subst ee92
  refine ex3 hu fun r' t' y zz93 => ?_
  refine an3 zz93 fun ee94 hm' hy => ?_
  clear zz93
  subst ee94
  generalize hkX : kindL X = kX at hm
  generalize hkY : kindL Y = kY at hm'
  refine wpAny_call ?_
  k_dflt ktr_enter
  (repeat' (first | (k_unfold; (try dsimp only)) | (k_end; wrow_close) | ((with_reducible show wpAny _ _ (PySem.call (Value.ref _) _) _ _ _); first | (k_here; (with_reducible show wpAny _ _ (PySem.call (Value.ref 490) _) _ _ _); k_dflt ((refine' useC (C := (law_numbers_sp _ _ _ _ _ _ _ _ _ _ _ (by assumption) (by ktr_rel) (by ktr_rel) (by assumption) (by assumption))) (h := ?_); intro _ _ _ _ _; (try k_sweep); (try dsimp only)))) | (k_here; (with_reducible show wpAny _ _ (PySem.call (Value.ref 476) _) _ _ _); k_dflt ((refine' useM1 (C := (law_number_sp _ _ _ _ _ _ _ _ (by ktr_rel))) (h := ?_); intro _ _ _ _ _ _ _; (try k_sweep); (try dsimp only)))) | (k_here; (with_reducible show wpAny _ _ (PySem.call (Value.ref 483) _) _ _ _); k_dflt ((refine' useA (C := (law_truth_sp _ _ _ _ _ _ _ _ (by ktr_rel))) (h := ?_); intro _ _ _ _; (try k_sweep); (try dsimp only)))) | fail) | (k_here; (with_reducible show wpAny _ _ (compareOp CmpOp.Eq (Value.ref _) (Value.ref _)) _ _ _); k_dflt (refine strs2Eq (by k_asm) (by k_mem) (by k_mem) (by ktr_units) ?_)) | (k_here; first | ((with_reducible show wpAny _ _ (eval (Expr.Call (Expr.Name _ _) [Expr.Name _ _] [] _) _) _ _ _); k_dflt (refine' bigCall1 (by k_asm) (by k_asm) (by k_asm) (by k_is) (by k_is) (by rfl) ?_; k_whole)) | ((with_reducible show wpAny _ _ (eval (Expr.Call (Expr.Name _ _) [Expr.Name _ _, Expr.Name _ _] [] _) _) _ _ _); k_dflt (refine' bigCall2 (by k_asm) (by k_asm) (by k_asm) (by k_is) (by k_is) (by rfl) (by rfl) ?_; k_whole)) | ((with_reducible show wpAny _ _ (eval (Expr.Call (Expr.Name _ _) [Expr.Name _ _, Expr.Name _ _, Expr.Name _ _] [] _) _) _ _ _); k_dflt (refine' bigCall3 (by k_asm) (by k_asm) (by k_asm) (by k_is) (by k_is) (by rfl) (by rfl) (by rfl) ?_; k_whole)) | ((with_reducible show wpAny _ _ (eval (Expr.Call (Expr.Name _ _) [Expr.Name _ _, Expr.Name _ _, Expr.Name _ _, Expr.Name _ _] [] _) _) _ _ _); k_dflt (refine' bigCall4 (by k_asm) (by k_asm) (by k_asm) (by k_is) (by k_is) (by rfl) (by rfl) (by rfl) (by rfl) ?_; k_whole))) | walk1 | (dsimp only; walk1) | (dsimp only; with_reducible show wpAny _ _ _ _ _ _) | (leave1; (try dsimp only)) | fail "no step"))
  · subst hkX hkY
    exact hret _ _ _ _ (by k_asm) (by k_asm) ⟨[_, _, _], rfl, boov (plainA (by assumption) (by assumption))⟩
  · subst hkX hkY
    rename_i hkk
    refine Exists.elim (kindTextX hkk.1) fun x' ee96 => ?_
    subst ee96
    refine Exists.elim (kindTextX hkk.2) fun y' ee98 => ?_
    subst ee98
    refine Exists.elim (hx.1) fun tx ee100 => ?_
    subst ee100
    refine Exists.elim (hy.1) fun ty ee102 => ?_
    subst ee102
    (repeat' (first | (k_unfold; (try dsimp only)) | (k_end; wrow_close) | ((with_reducible show wpAny _ _ (PySem.call (Value.ref _) _) _ _ _); first | (k_here; (with_reducible show wpAny _ _ (PySem.call (Value.ref 490) _) _ _ _); k_dflt ((refine' useC (C := (law_numbers_sp _ _ _ _ _ _ _ _ _ _ _ (by assumption) (by ktr_rel) (by ktr_rel) (by assumption) (by assumption))) (h := ?_); intro _ _ _ _ _; (try k_sweep); (try dsimp only)))) | (k_here; (with_reducible show wpAny _ _ (PySem.call (Value.ref 476) _) _ _ _); k_dflt ((refine' useM1 (C := (law_number_sp _ _ _ _ _ _ _ _ (by ktr_rel))) (h := ?_); intro _ _ _ _ _ _ _; (try k_sweep); (try dsimp only)))) | (k_here; (with_reducible show wpAny _ _ (PySem.call (Value.ref 483) _) _ _ _); k_dflt ((refine' useA (C := (law_truth_sp _ _ _ _ _ _ _ _ (by ktr_rel))) (h := ?_); intro _ _ _ _; (try k_sweep); (try dsimp only)))) | fail) | (k_here; (with_reducible show wpAny _ _ (compareOp CmpOp.Eq (Value.ref _) (Value.ref _)) _ _ _); k_dflt (refine strs2Eq (by k_asm) (by k_mem) (by k_mem) (by ktr_units) ?_)) | (k_here; first | ((with_reducible show wpAny _ _ (eval (Expr.Call (Expr.Name _ _) [Expr.Name _ _] [] _) _) _ _ _); k_dflt (refine' bigCall1 (by k_asm) (by k_asm) (by k_asm) (by k_is) (by k_is) (by rfl) ?_; k_whole)) | ((with_reducible show wpAny _ _ (eval (Expr.Call (Expr.Name _ _) [Expr.Name _ _, Expr.Name _ _] [] _) _) _ _ _); k_dflt (refine' bigCall2 (by k_asm) (by k_asm) (by k_asm) (by k_is) (by k_is) (by rfl) (by rfl) ?_; k_whole)) | ((with_reducible show wpAny _ _ (eval (Expr.Call (Expr.Name _ _) [Expr.Name _ _, Expr.Name _ _, Expr.Name _ _] [] _) _) _ _ _); k_dflt (refine' bigCall3 (by k_asm) (by k_asm) (by k_asm) (by k_is) (by k_is) (by rfl) (by rfl) (by rfl) ?_; k_whole)) | ((with_reducible show wpAny _ _ (eval (Expr.Call (Expr.Name _ _) [Expr.Name _ _, Expr.Name _ _, Expr.Name _ _, Expr.Name _ _] [] _) _) _ _ _); k_dflt (refine' bigCall4 (by k_asm) (by k_asm) (by k_asm) (by k_is) (by k_is) (by rfl) (by rfl) (by rfl) (by rfl) ?_; k_whole))) | walk1 | (dsimp only; walk1) | (dsimp only; with_reducible show wpAny _ _ _ _ _ _) | (leave1; (try dsimp only)) | fail "no step"))
    exact hret _ _ _ _ (by k_asm) (by k_asm) ⟨[_, _, _, _], rfl, boov (plainB (by assumption))⟩
  · subst hkX hkY
    exact hret _ _ _ _ (by k_asm) (by k_asm) ⟨_, appMid4, boov (plainC (by assumption) (by assumption) (by assumption))⟩
  · subst hkX hkY
    exact hret _ _ _ _ (by k_asm) (by k_asm) ⟨_, appMid2, boov (plainD (by assumption))⟩
end
section
/-- what sorted(_law_texts()) tells: eight texts of the menu -/
noncomputable def MenuL (vs : List Value) : Prop := vs.length = 8 ∧ ∀ v ∈ vs, ∃ x t, v = .str x t ∧ x ∈ menuT
theorem strs_lsort {prog : Program} {w : World} {A : Around} {E : Value → Shared → Prop} {s : Shared} {h₀ : Heap} {L D : Addr} {m : MV} {news : Led} {vs : List Value} {ss : List Str} {n : Nat} {Q : Value → Shared → Prop}
    (F : Fr h₀ L s.heap m) (N : News h₀ L s.heap ((D, W.listOf vs.toArray n) :: news)) (off : ∀ p ∈ news, p.1 ≠ D) (hS : StrsAre vs ss) (h64 : vs.length < 64)
    (h : ∀ vs' ss' c h', Fr h₀ L h' m → News h₀ L h' ((D, W.listOf (List.toArray vs') c) :: news) → StrsAre vs' ss' → ss'.Perm ss → Q .none { s with heap := h' }) :
    wpAny (model prog w) A (call (.builtin "list.sort") [.ref D]) Q E s := by
  have z := N _ List.mem_cons_self
  refine wpAny_call_entry slot_list_sort ⟨_, z.1, rfl⟩ entry_list_sort (list_sort_treeK (n := n) (vs := vs) strKind_oneLt z.1 hS.keysOf (fun v₁ v₂ rest e => keyKind_strs (by rw [← e]; exact hS)) h64 fun st' hp hs => ⟨.none, rfl, ?_⟩) (args_list_sort _)
  obtain ⟨ss', h1, h2, h3⟩ := sorted_out_str hS hp hs
  obtain ⟨c, hc⟩ := sortedHeap_at (vs := vs) (out := (arrOf st').map (·.2)) z.1
  have F4 : Fr h₀ L (sortedHeap s.heap D vs ((arrOf st').map (·.2))) m :=
    ksk_fr (((ksk_fr F (Heap.SameBut.update s.heap D (Obj.mapSeq fun _ => #[])) z.2.1 z.2.2).push (seqObj "tuple" vs.toArray 0)).push (seqObj "list" #[] 0)) (Heap.SameBut.update _ D (Obj.mapSeq fun _ => ((arrOf st').map (·.2)))) z.2.1 z.2.2
  refine h ((arrOf st').map (·.2)).toList ss' c _ F4 (fun p hq => ?_) h1 h2
  rcases List.mem_cons.mp hq with rfl | hq
  · exact ⟨hc, z.2⟩
  · have y := N p (List.mem_cons_of_mem _ hq)
    exact ⟨(sortedHeap_old (off p hq) (Heap.lt_size y.1)).trans y.1, y.2⟩
theorem keys_menu : ∀ x ∈ keysT, x ∈ menuT := by decide +kernel
theorem sorted_texts {w : World} {A : Around} {E : Value → Shared → Prop} {s : Shared} {h₀ : Heap} {L d : Addr} {m : MV} {news : Led} {Q : Value → Shared → Prop} (hA : A.handled = none) (hA2 : A.units + 64 < cLine) (F : Fr h₀ L s.heap m) (N : News h₀ L s.heap news) (hT : TextsAt w news d)
    (h : ∀ B h' tk vs n, Fr h₀ L h' m → News h₀ L h' ((B, W.listOf vs.toArray n) :: news) → (∀ p ∈ news, p.1 < B) → MenuL vs → Q (.ref B) { s with heap := h', toks := tk }) :
    wpAny (model P0 w) A (call (.builtin "sorted") [.ref d]) Q E s := by
  obtain ⟨o, kvs, hm, hd, lo, hk, hv⟩ := hT
  have hD := kda_dict N hm hd
  obtain ⟨ep, hat⟩ := hD.dictAt
  have hlen : kvs.length = 8 := by rw [← List.length_map (f := (·.1)), hk]; rfl
  refine kdu_sorted (kdl_dict (knd := PySem.strKind P0 w) (kvs := kvs) (ep := ep) lo) hA F N hat (by rw [hlen, sizeLine_eq]; decide) fun B h' tk vs F' N' l1 hl hv => ?_
  have key : ∀ (j : Nat) (x : Str), keysT[j]? = some x → ∃ t, vs[j]? = some (.str x t) := by
    intro j x hx
    have hj : j < vs.length := by
      rw [hl, hlen]
      exact (List.getElem?_eq_some_iff.mp hx).1
    obtain ⟨k, y, hky, hkk⟩ := hv j _ (List.getElem?_eq_getElem hj)
    rw [← hk, List.getElem?_map, hky] at hx
    cases hx
    rw [List.getElem?_eq_getElem hj]
    generalize vs[j] = z at hkk
    cases z <;> simp [PySem.strKind, Value.isStrOf] at hkk
    subst hkk
    exact ⟨_, rfl⟩
  have hS : ∀ (vs : List Value) (ss : List Str), vs.length = ss.length → (∀ (j : Nat) (x : Str), ss[j]? = some x → ∃ t, vs[j]? = some (.str x t)) → StrsAre vs ss := by
    intro vs
    induction vs with
    | nil => intro ss e _; cases ss with | nil => exact .nil | cons a r => simp at e
    | cons v vs ih =>
      intro ss e hj
      cases ss with
      | nil => simp at e
      | cons a r =>
        obtain ⟨t, ht⟩ := hj 0 a rfl
        cases ht
        exact .cons a t (ih r (by simpa using e) fun j x hx => hj (j + 1) x hx)
  refine strs_lsort F' N' (fun p hp => Nat.ne_of_lt (l1 p hp)) (hS vs keysT (by rw [hl, hlen]; rfl) key) (by rw [hl, hlen]; decide) fun vs' ss' c h2 F2 N2 hS' hp => ?_
  refine h B h2 tk vs' c F2 N2 l1 ⟨?_, fun v hv' => ?_⟩
  · rw [hS'.length, hp.length_eq]
    rfl
  · have hq : ∀ (vs : List Value) (ss : List Str), StrsAre vs ss → ∀ v ∈ vs, ∃ x t, v = .str x t ∧ x ∈ ss := by
      intro vs ss hS
      induction hS with
      | nil => intro v hv; cases hv
      | cons x t _ ih =>
        intro v hv
        rcases List.mem_cons.mp hv with rfl | hv
        · exact ⟨x, t, rfl, List.mem_cons_self⟩
        · obtain ⟨y, u, e, hy⟩ := ih v hv
          exact ⟨y, u, e, List.mem_cons_of_mem _ hy⟩
    obtain ⟨x, t, e, hx⟩ := hq vs' ss' hS' v hv'
    exact ⟨x, t, e, keys_menu x (hp.mem_iff.mp hx)⟩
end
section
theorem updMem {d : Addr} {o o' : Obj} {l : Led} {g : Obj → Led} (U : UpdF d o l g) : ∀ p ∈ g o', p ∈ (d, o') :: offL d l := by
  obtain ⟨pre, post, rfl, hg, h1, h2⟩ := U.split
  rw [hg]
  intro p hp
  rcases List.mem_append.mp hp with hp | hp
  · exact List.mem_cons_of_mem _ (mem_offL (List.mem_append_left _ hp) (h1 p hp))
  · rcases List.mem_cons.mp hp with rfl | hp
    · exact List.mem_cons_self
    · exact List.mem_cons_of_mem _ (mem_offL (List.mem_append_right _ (List.mem_cons_of_mem _ hp)) (h2 p hp))
theorem updIn {d : Addr} {o : Obj} {l : Led} {g : Obj → Led} (U : UpdF d o l g) : (d, o) ∈ l := by
  obtain ⟨pre, post, rfl, hg, h1, h2⟩ := U.split
  exact List.mem_append_right _ List.mem_cons_self
theorem take_upd (w : World) (mean : ExcName → Option Value) (mg mb : MV) (news : Led) (src : Addr) (a b top : Int) (t1 t2 tt : Tok) (n : Nat) (g : Obj → Led) (U : UpdF src (srcO a b t1 t2 n) news g) (hb : SB a b) (ht : 0 < top) (ht2 : top < 1073741824) :
   Sp w mean mg mb 450 [.ref src, .int top tt] 2 8 news (fun news' v => ∃ a' b' r t1 t2 tr n, news' = g (srcO a' b' t1 t2 n) ∧ v = .int r tr ∧ SB a' b' ∧ 0 ≤ r ∧ r < top) := by
  intro dp un gd cn cs aa ccd cl outer A₀ base h₀ L m s Q E B F X N T hk hd hu hret
  refine take_at w mean mg mb news src a b top t1 t2 tt n (updIn U) hb ht ht2 dp un gd cn cs aa ccd cl outer A₀ base h₀ L m s Q E B F X N T hk hd hu fun v h' tk' news' F' N' R' => ?_
  obtain ⟨a', b', r, u1, u2, tr, n', rfl, rfl, h1, h2, h3⟩ := R'
  exact hret _ h' tk' _ F' (lessN N' (updMem U)) ⟨a', b', r, u1, u2, tr, n', rfl, rfl, h1, h2, h3⟩
theorem one_upd (w : World) (mean : ExcName → Option Value) (mg mb : MV) (news : Led) (src l : Addr) (a b : Int) (t1 t2 : Tok) (k : Nat) (vs : List Value) (n : Nat) (g : Obj → Led) (U : UpdF src (srcO a b t1 t2 k) news g) (hb : SB a b) (hl : (l, W.listOf vs.toArray n) ∈ news) (hne : l ≠ src) (h0 : 0 < vs.length) (h1 : vs.length ≤ 1000) :
   Sp w mean mg mb 457 [.ref src, .ref l] 4 16 news (fun news' v => ∃ a' b' t1 t2 n, news' = g (srcO a' b' t1 t2 n) ∧ SB a' b' ∧ ∃ i : Nat, vs[i]? = some v) := by
  intro dp un gd cn cs aa ccd cl outer A₀ base h₀ L m s Q E B F X N T hk hd hu hret
  refine law_one_sp w mean mg mb news src l a b t1 t2 k vs n (updIn U) hb hl hne h0 h1 dp un gd cn cs aa ccd cl outer A₀ base h₀ L m s Q E B F X N T hk hd hu fun v h' tk' news' F' N' R' => ?_
  obtain ⟨a', b', u1, u2, n', rfl, h1, h2⟩ := R'
  exact hret _ h' tk' _ F' (lessN N' (updMem U)) ⟨a', b', u1, u2, n', rfl, h1, h2⟩
theorem dropApp {h₀ h : Heap} {L : Addr} {x : Addr × Obj} {new news : Led} (N : News h₀ L h (x :: (new ++ news))) : News h₀ L h (x :: news) := lessN N fun p hp => by
  rcases List.mem_cons.mp hp with rfl | hp
  · exact List.mem_cons_self
  · exact List.mem_cons_of_mem _ (List.mem_append_right _ hp)
theorem dropLt {B : Addr} {new news : Led} (h : ∀ p ∈ new ++ news, p.1 < B) : ∀ p ∈ news, p.1 < B := fun p hp => h p (List.mem_append_right _ hp)
section
open LCg
variable {prog : Program} {w : World} {A : Around} {h₀ : Heap} {L : Addr} {m : MV} {env : Env} {ct elt : PySem.Expr} {x : Str} {scope : Scope} {cl : List (Str × Addr)} {s : Shared} {S : Led → Prop} {P : Nat → Value → Prop} {Fin : List Value → Led → Prop}
/-- a comprehension with a test, by an invariant -/
theorem comp_indT {n : Nat} {news₀ : Led} (Inv : Nat → List Value → Led → Prop) (h0 : Inv 0 [] news₀)
    (turn : ∀ i ys news v I oI C oC Dd m₂ h tk (E' : Value → Shared → Prop), i < n → Inv i ys news → P i v → NsObj oC m₂ → m₂ x = some v → Fr h₀ L h m → News h₀ L h ((I, oI) :: (C, oC) :: (Dd, lst ys) :: news) → Off3 I C Dd news → ((@Ne Nat I C) ∧ (@Ne Nat I Dd) ∧ (@Ne Nat C Dd)) →
      wpAny (model prog w) A (isTrue ct (compEnvC scope cl C env) (eval ct (compEnvC scope cl C env))) (fun ok s' => if ok = true then
        wpAny (model prog w) A (eval elt (compEnvC scope cl C env)) (CompEnd h₀ L m { s with heap := h, toks := tk } I oI C oC Dd (lst ys) S (fun y news' => Inv (i + 1) (ys ++ [y]) news')) E' s'
        else CompEnd h₀ L m { s with heap := h, toks := tk } I oI C oC Dd (lst ys) S (fun _ news' => Inv (i + 1) ys news') Value.none s') E' { s with heap := h, toks := tk })
    (fin : ∀ ys news, Inv n ys news → Fin ys news) : LCt.CompRestT prog w A h₀ L m env ct elt x scope cl s S P Fin n 0 [] news₀ := by
  have key : ∀ (j i : Nat) (ys : List Value) (news : Led), i + j = n → Inv i ys news → LCt.CompRestT prog w A h₀ L m env ct elt x scope cl s S P Fin j i ys news := by
    intro j
    induction j with
    | zero => intro i ys news hi hI; exact LCt.CompRestT.zero (fin _ _ (by rw [show n = i by omega]; exact hI))
    | succ j ih =>
      intro i ys news hi hI
      refine LCt.CompRestT.succ ?_
      intro v I oI C oC D m₂ h tk E' hv hC hx F N off ne
      refine wpAny_mono (turn i ys news v I oI C oC D m₂ h tk E' (by omega) hI hv hC hx F N off ne) (fun b s₂ hq => ?_) fun _ _ e => e
      cases b with
      | true =>
        simp only [if_true] at hq ⊢
        refine wpAny_mono hq (fun y s₃ hr => ?_) fun _ _ e => e
        obtain ⟨h', tk', nw, e, F', N', off', hS, hn⟩ := hr
        exact ⟨h', tk', nw, e, F', N', off', hS, ih (i + 1) _ _ (by omega) hn⟩
      | false =>
        simp only [Bool.false_eq_true, if_false] at hq ⊢
        obtain ⟨h', tk', nw, e, F', N', off', hS, hn⟩ := hq
        exact ⟨h', tk', nw, e, F', N', off', hS, ih (i + 1) _ _ (by omega) hn⟩
  exact key n 0 [] news₀ (by omega) h0
end
end
section
local macro_rules | `(tactic| walk_at "CompSrcT") => `(tactic| (k_here; k_dflt (refine LCt.CompSrcT.ledger (by rfl) (by k_asm) (by k_asm) (by k_mem) (by exact sizeOK (by omega)) ?_; intro g')))
local macro_rules | `(tactic| walk_at "CompSrc") => `(tactic| (k_here; k_dflt (refine LCg.CompSrc.ledger (by rfl) (by k_asm) (by k_asm) (by k_mem) (by exact sizeOK (by omega)) ?_; intro g')))
theorem valueEnd {h₀ h : Heap} {L src : Addr} {all rest : Led} {o : Obj} (N : News h₀ L h all) (hs : (src, o) ∈ all) (hr : ∀ p ∈ rest, p ∈ all) : News h₀ L h ((src, o) :: (offL src all ++ rest)) := lessN N fun p hp => by
  rcases List.mem_cons.mp hp with rfl | hp
  · exact hs
  · rcases List.mem_append.mp hp with hp | hp
    · exact of_offL hp
    · exact hr p hp
theorem pickNum {w : World} {src L : Addr} {rest all : Led} {h₀ h : Heap} (_ : News h₀ L h all) {v0 v1 v2 v3 v4 v5 v6 v : Value} {i : Nat} (g : [v0, v1, v2, v3, v4, v5, v6][i]? = some v)
    (p0 : ∃ a ∈ menuN, NumAt w (offL src all ++ rest) v0 a.1 a.2) (p1 : ∃ a ∈ menuN, NumAt w (offL src all ++ rest) v1 a.1 a.2) (p2 : ∃ a ∈ menuN, NumAt w (offL src all ++ rest) v2 a.1 a.2) (p3 : ∃ a ∈ menuN, NumAt w (offL src all ++ rest) v3 a.1 a.2)
    (p4 : ∃ a ∈ menuN, NumAt w (offL src all ++ rest) v4 a.1 a.2) (p5 : ∃ a ∈ menuN, NumAt w (offL src all ++ rest) v5 a.1 a.2) (p6 : ∃ a ∈ menuN, NumAt w (offL src all ++ rest) v6 a.1 a.2) : ∃ a ∈ menuN, NumAt w (offL src all ++ rest) v a.1 a.2 := by
  have := List.mem_of_getElem? g
  simp only [List.mem_cons, List.not_mem_nil, or_false] at this
  rcases this with rfl | rfl | rfl | rfl | rfl | rfl | rfl <;> assumption
/-- between the turns of law_value's first comprehension -/
noncomputable def ValInv (src c1 c2 : Addr) (o1 o2 : Obj) (rest : Led) (xs : List (Nat × Str)) (i : Nat) (ys : List Value) (news' : Led) : Prop :=
  ∃ (a b : Int) (t1 t2 : Tok) (n : Nat) (sub : List (Nat × Str)), news' = (c1, o1) :: (c2, o2) :: (src, srcO a b t1 t2 n) :: rest ∧ SB a b ∧ IntsAre ys (sub.map fun (p : Nat × Str) => (p.1 : Int)) ∧ (∀ p ∈ sub, p ∈ xs) ∧ sub.length ≤ i
/-- between the turns of its second one -/
noncomputable def ToldInv (w : World) (D : TD) (rest base : Led) (sub : List (Nat × Str)) (i : Nat) (zs : List Value) (news' : Led) : Prop :=
  news' = base ∧ Reps w rest D zs ((sub.take i).map fun p => V.txt p.2)
/-- what law_value leaves -/
noncomputable def VPost (w : World) (D : TD) (src : Addr) (rest news' : Led) (v : Value) : Prop :=
  ∃ a' b' t1 t2 n new l v1 v2 X nn, news' = (src, srcO a' b' t1 t2 n) :: (new ++ rest) ∧ SB a' b' ∧ (∀ p ∈ new, p.1 ≠ src) ∧ v = .ref l ∧ (l, W.listOf [v1, v2].toArray nn) ∈ new ∧ RepV w (new ++ rest) D v1 X ∧ RepL w (new ++ rest) D v2 X
theorem vfin {w : World} {D : TD} {src l : Addr} {rest all : Led} {h₀ h' : Heap} {L : Addr} {m : MV} {s : Shared} {tk' : Nat} {Q : Value → Shared → Prop} {a' b' : Int} {t1 t2 : Tok} {n nn : Nat} {v1 v2 : Value} {X : V}
    (hret : ∀ v h' tk' news', Fr h₀ L h' m → News h₀ L h' news' → VPost w D src rest news' v → Q v { s with heap := h', toks := tk' })
    (F : Fr h₀ L h' m) (N : News h₀ L h' all) (hs : (src, srcO a' b' t1 t2 n) ∈ all) (hr : ∀ p ∈ rest, p ∈ all) (hb : SB a' b') (hl : (l, W.listOf [v1, v2].toArray nn) ∈ all) (hne : l ≠ src)
    (hv : RepV w (offL src all ++ rest) D v1 X) (hL : RepL w (offL src all ++ rest) D v2 X) : Q (.ref l) { s with heap := h', toks := tk' } :=
  hret _ _ _ _ F (valueEnd N hs hr) ⟨_, _, _, _, _, _, _, _, _, _, _, rfl, hb, offL_off, rfl, mem_offL hl hne, hv, hL⟩
local macro_rules | `(tactic| walk_at "CompRest") => `(tactic| refine Halt.go ?_)
local macro_rules | `(tactic| walk_at "CompRestT") => `(tactic| refine Halt.go ?_)
theorem law_value_sp (w : World) (mean : ExcName → Option Value) (mg mb : MV) (rest : Led) (src t nl : Addr) (a b : Int) (t1 t2 : Tok) (k : Nat) (D : TD) (xs : List (Nat × Str)) (hoff : ∀ p ∈ rest, p.1 ≠ src) (hb : SB a b) (hT : TreeAt w rest t D) (hl : D.rows.length ≤ 1000) (hn : RepV w rest D (.ref nl) (.set xs)) :
   Sp w mean mg mb 469 [.ref src, .ref t, .ref nl] 20 800 ((src, srcO a b t1 t2 k) :: rest) (VPost w D src rest) := by
  intro dp un gd cn cs aa ccd cl outer A₀ base h₀ L m s Q E B F X N T hk hd hu hret
  refine ex3 hn fun l vs n zz103 => ?_
  refine an5 zz103 fun e hm hi hall hlen => ?_
  clear zz103
  refine an4 hT fun m1 m2 m3 m4 => ?_
  cases e
  have hvl : vs.length ≤ 10 := by have := hi.length; simp at this; omega
  refine wpAny_call ?_
  k_dflt tb_start
  (repeat' (first | (k_unfold; (try dsimp only)) | (k_end; wrow_close) | ((with_reducible show wpAny _ _ (PySem.call (Value.ref _) _) _ _ _); first | (k_here; (with_reducible show wpAny _ _ (PySem.call (Value.ref 380) _) _ _ _); k_dflt ((refine' useA (C := (value_sp _ _ _ _ _ _ _ _ _ _ (by ktr_rel) (by with_reducible assumption) (by with_reducible assumption))) (h := ?_); intro _ _ _ _; (try k_sweep); (try dsimp only)))) | (k_here; (with_reducible show wpAny _ _ (PySem.call (Value.ref 394) _) _ _ _); k_dflt ((refine' useL (C := (children_sp _ _ _ _ _ _ _ _ _ _ _ (by ktr_rel) (by with_reducible assumption) (by with_reducible assumption) (by with_reducible assumption) (by simp))) (h := ?_); intro _ _ _ _ _ _ _; (try k_sweep); (try dsimp only)))) | (k_here; (with_reducible show wpAny _ _ (PySem.call (Value.ref 464) _) _ _ _); k_dflt ((refine' useX (C := (law_texts_sp _ _ _ _ _)) (h := ?_); intro _ _ _ _ _ _ _ _; (try k_sweep); (try dsimp only)))) | (k_here; (with_reducible show wpAny _ _ (PySem.call (Value.ref 457) _) _ _ _); k_dflt ((refine' useO (C := (one_upd _ _ _ _ _ _ _ _ _ _ _ _ _ _ _ (by k_updF) (by with_reducible assumption) (by k_mem) (by k_ne) (by first | decide | omega | simp) (by first | decide | omega | simp))) (h := ?_); intro _ _ _ _ _ _ _ _ _ _ _ _ _; (try k_sweep); (try dsimp only)))) | (k_here; (with_reducible show wpAny _ _ (PySem.call (Value.ref 450) _) _ _ _); k_dflt ((refine' useT (C := (take_upd _ _ _ _ _ _ _ _ _ _ _ _ _ _ (by k_updF) (by with_reducible assumption) (by omega) (by omega))) (h := ?_); intro _ _ _ _ _ _ _ _ _ _ _ _ _ _; (try k_sweep); (try dsimp only)))) | fail) | (k_here; (with_reducible show wpAny _ _ (subscriptTail (PySem.Expr.Call ..) _ (Value.ref _) (Value.int _ _)) _ _ _); (with_reducible refine' listItem (by k_dflt (k_asm)) (by k_dflt (k_mem)) (by k_dflt (decide)) (by k_dflt (decide)) (by k_dflt (exact rfl)) ?_)) | (k_here; (with_reducible show wpAny _ _ (call (Value.builtin _) [Value.ref _]) _ _ _); k_dflt (refine' sorted_texts (by exact rfl) (by ktr_units) (by k_asm) (by k_asm) (by exact TextsAt.mono (by with_reducible assumption) (fun _ hp => List.mem_append_left _ hp)) ?_; intro _ _ _ _ _ _ N' l1 hM'; replace N' := dropApp N'; replace l1 := dropLt l1; (have q' := And.left hM'))) | (k_here; (with_reducible show wpAny _ _ (callWith _ (Value.builtin _) [_] _ _) _ _ _); (with_reducible refine' callWith_method1 ?_ (by k_dflt (rfl)) (by k_dflt (rfl)))) | walk1 | (dsimp only; walk1) | (dsimp only; with_reducible show wpAny _ _ _ _ _ _) | (leave1; (try dsimp only)) | fail "no step"))
  · rename_i o1 o2 d1 d2 h9 tk9 a9 b9 r9 u9 w9 y9 n9 c9 d9 g9 h8 F8 N8 tk8 x8 g8
    unfold Halt
    refine' comp_indT (ValInv src _ _ o1 o2 rest xs) ⟨_, _, _, _, _, [], rfl, by assumption, .nil, by simp, Nat.le_refl _⟩ ?turn ?fin
    case turn =>
      intro i ys news' v I oI C oC Dd m₂ h tk E' hi' hI hv hC hx F' N' off' ne'
      refine ex6 hI fun a' b' s1 s2 n' sub zz104 => ?_
      refine an5 zz104 fun ee105 hb' hR hsub hsl => ?_
      clear hI zz104
      subst ee105
      refine ex2 (hi.at i v (by simpa using hv)) fun k' tk' zz106 => ?_
      refine an2 zz106 fun ee107 hk' => ?_
      clear zz106
      subst ee107
      have zq108 : ∃ p, xs[i]? = some p ∧ k' = (p.1 : Int) := by
        rw [List.getElem?_map] at hk'
        cases e : xs[i]? with
        | none => rw [e] at hk'; cases hk'
        | some p => rw [e] at hk'; exact ⟨p, rfl, (Option.some.inj hk').symm⟩
      refine Exists.elim zq108 fun p zz109 => ?_
      refine an2 zz109 fun hp ee110 => ?_
      subst ee110
      (repeat' (first | (k_unfold; (try dsimp only)) | (k_end; wrow_close) | ((with_reducible show wpAny _ _ (PySem.call (Value.ref _) _) _ _ _); first | (k_here; (with_reducible show wpAny _ _ (PySem.call (Value.ref 380) _) _ _ _); k_dflt ((refine' useA (C := (value_sp _ _ _ _ _ _ _ _ _ _ (by ktr_rel) (by with_reducible assumption) (by with_reducible assumption))) (h := ?_); intro _ _ _ _; (try k_sweep); (try dsimp only)))) | (k_here; (with_reducible show wpAny _ _ (PySem.call (Value.ref 394) _) _ _ _); k_dflt ((refine' useL (C := (children_sp _ _ _ _ _ _ _ _ _ _ _ (by ktr_rel) (by with_reducible assumption) (by with_reducible assumption) (by with_reducible assumption) (by simp))) (h := ?_); intro _ _ _ _ _ _ _; (try k_sweep); (try dsimp only)))) | (k_here; (with_reducible show wpAny _ _ (PySem.call (Value.ref 464) _) _ _ _); k_dflt ((refine' useX (C := (law_texts_sp _ _ _ _ _)) (h := ?_); intro _ _ _ _ _ _ _ _; (try k_sweep); (try dsimp only)))) | (k_here; (with_reducible show wpAny _ _ (PySem.call (Value.ref 457) _) _ _ _); k_dflt ((refine' useO (C := (one_upd _ _ _ _ _ _ _ _ _ _ _ _ _ _ _ (by k_updF) (by with_reducible assumption) (by k_mem) (by k_ne) (by first | decide | omega | simp) (by first | decide | omega | simp))) (h := ?_); intro _ _ _ _ _ _ _ _ _ _ _ _ _; (try k_sweep); (try dsimp only)))) | (k_here; (with_reducible show wpAny _ _ (PySem.call (Value.ref 450) _) _ _ _); k_dflt ((refine' useT (C := (take_upd _ _ _ _ _ _ _ _ _ _ _ _ _ _ (by k_updF) (by with_reducible assumption) (by omega) (by omega))) (h := ?_); intro _ _ _ _ _ _ _ _ _ _ _ _ _ _; (try k_sweep); (try dsimp only)))) | fail) | (k_here; (with_reducible show wpAny _ _ (subscriptTail (PySem.Expr.Call ..) _ (Value.ref _) (Value.int _ _)) _ _ _); (with_reducible refine' listItem (by k_dflt (k_asm)) (by k_dflt (k_mem)) (by k_dflt (decide)) (by k_dflt (decide)) (by k_dflt (exact rfl)) ?_)) | (k_here; (with_reducible show wpAny _ _ (call (Value.builtin _) [Value.ref _]) _ _ _); k_dflt (refine' sorted_texts (by exact rfl) (by ktr_units) (by k_asm) (by k_asm) (by exact TextsAt.mono (by with_reducible assumption) (fun _ hp => List.mem_append_left _ hp)) ?_; intro _ _ _ _ _ _ N' l1 hM'; replace N' := dropApp N'; replace l1 := dropLt l1; (have q' := And.left hM'))) | (k_here; (with_reducible show wpAny _ _ (callWith _ (Value.builtin _) [_] _ _) _ _ _); (with_reducible refine' callWith_method1 ?_ (by k_dflt (rfl)) (by k_dflt (rfl)))) | walk1 | (dsimp only; walk1) | (dsimp only; with_reducible show wpAny _ _ _ _ _ _) | (leave1; (try dsimp only)) | fail "no step"))
      · refine ⟨_, _, _, _, _, sub ++ [p], rfl, by assumption, ?_, ?_, ?_⟩
        · rw [List.map_append]
          exact IntsAre.append hR (.cons _ _ .nil)
        · intro q hq
          rcases List.mem_append.mp hq with hq | hq
          · exact hsub q hq
          · rw [List.mem_singleton.mp hq]
            exact List.mem_of_getElem? hp
        · simp
          exact hsl
      · exact ⟨_, _, _, _, _, sub, rfl, by assumption, hR, hsub, Nat.le_succ_of_le hsl⟩
    case fin =>
      intro ys news' hI
      refine ex6 hI fun a' b' s1 s2 n' sub zz111 => ?_
      refine an5 zz111 fun ee112 hb' hR hsub hsl => ?_
      clear hI zz111
      subst ee112
      have hys : ys.length = sub.length := by rw [hR.length, List.length_map]
      have hyl : ys.length ≤ 10 := by
        simp at hsl
        omega
      (repeat' (first | (k_unfold; (try dsimp only)) | (k_end; wrow_close) | ((with_reducible show wpAny _ _ (PySem.call (Value.ref _) _) _ _ _); first | (k_here; (with_reducible show wpAny _ _ (PySem.call (Value.ref 380) _) _ _ _); k_dflt ((refine' useA (C := (value_sp _ _ _ _ _ _ _ _ _ _ (by ktr_rel) (by with_reducible assumption) (by with_reducible assumption))) (h := ?_); intro _ _ _ _; (try k_sweep); (try dsimp only)))) | (k_here; (with_reducible show wpAny _ _ (PySem.call (Value.ref 394) _) _ _ _); k_dflt ((refine' useL (C := (children_sp _ _ _ _ _ _ _ _ _ _ _ (by ktr_rel) (by with_reducible assumption) (by with_reducible assumption) (by with_reducible assumption) (by simp))) (h := ?_); intro _ _ _ _ _ _ _; (try k_sweep); (try dsimp only)))) | (k_here; (with_reducible show wpAny _ _ (PySem.call (Value.ref 464) _) _ _ _); k_dflt ((refine' useX (C := (law_texts_sp _ _ _ _ _)) (h := ?_); intro _ _ _ _ _ _ _ _; (try k_sweep); (try dsimp only)))) | (k_here; (with_reducible show wpAny _ _ (PySem.call (Value.ref 457) _) _ _ _); k_dflt ((refine' useO (C := (one_upd _ _ _ _ _ _ _ _ _ _ _ _ _ _ _ (by k_updF) (by with_reducible assumption) (by k_mem) (by k_ne) (by first | decide | omega | simp) (by first | decide | omega | simp))) (h := ?_); intro _ _ _ _ _ _ _ _ _ _ _ _ _; (try k_sweep); (try dsimp only)))) | (k_here; (with_reducible show wpAny _ _ (PySem.call (Value.ref 450) _) _ _ _); k_dflt ((refine' useT (C := (take_upd _ _ _ _ _ _ _ _ _ _ _ _ _ _ (by k_updF) (by with_reducible assumption) (by omega) (by omega))) (h := ?_); intro _ _ _ _ _ _ _ _ _ _ _ _ _ _; (try k_sweep); (try dsimp only)))) | fail) | (k_here; (with_reducible show wpAny _ _ (subscriptTail (PySem.Expr.Call ..) _ (Value.ref _) (Value.int _ _)) _ _ _); (with_reducible refine' listItem (by k_dflt (k_asm)) (by k_dflt (k_mem)) (by k_dflt (decide)) (by k_dflt (decide)) (by k_dflt (exact rfl)) ?_)) | (k_here; (with_reducible show wpAny _ _ (call (Value.builtin _) [Value.ref _]) _ _ _); k_dflt (refine' sorted_texts (by exact rfl) (by ktr_units) (by k_asm) (by k_asm) (by exact TextsAt.mono (by with_reducible assumption) (fun _ hp => List.mem_append_left _ hp)) ?_; intro _ _ _ _ _ _ N' l1 hM'; replace N' := dropApp N'; replace l1 := dropLt l1; (have q' := And.left hM'))) | (k_here; (with_reducible show wpAny _ _ (callWith _ (Value.builtin _) [_] _ _) _ _ _); (with_reducible refine' callWith_method1 ?_ (by k_dflt (rfl)) (by k_dflt (rfl)))) | walk1 | (dsimp only; walk1) | (dsimp only; with_reducible show wpAny _ _ _ _ _ _) | (leave1; (try dsimp only)) | fail "no step"))
      unfold Halt
      refine' comp_ind (ToldInv w D rest _ sub) ⟨rfl, Reps.nil⟩ ?turn2 ?fin2
      case turn2 =>
        intro i zs news' v I oI C oC Dd m₂ h tk E' hi' hI hv hC hx F' N' off' ne'
        refine an2 hI fun ee113 hR2 => ?_
        clear hI
        subst ee113
        refine ex2 (hR.at i v (by simpa using hv)) fun k' tk' zz114 => ?_
        refine an2 zz114 fun ee115 hk' => ?_
        clear zz114
        subst ee115
        have zq116 : ∃ p, sub[i]? = some p ∧ k' = (p.1 : Int) := by
          rw [List.getElem?_map] at hk'
          cases e : sub[i]? with
          | none => rw [e] at hk'; cases hk'
          | some p => rw [e] at hk'; exact ⟨p, rfl, (Option.some.inj hk').symm⟩
        refine Exists.elim zq116 fun p zz117 => ?_
        refine an2 zz117 fun hp ee118 => ?_
        subst ee118
        refine an2 (hall p (hsub p (List.mem_of_getElem? hp))) fun hE hmx => ?_
        refine ex4 hE fun R j R' tc zz119 => ?_
        refine an7 zz119 fun hi1 hkd hkv hj hkd' hv' hkv' => ?_
        clear hE zz119
        (repeat' (first | (k_unfold; (try dsimp only)) | (k_end; wrow_close) | ((with_reducible show wpAny _ _ (PySem.call (Value.ref _) _) _ _ _); first | (k_here; (with_reducible show wpAny _ _ (PySem.call (Value.ref 380) _) _ _ _); k_dflt ((refine' useA (C := (value_sp _ _ _ _ _ _ _ _ _ _ (by ktr_rel) (by with_reducible assumption) (by with_reducible assumption))) (h := ?_); intro _ _ _ _; (try k_sweep); (try dsimp only)))) | (k_here; (with_reducible show wpAny _ _ (PySem.call (Value.ref 394) _) _ _ _); k_dflt ((refine' useL (C := (children_sp _ _ _ _ _ _ _ _ _ _ _ (by ktr_rel) (by with_reducible assumption) (by with_reducible assumption) (by with_reducible assumption) (by simp))) (h := ?_); intro _ _ _ _ _ _ _; (try k_sweep); (try dsimp only)))) | (k_here; (with_reducible show wpAny _ _ (PySem.call (Value.ref 464) _) _ _ _); k_dflt ((refine' useX (C := (law_texts_sp _ _ _ _ _)) (h := ?_); intro _ _ _ _ _ _ _ _; (try k_sweep); (try dsimp only)))) | (k_here; (with_reducible show wpAny _ _ (PySem.call (Value.ref 457) _) _ _ _); k_dflt ((refine' useO (C := (one_upd _ _ _ _ _ _ _ _ _ _ _ _ _ _ _ (by k_updF) (by with_reducible assumption) (by k_mem) (by k_ne) (by first | decide | omega | simp) (by first | decide | omega | simp))) (h := ?_); intro _ _ _ _ _ _ _ _ _ _ _ _ _; (try k_sweep); (try dsimp only)))) | (k_here; (with_reducible show wpAny _ _ (PySem.call (Value.ref 450) _) _ _ _); k_dflt ((refine' useT (C := (take_upd _ _ _ _ _ _ _ _ _ _ _ _ _ _ (by k_updF) (by with_reducible assumption) (by omega) (by omega))) (h := ?_); intro _ _ _ _ _ _ _ _ _ _ _ _ _ _; (try k_sweep); (try dsimp only)))) | fail) | (k_here; (with_reducible show wpAny _ _ (subscriptTail (PySem.Expr.Call ..) _ (Value.ref _) (Value.int _ _)) _ _ _); (with_reducible refine' listItem (by k_dflt (k_asm)) (by k_dflt (k_mem)) (by k_dflt (decide)) (by k_dflt (decide)) (by k_dflt (exact rfl)) ?_)) | (k_here; (with_reducible show wpAny _ _ (call (Value.builtin _) [Value.ref _]) _ _ _); k_dflt (refine' sorted_texts (by exact rfl) (by ktr_units) (by k_asm) (by k_asm) (by exact TextsAt.mono (by with_reducible assumption) (fun _ hp => List.mem_append_left _ hp)) ?_; intro _ _ _ _ _ _ N' l1 hM'; replace N' := dropApp N'; replace l1 := dropLt l1; (have q' := And.left hM'))) | (k_here; (with_reducible show wpAny _ _ (callWith _ (Value.builtin _) [_] _ _) _ _ _); (with_reducible refine' callWith_method1 ?_ (by k_dflt (rfl)) (by k_dflt (rfl)))) | walk1 | (dsimp only; walk1) | (dsimp only; with_reducible show wpAny _ _ _ _ _ _) | (leave1; (try dsimp only)) | fail "no step"))
        (rename Fr _ _ _ _ => F9)
        (rename News _ _ _ _ => N9)
        refine' LCg.CompEnd.intro F9 N9 _ (fun _ => List.mem_cons_of_mem _) ?o ?s ⟨rfl, ?_⟩
        case o => lcg_off
        case s => exact Or.inr ⟨_, by k_mem, rfl, _, rfl⟩
        rw [List.take_add_one, hp, Option.toList, List.map_append]
        exact hR2.snoc ⟨⟨_, by rw [hv']⟩, hmx⟩
      case fin2 =>
        intro zs news' hI
        refine an2 hI fun ee120 hR2 => ?_
        clear hI
        subst ee120
        rw [List.size_toArray, hys, List.take_length] at hR2
        have hzl : zs.length ≤ 10 := by
          rw [hR2.1, List.length_map]
          omega
        (repeat' (first | (k_unfold; (try dsimp only)) | (k_end; wrow_close) | ((with_reducible show wpAny _ _ (PySem.call (Value.ref _) _) _ _ _); first | (k_here; (with_reducible show wpAny _ _ (PySem.call (Value.ref 380) _) _ _ _); k_dflt ((refine' useA (C := (value_sp _ _ _ _ _ _ _ _ _ _ (by ktr_rel) (by with_reducible assumption) (by with_reducible assumption))) (h := ?_); intro _ _ _ _; (try k_sweep); (try dsimp only)))) | (k_here; (with_reducible show wpAny _ _ (PySem.call (Value.ref 394) _) _ _ _); k_dflt ((refine' useL (C := (children_sp _ _ _ _ _ _ _ _ _ _ _ (by ktr_rel) (by with_reducible assumption) (by with_reducible assumption) (by with_reducible assumption) (by simp))) (h := ?_); intro _ _ _ _ _ _ _; (try k_sweep); (try dsimp only)))) | (k_here; (with_reducible show wpAny _ _ (PySem.call (Value.ref 464) _) _ _ _); k_dflt ((refine' useX (C := (law_texts_sp _ _ _ _ _)) (h := ?_); intro _ _ _ _ _ _ _ _; (try k_sweep); (try dsimp only)))) | (k_here; (with_reducible show wpAny _ _ (PySem.call (Value.ref 457) _) _ _ _); k_dflt ((refine' useO (C := (one_upd _ _ _ _ _ _ _ _ _ _ _ _ _ _ _ (by k_updF) (by with_reducible assumption) (by k_mem) (by k_ne) (by first | decide | omega | simp) (by first | decide | omega | simp))) (h := ?_); intro _ _ _ _ _ _ _ _ _ _ _ _ _; (try k_sweep); (try dsimp only)))) | (k_here; (with_reducible show wpAny _ _ (PySem.call (Value.ref 450) _) _ _ _); k_dflt ((refine' useT (C := (take_upd _ _ _ _ _ _ _ _ _ _ _ _ _ _ (by k_updF) (by with_reducible assumption) (by omega) (by omega))) (h := ?_); intro _ _ _ _ _ _ _ _ _ _ _ _ _ _; (try k_sweep); (try dsimp only)))) | fail) | (k_here; (with_reducible show wpAny _ _ (subscriptTail (PySem.Expr.Call ..) _ (Value.ref _) (Value.int _ _)) _ _ _); (with_reducible refine' listItem (by k_dflt (k_asm)) (by k_dflt (k_mem)) (by k_dflt (decide)) (by k_dflt (decide)) (by k_dflt (exact rfl)) ?_)) | (k_here; (with_reducible show wpAny _ _ (call (Value.builtin _) [Value.ref _]) _ _ _); k_dflt (refine' sorted_texts (by exact rfl) (by ktr_units) (by k_asm) (by k_asm) (by exact TextsAt.mono (by with_reducible assumption) (fun _ hp => List.mem_append_left _ hp)) ?_; intro _ _ _ _ _ _ N' l1 hM'; replace N' := dropApp N'; replace l1 := dropLt l1; (have q' := And.left hM'))) | (k_here; (with_reducible show wpAny _ _ (callWith _ (Value.builtin _) [_] _ _) _ _ _); (with_reducible refine' callWith_method1 ?_ (by k_dflt (rfl)) (by k_dflt (rfl)))) | walk1 | (dsimp only; walk1) | (dsimp only; with_reducible show wpAny _ _ _ _ _ _) | (leave1; (try dsimp only)) | fail "no step"))
        refine' vfin (X := .set sub) hret ?F ?N ?s ?r ?b ?l ?ne ?v ?L
        case F => k_asm
        case N => k_asm
        case s => k_mem
        case r => intro p hp; k_mem
        case b => assumption
        case l => k_mem
        case ne => k_ne
        case v => exact ⟨_, _, _, rfl, List.mem_append_left _ (mem_offL (by k_mem) (by k_ne)), hR, fun p hp => hall p (hsub p hp), by omega⟩
        case L => exact ⟨_, _, _, rfl, List.mem_append_left _ (mem_offL (by k_mem) (by k_ne)), ⟨_, _, _, rfl, List.mem_append_left _ (mem_offL (by k_mem) (by k_ne)), hR2.mono fun _ h => List.mem_append_right _ h, hzl⟩, by omega, fun p hp => (hall p (hsub p hp)).2⟩
  · (rename _[_]? = some _ => g9)
    (rename News _ _ _ _ => kN)
    have hp7 := pickNum (w := w) (src := src) (rest := rest) kN g9 ?p0 ?p1 ?p2 ?p3 ?p4 ?p5 ?p6
    case p0 => exact ⟨(1, 1), by decide +kernel, numCast ⟨_, _, _, rfl, .inl (List.mem_append_left _ (mem_offL (by k_mem) (by k_ne)))⟩ (by decide +kernel) (by decide +kernel)⟩
    case p1 => exact ⟨(3, 2), by decide +kernel, numCast ⟨_, _, _, rfl, .inl (List.mem_append_left _ (mem_offL (by k_mem) (by k_ne)))⟩ (by decide +kernel) (by decide +kernel)⟩
    case p2 => exact ⟨(-2, 1), by decide +kernel, numCast ⟨_, _, _, rfl, .inl (List.mem_append_left _ (mem_offL (by k_mem) (by k_ne)))⟩ (by decide +kernel) (by decide +kernel)⟩
    case p3 => exact ⟨(0, 1), by decide +kernel, numCast ⟨_, _, _, rfl, .inl (List.mem_append_left _ (mem_offL (by k_mem) (by k_ne)))⟩ (by decide +kernel) (by decide +kernel)⟩
    case p4 => exact ⟨(0, 0), by decide +kernel, numCast ⟨_, _, _, rfl, .inl (List.mem_append_left _ (mem_offL (by k_mem) (by k_ne)))⟩ (by decide +kernel) (by decide +kernel)⟩
    case p5 => exact ⟨(1, 0), by decide +kernel, numCast ⟨_, _, _, rfl, .inl (List.mem_append_left _ (mem_offL (by k_mem) (by k_ne)))⟩ (by decide +kernel) (by decide +kernel)⟩
    case p6 => exact ⟨(-1, 0), by decide +kernel, numCast ⟨_, _, _, rfl, .inl (List.mem_append_left _ (mem_offL (by k_mem) (by k_ne)))⟩ (by decide +kernel) (by decide +kernel)⟩
    refine Exists.elim hp7 fun a zz121 => ?_
    refine an2 zz121 fun ha hn7 => ?_
    clear hp7 zz121
    refine' vfin (X := .num a) hret ?F ?N ?s ?r ?b ?l ?ne ?v ?L
    case F => k_asm
    case N => k_asm
    case s => k_mem
    case r => intro p hp; k_mem
    case b => assumption
    case l => k_mem
    case ne => k_ne
    case v => exact ⟨hn7, ha⟩
    case L => exact ⟨_, _, _, rfl, List.mem_append_left _ (mem_offL (by k_mem) (by k_ne)), hn7, ha⟩
  · (rename MenuL _ => hM9)
    (rename _[_]? = some _ => g9)
    (rename News _ _ _ _ => kN)
    refine ex2 (hM9.2 _ (List.mem_of_getElem? g9)) fun x tx zz122 => ?_
    refine an2 zz122 fun ee123 hx => ?_
    clear zz122
    subst ee123
    refine' vfin (X := .txt x) hret ?F ?N ?s ?r ?b ?l ?ne ?v ?L
    case F => k_asm
    case N => k_asm
    case s => k_mem
    case r => intro p hp; k_mem
    case b => assumption
    case l => k_mem
    case ne => k_ne
    case v => exact ⟨⟨_, rfl⟩, hx⟩
    case L => exact ⟨_, _, _, rfl, List.mem_append_left _ (mem_offL (by k_mem) (by k_ne)), ⟨_, rfl⟩, hx⟩
  · refine' vfin (X := .tru _) hret ?F ?N ?s ?r ?b ?l ?ne ?v ?L
    case F => k_asm
    case N => k_asm
    case s => k_mem
    case r => intro p hp; k_mem
    case b => assumption
    case l => k_mem
    case ne => k_ne
    case v => exact repTru _
    case L => exact ⟨_, _, _, rfl, List.mem_append_left _ (mem_offL (by k_mem) (by k_ne)), (rfl : (_ : Value) = .bool _), trivial⟩
end
section
local macro_rules | `(tactic| walk_at "exec For Name Name cons nil") => `(tactic| (k_here; (rename Fr _ _ _ _ => lF'); (with_unfolding_all refine' For_invVF lF' ?k1 ?k2 ?_; (case k1 => exact rfl); (case k2 => exact rfl); k_whole)))
local macro_rules | `(tactic| ktr_rel) => `(tactic| first | with_reducible assumption | ((with_reducible show RepL _ (_ :: _) _ _ _); exact RepL.tail (by ktr_rel)) | ((with_reducible show RepL _ (_ ++ _) _ _ _); exact RepL.app (by ktr_rel)) | ((with_reducible show ListL _ (_ :: _) _ _ _); exact ListL.tail (by ktr_rel)) | ((with_reducible show ListL _ (_ ++ _) _ _ _); exact ListL.app (by ktr_rel)))
local macro_rules | `(tactic| walk_at "eval IfExp") => `(tactic| ((fail_if_success (with_reducible show wpAny _ _ _ (Joined _ _ _ _ _ _) _ _)); refine Halt.go ?_))
local macro_rules | `(tactic| walk_at "CompSrc") => `(tactic| refine Halt.go ?_)
local macro_rules | `(tactic| walk_at "CompRest") => `(tactic| refine Halt.go ?_)
local macro_rules | `(tactic| walk_at "pyIter ref") => `(tactic| refine Halt.go ?_)
/-- between the turns of a comprehension that pairs texts with their kind -/
noncomputable def PairInv (w : World) (D : TD) (base : Led) (xs : List (Nat × Str)) (i : Nat) (ys : List Value) (news' : Led) : Prop :=
  (∃ new, news' = new ++ base) ∧ RepsL w news' D ys ((xs.take i).map fun p => V.txt p.2)
theorem permSub {a b c d : Addr × Obj} {news : Led} : ∀ p ∈ a :: b :: c :: d :: news, p ∈ d :: a :: b :: c :: news := fun p hp => by
  simp only [List.mem_cons] at hp ⊢
  rcases hp with h | h | h | h | h <;> simp [h]
theorem setAny {X Y : V} {b : Bool} (h : ([kindL X, kindL Y].any fun x => x == Str.ofString "set") = b) : (isSet X || isSet Y) = b := by
  rw [← h, ← kindSet, ← kindSet]
  simp
theorem dueA {op : Str} {X Y : V} (h : ([kindL X, kindL Y].any fun x => x == Str.ofString "set") = false) : plainV op X Y = dueV op X Y := by
  have := setAny h
  rw [Bool.or_eq_false_iff] at this
  unfold dueV
  rw [this.1, this.2]
  rfl
theorem dueB {op : Str} {X Y : V} (h : ([kindL X, kindL Y].any fun x => x == Str.ofString "set") = true) (h2 : ([kindL X, kindL Y].any fun x => x == Str.ofString "truth") = true) : plainV op (.tru (truthV X)) (.tru (truthV Y)) = dueV op X Y := by
  have := setAny h
  unfold dueV
  rw [if_neg (by intro e; rw [Bool.and_eq_true] at e; simp_all), if_pos (truAny h2)]
theorem dueC {op : Str} {X Y : V} (h : ([kindL X, kindL Y].any fun x => x == Str.ofString "set") = true) (h2 : ([kindL X, kindL Y].any fun x => x == Str.ofString "truth") = false) : ((itemsV X).any fun a => (itemsV Y).any fun b => plainV op a b) = dueV op X Y := by
  have := setAny h
  unfold dueV
  rw [if_neg (by intro e; rw [Bool.and_eq_true] at e; simp_all), truAny h2, if_neg Bool.false_ne_true]
theorem law_due_sp (w : World) (mean : ExcName → Option Value) (mg mb : MV) (news : Led) (op : Str) (top : Tok) (v u : Value) (D : TD) (X Y : V) (hop : op ∈ opsL) (hv : RepL w news D v X) (hu : RepL w news D u Y) :
   Sp w mean mg mb 502 [.str op top, v, u] 16 900 news (fun news' v => ∃ new, news' = new ++ news ∧ v = .bool (dueV op X Y)) := by
  intro dp un gd cn cs aa ccd cl outer A₀ base h₀ L m s Q E B F X0 N T hk hd hu' hret
  refine ex3 hv fun r t x zz124 => ?_
  refine an3 zz124 fun ee125 hm hx => ?_
  clear zz124
  subst ee125
  refine ex3 hu fun r' t' y zz126 => ?_
  refine an3 zz126 fun ee127 hm' hy => ?_
  clear zz126
  subst ee127
  generalize hkX : kindL X = kX at hm
  generalize hkY : kindL Y = kY at hm'
  refine wpAny_call ?_
  k_dflt ktr_enter
  (repeat' (first | (k_unfold; (try dsimp only)) | (k_end; wrow_close) | ((with_reducible show wpAny _ _ (PySem.call (Value.ref _) _) _ _ _); first | (k_here; (with_reducible show wpAny _ _ (PySem.call (Value.ref 497) _) _ _ _); k_dflt ((refine' useC (C := (law_plain_sp _ _ _ _ _ _ _ _ _ _ _ _ (by with_reducible assumption) (by ktr_rel) (by ktr_rel))) (h := ?_); intro _ _ _ _ _; (try k_sweep); (try dsimp only)))) | (k_here; (with_reducible show wpAny _ _ (PySem.call (Value.ref 483) _) _ _ _); k_dflt ((refine' useA (C := (law_truth_sp _ _ _ _ _ _ _ _ (by ktr_rel))) (h := ?_); intro _ _ _ _; (try k_sweep); (try dsimp only)))) | fail) | (k_here; first | ((with_reducible show wpAny _ _ (eval (Expr.Call (Expr.Name _ _) [Expr.Name _ _] [] _) _) _ _ _); k_dflt (refine' bigCall1 (by k_asm) (by k_asm) (by k_asm) (by k_is) (by k_is) (by rfl) ?_; k_whole)) | ((with_reducible show wpAny _ _ (eval (Expr.Call (Expr.Name _ _) [Expr.Name _ _, Expr.Name _ _] [] _) _) _ _ _); k_dflt (refine' bigCall2 (by k_asm) (by k_asm) (by k_asm) (by k_is) (by k_is) (by rfl) (by rfl) ?_; k_whole)) | ((with_reducible show wpAny _ _ (eval (Expr.Call (Expr.Name _ _) [Expr.Name _ _, Expr.Name _ _, Expr.Name _ _] [] _) _) _ _ _); k_dflt (refine' bigCall3 (by k_asm) (by k_asm) (by k_asm) (by k_is) (by k_is) (by rfl) (by rfl) (by rfl) ?_; k_whole)) | ((with_reducible show wpAny _ _ (eval (Expr.Call (Expr.Name _ _) [Expr.Name _ _, Expr.Name _ _, Expr.Name _ _, Expr.Name _ _] [] _) _) _ _ _); k_dflt (refine' bigCall4 (by k_asm) (by k_asm) (by k_asm) (by k_is) (by k_is) (by rfl) (by rfl) (by rfl) (by rfl) ?_; k_whole))) | walk1 | (dsimp only; walk1) | (dsimp only; with_reducible show wpAny _ _ _ _ _ _) | (leave1; (try dsimp only)) | fail "no step"))
  · k_here
    k_dflt ((refine' use2 (by k_asm) (by k_asm) (by k_asm) (by k_asm) (by k_asm) ?kK (law_plain_sp _ _ _ _ _ _ _ _ _ D _ _ (by with_reducible assumption) (repLTru (by k_mem)) (repLTru (by k_mem))) ?kd ?ku ?_; (case kK => first | exact rfl | assumption); (case kd => ktr_room); (case ku => ktr_units)); intro v9 h9 tk9 news9 F9 N9 R9; obtain ⟨p9, e9, f9⟩ := R9; subst e9; subst f9; (try k_sweep); (try dsimp only))
    (repeat' (first | (k_unfold; (try dsimp only)) | (k_end; wrow_close) | ((with_reducible show wpAny _ _ (PySem.call (Value.ref _) _) _ _ _); first | (k_here; (with_reducible show wpAny _ _ (PySem.call (Value.ref 497) _) _ _ _); k_dflt ((refine' useC (C := (law_plain_sp _ _ _ _ _ _ _ _ _ _ _ _ (by with_reducible assumption) (by ktr_rel) (by ktr_rel))) (h := ?_); intro _ _ _ _ _; (try k_sweep); (try dsimp only)))) | (k_here; (with_reducible show wpAny _ _ (PySem.call (Value.ref 483) _) _ _ _); k_dflt ((refine' useA (C := (law_truth_sp _ _ _ _ _ _ _ _ (by ktr_rel))) (h := ?_); intro _ _ _ _; (try k_sweep); (try dsimp only)))) | fail) | (k_here; first | ((with_reducible show wpAny _ _ (eval (Expr.Call (Expr.Name _ _) [Expr.Name _ _] [] _) _) _ _ _); k_dflt (refine' bigCall1 (by k_asm) (by k_asm) (by k_asm) (by k_is) (by k_is) (by rfl) ?_; k_whole)) | ((with_reducible show wpAny _ _ (eval (Expr.Call (Expr.Name _ _) [Expr.Name _ _, Expr.Name _ _] [] _) _) _ _ _); k_dflt (refine' bigCall2 (by k_asm) (by k_asm) (by k_asm) (by k_is) (by k_is) (by rfl) (by rfl) ?_; k_whole)) | ((with_reducible show wpAny _ _ (eval (Expr.Call (Expr.Name _ _) [Expr.Name _ _, Expr.Name _ _, Expr.Name _ _] [] _) _) _ _ _); k_dflt (refine' bigCall3 (by k_asm) (by k_asm) (by k_asm) (by k_is) (by k_is) (by rfl) (by rfl) (by rfl) ?_; k_whole)) | ((with_reducible show wpAny _ _ (eval (Expr.Call (Expr.Name _ _) [Expr.Name _ _, Expr.Name _ _, Expr.Name _ _, Expr.Name _ _] [] _) _) _ _ _); k_dflt (refine' bigCall4 (by k_asm) (by k_asm) (by k_asm) (by k_is) (by k_is) (by rfl) (by rfl) (by rfl) (by rfl) ?_; k_whole))) | walk1 | (dsimp only; walk1) | (dsimp only; with_reducible show wpAny _ _ _ _ _ _) | (leave1; (try dsimp only)) | fail "no step"))
    subst hkX hkY
    exact hret _ _ _ _ (by k_asm) (lessN (by k_asm) (fun p hp => by k_mem)) ⟨[], (List.nil_append _).symm, boov (dueB (by assumption) (by assumption))⟩
  · unfold Halt
    refine' joined (R := fun nw v => ListL w nw D v (itemsV X)) ?F ?N ?lef ?_
    case F => k_asm
    case N => k_asm
    case lef =>
      (repeat' (first | (k_unfold; (try dsimp only)) | (k_end; wrow_close) | ((with_reducible show wpAny _ _ (PySem.call (Value.ref _) _) _ _ _); first | (k_here; (with_reducible show wpAny _ _ (PySem.call (Value.ref 497) _) _ _ _); k_dflt ((refine' useC (C := (law_plain_sp _ _ _ _ _ _ _ _ _ _ _ _ (by with_reducible assumption) (by ktr_rel) (by ktr_rel))) (h := ?_); intro _ _ _ _ _; (try k_sweep); (try dsimp only)))) | (k_here; (with_reducible show wpAny _ _ (PySem.call (Value.ref 483) _) _ _ _); k_dflt ((refine' useA (C := (law_truth_sp _ _ _ _ _ _ _ _ (by ktr_rel))) (h := ?_); intro _ _ _ _; (try k_sweep); (try dsimp only)))) | fail) | (k_here; first | ((with_reducible show wpAny _ _ (eval (Expr.Call (Expr.Name _ _) [Expr.Name _ _] [] _) _) _ _ _); k_dflt (refine' bigCall1 (by k_asm) (by k_asm) (by k_asm) (by k_is) (by k_is) (by rfl) ?_; k_whole)) | ((with_reducible show wpAny _ _ (eval (Expr.Call (Expr.Name _ _) [Expr.Name _ _, Expr.Name _ _] [] _) _) _ _ _); k_dflt (refine' bigCall2 (by k_asm) (by k_asm) (by k_asm) (by k_is) (by k_is) (by rfl) (by rfl) ?_; k_whole)) | ((with_reducible show wpAny _ _ (eval (Expr.Call (Expr.Name _ _) [Expr.Name _ _, Expr.Name _ _, Expr.Name _ _] [] _) _) _ _ _); k_dflt (refine' bigCall3 (by k_asm) (by k_asm) (by k_asm) (by k_is) (by k_is) (by rfl) (by rfl) (by rfl) ?_; k_whole)) | ((with_reducible show wpAny _ _ (eval (Expr.Call (Expr.Name _ _) [Expr.Name _ _, Expr.Name _ _, Expr.Name _ _, Expr.Name _ _] [] _) _) _ _ _); k_dflt (refine' bigCall4 (by k_asm) (by k_asm) (by k_asm) (by k_is) (by k_is) (by rfl) (by rfl) (by rfl) (by rfl) ?_; k_whole))) | walk1 | (dsimp only; walk1) | (dsimp only; with_reducible show wpAny _ _ _ _ _ _) | (leave1; (try dsimp only)) | fail "no step"))
      · have hs : isSet X = true := by rw [← kindSet, hkX]; assumption
        cases X <;> first | (cases hs; done) | skip
        rename_i xs
        refine an2 hx fun zz128 ho5 => ?_
        refine ex3 zz128 fun l5 n5 vs5 zz129 => ?_
        refine an4 zz129 fun ee130 hm5 hr5 hvl5 => ?_
        clear hx zz128 zz129
        subst ee130
        unfold Halt
        refine LCg.CompSrc.ledger (by rfl) (by k_asm) (by k_asm) (by k_mem) (by exact sizeOK (by omega)) ?_
        intro g5
        refine' comp_ind (PairInv w D _ xs) ⟨⟨[], rfl⟩, RepsL.nil⟩ ?turn5 ?fin5
        case turn5 =>
          intro i ys news' v I oI C oC Dd m₂ h tk E' hi' hI hv5 hC hx5 F' N' off' ne'
          refine an2 hI fun zz131 hR => ?_
          refine Exists.elim zz131 fun new ee133 => ?_
          clear hI zz131
          subst ee133
          refine Exists.elim (hr5.at (by simpa using hv5)) fun Z zz134 => ?_
          refine an2 zz134 fun hZ hZv => ?_
          clear zz134
          have zq135 : ∃ p, xs[i]? = some p ∧ Z = V.txt p.2 := by
            rw [List.getElem?_map] at hZ
            cases e : xs[i]? with
            | none => rw [e] at hZ; cases hZ
            | some p => rw [e] at hZ; exact ⟨p, rfl, (Option.some.inj hZ).symm⟩
          refine Exists.elim zq135 fun p zz136 => ?_
          refine an2 zz136 fun hp ee137 => ?_
          subst ee137
          have hmx := ho5.2 p (List.mem_of_getElem? hp)
          refine an2 hZv fun zz138 _ => ?_
          refine Exists.elim zz138 fun tp ee140 => ?_
          clear hZv zz138
          subst ee140
          (repeat' (first | (k_unfold; (try dsimp only)) | (k_end; wrow_close) | ((with_reducible show wpAny _ _ (PySem.call (Value.ref _) _) _ _ _); first | (k_here; (with_reducible show wpAny _ _ (PySem.call (Value.ref 497) _) _ _ _); k_dflt ((refine' useC (C := (law_plain_sp _ _ _ _ _ _ _ _ _ _ _ _ (by with_reducible assumption) (by ktr_rel) (by ktr_rel))) (h := ?_); intro _ _ _ _ _; (try k_sweep); (try dsimp only)))) | (k_here; (with_reducible show wpAny _ _ (PySem.call (Value.ref 483) _) _ _ _); k_dflt ((refine' useA (C := (law_truth_sp _ _ _ _ _ _ _ _ (by ktr_rel))) (h := ?_); intro _ _ _ _; (try k_sweep); (try dsimp only)))) | fail) | (k_here; first | ((with_reducible show wpAny _ _ (eval (Expr.Call (Expr.Name _ _) [Expr.Name _ _] [] _) _) _ _ _); k_dflt (refine' bigCall1 (by k_asm) (by k_asm) (by k_asm) (by k_is) (by k_is) (by rfl) ?_; k_whole)) | ((with_reducible show wpAny _ _ (eval (Expr.Call (Expr.Name _ _) [Expr.Name _ _, Expr.Name _ _] [] _) _) _ _ _); k_dflt (refine' bigCall2 (by k_asm) (by k_asm) (by k_asm) (by k_is) (by k_is) (by rfl) (by rfl) ?_; k_whole)) | ((with_reducible show wpAny _ _ (eval (Expr.Call (Expr.Name _ _) [Expr.Name _ _, Expr.Name _ _, Expr.Name _ _] [] _) _) _ _ _); k_dflt (refine' bigCall3 (by k_asm) (by k_asm) (by k_asm) (by k_is) (by k_is) (by rfl) (by rfl) (by rfl) ?_; k_whole)) | ((with_reducible show wpAny _ _ (eval (Expr.Call (Expr.Name _ _) [Expr.Name _ _, Expr.Name _ _, Expr.Name _ _, Expr.Name _ _] [] _) _) _ _ _); k_dflt (refine' bigCall4 (by k_asm) (by k_asm) (by k_asm) (by k_is) (by k_is) (by rfl) (by rfl) (by rfl) (by rfl) ?_; k_whole))) | walk1 | (dsimp only; walk1) | (dsimp only; with_reducible show wpAny _ _ _ _ _ _) | (leave1; (try dsimp only)) | fail "no step"))
          (rename Fr _ _ _ _ => F9)
          (rename News _ _ _ _ => N9)
          refine' LCg.CompEnd.intro F9 N9 (_ :: (new ++ _)) permSub ?o ?s ⟨⟨_ :: new, rfl⟩, ?_⟩
          case o => exact ⟨⟨by k_ne, by k_ne, by k_ne⟩, off'⟩
          case s => exact Or.inr ⟨_, by k_mem, rfl, _, rfl⟩
          rw [List.take_add_one, hp, Option.toList, List.map_append]
          exact (hR.mono fun _ h => List.mem_cons_of_mem _ h).snoc ⟨_, _, _, rfl, List.mem_cons_self, ⟨_, rfl⟩, hmx⟩
        case fin5 =>
          intro ys news' hI
          refine an2 hI fun zz141 hR => ?_
          refine Exists.elim zz141 fun new ee143 => ?_
          clear hI zz141
          subst ee143
          have hsz : xs.length = vs5.length := by have := hr5.1; simp at this; omega
          rw [List.size_toArray, ← hsz, List.take_length] at hR
          have hyl : ys.length ≤ 10 := by have := hR.1; simp at this; omega
          (repeat' (first | (k_unfold; (try dsimp only)) | (k_end; wrow_close) | ((with_reducible show wpAny _ _ (PySem.call (Value.ref _) _) _ _ _); first | (k_here; (with_reducible show wpAny _ _ (PySem.call (Value.ref 497) _) _ _ _); k_dflt ((refine' useC (C := (law_plain_sp _ _ _ _ _ _ _ _ _ _ _ _ (by with_reducible assumption) (by ktr_rel) (by ktr_rel))) (h := ?_); intro _ _ _ _ _; (try k_sweep); (try dsimp only)))) | (k_here; (with_reducible show wpAny _ _ (PySem.call (Value.ref 483) _) _ _ _); k_dflt ((refine' useA (C := (law_truth_sp _ _ _ _ _ _ _ _ (by ktr_rel))) (h := ?_); intro _ _ _ _; (try k_sweep); (try dsimp only)))) | fail) | (k_here; first | ((with_reducible show wpAny _ _ (eval (Expr.Call (Expr.Name _ _) [Expr.Name _ _] [] _) _) _ _ _); k_dflt (refine' bigCall1 (by k_asm) (by k_asm) (by k_asm) (by k_is) (by k_is) (by rfl) ?_; k_whole)) | ((with_reducible show wpAny _ _ (eval (Expr.Call (Expr.Name _ _) [Expr.Name _ _, Expr.Name _ _] [] _) _) _ _ _); k_dflt (refine' bigCall2 (by k_asm) (by k_asm) (by k_asm) (by k_is) (by k_is) (by rfl) (by rfl) ?_; k_whole)) | ((with_reducible show wpAny _ _ (eval (Expr.Call (Expr.Name _ _) [Expr.Name _ _, Expr.Name _ _, Expr.Name _ _] [] _) _) _ _ _); k_dflt (refine' bigCall3 (by k_asm) (by k_asm) (by k_asm) (by k_is) (by k_is) (by rfl) (by rfl) (by rfl) ?_; k_whole)) | ((with_reducible show wpAny _ _ (eval (Expr.Call (Expr.Name _ _) [Expr.Name _ _, Expr.Name _ _, Expr.Name _ _, Expr.Name _ _] [] _) _) _ _ _); k_dflt (refine' bigCall4 (by k_asm) (by k_asm) (by k_asm) (by k_is) (by k_is) (by rfl) (by rfl) (by rfl) (by rfl) ?_; k_whole))) | walk1 | (dsimp only; walk1) | (dsimp only; with_reducible show wpAny _ _ _ _ _ _) | (leave1; (try dsimp only)) | fail "no step"))
          refine' Joined.intro (_ :: new) ?F ?N ⟨_, _, _, rfl, List.mem_cons_self, hR.mono fun _ h => List.mem_cons_of_mem _ h, hyl⟩
          case F => k_asm
          case N => k_asm
      · have hs : isSet X = false := by rw [← kindSet, hkX]; first | assumption | simpa using ‹_›
        refine' Joined.intro [_] ?F ?N ?R
        case F => k_asm
        case N => k_asm
        case R =>
          rw [itemsV_no hs]
          exact ⟨_, _, [_], rfl, List.mem_cons_self, RepsL.one (by ktr_rel), Nat.le_of_ble_eq_true rfl⟩
    intro v1 h1 tk1 new1 F1 N1 hl1
    (repeat' (first | (k_unfold; (try dsimp only)) | (k_end; wrow_close) | ((with_reducible show wpAny _ _ (PySem.call (Value.ref _) _) _ _ _); first | (k_here; (with_reducible show wpAny _ _ (PySem.call (Value.ref 497) _) _ _ _); k_dflt ((refine' useC (C := (law_plain_sp _ _ _ _ _ _ _ _ _ _ _ _ (by with_reducible assumption) (by ktr_rel) (by ktr_rel))) (h := ?_); intro _ _ _ _ _; (try k_sweep); (try dsimp only)))) | (k_here; (with_reducible show wpAny _ _ (PySem.call (Value.ref 483) _) _ _ _); k_dflt ((refine' useA (C := (law_truth_sp _ _ _ _ _ _ _ _ (by ktr_rel))) (h := ?_); intro _ _ _ _; (try k_sweep); (try dsimp only)))) | fail) | (k_here; first | ((with_reducible show wpAny _ _ (eval (Expr.Call (Expr.Name _ _) [Expr.Name _ _] [] _) _) _ _ _); k_dflt (refine' bigCall1 (by k_asm) (by k_asm) (by k_asm) (by k_is) (by k_is) (by rfl) ?_; k_whole)) | ((with_reducible show wpAny _ _ (eval (Expr.Call (Expr.Name _ _) [Expr.Name _ _, Expr.Name _ _] [] _) _) _ _ _); k_dflt (refine' bigCall2 (by k_asm) (by k_asm) (by k_asm) (by k_is) (by k_is) (by rfl) (by rfl) ?_; k_whole)) | ((with_reducible show wpAny _ _ (eval (Expr.Call (Expr.Name _ _) [Expr.Name _ _, Expr.Name _ _, Expr.Name _ _] [] _) _) _ _ _); k_dflt (refine' bigCall3 (by k_asm) (by k_asm) (by k_asm) (by k_is) (by k_is) (by rfl) (by rfl) (by rfl) ?_; k_whole)) | ((with_reducible show wpAny _ _ (eval (Expr.Call (Expr.Name _ _) [Expr.Name _ _, Expr.Name _ _, Expr.Name _ _, Expr.Name _ _] [] _) _) _ _ _); k_dflt (refine' bigCall4 (by k_asm) (by k_asm) (by k_asm) (by k_is) (by k_is) (by rfl) (by rfl) (by rfl) (by rfl) ?_; k_whole))) | walk1 | (dsimp only; walk1) | (dsimp only; with_reducible show wpAny _ _ _ _ _ _) | (leave1; (try dsimp only)) | fail "no step"))
    unfold Halt
    refine' joined (R := fun nw v => ListL w nw D v (itemsV Y)) ?F ?N ?rig ?_
    case F => k_asm
    case N => k_asm
    case rig =>
      (repeat' (first | (k_unfold; (try dsimp only)) | (k_end; wrow_close) | ((with_reducible show wpAny _ _ (PySem.call (Value.ref _) _) _ _ _); first | (k_here; (with_reducible show wpAny _ _ (PySem.call (Value.ref 497) _) _ _ _); k_dflt ((refine' useC (C := (law_plain_sp _ _ _ _ _ _ _ _ _ _ _ _ (by with_reducible assumption) (by ktr_rel) (by ktr_rel))) (h := ?_); intro _ _ _ _ _; (try k_sweep); (try dsimp only)))) | (k_here; (with_reducible show wpAny _ _ (PySem.call (Value.ref 483) _) _ _ _); k_dflt ((refine' useA (C := (law_truth_sp _ _ _ _ _ _ _ _ (by ktr_rel))) (h := ?_); intro _ _ _ _; (try k_sweep); (try dsimp only)))) | fail) | (k_here; first | ((with_reducible show wpAny _ _ (eval (Expr.Call (Expr.Name _ _) [Expr.Name _ _] [] _) _) _ _ _); k_dflt (refine' bigCall1 (by k_asm) (by k_asm) (by k_asm) (by k_is) (by k_is) (by rfl) ?_; k_whole)) | ((with_reducible show wpAny _ _ (eval (Expr.Call (Expr.Name _ _) [Expr.Name _ _, Expr.Name _ _] [] _) _) _ _ _); k_dflt (refine' bigCall2 (by k_asm) (by k_asm) (by k_asm) (by k_is) (by k_is) (by rfl) (by rfl) ?_; k_whole)) | ((with_reducible show wpAny _ _ (eval (Expr.Call (Expr.Name _ _) [Expr.Name _ _, Expr.Name _ _, Expr.Name _ _] [] _) _) _ _ _); k_dflt (refine' bigCall3 (by k_asm) (by k_asm) (by k_asm) (by k_is) (by k_is) (by rfl) (by rfl) (by rfl) ?_; k_whole)) | ((with_reducible show wpAny _ _ (eval (Expr.Call (Expr.Name _ _) [Expr.Name _ _, Expr.Name _ _, Expr.Name _ _, Expr.Name _ _] [] _) _) _ _ _); k_dflt (refine' bigCall4 (by k_asm) (by k_asm) (by k_asm) (by k_is) (by k_is) (by rfl) (by rfl) (by rfl) (by rfl) ?_; k_whole))) | walk1 | (dsimp only; walk1) | (dsimp only; with_reducible show wpAny _ _ _ _ _ _) | (leave1; (try dsimp only)) | fail "no step"))
      · have hs : isSet Y = true := by rw [← kindSet, hkY]; assumption
        cases Y <;> first | (cases hs; done) | skip
        rename_i xs
        refine an2 hy fun zz144 ho5 => ?_
        refine ex3 zz144 fun l5 n5 vs5 zz145 => ?_
        refine an4 zz145 fun ee146 hm5 hr5 hvl5 => ?_
        clear hy zz144 zz145
        subst ee146
        unfold Halt
        refine LCg.CompSrc.ledger (by rfl) (by k_asm) (by k_asm) (by k_mem) (by exact sizeOK (by omega)) ?_
        intro g5
        refine' comp_ind (PairInv w D _ xs) ⟨⟨[], rfl⟩, RepsL.nil⟩ ?turn5 ?fin5
        case turn5 =>
          intro i ys news' v I oI C oC Dd m₂ h tk E' hi' hI hv5 hC hx5 F' N' off' ne'
          refine an2 hI fun zz147 hR => ?_
          refine Exists.elim zz147 fun new ee149 => ?_
          clear hI zz147
          subst ee149
          refine Exists.elim (hr5.at (by simpa using hv5)) fun Z zz150 => ?_
          refine an2 zz150 fun hZ hZv => ?_
          clear zz150
          have zq151 : ∃ p, xs[i]? = some p ∧ Z = V.txt p.2 := by
            rw [List.getElem?_map] at hZ
            cases e : xs[i]? with
            | none => rw [e] at hZ; cases hZ
            | some p => rw [e] at hZ; exact ⟨p, rfl, (Option.some.inj hZ).symm⟩
          refine Exists.elim zq151 fun p zz152 => ?_
          refine an2 zz152 fun hp ee153 => ?_
          subst ee153
          have hmx := ho5.2 p (List.mem_of_getElem? hp)
          refine an2 hZv fun zz154 _ => ?_
          refine Exists.elim zz154 fun tp ee156 => ?_
          clear hZv zz154
          subst ee156
          (repeat' (first | (k_unfold; (try dsimp only)) | (k_end; wrow_close) | ((with_reducible show wpAny _ _ (PySem.call (Value.ref _) _) _ _ _); first | (k_here; (with_reducible show wpAny _ _ (PySem.call (Value.ref 497) _) _ _ _); k_dflt ((refine' useC (C := (law_plain_sp _ _ _ _ _ _ _ _ _ _ _ _ (by with_reducible assumption) (by ktr_rel) (by ktr_rel))) (h := ?_); intro _ _ _ _ _; (try k_sweep); (try dsimp only)))) | (k_here; (with_reducible show wpAny _ _ (PySem.call (Value.ref 483) _) _ _ _); k_dflt ((refine' useA (C := (law_truth_sp _ _ _ _ _ _ _ _ (by ktr_rel))) (h := ?_); intro _ _ _ _; (try k_sweep); (try dsimp only)))) | fail) | (k_here; first | ((with_reducible show wpAny _ _ (eval (Expr.Call (Expr.Name _ _) [Expr.Name _ _] [] _) _) _ _ _); k_dflt (refine' bigCall1 (by k_asm) (by k_asm) (by k_asm) (by k_is) (by k_is) (by rfl) ?_; k_whole)) | ((with_reducible show wpAny _ _ (eval (Expr.Call (Expr.Name _ _) [Expr.Name _ _, Expr.Name _ _] [] _) _) _ _ _); k_dflt (refine' bigCall2 (by k_asm) (by k_asm) (by k_asm) (by k_is) (by k_is) (by rfl) (by rfl) ?_; k_whole)) | ((with_reducible show wpAny _ _ (eval (Expr.Call (Expr.Name _ _) [Expr.Name _ _, Expr.Name _ _, Expr.Name _ _] [] _) _) _ _ _); k_dflt (refine' bigCall3 (by k_asm) (by k_asm) (by k_asm) (by k_is) (by k_is) (by rfl) (by rfl) (by rfl) ?_; k_whole)) | ((with_reducible show wpAny _ _ (eval (Expr.Call (Expr.Name _ _) [Expr.Name _ _, Expr.Name _ _, Expr.Name _ _, Expr.Name _ _] [] _) _) _ _ _); k_dflt (refine' bigCall4 (by k_asm) (by k_asm) (by k_asm) (by k_is) (by k_is) (by rfl) (by rfl) (by rfl) (by rfl) ?_; k_whole))) | walk1 | (dsimp only; walk1) | (dsimp only; with_reducible show wpAny _ _ _ _ _ _) | (leave1; (try dsimp only)) | fail "no step"))
          (rename Fr _ _ _ _ => F9)
          (rename News _ _ _ _ => N9)
          refine' LCg.CompEnd.intro F9 N9 (_ :: (new ++ _)) permSub ?o ?s ⟨⟨_ :: new, rfl⟩, ?_⟩
          case o => exact ⟨⟨by k_ne, by k_ne, by k_ne⟩, off'⟩
          case s => exact Or.inr ⟨_, by k_mem, rfl, _, rfl⟩
          rw [List.take_add_one, hp, Option.toList, List.map_append]
          exact (hR.mono fun _ h => List.mem_cons_of_mem _ h).snoc ⟨_, _, _, rfl, List.mem_cons_self, ⟨_, rfl⟩, hmx⟩
        case fin5 =>
          intro ys news' hI
          refine an2 hI fun zz157 hR => ?_
          refine Exists.elim zz157 fun new ee159 => ?_
          clear hI zz157
          subst ee159
          have hsz : xs.length = vs5.length := by have := hr5.1; simp at this; omega
          rw [List.size_toArray, ← hsz, List.take_length] at hR
          have hyl : ys.length ≤ 10 := by have := hR.1; simp at this; omega
          (repeat' (first | (k_unfold; (try dsimp only)) | (k_end; wrow_close) | ((with_reducible show wpAny _ _ (PySem.call (Value.ref _) _) _ _ _); first | (k_here; (with_reducible show wpAny _ _ (PySem.call (Value.ref 497) _) _ _ _); k_dflt ((refine' useC (C := (law_plain_sp _ _ _ _ _ _ _ _ _ _ _ _ (by with_reducible assumption) (by ktr_rel) (by ktr_rel))) (h := ?_); intro _ _ _ _ _; (try k_sweep); (try dsimp only)))) | (k_here; (with_reducible show wpAny _ _ (PySem.call (Value.ref 483) _) _ _ _); k_dflt ((refine' useA (C := (law_truth_sp _ _ _ _ _ _ _ _ (by ktr_rel))) (h := ?_); intro _ _ _ _; (try k_sweep); (try dsimp only)))) | fail) | (k_here; first | ((with_reducible show wpAny _ _ (eval (Expr.Call (Expr.Name _ _) [Expr.Name _ _] [] _) _) _ _ _); k_dflt (refine' bigCall1 (by k_asm) (by k_asm) (by k_asm) (by k_is) (by k_is) (by rfl) ?_; k_whole)) | ((with_reducible show wpAny _ _ (eval (Expr.Call (Expr.Name _ _) [Expr.Name _ _, Expr.Name _ _] [] _) _) _ _ _); k_dflt (refine' bigCall2 (by k_asm) (by k_asm) (by k_asm) (by k_is) (by k_is) (by rfl) (by rfl) ?_; k_whole)) | ((with_reducible show wpAny _ _ (eval (Expr.Call (Expr.Name _ _) [Expr.Name _ _, Expr.Name _ _, Expr.Name _ _] [] _) _) _ _ _); k_dflt (refine' bigCall3 (by k_asm) (by k_asm) (by k_asm) (by k_is) (by k_is) (by rfl) (by rfl) (by rfl) ?_; k_whole)) | ((with_reducible show wpAny _ _ (eval (Expr.Call (Expr.Name _ _) [Expr.Name _ _, Expr.Name _ _, Expr.Name _ _, Expr.Name _ _] [] _) _) _ _ _); k_dflt (refine' bigCall4 (by k_asm) (by k_asm) (by k_asm) (by k_is) (by k_is) (by rfl) (by rfl) (by rfl) (by rfl) ?_; k_whole))) | walk1 | (dsimp only; walk1) | (dsimp only; with_reducible show wpAny _ _ _ _ _ _) | (leave1; (try dsimp only)) | fail "no step"))
          refine' Joined.intro (_ :: new) ?F ?N ⟨_, _, _, rfl, List.mem_cons_self, hR.mono fun _ h => List.mem_cons_of_mem _ h, hyl⟩
          case F => k_asm
          case N => k_asm
      · have hs : isSet Y = false := by rw [← kindSet, hkY]; first | assumption | simpa using ‹_›
        refine' Joined.intro [_] ?F ?N ?R
        case F => k_asm
        case N => k_asm
        case R =>
          rw [itemsV_no hs]
          exact ⟨_, _, [_], rfl, List.mem_cons_self, RepsL.one (by ktr_rel), Nat.le_of_ble_eq_true rfl⟩
    intro v2 h2 tk2 new2 F2 N2 hl2
    replace hl1 : ListL w (new2 ++ (new1 ++ _)) D v1 (itemsV X) := hl1.app
    refine ex3 hl1 fun l1 n1 vs1 zz160 => ?_
    refine an4 zz160 fun ee161 hm1 hr1 hvl1 => ?_
    clear hl1 zz160
    subst ee161
    refine ex3 hl2 fun l2 n2 vs2 zz162 => ?_
    refine an4 zz162 fun ee163 hm2 hr2 hvl2 => ?_
    clear hl2 zz162
    subst ee163
    (repeat' (first | (k_unfold; (try dsimp only)) | (k_end; wrow_close) | ((with_reducible show wpAny _ _ (PySem.call (Value.ref _) _) _ _ _); first | (k_here; (with_reducible show wpAny _ _ (PySem.call (Value.ref 497) _) _ _ _); k_dflt ((refine' useC (C := (law_plain_sp _ _ _ _ _ _ _ _ _ _ _ _ (by with_reducible assumption) (by ktr_rel) (by ktr_rel))) (h := ?_); intro _ _ _ _ _; (try k_sweep); (try dsimp only)))) | (k_here; (with_reducible show wpAny _ _ (PySem.call (Value.ref 483) _) _ _ _); k_dflt ((refine' useA (C := (law_truth_sp _ _ _ _ _ _ _ _ (by ktr_rel))) (h := ?_); intro _ _ _ _; (try k_sweep); (try dsimp only)))) | fail) | (k_here; first | ((with_reducible show wpAny _ _ (eval (Expr.Call (Expr.Name _ _) [Expr.Name _ _] [] _) _) _ _ _); k_dflt (refine' bigCall1 (by k_asm) (by k_asm) (by k_asm) (by k_is) (by k_is) (by rfl) ?_; k_whole)) | ((with_reducible show wpAny _ _ (eval (Expr.Call (Expr.Name _ _) [Expr.Name _ _, Expr.Name _ _] [] _) _) _ _ _); k_dflt (refine' bigCall2 (by k_asm) (by k_asm) (by k_asm) (by k_is) (by k_is) (by rfl) (by rfl) ?_; k_whole)) | ((with_reducible show wpAny _ _ (eval (Expr.Call (Expr.Name _ _) [Expr.Name _ _, Expr.Name _ _, Expr.Name _ _] [] _) _) _ _ _); k_dflt (refine' bigCall3 (by k_asm) (by k_asm) (by k_asm) (by k_is) (by k_is) (by rfl) (by rfl) (by rfl) ?_; k_whole)) | ((with_reducible show wpAny _ _ (eval (Expr.Call (Expr.Name _ _) [Expr.Name _ _, Expr.Name _ _, Expr.Name _ _, Expr.Name _ _] [] _) _) _ _ _); k_dflt (refine' bigCall4 (by k_asm) (by k_asm) (by k_asm) (by k_is) (by k_is) (by rfl) (by rfl) (by rfl) (by rfl) ?_; k_whole))) | walk1 | (dsimp only; walk1) | (dsimp only; with_reducible show wpAny _ _ _ _ _ _) | (leave1; (try dsimp only)) | fail "no step"))
    unfold Halt
    refine' Iter_led (fun m₀ i m₁ => (∃ a b, m₁ = fun z => if z = Str.ofString "one" then a else if z = Str.ofString "other" then b else m₀ z) ∧ ∀ k A, k < i → (itemsV X)[k]? = some A → ((itemsV Y).any fun B => plainV op A B) = false) ?hh hm1 (by k_asm) ?hL (by k_asm) ⟨⟨none, none, two_self ?a ?b⟩, fun k X hk => absurd hk (Nat.not_lt_zero k)⟩ ?turn ?done
    case hh => exact rfl
    case hL => exact rfl
    case a => rfl
    case b => rfl
    case turn =>
      rintro i v m₁ I oI h tk hv1 ⟨⟨a, b, rfl⟩, hJ⟩ hI F3 N3
      refine Exists.elim (hr1.at hv1) fun A zz164 => ?_
      refine an2 zz164 fun hA hAv => ?_
      clear zz164
      (repeat' (first | (k_unfold; (try dsimp only)) | (k_end; wrow_close) | ((with_reducible show wpAny _ _ (PySem.call (Value.ref _) _) _ _ _); first | (k_here; (with_reducible show wpAny _ _ (PySem.call (Value.ref 497) _) _ _ _); k_dflt ((refine' useC (C := (law_plain_sp _ _ _ _ _ _ _ _ _ _ _ _ (by with_reducible assumption) (by ktr_rel) (by ktr_rel))) (h := ?_); intro _ _ _ _ _; (try k_sweep); (try dsimp only)))) | (k_here; (with_reducible show wpAny _ _ (PySem.call (Value.ref 483) _) _ _ _); k_dflt ((refine' useA (C := (law_truth_sp _ _ _ _ _ _ _ _ (by ktr_rel))) (h := ?_); intro _ _ _ _; (try k_sweep); (try dsimp only)))) | fail) | (k_here; first | ((with_reducible show wpAny _ _ (eval (Expr.Call (Expr.Name _ _) [Expr.Name _ _] [] _) _) _ _ _); k_dflt (refine' bigCall1 (by k_asm) (by k_asm) (by k_asm) (by k_is) (by k_is) (by rfl) ?_; k_whole)) | ((with_reducible show wpAny _ _ (eval (Expr.Call (Expr.Name _ _) [Expr.Name _ _, Expr.Name _ _] [] _) _) _ _ _); k_dflt (refine' bigCall2 (by k_asm) (by k_asm) (by k_asm) (by k_is) (by k_is) (by rfl) (by rfl) ?_; k_whole)) | ((with_reducible show wpAny _ _ (eval (Expr.Call (Expr.Name _ _) [Expr.Name _ _, Expr.Name _ _, Expr.Name _ _] [] _) _) _ _ _); k_dflt (refine' bigCall3 (by k_asm) (by k_asm) (by k_asm) (by k_is) (by k_is) (by rfl) (by rfl) (by rfl) ?_; k_whole)) | ((with_reducible show wpAny _ _ (eval (Expr.Call (Expr.Name _ _) [Expr.Name _ _, Expr.Name _ _, Expr.Name _ _, Expr.Name _ _] [] _) _) _ _ _); k_dflt (refine' bigCall4 (by k_asm) (by k_asm) (by k_asm) (by k_is) (by k_is) (by rfl) (by rfl) (by rfl) (by rfl) ?_; k_whole))) | walk1 | (dsimp only; walk1) | (dsimp only; with_reducible show wpAny _ _ _ _ _ _) | (leave1; (try dsimp only)) | fail "no step"))
      unfold Halt
      refine' Iter_led (fun m₀ j m₁ => (∃ b, m₁ = fun z => if z = Str.ofString "other" then b else m₀ z) ∧ ∀ k B, k < j → (itemsV Y)[k]? = some B → plainV op A B = false) ?hh2 ?hm2 (by k_asm) ?hL2 (by k_asm) ⟨⟨_, one_self rfl⟩, fun k X hk => absurd hk (Nat.not_lt_zero k)⟩ ?turn2 ?done2
      case hh2 => exact rfl
      case hm2 => k_mem
      case hL2 => exact rfl
      case turn2 =>
        rintro j u m₁ I' oI' h tk hv2 ⟨⟨b', rfl⟩, hJ'⟩ hI' F4 N4
        refine Exists.elim (hr2.at hv2) fun B9 zz165 => ?_
        refine an2 zz165 fun hB hBv => ?_
        clear zz165
        have goT : plainV op A B9 = true → ((itemsV X).any fun a => (itemsV Y).any fun b => plainV op a b) = true := fun e => List.any_eq_true.mpr ⟨A, List.mem_of_getElem? hA, List.any_eq_true.mpr ⟨B9, List.mem_of_getElem? hB, e⟩⟩
        have goF : plainV op A B9 = false → ∀ k Z, k < j + 1 → (itemsV Y)[k]? = some Z → plainV op A Z = false := fun e k Z hk hZ => by
          rcases Nat.lt_or_ge k j with h | h
          · exact hJ' k Z h hZ
          · have : k = j := by omega
            subst this
            rw [hB] at hZ
            cases hZ
            exact e
        have hAv' : RepL w ((I', oI') :: (I, oI) :: (new2 ++ (new1 ++ _))) D _ A := (hAv.mono fun _ h => List.mem_cons_of_mem _ (List.mem_cons_of_mem _ h))
        have hBv' : RepL w ((I', oI') :: (I, oI) :: (new2 ++ (new1 ++ _))) D _ B9 := (hBv.mono fun _ h => List.mem_cons_of_mem _ (List.mem_cons_of_mem _ h))
        clear hJ hJ' hv1 hv2 hA hB hAv hBv hr1 hr2
        (repeat' (first | (k_unfold; (try dsimp only)) | (k_end; wrow_close) | ((with_reducible show wpAny _ _ (PySem.call (Value.ref _) _) _ _ _); first | (k_here; (with_reducible show wpAny _ _ (PySem.call (Value.ref 497) _) _ _ _); k_dflt ((refine' useC (C := (law_plain_sp _ _ _ _ _ _ _ _ _ _ _ _ (by with_reducible assumption) (by ktr_rel) (by ktr_rel))) (h := ?_); intro _ _ _ _ _; (try k_sweep); (try dsimp only)))) | (k_here; (with_reducible show wpAny _ _ (PySem.call (Value.ref 483) _) _ _ _); k_dflt ((refine' useA (C := (law_truth_sp _ _ _ _ _ _ _ _ (by ktr_rel))) (h := ?_); intro _ _ _ _; (try k_sweep); (try dsimp only)))) | fail) | (k_here; first | ((with_reducible show wpAny _ _ (eval (Expr.Call (Expr.Name _ _) [Expr.Name _ _] [] _) _) _ _ _); k_dflt (refine' bigCall1 (by k_asm) (by k_asm) (by k_asm) (by k_is) (by k_is) (by rfl) ?_; k_whole)) | ((with_reducible show wpAny _ _ (eval (Expr.Call (Expr.Name _ _) [Expr.Name _ _, Expr.Name _ _] [] _) _) _ _ _); k_dflt (refine' bigCall2 (by k_asm) (by k_asm) (by k_asm) (by k_is) (by k_is) (by rfl) (by rfl) ?_; k_whole)) | ((with_reducible show wpAny _ _ (eval (Expr.Call (Expr.Name _ _) [Expr.Name _ _, Expr.Name _ _, Expr.Name _ _] [] _) _) _ _ _); k_dflt (refine' bigCall3 (by k_asm) (by k_asm) (by k_asm) (by k_is) (by k_is) (by rfl) (by rfl) (by rfl) ?_; k_whole)) | ((with_reducible show wpAny _ _ (eval (Expr.Call (Expr.Name _ _) [Expr.Name _ _, Expr.Name _ _, Expr.Name _ _, Expr.Name _ _] [] _) _) _ _ _); k_dflt (refine' bigCall4 (by k_asm) (by k_asm) (by k_asm) (by k_is) (by k_is) (by rfl) (by rfl) (by rfl) (by rfl) ?_; k_whole))) | walk1 | (dsimp only; walk1) | (dsimp only; with_reducible show wpAny _ _ _ _ _ _) | (leave1; (try dsimp only)) | fail "no step"))
        all_goals first
          | (refine TurnL.ret ?_
             dsimp only
             refine TurnL.ret ?_
             dsimp only
             (repeat' (first | (k_unfold; (try dsimp only)) | (k_end; wrow_close) | ((with_reducible show wpAny _ _ (PySem.call (Value.ref _) _) _ _ _); first | (k_here; (with_reducible show wpAny _ _ (PySem.call (Value.ref 497) _) _ _ _); k_dflt ((refine' useC (C := (law_plain_sp _ _ _ _ _ _ _ _ _ _ _ _ (by with_reducible assumption) (by ktr_rel) (by ktr_rel))) (h := ?_); intro _ _ _ _ _; (try k_sweep); (try dsimp only)))) | (k_here; (with_reducible show wpAny _ _ (PySem.call (Value.ref 483) _) _ _ _); k_dflt ((refine' useA (C := (law_truth_sp _ _ _ _ _ _ _ _ (by ktr_rel))) (h := ?_); intro _ _ _ _; (try k_sweep); (try dsimp only)))) | fail) | (k_here; first | ((with_reducible show wpAny _ _ (eval (Expr.Call (Expr.Name _ _) [Expr.Name _ _] [] _) _) _ _ _); k_dflt (refine' bigCall1 (by k_asm) (by k_asm) (by k_asm) (by k_is) (by k_is) (by rfl) ?_; k_whole)) | ((with_reducible show wpAny _ _ (eval (Expr.Call (Expr.Name _ _) [Expr.Name _ _, Expr.Name _ _] [] _) _) _ _ _); k_dflt (refine' bigCall2 (by k_asm) (by k_asm) (by k_asm) (by k_is) (by k_is) (by rfl) (by rfl) ?_; k_whole)) | ((with_reducible show wpAny _ _ (eval (Expr.Call (Expr.Name _ _) [Expr.Name _ _, Expr.Name _ _, Expr.Name _ _] [] _) _) _ _ _); k_dflt (refine' bigCall3 (by k_asm) (by k_asm) (by k_asm) (by k_is) (by k_is) (by rfl) (by rfl) (by rfl) ?_; k_whole)) | ((with_reducible show wpAny _ _ (eval (Expr.Call (Expr.Name _ _) [Expr.Name _ _, Expr.Name _ _, Expr.Name _ _, Expr.Name _ _] [] _) _) _ _ _); k_dflt (refine' bigCall4 (by k_asm) (by k_asm) (by k_asm) (by k_is) (by k_is) (by rfl) (by rfl) (by rfl) (by rfl) ?_; k_whole))) | walk1 | (dsimp only; walk1) | (dsimp only; with_reducible show wpAny _ _ _ _ _ _) | (leave1; (try dsimp only)) | fail "no step"))
             subst hkX hkY
             exact hret _ _ _ _ (by k_asm) (lessN (by k_asm) (fun p hp => by k_mem)) ⟨[], (List.nil_append _).symm, boov ((goT (by assumption)).symm.trans (dueC (by assumption) (by assumption)))⟩)
          | (refine' TurnL.next ?F9 ?N9 ?J9
             case F9 => k_asm
             case N9 => exact lessN (by k_asm) (fun p hp => List.mem_append_right _ hp)
             case J9 =>
               rw [one_turn]
               exact ⟨⟨_, rfl⟩, goF (by assumption)⟩)
      case done2 =>
        rintro h tk m' F4 N4 ⟨⟨b', rfl⟩, hJ'⟩
        rw [two_turn (by decide)] at F4
        (repeat' (first | (k_unfold; (try dsimp only)) | (k_end; wrow_close) | ((with_reducible show wpAny _ _ (PySem.call (Value.ref _) _) _ _ _); first | (k_here; (with_reducible show wpAny _ _ (PySem.call (Value.ref 497) _) _ _ _); k_dflt ((refine' useC (C := (law_plain_sp _ _ _ _ _ _ _ _ _ _ _ _ (by with_reducible assumption) (by ktr_rel) (by ktr_rel))) (h := ?_); intro _ _ _ _ _; (try k_sweep); (try dsimp only)))) | (k_here; (with_reducible show wpAny _ _ (PySem.call (Value.ref 483) _) _ _ _); k_dflt ((refine' useA (C := (law_truth_sp _ _ _ _ _ _ _ _ (by ktr_rel))) (h := ?_); intro _ _ _ _; (try k_sweep); (try dsimp only)))) | fail) | (k_here; first | ((with_reducible show wpAny _ _ (eval (Expr.Call (Expr.Name _ _) [Expr.Name _ _] [] _) _) _ _ _); k_dflt (refine' bigCall1 (by k_asm) (by k_asm) (by k_asm) (by k_is) (by k_is) (by rfl) ?_; k_whole)) | ((with_reducible show wpAny _ _ (eval (Expr.Call (Expr.Name _ _) [Expr.Name _ _, Expr.Name _ _] [] _) _) _ _ _); k_dflt (refine' bigCall2 (by k_asm) (by k_asm) (by k_asm) (by k_is) (by k_is) (by rfl) (by rfl) ?_; k_whole)) | ((with_reducible show wpAny _ _ (eval (Expr.Call (Expr.Name _ _) [Expr.Name _ _, Expr.Name _ _, Expr.Name _ _] [] _) _) _ _ _); k_dflt (refine' bigCall3 (by k_asm) (by k_asm) (by k_asm) (by k_is) (by k_is) (by rfl) (by rfl) (by rfl) ?_; k_whole)) | ((with_reducible show wpAny _ _ (eval (Expr.Call (Expr.Name _ _) [Expr.Name _ _, Expr.Name _ _, Expr.Name _ _, Expr.Name _ _] [] _) _) _ _ _); k_dflt (refine' bigCall4 (by k_asm) (by k_asm) (by k_asm) (by k_is) (by k_is) (by rfl) (by rfl) (by rfl) (by rfl) ?_; k_whole))) | walk1 | (dsimp only; walk1) | (dsimp only; with_reducible show wpAny _ _ _ _ _ _) | (leave1; (try dsimp only)) | fail "no step"))
        refine' TurnL.next (by k_asm) (by k_asm) ?_
        refine ⟨⟨_, _, rfl⟩, fun k Z hk hZ => ?_⟩
        rcases Nat.lt_or_ge k i with h | h
        · exact hJ k Z h hZ
        · have : k = i := by omega
          subst this
          rw [hA] at hZ
          cases hZ
          refine List.any_eq_false.mpr fun B9 hB => ?_
          obtain ⟨n9, hn9, rfl⟩ := List.getElem_of_mem hB
          rw [hJ' n9 _ (by rw [hr2.1]; exact hn9) (List.getElem?_eq_getElem hn9)]
          exact Bool.false_ne_true
    case done =>
      rintro h tk m' F3 N3 ⟨⟨a, b, rfl⟩, hJ⟩
      have hF : ((itemsV X).any fun a => (itemsV Y).any fun b => plainV op a b) = false := by
        refine List.any_eq_false.mpr fun A hA => ?_
        obtain ⟨n9, hn9, rfl⟩ := List.getElem_of_mem hA
        rw [hJ n9 _ (by rw [hr1.1]; exact hn9) (List.getElem?_eq_getElem hn9)]
        exact Bool.false_ne_true
      (repeat' (first | (k_unfold; (try dsimp only)) | (k_end; wrow_close) | ((with_reducible show wpAny _ _ (PySem.call (Value.ref _) _) _ _ _); first | (k_here; (with_reducible show wpAny _ _ (PySem.call (Value.ref 497) _) _ _ _); k_dflt ((refine' useC (C := (law_plain_sp _ _ _ _ _ _ _ _ _ _ _ _ (by with_reducible assumption) (by ktr_rel) (by ktr_rel))) (h := ?_); intro _ _ _ _ _; (try k_sweep); (try dsimp only)))) | (k_here; (with_reducible show wpAny _ _ (PySem.call (Value.ref 483) _) _ _ _); k_dflt ((refine' useA (C := (law_truth_sp _ _ _ _ _ _ _ _ (by ktr_rel))) (h := ?_); intro _ _ _ _; (try k_sweep); (try dsimp only)))) | fail) | (k_here; first | ((with_reducible show wpAny _ _ (eval (Expr.Call (Expr.Name _ _) [Expr.Name _ _] [] _) _) _ _ _); k_dflt (refine' bigCall1 (by k_asm) (by k_asm) (by k_asm) (by k_is) (by k_is) (by rfl) ?_; k_whole)) | ((with_reducible show wpAny _ _ (eval (Expr.Call (Expr.Name _ _) [Expr.Name _ _, Expr.Name _ _] [] _) _) _ _ _); k_dflt (refine' bigCall2 (by k_asm) (by k_asm) (by k_asm) (by k_is) (by k_is) (by rfl) (by rfl) ?_; k_whole)) | ((with_reducible show wpAny _ _ (eval (Expr.Call (Expr.Name _ _) [Expr.Name _ _, Expr.Name _ _, Expr.Name _ _] [] _) _) _ _ _); k_dflt (refine' bigCall3 (by k_asm) (by k_asm) (by k_asm) (by k_is) (by k_is) (by rfl) (by rfl) (by rfl) ?_; k_whole)) | ((with_reducible show wpAny _ _ (eval (Expr.Call (Expr.Name _ _) [Expr.Name _ _, Expr.Name _ _, Expr.Name _ _, Expr.Name _ _] [] _) _) _ _ _); k_dflt (refine' bigCall4 (by k_asm) (by k_asm) (by k_asm) (by k_is) (by k_is) (by rfl) (by rfl) (by rfl) (by rfl) ?_; k_whole))) | walk1 | (dsimp only; walk1) | (dsimp only; with_reducible show wpAny _ _ _ _ _ _) | (leave1; (try dsimp only)) | fail "no step"))
      subst hkX hkY
      exact hret _ _ _ _ (by k_asm) (lessN (by k_asm) (fun p hp => by k_mem)) ⟨[], (List.nil_append _).symm, boov (hF.symm.trans (dueC (by assumption) (by assumption)))⟩
  · subst hkX hkY
    exact hret _ _ _ _ (by k_asm) (lessN (by k_asm) (fun p hp => by k_mem)) ⟨[], (List.nil_append _).symm, boov (dueA (by assumption))⟩
end
section
local macro_rules | `(tactic| k_updF) => `(tactic| with_reducible assumption)
theorem ltA {a b c : Addr} (h : a < b) (h2 : @LE.le Nat _ b c) : a < c := Nat.lt_of_lt_of_le h h2
theorem inOfUpd {d : Addr} {o : Obj} {l : Led} {g : Obj → Led} (U : UpdF d o l g) : (d, o) ∈ l := by
  obtain ⟨pre, post, rfl, hg, h1, h2⟩ := U.split
  exact List.mem_append_right _ List.mem_cons_self
theorem appendU {prog : Program} {w : World} {A : Around} {E : Value → Shared → Prop} {s : Shared} {h₀ : Heap} {L d : Addr} {m : MV} {news : Led} {vs : List Value} {n : Nat} {x : Value} {g : Obj → Led} {Q : Value → Shared → Prop} (F : Fr h₀ L s.heap m) (N : News h₀ L s.heap news) (U : UpdF d (W.listOf vs.toArray n) news g) (hl : vs.length ≤ 1000)
    (h : ∀ h' o', o' = W.listOf (vs ++ [x]).toArray (n + 1) → Fr h₀ L h' m → News h₀ L h' (g o') → Q .none { s with heap := h' }) : wpAny (model prog w) A (call (.builtin "list.append") [.ref d, x]) Q E s := by
  obtain ⟨pre, post, rfl, hg, a, b⟩ := U.split
  have z := N (d, W.listOf vs.toArray n) (List.mem_append_right _ (.head _))
  refine append_at (hsz := sizeOK hl) z.1 fun h' hs ho' => h h' _ rfl (F.change hs z.2.1 z.2.2) ?_
  rw [List.push_toArray] at ho'
  exact hg _ ▸ N.setIn a b hs ho'
theorem keepU {d : Addr} {o o' : Obj} {l : Led} {g : Obj → Led} {p : Addr × Obj} (U : UpdF d o l g) (hp : p ∈ l) (hne : p.1 ≠ d) : p ∈ g o' := by
  obtain ⟨pre, post, rfl, hg, h1, h2⟩ := U.split
  rw [hg]
  rcases List.mem_append.mp hp with hp | hp
  · exact List.mem_append_left _ hp
  · rcases List.mem_cons.mp hp with rfl | hp
    · exact absurd rfl hne
    · exact List.mem_append_right _ (List.mem_cons_of_mem _ hp)
theorem headU {d : Addr} {o o' : Obj} {l : Led} {g : Obj → Led} (U : UpdF d o l g) : (d, o') ∈ g o' := by
  obtain ⟨pre, post, rfl, hg, h1, h2⟩ := U.split
  rw [hg]
  exact List.mem_append_right _ List.mem_cons_self
theorem neObj {h₀ h : Heap} {L a b : Addr} {oa ob : Obj} {news : Led} (N : News h₀ L h news) (ha : (a, oa) ∈ news) (hb : (b, ob) ∈ news) (hne : oa ≠ ob) : a ≠ b := fun e => by
  have h1 := (N _ ha).1
  have h2 := (N _ hb).1
  rw [show ((a, oa) : Addr × Obj).1 = ((b, ob) : Addr × Obj).1 from e, h2] at h1
  exact hne (Option.some.inj h1).symm
local macro_rules | `(tactic| walk_at "call builtin:list.append") => `(tactic| refine Halt.go ?_)
theorem new_row_sp (w : World) (mean : ExcName → Option Value) (mg mb : MV) (news : Led) (t td rl : Addr) (k : Tok) (rv : List Value) (nr : Nat) (g : Obj → Led) (kind value : Str) (tk tv : Tok) (nm ur lo pa : Value)
   (ht : (t, instObj 432 td) ∈ news) (htd : (td, dictOf [enW w (Str.ofString "rows") k (.ref rl)] 1) ∈ news) (U : UpdF rl (W.listOf rv.toArray nr) news g) (hl : rv.length ≤ 1000) :
   Sp w mean mg mb 268 [.ref t, .str kind tk, nm, ur, lo, .str value tv, pa] 6 200 news (fun news' v => ∃ (R : RD) (nr' : Nat) (new : Led), news' = new ++ g (W.listOf (rv ++ [Value.ref R.r]).toArray nr') ∧ (∃ tv', v = .int (rv.length : Int) tv') ∧ RowAt w new R ∧ R.kind = kind ∧ R.value = value ∧ R.kv = [] ∧ (∀ q ∈ new, ∀ p ∈ news, p.1 < q.1)) := by
  intro dp un gd cn cs aa ccd cl outer A₀ base h₀ L m s Q E B F X0 N T hk hd hu' hret
  have hrl := inOfUpd U
  refine wpAny_call ?_
  k_dflt ktr_enter
  have h1 : t ≠ rl := neObj N ht hrl (fun e => by simpa using congrArg Obj.cls e)
  have h2 : td ≠ rl := neObj N htd hrl (fun e => by simpa using congrArg Obj.cls e)
  (repeat' (first | (k_unfold; (try dsimp only)) | (k_end; wrow_close) | ((with_reducible show wpAny _ _ (PySem.call (Value.ref _) _) _ _ _); first | (k_here; (with_reducible show wpAny _ _ (PySem.call (Value.ref 243) _) _ _ _); k_dflt (refine' call_cls ?k1 ?k2 ?k3 ?k4 ?k5 ?k6 ?_; (case k1 => k_asm); (case k2 => k_asm); (case k3 => k_asm); (case k4 => k_is); (case k5 => k_is); (case k6 => k_is); k_whole; intro _ _ h' F' N' _ _; (try k_sweep); (refine' code_def ?j1 ?j2 ?j3 ?j4 ?j5 ?jA ?jF ?jK ?j6 ?j7 ?j8 ?j9 ?jB ?_ ?c2 ?c3 ?c4 ?c5; (case jA => exact rfl); (case jF => exact rfl); (case jK => first | exact rfl | assumption); (case j1 => k_asm); (case j2 => k_asm); (case j3 => k_asm); (case j4 => k_asm); (case j5 => k_asm); (case j6 => k_is); (case j7 => k_is); (case j8 => ktr_room); (case j9 => exact BindsTo.of_eq rfl); (case c5 => decide); (case jB => exact locs rfl); (case c2 => exact rfl); (case c3 => exact rfl); (case c4 => exact rfl); k_whole; intro _ _ _ _ _ _ _ _ _; (try dsimp only); (try k_fold)))) | fail) | (k_here; (with_reducible show wpAny _ _ (PySem.call (Value.builtin "len") [Value.ref _]) _ _ _); (with_reducible refine' kst_len (by k_dflt (k_asm)) (by k_dflt (k_mem)) (List.length_append ..) (by k_dflt (simp; omega)) ?_)) | (k_here; (with_reducible show wpAny _ _ (callWith _ (Value.builtin _) [_] _ _) _ _ _); (with_reducible refine' callWith_method1 ?_ (by k_dflt (rfl)) (by k_dflt (rfl)))) | (k_here; (with_reducible show wpAny _ _ (PySem.call (Value.builtin "len") [Value.ref _]) _ _ _); (with_reducible refine' kst_len (by k_dflt (k_asm)) (by k_dflt (k_mem)) (List.length_map _) (by k_dflt (omega)) ?_)) | walk1 | (dsimp only; walk1) | (dsimp only; with_reducible show wpAny _ _ _ _ _ _) | (leave1; (try dsimp only)) | fail "no step"))
  unfold Halt
  rename (∀ p ∈ news, p.1 < _) => hbase
  have q0 := ltN (hbase _ hrl)
  dsimp only at q0
  refine' appendU ?F ?N ?U hl ?_
  case F => k_asm
  case N => k_asm
  case U => k_updF
  intro h9 o9 ho9 F9 N9
  (try dsimp only at N9)
  have e1 := headU (o' := o9) U
  have e2 := keepU (o' := o9) U ht h1
  have e3 := keepU (o' := o9) U htd h2
  subst ho9
  (repeat' (first | (k_unfold; (try dsimp only)) | (k_end; wrow_close) | ((with_reducible show wpAny _ _ (PySem.call (Value.ref _) _) _ _ _); first | (k_here; (with_reducible show wpAny _ _ (PySem.call (Value.ref 243) _) _ _ _); k_dflt (refine' call_cls ?k1 ?k2 ?k3 ?k4 ?k5 ?k6 ?_; (case k1 => k_asm); (case k2 => k_asm); (case k3 => k_asm); (case k4 => k_is); (case k5 => k_is); (case k6 => k_is); k_whole; intro _ _ h' F' N' _ _; (try k_sweep); (refine' code_def ?j1 ?j2 ?j3 ?j4 ?j5 ?jA ?jF ?jK ?j6 ?j7 ?j8 ?j9 ?jB ?_ ?c2 ?c3 ?c4 ?c5; (case jA => exact rfl); (case jF => exact rfl); (case jK => first | exact rfl | assumption); (case j1 => k_asm); (case j2 => k_asm); (case j3 => k_asm); (case j4 => k_asm); (case j5 => k_asm); (case j6 => k_is); (case j7 => k_is); (case j8 => ktr_room); (case j9 => exact BindsTo.of_eq rfl); (case c5 => decide); (case jB => exact locs rfl); (case c2 => exact rfl); (case c3 => exact rfl); (case c4 => exact rfl); k_whole; intro _ _ _ _ _ _ _ _ _; (try dsimp only); (try k_fold)))) | fail) | (k_here; (with_reducible show wpAny _ _ (PySem.call (Value.builtin "len") [Value.ref _]) _ _ _); (with_reducible refine' kst_len (by k_dflt (k_asm)) (by k_dflt (k_mem)) (List.length_append ..) (by k_dflt (simp; omega)) ?_)) | (k_here; (with_reducible show wpAny _ _ (callWith _ (Value.builtin _) [_] _ _) _ _ _); (with_reducible refine' callWith_method1 ?_ (by k_dflt (rfl)) (by k_dflt (rfl)))) | (k_here; (with_reducible show wpAny _ _ (PySem.call (Value.builtin "len") [Value.ref _]) _ _ _); (with_reducible refine' kst_len (by k_dflt (k_asm)) (by k_dflt (k_mem)) (List.length_map _) (by k_dflt (omega)) ?_)) | walk1 | (dsimp only; walk1) | (dsimp only; with_reducible show wpAny _ _ _ _ _ _) | (leave1; (try dsimp only)) | fail "no step"))
  (rename News h₀ L _ _ => kN)
  refine' hret _ _ _ _ (by k_asm) kN ⟨⟨_, _, _, _, _, _, _, _, _, _, _, _, _, _, _, _, _, _, _, _, _, _, _, _⟩, _, [_, _, _, _, _], rfl, intv _ (by simp), ⟨by k_mem, by k_mem, by k_mem⟩, rfl, rfl, rfl, ?_⟩
  refine List.forall_mem_cons.mpr ⟨?_, List.forall_mem_cons.mpr ⟨?_, List.forall_mem_cons.mpr ⟨?_, List.forall_mem_cons.mpr ⟨?_, List.forall_mem_cons.mpr ⟨?_, fun _ h => nomatch h⟩⟩⟩⟩⟩
  all_goals first
    | exact hbase
    | (refine' ltSub (by with_reducible assumption) (fun p hp => ?m); (case m => k_mem))
    | (refine' ltV (by with_reducible assumption) (by with_reducible assumption) (fun p hp => ?m); (case m => k_mem))
end
section
theorem updApp {d : Addr} {o : Obj} {l : Led} {g : Obj → Led} {new : Led} (h : ∀ p ∈ new, p.1 ≠ d) (U : UpdF d o l g) : UpdF d o (new ++ l) (fun o' => new ++ g o') := by
  induction new with
  | nil => exact U
  | cons x r ih => exact UpdF.tail (h x List.mem_cons_self) (ih fun p hp => h p (List.mem_cons_of_mem _ hp))
theorem itemApp {rv l : List Value} {i : Nat} {v : Value} (h : rv[i]? = some v) : (rv ++ l)[i]? = some v := by
  rw [List.getElem?_append_left (List.getElem?_eq_some_iff.mp h).1]
  exact h
section
variable {w : World} {mean : ExcName → Option Value} {mg mb : MV} {f : Addr} {vs : List Value} {dd uu : Nat} {news : Led} {dp un : Nat} {gd : Option (List Code)} {cn : Str} {cs : Scope} {a : Addr} {ccd : Value} {cl : List (Str × Addr)} {outer : List Env} {A₀ : Around} {base h₀ : Heap} {L : Addr} {m : MV} {s : Shared} {Q E : Value → Shared → Prop}
theorem useRow {X : RD → Nat → Led} {V : Tok → Value} {P1 P2 P3 P4 : RD → Led → Prop} {P0' : RD → Led → Prop} (F : Fr h₀ L s.heap m := by k_asm) (N : News h₀ L s.heap news := by k_asm) (B : Below A₀ base outer h₀ := by k_asm) (XK : (K w.params).In h₀ := by k_asm) (T : Top q (looseW q loose) mean mg mb h₀ := by k_asm) (hk : cs.kind = .function := by first | exact rfl | assumption)
    (C : Sp w mean mg mb f vs dd uu news (fun news' v => ∃ (R : RD) (nr : Nat) (new : Led), news' = new ++ X R nr ∧ (∃ tv, v = V tv) ∧ P0' R new ∧ P1 R new ∧ P2 R new ∧ P3 R new ∧ P4 R new)) (hd : dp + dd < recursionLimit := by ktr_room) (hu : un + uu < cLine := by ktr_units)
    (h : ∀ h' tk' R nr new tv, Fr h₀ L h' m → News h₀ L h' (new ++ X R nr) → P0' R new → P1 R new → P2 R new → P3 R new → P4 R new → Q (V tv) { s with heap := h', toks := tk' }) : wpAny (model P0 w) (ktrTop dp un gd cn cs L a ccd cl outer) (call (.ref f) vs) Q E s :=
  use2 F N B XK T hk C hd hu fun _ h' tk' _ F9 N9 R9 => by obtain ⟨R, nr, new, rfl, ⟨tv, rfl⟩, a1, a2, a3, a4, a5⟩ := R9; exact h h' tk' R nr new tv F9 N9 a1 a2 a3 a4 a5
end
theorem row2_sp (w : World) (mean : ExcName → Option Value) (mg mb : MV) (news : Led) (t td rl x : Addr) (k ti : Tok) (rv : List Value) (nr i : Nat) (m1 : (t, instObj 432 td) ∈ news) (m2 : (td, dictOf [enW w (Str.ofString "rows") k (.ref rl)] 1) ∈ news) (m3 : (rl, W.listOf rv.toArray nr) ∈ news) (hi : rv[i]? = some (.ref x)) (hl : rv.length ≤ 1000) :
   Sp w mean mg mb 275 [.ref t, .int i ti] 2 8 news (fun news' v => news' = news ∧ v = .ref x) := by
  intro dp un gd cn cs aa ccd cl outer A₀ base h₀ L m s Q E B F X N T hk hd hu hret
  have hx : rv[((i : Nat) : Int).toNat]? = some (.ref x) := by simp [hi]
  have hlt : i < rv.length := (List.getElem?_eq_some_iff.mp hi).1
  refine wpAny_call ?_
  k_dflt ktr_enter
  (repeat' (first | (k_unfold; (try dsimp only)) | (k_end; wrow_close) | (k_here; (with_reducible show wpAny _ _ (PySem.call (Value.builtin "len") [Value.ref _]) _ _ _); (with_reducible refine' kst_len (by k_dflt (k_asm)) (by k_dflt (k_mem)) rfl (by k_dflt (omega)) ?_)) | (k_here; (with_reducible show wpAny _ _ (callWith _ (Value.builtin _) [_] _ _) _ _ _); (with_reducible refine' callWith_method1 ?_ (by k_dflt (rfl)) (by k_dflt (rfl)))) | (k_here; (with_reducible show wpAny _ _ (subscriptTail (PySem.Expr.Attribute ..) _ (Value.ref _) (Value.int _ _)) _ _ _); (with_reducible refine' listItem (by k_dflt (k_asm)) (by k_dflt (k_mem)) (by k_dflt (omega)) (by k_dflt (omega)) (by k_dflt (assumption)) ?_)) | (k_here; (with_reducible show wpAny _ _ (PySem.call (Value.builtin "len") [Value.ref _]) _ _ _); (with_reducible refine' kst_len (by k_dflt (k_asm)) (by k_dflt (k_mem)) (List.length_map _) (by k_dflt (omega)) ?_)) | walk1 | (dsimp only; walk1) | (dsimp only; with_reducible show wpAny _ _ _ _ _ _) | (leave1; (try dsimp only)) | fail "no step"))
  all_goals (exact hret _ _ _ _ (by k_asm) (by k_asm) ⟨rfl, rfl⟩)
local macro_rules | `(tactic| walk_at "call builtin:list.append") => `(tactic| refine Halt.go ?_)
theorem parentsK (w : World) : (K w.params).lookup 226 = some (tupO [.str (Str.ofString "root") 480, .str (Str.ofString "element") 481]) := by kernel_rfl!
noncomputable def strIs (kind : Str) : Value → Bool
  | .str z _ => z == kind
  | _ => false
theorem notInParents {w : World} {A : Around} {E : Value → Shared → Prop} {s : Shared} {h₀ : Heap} {L : Addr} {m : MV} {kind : Str} {tk : Tok} {Q : Value → Shared → Prop} (F : Fr h₀ L s.heap m) (X : (K w.params).In h₀) (hk : kind = Str.ofString "root" ∨ kind = Str.ofString "element") (h : Q (.bool false) s) :
    wpAny (model P0 w) A (compareOp .NotIn (.str kind tk) (.ref 226)) Q E s := by
  have e := parentsK w
  have ht : s.heap.IsTuple 226 [Value.str (Str.ofString "root") 480, .str (Str.ofString "element") 481].toArray := ⟨_, F.keep _ _ (X _ _ e), rfl, _, rfl⟩
  refine SeqAt.notIn_tupleAt (strIs kind) ht ?_ ?_
  · intro y hy
    simp only [List.mem_toArray, List.mem_cons, List.not_mem_nil, or_false] at hy
    rcases hy with rfl | rfl
    · exact PySem.SeqAt.EqAt.str_str _ _ _ _
    · exact PySem.SeqAt.EqAt.str_str _ _ _ _
  · have e2 : (!(([Value.str (Str.ofString "root") 480, .str (Str.ofString "element") 481].toArray).any (strIs kind))) = false := by rcases hk with rfl | rfl <;> decide +kernel
    rw [e2]
    exact h
theorem add_child_sp (w : World) (mean : ExcName → Option Value) (mg mb : MV) (fx : Led) (t td rl : Addr) (k tp : Tok) (rv kv : List Value) (nr nk pi : Nat) (kind value : Str) (tk tv : Tok) (nm ur lo : Value) (P : RD)
   (ht : (t, instObj 432 td) ∈ fx) (htd : (td, dictOf [enW w (Str.ofString "rows") k (.ref rl)] 1) ∈ fx) (hl : rv.length ≤ 1000) (hkl : kv.length ≤ 1000) (hp1 : (P.r, instObj 243 P.rd) ∈ fx) (hp2 : (P.rd, dictOf (P.es w) 9) ∈ fx) (hpk : P.kind = Str.ofString "root" ∨ P.kind = Str.ofString "element")
   (hi : rv[pi]? = some (.ref P.r)) (o1 : ∀ p ∈ fx, p.1 ≠ rl) (o2 : ∀ p ∈ fx, p.1 ≠ P.lc) (o3 : @Ne Nat P.lc rl) :
   Sp w mean mg mb 289 [.ref t, .int (pi : Int) tp, .str kind tk, nm, ur, lo, .str value tv] 12 400 ((rl, W.listOf rv.toArray nr) :: (P.lc, W.listOf kv.toArray nk) :: fx)
    (fun news' v => ∃ (R : RD) (nr' nk' : Nat) (tv' : Tok) (new : Led), news' = new ++ (rl, W.listOf (rv ++ [Value.ref R.r]).toArray nr') :: (P.lc, W.listOf (kv ++ [Value.int (rv.length : Int) tv']).toArray nk') :: fx ∧ v = .int (rv.length : Int) tv' ∧ RowAt w new R ∧ R.kind = kind ∧ R.value = value ∧ R.kv = [] ∧ (∀ q ∈ new, ∀ p ∈ (rl, W.listOf rv.toArray nr) :: (P.lc, W.listOf kv.toArray nk) :: fx, p.1 < q.1)) := by
  intro dp un gd cn cs aa ccd cl outer A₀ base h₀ L m s Q E B F X0 N T hk hd hu' hret
  have hx : rv[((pi : Nat) : Int).toNat]? = some (.ref P.r) := by simp [hi]
  have hlt : pi < rv.length := (List.getElem?_eq_some_iff.mp hi).1
  refine wpAny_call ?_
  k_dflt ktr_enter
  (repeat' (first | (k_unfold; (try dsimp only)) | (k_end; wrow_close) | ((with_reducible show wpAny _ _ (PySem.call (Value.ref _) _) _ _ _); first | (k_here; (with_reducible show wpAny _ _ (PySem.call (Value.ref 268) _) _ _ _); k_dflt (refine' useRow (C := new_row_sp _ _ _ _ _ _ _ _ _ _ _ _ _ _ _ _ _ _ _ _ (by k_mem) (by k_mem) (by k_updF) (by with_reducible assumption)) (h := ?_); intro _ _ _ _ _ _ _ N9 _ _ _ _ _; (try dsimp only at N9); (try k_sweep); (try dsimp only))) | (k_here; (with_reducible show wpAny _ _ (PySem.call (Value.ref 275) _) _ _ _); k_dflt ((refine' useA (C := (row2_sp _ _ _ _ _ _ _ _ _ _ _ _ _ _ (by k_mem) (by k_mem) (by k_mem) (by with_reducible assumption) (by with_reducible assumption))) (h := ?_); intro _ _ _ _; (try k_sweep); (try dsimp only)))) | fail) | (k_here; (with_reducible show wpAny _ _ (compareOp CmpOp.NotIn (Value.str _ _) (Value.ref 226)) _ _ _); k_dflt (refine notInParents (by k_asm) (by k_asm) (by with_reducible assumption) ?_)) | (k_here; (with_reducible show wpAny _ _ (subscriptTail (PySem.Expr.Attribute ..) _ (Value.ref _) (Value.int _ _)) _ _ _); (with_reducible refine' listItem (by k_dflt (k_asm)) (by k_dflt (k_mem)) (by k_dflt (omega)) (by k_dflt (omega)) (by k_dflt (first | assumption | exact itemApp (by assumption))) ?_)) | (k_here; (with_reducible show wpAny _ _ (PySem.call (Value.builtin "len") [Value.ref _]) _ _ _); (with_reducible refine' kst_len (by k_dflt (k_asm)) (by k_dflt (k_mem)) rfl (by k_dflt (omega)) ?_)) | (k_here; (with_reducible show wpAny _ _ (callWith _ (Value.builtin _) [_] _ _) _ _ _); (with_reducible refine' callWith_method1 ?_ (by k_dflt (rfl)) (by k_dflt (rfl)))) | (k_here; (with_reducible show wpAny _ _ (subscriptTail (PySem.Expr.Attribute ..) _ (Value.ref _) (Value.int _ _)) _ _ _); (with_reducible refine' listItem (by k_dflt (k_asm)) (by k_dflt (k_mem)) (by k_dflt (omega)) (by k_dflt (omega)) (by k_dflt (assumption)) ?_)) | (k_here; (with_reducible show wpAny _ _ (PySem.call (Value.builtin "len") [Value.ref _]) _ _ _); (with_reducible refine' kst_len (by k_dflt (k_asm)) (by k_dflt (k_mem)) (List.length_map _) (by k_dflt (omega)) ?_)) | walk1 | (dsimp only; walk1) | (dsimp only; with_reducible show wpAny _ _ _ _ _ _) | (leave1; (try dsimp only)) | fail "no step"))
  unfold Halt
  rename_i hfr h8 F8 N8
  have hnp : ∀ q : Addr × Obj, q ∈ _ → q.1 ≠ P.lc := fun q hq => Ne.symm (Nat.ne_of_lt (hfr q hq _ (List.mem_cons_of_mem _ List.mem_cons_self)))
  refine' appendU (n := nk) ?F ?N ?U hkl ?_
  case F => k_asm
  case N => k_asm
  case U => exact updApp hnp (by k_updF)
  intro h9 o9 ho9 F9 N9
  (try dsimp only at N9)
  subst ho9
  (repeat' (first | (k_unfold; (try dsimp only)) | (k_end; wrow_close) | ((with_reducible show wpAny _ _ (PySem.call (Value.ref _) _) _ _ _); first | (k_here; (with_reducible show wpAny _ _ (PySem.call (Value.ref 268) _) _ _ _); k_dflt (refine' useRow (C := new_row_sp _ _ _ _ _ _ _ _ _ _ _ _ _ _ _ _ _ _ _ _ (by k_mem) (by k_mem) (by k_updF) (by with_reducible assumption)) (h := ?_); intro _ _ _ _ _ _ _ N9 _ _ _ _ _; (try dsimp only at N9); (try k_sweep); (try dsimp only))) | (k_here; (with_reducible show wpAny _ _ (PySem.call (Value.ref 275) _) _ _ _); k_dflt ((refine' useA (C := (row2_sp _ _ _ _ _ _ _ _ _ _ _ _ _ _ (by k_mem) (by k_mem) (by k_mem) (by with_reducible assumption) (by with_reducible assumption))) (h := ?_); intro _ _ _ _; (try k_sweep); (try dsimp only)))) | fail) | (k_here; (with_reducible show wpAny _ _ (compareOp CmpOp.NotIn (Value.str _ _) (Value.ref 226)) _ _ _); k_dflt (refine notInParents (by k_asm) (by k_asm) (by with_reducible assumption) ?_)) | (k_here; (with_reducible show wpAny _ _ (subscriptTail (PySem.Expr.Attribute ..) _ (Value.ref _) (Value.int _ _)) _ _ _); (with_reducible refine' listItem (by k_dflt (k_asm)) (by k_dflt (k_mem)) (by k_dflt (omega)) (by k_dflt (omega)) (by k_dflt (first | assumption | exact itemApp (by assumption))) ?_)) | (k_here; (with_reducible show wpAny _ _ (PySem.call (Value.builtin "len") [Value.ref _]) _ _ _); (with_reducible refine' kst_len (by k_dflt (k_asm)) (by k_dflt (k_mem)) rfl (by k_dflt (omega)) ?_)) | (k_here; (with_reducible show wpAny _ _ (callWith _ (Value.builtin _) [_] _ _) _ _ _); (with_reducible refine' callWith_method1 ?_ (by k_dflt (rfl)) (by k_dflt (rfl)))) | (k_here; (with_reducible show wpAny _ _ (subscriptTail (PySem.Expr.Attribute ..) _ (Value.ref _) (Value.int _ _)) _ _ _); (with_reducible refine' listItem (by k_dflt (k_asm)) (by k_dflt (k_mem)) (by k_dflt (omega)) (by k_dflt (omega)) (by k_dflt (assumption)) ?_)) | (k_here; (with_reducible show wpAny _ _ (PySem.call (Value.builtin "len") [Value.ref _]) _ _ _); (with_reducible refine' kst_len (by k_dflt (k_asm)) (by k_dflt (k_mem)) (List.length_map _) (by k_dflt (omega)) ?_)) | walk1 | (dsimp only; walk1) | (dsimp only; with_reducible show wpAny _ _ _ _ _ _) | (leave1; (try dsimp only)) | fail "no step"))
  (rename News h₀ L _ _ => kN)
  exact hret _ _ _ _ (by k_asm) kN ⟨_, _, _, _, _, rfl, rfl, by assumption, by assumption, by assumption, by assumption, hfr⟩
end
section
theorem updMem2 {d : Addr} {o o' : Obj} {l : Led} {g : Obj → Led} (U : UpdF d o l g) : ∀ p ∈ g o', p ∈ (d, o') :: offL d l := by
  obtain ⟨pre, post, rfl, hg, h1, h2⟩ := U.split
  rw [hg]
  intro p hp
  rcases List.mem_append.mp hp with hp | hp
  · exact List.mem_cons_of_mem _ (mem_offL (List.mem_append_left _ hp) (h1 p hp))
  · rcases List.mem_cons.mp hp with rfl | hp
    · exact List.mem_cons_self
    · exact List.mem_cons_of_mem _ (mem_offL (List.mem_append_right _ (List.mem_cons_of_mem _ hp)) (h2 p hp))
theorem upd2_ne {a b : Addr} {oa ob : Obj} {news : Led} {g1 : Obj → Led} {g2 : Obj → Obj → Led} (U1 : UpdF a oa news g1) (U2 : ∀ o, UpdF b ob (g1 o) (g2 o)) (o : Obj) (ho : o ≠ ob) : b ≠ a := fun e => by
  subst e
  obtain ⟨pre, post, e2, hg, h1, h2⟩ := (U2 o).split
  have h3 := headU (o' := o) U1
  rw [e2] at h3
  rcases List.mem_append.mp h3 with h | h
  · exact h1 _ h rfl
  · rcases List.mem_cons.mp h with h | h
    · exact ho (Prod.mk.inj h).2
    · exact h2 _ h rfl
theorem add_child_upd (w : World) (mean : ExcName → Option Value) (mg mb : MV) (news : Led) (t td rl : Addr) (k tp : Tok) (rv kv : List Value) (nr nk pi : Nat) (g1 : Obj → Led) (g2 : Obj → Obj → Led) (kind value : Str) (tk tv : Tok) (nm ur lo : Value) (P : RD)
   (ht : (t, instObj 432 td) ∈ news) (htd : (td, dictOf [enW w (Str.ofString "rows") k (.ref rl)] 1) ∈ news) (hl : rv.length ≤ 1000) (hkl : kv.length ≤ 1000) (hp1 : (P.r, instObj 243 P.rd) ∈ news) (hp2 : (P.rd, dictOf (P.es w) 9) ∈ news) (hpk : P.kind = Str.ofString "root" ∨ P.kind = Str.ofString "element")
   (hi : rv[pi]? = some (.ref P.r)) (U1 : UpdF rl (W.listOf rv.toArray nr) news g1) (U2 : ∀ o, UpdF P.lc (W.listOf kv.toArray nk) (g1 o) (g2 o)) :
   Sp w mean mg mb 289 [.ref t, .int (pi : Int) tp, .str kind tk, nm, ur, lo, .str value tv] 12 400 news
    (fun news' v => ∃ (R : RD) (nr' nk' : Nat) (tv' : Tok) (new : Led), news' = new ++ g2 (W.listOf (rv ++ [Value.ref R.r]).toArray nr') (W.listOf (kv ++ [Value.int (rv.length : Int) tv']).toArray nk') ∧ v = .int (rv.length : Int) tv' ∧ RowAt w new R ∧ R.kind = kind ∧ R.value = value ∧ R.kv = [] ∧ (∀ q ∈ new, ∀ p ∈ news, p.1 < q.1)) := by
  intro dp un gd cn cs aa ccd cl outer A₀ base h₀ L m s Q E B F X0 N T hk hd hu' hret
  have n1 : P.lc ≠ rl := upd2_ne U1 U2 (instObj 0 0) (fun e => by simpa using congrArg Obj.cls e)
  have hrl := inOfUpd U1
  have hlc : (P.lc, W.listOf kv.toArray nk) ∈ news := by
    have h := inOfUpd (U2 (W.listOf rv.toArray nr))
    obtain ⟨pre, post, rfl, hg, h1, h2⟩ := U1.split
    rw [hg] at h
    exact h
  have ne : ∀ (a : Addr) (o : Obj), (a, o) ∈ news → o.cls ≠ .type "list" → a ≠ rl ∧ a ≠ P.lc := fun a o ha hc =>
    ⟨neObj N ha hrl (fun e => hc (congrArg Obj.cls e)), neObj N ha hlc (fun e => hc (congrArg Obj.cls e))⟩
  have fin : ∀ (a : Addr) (o : Obj), (a, o) ∈ news → a ≠ rl ∧ a ≠ P.lc → (a, o) ∈ offL rl (offL P.lc news) := fun a o ha h => mem_offL (mem_offL ha h.2) h.1
  have N2 : News h₀ L s.heap ((rl, W.listOf rv.toArray nr) :: (P.lc, W.listOf kv.toArray nk) :: offL rl (offL P.lc news)) := fun p hp => by
    rcases List.mem_cons.mp hp with rfl | hp
    · exact N _ hrl
    · rcases List.mem_cons.mp hp with rfl | hp
      · exact N _ hlc
      · exact N _ (of_offL (of_offL hp))
  refine add_child_sp w mean mg mb (offL rl (offL P.lc news)) t td rl k tp rv kv nr nk pi kind value tk tv nm ur lo P (fin _ _ ht (ne _ _ ht (by first | (intro e; cases e; done) | (show Value.type "dict" ≠ Value.type "list"; decide)))) (fin _ _ htd (ne _ _ htd (by first | (intro e; cases e; done) | (show Value.type "dict" ≠ Value.type "list"; decide)))) hl hkl (fin _ _ hp1 (ne _ _ hp1 (by first | (intro e; cases e; done) | (show Value.type "dict" ≠ Value.type "list"; decide)))) (fin _ _ hp2 (ne _ _ hp2 (by first | (intro e; cases e; done) | (show Value.type "dict" ≠ Value.type "list"; decide)))) hpk hi
    offL_off (fun p hp => offL_off p (of_offL hp)) n1 dp un gd cn cs aa ccd cl outer A₀ base h₀ L m s Q E B F X0 N2 T hk hd hu' fun v h' tk' news' F' N' R' => ?_
  obtain ⟨R, nr', nk', tv', new, rfl, rfl, r1, r2, r3, r4, r5⟩ := R'
  refine hret _ h' tk' (new ++ g2 (W.listOf (rv ++ [Value.ref R.r]).toArray nr') (W.listOf (kv ++ [Value.int (rv.length : Int) tv']).toArray nk')) F' (lessN N' fun p hp => ?_) ⟨R, nr', nk', tv', new, rfl, rfl, r1, r2, r3, r4, fun q hq p hp => ?_⟩
  · rcases List.mem_append.mp hp with hp | hp
    · exact List.mem_append_left _ hp
    · refine List.mem_append_right _ ?_
      rcases List.mem_cons.mp (updMem2 (U2 _) p hp) with rfl | hp
      · exact List.mem_cons_of_mem _ List.mem_cons_self
      · have hne := offL_off p hp
        rcases List.mem_cons.mp (updMem2 U1 p (of_offL hp)) with rfl | hp
        · exact List.mem_cons_self
        · exact List.mem_cons_of_mem _ (List.mem_cons_of_mem _ (mem_offL (mem_offL (of_offL hp) hne) (offL_off p hp)))
  · by_cases e1 : p.1 = rl
    · have := r5 q hq _ List.mem_cons_self
      rw [e1]
      exact this
    · by_cases e2 : p.1 = P.lc
      · have := r5 q hq _ (List.mem_cons_of_mem _ List.mem_cons_self)
        rw [e2]
        exact this
      · exact r5 q hq p (List.mem_cons_of_mem _ (List.mem_cons_of_mem _ (mem_offL (mem_offL hp e2) e1)))
/-- a row just made, opened: its list of children, its object, its dict, each above all that was there -/
noncomputable def NewRow (w : World) (R : RD) (kind value : Str) (news news' X : Led) : Prop :=
  news' = (R.lc, W.listOf ([] : List Value).toArray R.nc) :: (R.r, instObj 243 R.rd) :: (R.rd, dictOf (R.es w) 9) :: X ∧ R.kind = kind ∧ R.value = value ∧ R.kv = [] ∧
    (∀ p ∈ news, p.1 < R.lc) ∧ (∀ p ∈ news, p.1 < R.r) ∧ (∀ p ∈ news, p.1 < R.rd) ∧ (@Ne Nat R.lc R.r) ∧ (@Ne Nat R.lc R.rd)
theorem NewRow.of {w : World} {R : RD} {kind value : Str} {news new X : Led} {h₀ h : Heap} {L : Addr} (N : News h₀ L h (new ++ X)) (hr : RowAt w new R) (h1 : R.kind = kind) (h2 : R.value = value) (h3 : R.kv = []) (hf : ∀ q ∈ new, ∀ p ∈ news, p.1 < q.1) :
    ∃ news', News h₀ L h news' ∧ NewRow w R kind value news news' X := by
  have hlc := hr.2.2
  rw [h3] at hlc
  refine ⟨_, lessN N (fun p hp => ?_), rfl, h1, h2, h3, hf _ hlc, hf _ hr.1, hf _ hr.2.1, ?_, ?_⟩
  · rcases List.mem_cons.mp hp with rfl | hp
    · exact List.mem_append_left _ hlc
    · rcases List.mem_cons.mp hp with rfl | hp
      · exact List.mem_append_left _ hr.1
      · rcases List.mem_cons.mp hp with rfl | hp
        · exact List.mem_append_left _ hr.2.1
        · exact List.mem_append_right _ hp
  · exact neObj N (List.mem_append_left _ hlc) (List.mem_append_left _ hr.1) (fun e => nomatch congrArg Obj.cls e)
  · exact neObj N (List.mem_append_left _ hlc) (List.mem_append_left _ hr.2.1) (fun e => by simpa using congrArg Obj.cls e)
theorem new_row_open (w : World) (mean : ExcName → Option Value) (mg mb : MV) (news : Led) (t td rl : Addr) (k : Tok) (rv : List Value) (nr : Nat) (g : Obj → Led) (kind value : Str) (tk tv : Tok) (nm ur lo pa : Value)
   (ht : (t, instObj 432 td) ∈ news) (htd : (td, dictOf [enW w (Str.ofString "rows") k (.ref rl)] 1) ∈ news) (U : UpdF rl (W.listOf rv.toArray nr) news g) (hl : rv.length ≤ 1000) :
   Sp w mean mg mb 268 [.ref t, .str kind tk, nm, ur, lo, .str value tv, pa] 6 200 news (fun news' v => ∃ (R : RD) (nr' : Nat), NewRow w R kind value news news' (g (W.listOf (rv ++ [Value.ref R.r]).toArray nr')) ∧ (∃ tv', v = .int (rv.length : Int) tv')) := by
  intro dp un gd cn cs aa ccd cl outer A₀ base h₀ L m s Q E B F X0 N T hk hd hu' hret
  refine new_row_sp w mean mg mb news t td rl k rv nr g kind value tk tv nm ur lo pa ht htd U hl dp un gd cn cs aa ccd cl outer A₀ base h₀ L m s Q E B F X0 N T hk hd hu' fun v h' tk' news' F' N' R' => ?_
  obtain ⟨R, nr', new, rfl, hv, r1, r2, r3, r4, r5⟩ := R'
  obtain ⟨nw, Nw, hw⟩ := NewRow.of N' r1 r2 r3 r4 r5
  exact hret v h' tk' nw F' Nw ⟨R, nr', hw, hv⟩
theorem add_child_open (w : World) (mean : ExcName → Option Value) (mg mb : MV) (news : Led) (t td rl : Addr) (k tp : Tok) (rv kv : List Value) (nr nk pi : Nat) (g1 : Obj → Led) (g2 : Obj → Obj → Led) (kind value : Str) (tk tv : Tok) (nm ur lo : Value) (P : RD)
   (ht : (t, instObj 432 td) ∈ news) (htd : (td, dictOf [enW w (Str.ofString "rows") k (.ref rl)] 1) ∈ news) (U1 : UpdF rl (W.listOf rv.toArray nr) news g1) (U2 : ∀ o, UpdF P.lc (W.listOf kv.toArray nk) (g1 o) (g2 o))
   (hl : rv.length ≤ 1000) (hkl : kv.length ≤ 1000) (hp1 : (P.r, instObj 243 P.rd) ∈ news) (hp2 : (P.rd, dictOf (P.es w) 9) ∈ news) (hpk : P.kind = Str.ofString "root" ∨ P.kind = Str.ofString "element")
   (hi : rv[pi]? = some (.ref P.r)) :
   Sp w mean mg mb 289 [.ref t, .int (pi : Int) tp, .str kind tk, nm, ur, lo, .str value tv] 12 400 news
    (fun news' v => ∃ (R : RD) (nr' nk' : Nat) (tv' : Tok), NewRow w R kind value news news' (g2 (W.listOf (rv ++ [Value.ref R.r]).toArray nr') (W.listOf (kv ++ [Value.int (rv.length : Int) tv']).toArray nk')) ∧ v = .int (rv.length : Int) tv') := by
  intro dp un gd cn cs aa ccd cl outer A₀ base h₀ L m s Q E B F X0 N T hk hd hu' hret
  refine add_child_upd w mean mg mb news t td rl k tp rv kv nr nk pi g1 g2 kind value tk tv nm ur lo P ht htd hl hkl hp1 hp2 hpk hi U1 U2 dp un gd cn cs aa ccd cl outer A₀ base h₀ L m s Q E B F X0 N T hk hd hu' fun v h' tk' news' F' N' R' => ?_
  obtain ⟨R, nr', nk', tv', new, rfl, hv, r1, r2, r3, r4, r5⟩ := R'
  obtain ⟨nw, Nw, hw⟩ := NewRow.of N' r1 r2 r3 r4 r5
  exact hret v h' tk' nw F' Nw ⟨R, nr', nk', tv', hw, hv⟩
section
variable {w : World} {mean : ExcName → Option Value} {mg mb : MV} {f : Addr} {vs : List Value} {dd uu : Nat} {news : Led} {dp un : Nat} {gd : Option (List Code)} {cn : Str} {cs : Scope} {a : Addr} {ccd : Value} {cl : List (Str × Addr)} {outer : List Env} {A₀ : Around} {base h₀ : Heap} {L : Addr} {m : MV} {s : Shared} {Q E : Value → Shared → Prop}
theorem useNew {kind value : Str} {X : RD → Nat → Led} {V : Tok → Value} (F : Fr h₀ L s.heap m := by k_asm) (N : News h₀ L s.heap news := by k_asm) (B : Below A₀ base outer h₀ := by k_asm) (XK : (K w.params).In h₀ := by k_asm) (T : Top q (looseW q loose) mean mg mb h₀ := by k_asm) (hk : cs.kind = .function := by first | exact rfl | assumption)
    (C : Sp w mean mg mb f vs dd uu news (fun news' v => ∃ (R : RD) (nr : Nat), NewRow w R kind value news news' (X R nr) ∧ ∃ tv, v = V tv)) (hd : dp + dd < recursionLimit := by ktr_room) (hu : un + uu < cLine := by ktr_units)
    (h : ∀ h' tk' R nr tv, Fr h₀ L h' m → News h₀ L h' ((R.lc, W.listOf ([] : List Value).toArray R.nc) :: (R.r, instObj 243 R.rd) :: (R.rd, dictOf (R.es w) 9) :: X R nr) → R.kind = kind → R.value = value → R.kv = [] → (∀ p ∈ news, p.1 < R.lc) → (∀ p ∈ news, p.1 < R.r) → (∀ p ∈ news, p.1 < R.rd) → (@Ne Nat R.lc R.r) → (@Ne Nat R.lc R.rd) → Q (V tv) { s with heap := h', toks := tk' }) : wpAny (model P0 w) (ktrTop dp un gd cn cs L a ccd cl outer) (call (.ref f) vs) Q E s :=
  use2 F N B XK T hk C hd hu fun _ h' tk' _ F9 N9 R9 => by obtain ⟨R, nr, ⟨rfl, a1, a2, a3, a4, a5, a6, a7, a8⟩, tv, rfl⟩ := R9; exact h h' tk' R nr tv F9 N9 a1 a2 a3 a4 a5 a6 a7 a8
theorem useAdd {kind value : Str} {X : RD → Nat → Nat → Tok → Led} {V : Tok → Value} (F : Fr h₀ L s.heap m := by k_asm) (N : News h₀ L s.heap news := by k_asm) (B : Below A₀ base outer h₀ := by k_asm) (XK : (K w.params).In h₀ := by k_asm) (T : Top q (looseW q loose) mean mg mb h₀ := by k_asm) (hk : cs.kind = .function := by first | exact rfl | assumption)
    (C : Sp w mean mg mb f vs dd uu news (fun news' v => ∃ (R : RD) (nr nk : Nat) (tv : Tok), NewRow w R kind value news news' (X R nr nk tv) ∧ v = V tv)) (hd : dp + dd < recursionLimit := by ktr_room) (hu : un + uu < cLine := by ktr_units)
    (h : ∀ h' tk' R nr nk tv, Fr h₀ L h' m → News h₀ L h' ((R.lc, W.listOf ([] : List Value).toArray R.nc) :: (R.r, instObj 243 R.rd) :: (R.rd, dictOf (R.es w) 9) :: X R nr nk tv) → R.kind = kind → R.value = value → R.kv = [] → (∀ p ∈ news, p.1 < R.lc) → (∀ p ∈ news, p.1 < R.r) → (∀ p ∈ news, p.1 < R.rd) → (@Ne Nat R.lc R.r) → (@Ne Nat R.lc R.rd) → Q (V tv) { s with heap := h', toks := tk' }) : wpAny (model P0 w) (ktrTop dp un gd cn cs L a ccd cl outer) (call (.ref f) vs) Q E s :=
  use2 F N B XK T hk C hd hu fun _ h' tk' _ F9 N9 R9 => by obtain ⟨R, nr, nk, tv, ⟨rfl, a1, a2, a3, a4, a5, a6, a7, a8⟩, rfl⟩ := R9; exact h h' tk' R nr nk tv F9 N9 a1 a2 a3 a4 a5 a6 a7 a8
end
end
section
/-- row p of the tree is an element with the text x: rows Rs stand behind the root and the top -/
noncomputable def ElemIn (Rs : List RD) (p : Nat) (x : Str) : Prop := ∃ k R j R' tc, p = k + 2 ∧ Rs[k]? = some R ∧ R.kind = Str.ofString "element" ∧ R.kv = [.int (((j + 2 : Nat)) : Int) tc] ∧ Rs[j]? = some R' ∧ R'.kind = Str.ofString "text" ∧ R'.value = x ∧ R'.kv = []
theorem ElemIn.app {Rs Rs' : List RD} {p : Nat} {x : Str} (h : ElemIn Rs p x) : ElemIn (Rs ++ Rs') p x := by
  obtain ⟨k, R, j, R', tc, h1, h2, h3, h4, h5, h6⟩ := h
  refine ⟨k, R, j, R', tc, h1, ?_, h3, h4, ?_, h6⟩
  · rw [List.getElem?_append_left (List.getElem?_eq_some_iff.mp h2).1]; exact h2
  · rw [List.getElem?_append_left (List.getElem?_eq_some_iff.mp h5).1]; exact h5
theorem ElemIn.at {Rs : List RD} {p : Nat} {x : Str} {a b : RD} {td rl : Addr} {k : Tok} {nr : Nat} (h : ElemIn Rs p x) : ElemAt ⟨td, rl, k, nr, a :: b :: Rs⟩ p x := by
  obtain ⟨k, R, j, R', tc, h1, h2, h3, h4, h5, h6, h7, h8⟩ := h
  exact ⟨R, j + 2, R', tc, by rw [h1]; exact h2, h3, h4, h5, h6, h7, h8⟩
noncomputable abbrev refs (Rs : List RD) : List Value := Rs.map fun R => Value.ref R.r
/-- the ledger between the turns of _law_made -/
noncomputable def MadeInv (w : World) (src rl nl t td : Addr) (k : Tok) (R0 Rt : RD) (rest : Led) (i : Nat) (nx : Led) : Prop :=
  ∃ (a b : Int) (t1 t2 : Tok) (n nr nn nk : Nat) (fx : Led) (Rs : List RD) (xs : List (Nat × Str)) (nv kv : List Value),
    nx = (src, srcO a b t1 t2 n) :: (rl, W.listOf (refs (R0 :: Rt :: Rs)).toArray nr) :: (nl, W.listOf nv.toArray nn) :: (Rt.lc, W.listOf kv.toArray nk) :: fx ∧ SB a b ∧
    ((∀ p ∈ fx, p.1 ≠ src) ∧ (∀ p ∈ fx, p.1 ≠ rl) ∧ (∀ p ∈ fx, p.1 ≠ nl) ∧ (∀ p ∈ fx, p.1 ≠ Rt.lc)) ∧
    ((t, instObj 432 td) ∈ fx ∧ (td, dictOf [enW w (Str.ofString "rows") k (.ref rl)] 1) ∈ fx ∧ (Rt.r, instObj 243 Rt.rd) ∈ fx ∧ (Rt.rd, dictOf (Rt.es w) 9) ∈ fx ∧ RowAt w fx R0 ∧ (∀ R ∈ Rs, RowAt w fx R) ∧ (∀ p ∈ rest, p ∈ fx)) ∧
    IntsAre nv (xs.map fun p => (p.1 : Int)) ∧ (∀ p ∈ xs, ElemIn Rs p.1 p.2 ∧ p.2 ∈ menuT) ∧ xs.length = i ∧ Rs.length = 2 * i ∧ kv.length = i
theorem madeStart {w : World} {g h : Heap} {L src rl nl t td : Addr} {k : Tok} {R0 Rt : RD} {rest : Led} {a b : Int} {t1 t2 : Tok} {n n1 n2 n3 n4 : Nat} {rv kr : List Value} {l : Led}
    (N : News g L h l) (m1 : (Rt.lc, W.listOf ([] : List Value).toArray n1) ∈ l) (m2 : (Rt.r, instObj 243 Rt.rd) ∈ l) (m3 : (Rt.rd, dictOf (Rt.es w) 9) ∈ l) (m4 : (R0.lc, W.listOf kr.toArray n2) ∈ l) (m5 : (R0.r, instObj 243 R0.rd) ∈ l) (m6 : (R0.rd, dictOf (R0.es w) 9) ∈ l) (m7 : (nl, W.listOf ([] : List Value).toArray n3) ∈ l) (m8 : (rl, W.listOf rv.toArray n4) ∈ l) (m9 : (t, instObj 432 td) ∈ l) (m10 : (td, dictOf [enW w (Str.ofString "rows") k (.ref rl)] 1) ∈ l) (m11 : (src, srcO a b t1 t2 n) ∈ l) (hrest : ∀ p ∈ rest, p ∈ l)
    (hrv : rv = [Value.ref R0.r, Value.ref Rt.r]) (hb : SB a b) (hr : ∀ p ∈ rest, p.1 < td) (hoff : ∀ p ∈ rest, p.1 ≠ src) (q1 : @LT.lt Nat _ src td) (q2 : @LT.lt Nat _ td rl) (q3 : @LT.lt Nat _ rl nl) (q5 : @LT.lt Nat _ nl R0.lc) (q6 : @LT.lt Nat _ R0.lc Rt.lc) :
    ∃ nx R0', News g L h nx ∧ MadeInv w src rl nl t td k R0' Rt rest 0 nx := by
  subst hrv
  have inF : ∀ {p : Addr × Obj}, p ∈ l → p.1 ≠ src → p.1 ≠ rl → p.1 ≠ nl → p.1 ≠ Rt.lc → p ∈ offL src (offL rl (offL nl (offL Rt.lc l))) := fun hp h1 h2 h3 h4 => mem_offL (mem_offL (mem_offL (mem_offL hp h4) h3) h2) h1
  have ne : ∀ {x y : Addr} {o o' : Obj}, (x, o) ∈ l → o.cls ≠ .type "list" → (y, o') ∈ l → o'.cls = .type "list" → x ≠ y := fun hx hc hy hc' => neObj N hx hy (fun e => hc (e ▸ hc'))
  have c : ∀ {x : Addr} {o : Obj}, (x, o) ∈ l → o.cls ≠ .type "list" → (x, o) ∈ offL src (offL rl (offL nl (offL Rt.lc l))) := fun hx hc => inF hx (ne hx hc m11 rfl) (ne hx hc m8 rfl) (ne hx hc m7 rfl) (ne hx hc m1 rfl)
  have hI : ∀ (C d : Addr), (instObj C d).cls ≠ .type "list" := fun C d e => nomatch e
  have hD : ∀ (es : List DictEntry) (n : Nat), (dictOf es n).cls ≠ .type "list" := fun es n => by show Value.type "dict" ≠ Value.type "list"; decide
  have l1 : @LT.lt Nat _ td nl := Nat.lt_trans q2 q3
  have l2 : @LT.lt Nat _ rl R0.lc := Nat.lt_trans q3 q5
  have l3 : @LT.lt Nat _ nl Rt.lc := Nat.lt_trans q5 q6
  refine ⟨(src, srcO a b t1 t2 n) :: (rl, W.listOf (refs [{ R0 with kv := kr, nc := n2 }, Rt]).toArray n4) :: (nl, W.listOf ([] : List Value).toArray n3) :: (Rt.lc, W.listOf ([] : List Value).toArray n1) :: offL src (offL rl (offL nl (offL Rt.lc l))), { R0 with kv := kr, nc := n2 }, lessN N (List.forall_mem_cons.mpr ⟨m11, List.forall_mem_cons.mpr ⟨m8, List.forall_mem_cons.mpr ⟨m7, List.forall_mem_cons.mpr ⟨m1, fun p hp => of_offL (of_offL (of_offL (of_offL hp)))⟩⟩⟩⟩),
    a, b, t1, t2, n, n4, n3, n1, _, [], [], [], [], rfl, hb, ⟨offL_off, fun p hp => offL_off p (of_offL hp), fun p hp => offL_off p (of_offL (of_offL hp)), fun p hp => offL_off p (of_offL (of_offL (of_offL hp)))⟩,
    ⟨c m9 (hI _ _), c m10 (hD _ _), c m2 (hI _ _), c m3 (hD _ _), ⟨c m5 (hI _ _), c m6 (hD _ _), inF m4 (Nat.ne_of_gt (Nat.lt_trans q1 (Nat.lt_trans q2 l2))) (Nat.ne_of_gt l2) (Nat.ne_of_gt q5) (Nat.ne_of_lt q6)⟩, (fun R hR => nomatch hR), fun p hp => inF (hrest p hp) (hoff p hp) (Nat.ne_of_lt (Nat.lt_trans (hr p hp) q2)) (Nat.ne_of_lt (Nat.lt_trans (hr p hp) l1)) (Nat.ne_of_lt (Nat.lt_trans (hr p hp) (Nat.lt_trans l1 l3)))⟩, .nil, (fun p hp => nomatch hp), rfl, rfl, rfl⟩
/-- the same for the ledger that stands there -/
theorem madeStart2 {w : World} {g h : Heap} {L src rl nl t td D : Addr} {k : Tok} {R0 Rt : RD} {rest : Led} {a b : Int} {t1 t2 : Tok} {n n1 n2 n3 n4 : Nat} {o5 : Obj} {rv kr : List Value}
    (N : News g L h ((Rt.lc, W.listOf ([] : List Value).toArray n1) :: (Rt.r, instObj 243 Rt.rd) :: (Rt.rd, dictOf (Rt.es w) 9) :: (R0.lc, W.listOf kr.toArray n2) :: (R0.r, instObj 243 R0.rd) :: (R0.rd, dictOf (R0.es w) 9) :: (D, o5) :: (nl, W.listOf ([] : List Value).toArray n3) :: (rl, W.listOf rv.toArray n4) :: (t, instObj 432 td) :: (td, dictOf [enW w (Str.ofString "rows") k (.ref rl)] 1) :: (src, srcO a b t1 t2 n) :: rest))
    (hrv : rv = [Value.ref R0.r, Value.ref Rt.r]) (hb : SB a b) (hr : ∀ p ∈ rest, p.1 < td) (hoff : ∀ p ∈ rest, p.1 ≠ src) (q1 : @LT.lt Nat _ src td) (q2 : @LT.lt Nat _ td rl) (q3 : @LT.lt Nat _ rl nl) (q5 : @LT.lt Nat _ nl R0.lc) (q6 : @LT.lt Nat _ R0.lc Rt.lc) :
    ∃ nx R0', News g L h nx ∧ MadeInv w src rl nl t td k R0' Rt rest 0 nx :=
  madeStart N (by k_mem) (by k_mem) (by k_mem) (by k_mem) (by k_mem) (by k_mem) (by k_mem) (by k_mem) (by k_mem) (by k_mem) (by k_mem) (fun p hp => by k_mem) hrv hb hr hoff q1 q2 q3 q5 q6
/-- what _law_made leaves -/
noncomputable def MPost (w : World) (src : Addr) (rest news' : Led) (v : Value) : Prop :=
  ∃ a' b' t1 t2 n new l t nl nn xs D, news' = (src, srcO a' b' t1 t2 n) :: (new ++ rest) ∧ SB a' b' ∧ (∀ p ∈ new, p.1 ≠ src) ∧ v = .ref l ∧ (l, W.listOf [Value.ref t, Value.ref nl].toArray nn) ∈ new ∧ TreeAt w (new ++ rest) t D ∧ D.rows.length ≤ 1000 ∧ RepV w (new ++ rest) D (.ref nl) (.set xs)
theorem madeEnd {w : World} {src rl nl t td l : Addr} {k : Tok} {R0 Rt : RD} {rest nx : Led} {i nn : Nat} {h₀ h' : Heap} {L : Addr} {m : MV} {s : Shared} {tk' : Nat} {Q : Value → Shared → Prop}
    (hret : ∀ v h' tk' news', Fr h₀ L h' m → News h₀ L h' news' → MPost w src rest news' v → Q v { s with heap := h', toks := tk' })
    (F : Fr h₀ L h' m) (N : News h₀ L h' ((l, W.listOf [Value.ref t, Value.ref nl].toArray nn) :: nx)) (hi : i ≤ 5) (hJ : MadeInv w src rl nl t td k R0 Rt rest i nx) (hl : l ≠ src) (d1 : rl ≠ src) (d2 : nl ≠ src) (d3 : Rt.lc ≠ src) : Q (.ref l) { s with heap := h', toks := tk' } := by
  obtain ⟨a, b, t1, t2, n, nr, nk', nk, fx, Rs, xs, nv, kv, rfl, hb, ⟨o1, o2, o3, o4⟩, ⟨f1, f2, f3, f4, f5, f6, f7⟩, g1, g2, g3, g4, g5⟩ := hJ
  have sub : ∀ p ∈ (rl, W.listOf (refs (R0 :: Rt :: Rs)).toArray nr) :: (nl, W.listOf nv.toArray nk') :: (Rt.lc, W.listOf kv.toArray nk) :: fx, p ∈ offL src ((l, W.listOf [Value.ref t, Value.ref nl].toArray nn) :: (src, srcO a b t1 t2 n) :: (rl, W.listOf (refs (R0 :: Rt :: Rs)).toArray nr) :: (nl, W.listOf nv.toArray nk') :: (Rt.lc, W.listOf kv.toArray nk) :: fx) ++ rest := fun p hp => by
    refine List.mem_append_left _ (mem_offL (List.mem_cons_of_mem _ (List.mem_cons_of_mem _ hp)) ?_)
    rcases List.mem_cons.mp hp with rfl | hp
    · exact d1
    · rcases List.mem_cons.mp hp with rfl | hp
      · exact d2
      · rcases List.mem_cons.mp hp with rfl | hp
        · exact d3
        · exact o1 p hp
  have c : ∀ p ∈ fx, p ∈ (rl, W.listOf (refs (R0 :: Rt :: Rs)).toArray nr) :: (nl, W.listOf nv.toArray nk') :: (Rt.lc, W.listOf kv.toArray nk) :: fx := fun p hp => List.mem_cons_of_mem _ (List.mem_cons_of_mem _ (List.mem_cons_of_mem _ hp))
  have hT : TreeAt w ((rl, W.listOf (refs (R0 :: Rt :: Rs)).toArray nr) :: (nl, W.listOf nv.toArray nk') :: (Rt.lc, W.listOf kv.toArray nk) :: fx) t ⟨td, rl, k, nr, R0 :: { Rt with kv := kv, nc := nk } :: Rs⟩ := by
    refine ⟨c _ f1, c _ f2, List.mem_cons_self, ?_⟩
    refine List.forall_mem_cons.mpr ⟨f5.mono c, List.forall_mem_cons.mpr ⟨⟨c _ f3, c _ f4, List.mem_cons_of_mem _ (List.mem_cons_of_mem _ List.mem_cons_self)⟩, fun R hR => (f6 R hR).mono c⟩⟩
  refine hret _ _ _ ((src, srcO a b t1 t2 n) :: (offL src ((l, W.listOf [Value.ref t, Value.ref nl].toArray nn) :: (src, srcO a b t1 t2 n) :: (rl, W.listOf (refs (R0 :: Rt :: Rs)).toArray nr) :: (nl, W.listOf nv.toArray nk') :: (Rt.lc, W.listOf kv.toArray nk) :: fx) ++ rest)) F (lessN N fun p hp => ?_)
    ⟨a, b, t1, t2, n, _, l, t, nl, nn, xs, _, rfl, hb, offL_off, rfl, mem_offL List.mem_cons_self hl, hT.mono sub, ?_, nl, nv, nk', rfl, sub _ (List.mem_cons_of_mem _ List.mem_cons_self), g1, fun p hp => ⟨(g2 p hp).1.at, (g2 p hp).2⟩, by omega⟩
  · rcases List.mem_cons.mp hp with rfl | hp
    · exact List.mem_cons_of_mem _ List.mem_cons_self
    · rcases List.mem_append.mp hp with hp | hp
      · exact of_offL hp
      · exact List.mem_cons_of_mem _ (List.mem_cons_of_mem _ (List.mem_cons_of_mem _ (List.mem_cons_of_mem _ (List.mem_cons_of_mem _ (f7 p hp)))))
  · simp
    omega
/-- what does not change in a turn of _law_made -/
noncomputable def MadeFix (w : World) (fx rest : Led) (R0 : RD) (Rs : List RD) (xs : List (Nat × Str)) (nv : List Value) : Prop :=
  RowAt w fx R0 ∧ (∀ R ∈ Rs, RowAt w fx R) ∧ (∀ p ∈ rest, p ∈ fx) ∧ IntsAre nv (xs.map fun p => (p.1 : Int)) ∧ (∀ p ∈ xs, ElemIn Rs p.1 p.2 ∧ p.2 ∈ menuT)
noncomputable abbrev ledOf {h₀ h : Heap} {L : Addr} {news : Led} (_ : News h₀ L h news) : Led := news
/-- an address above the four places and the rest -/
noncomputable def AboveL (a src rl nl c : Addr) (fo : Led) : Prop := (@LT.lt Nat _ src a) ∧ (@LT.lt Nat _ rl a) ∧ (@LT.lt Nat _ nl a) ∧ (@LT.lt Nat _ c a) ∧ ∀ p ∈ fo, p.1 < a
theorem AboveL.ofRaw {a src rl nl c : Addr} {p1 p2 p3 p4 o1 o2 o3 o4 : Obj} {own fx fo led : Led} (_ : TbOff own ((src, p1) :: (rl, p2) :: (nl, p3) :: (c, p4) :: fx)) (z : ∀ p ∈ led, p.1 < a) (h1 : (src, o1) ∈ led) (h2 : (rl, o2) ∈ led) (h3 : (nl, o3) ∈ led) (h4 : (c, o4) ∈ led) (h5 : ∀ p ∈ fo, p ∈ led) : AboveL a src rl nl c fo :=
  ⟨z _ h1, z _ h2, z _ h3, z _ h4, fun p hp => z p (h5 p hp)⟩
theorem madeTurn {w : World} {src rl nl t td : Addr} {k : Tok} {R0 Rt R1 R2 : RD} {rest fx own X : Led} {i : Nat} {h₀ h' : Heap} {L : Addr} {m' : MV} {s₁ : Shared} {tk : Nat} {Q : Flow → Shared → Prop} {P : MV → Prop}
    {a b : Int} {t1 t2 tv1 tv1' tv2 : Tok} {n nr nn nk n1 : Nat} {Rs : List RD} {xs : List (Nat × Str)} {lv nv kv : List Value} {z1 z2 z3 : Int} {x : Str} {o1 o2 o3 o4 : Obj}
    (F : Fr h₀ L h' m') (N : News h₀ L h' X) (hP : P m') (m1 : (src, srcO a b t1 t2 n) ∈ X) (hb : SB a b)
    (m2 : (rl, W.listOf lv.toArray nr) ∈ X) (hlv : lv = refs (R0 :: Rt :: Rs) ++ [Value.ref R1.r] ++ [Value.ref R2.r])
    (m3 : (nl, W.listOf (nv ++ [Value.int z1 tv1]).toArray nn) ∈ X) (m4 : (Rt.lc, W.listOf (kv ++ [Value.int z3 tv1']).toArray nk) ∈ X) (m5 : (R1.lc, W.listOf [Value.int z2 tv2].toArray n1) ∈ X)
    (m6 : (R1.r, instObj 243 R1.rd) ∈ X) (m7 : (R1.rd, dictOf (R1.es w) 9) ∈ X) (m8 : (R2.lc, W.listOf ([] : List Value).toArray R2.nc) ∈ X) (m9 : (R2.r, instObj 243 R2.rd) ∈ X) (m10 : (R2.rd, dictOf (R2.es w) 9) ∈ X)
    (k1 : R1.kind = Str.ofString "element") (k2 : R2.kind = Str.ofString "text") (k3 : R2.value = x) (hx : x ∈ menuT) (k4 : R2.kv = [])
    (hfo : ∀ p ∈ fx ++ own, p ∈ X) (off : (∀ p ∈ fx, p.1 ≠ src) ∧ (∀ p ∈ fx, p.1 ≠ rl) ∧ (∀ p ∈ fx, p.1 ≠ nl) ∧ (∀ p ∈ fx, p.1 ≠ Rt.lc))
    (f1 : (t, instObj 432 td) ∈ fx) (f2 : (td, dictOf [enW w (Str.ofString "rows") k (.ref rl)] 1) ∈ fx) (f3 : (Rt.r, instObj 243 Rt.rd) ∈ fx) (f4 : (Rt.rd, dictOf (Rt.es w) 9) ∈ fx) (hfix : MadeFix w fx rest R0 Rs xs nv)
    (hto : TbOff own ((src, o1) :: (rl, o2) :: (nl, o3) :: (Rt.lc, o4) :: fx))
    (a1 : AboveL R1.lc src rl nl Rt.lc (fx ++ own)) (a2 : AboveL R1.r src rl nl Rt.lc (fx ++ own)) (a3 : AboveL R1.rd src rl nl Rt.lc (fx ++ own)) (a4 : AboveL R2.lc src rl nl Rt.lc (fx ++ own)) (a5 : AboveL R2.r src rl nl Rt.lc (fx ++ own)) (a6 : AboveL R2.rd src rl nl Rt.lc (fx ++ own))
    (g3 : xs.length = i) (g4 : Rs.length = 2 * i) (g5 : kv.length = i) (hz1 : z1 = ((2 * i + 2 : Nat) : Int)) (hz2 : z2 = ((2 * i + 3 : Nat) : Int)) :
    TbPost h₀ L (fun m₁ nx' => P m₁ ∧ MadeInv w src rl nl t td k R0 Rt rest (i + 1) nx') own s₁ Q .next { s₁ with heap := h', toks := tk } := by
  subst hlv hz1 hz2
  obtain ⟨f5, f6, f7, g1, g2⟩ := hfix
  have e : refs (R0 :: Rt :: (Rs ++ [{ R1 with kv := [Value.int ((2 * i + 3 : Nat) : Int) tv2], nc := n1 }, R2])) = refs (R0 :: Rt :: Rs) ++ [Value.ref R1.r] ++ [Value.ref R2.r] := by simp
  have hR2 : RowAt w X R2 := ⟨m9, m10, by rw [k4]; exact m8⟩
  have sub : ∀ p ∈ fx, p ∈ (R1.lc, W.listOf [Value.int ((2 * i + 3 : Nat) : Int) tv2].toArray n1) :: (R1.r, instObj 243 R1.rd) :: (R1.rd, dictOf (R1.es w) 9) :: (R2.lc, W.listOf ([] : List Value).toArray R2.nc) :: (R2.r, instObj 243 R2.rd) :: (R2.rd, dictOf (R2.es w) 9) :: fx := fun p hp =>
    List.mem_cons_of_mem _ (List.mem_cons_of_mem _ (List.mem_cons_of_mem _ (List.mem_cons_of_mem _ (List.mem_cons_of_mem _ (List.mem_cons_of_mem _ hp)))))
  have nsrc : ∀ {y}, AboveL y src rl nl Rt.lc (fx ++ own) → y ≠ src ∧ y ≠ rl ∧ y ≠ nl ∧ y ≠ Rt.lc := fun h => ⟨Nat.ne_of_gt h.1, Nat.ne_of_gt h.2.1, Nat.ne_of_gt h.2.2.1, Nat.ne_of_gt h.2.2.2.1⟩
  have offs : ∀ p ∈ (R1.lc, W.listOf [Value.int ((2 * i + 3 : Nat) : Int) tv2].toArray n1) :: (R1.r, instObj 243 R1.rd) :: (R1.rd, dictOf (R1.es w) 9) :: (R2.lc, W.listOf ([] : List Value).toArray R2.nc) :: (R2.r, instObj 243 R2.rd) :: (R2.rd, dictOf (R2.es w) 9) :: fx, p.1 ≠ src ∧ p.1 ≠ rl ∧ p.1 ≠ nl ∧ p.1 ≠ Rt.lc :=
    List.forall_mem_cons.mpr ⟨nsrc a1, List.forall_mem_cons.mpr ⟨nsrc a2, List.forall_mem_cons.mpr ⟨nsrc a3, List.forall_mem_cons.mpr ⟨nsrc a4, List.forall_mem_cons.mpr ⟨nsrc a5, List.forall_mem_cons.mpr ⟨nsrc a6, fun p hp => ⟨off.1 p hp, off.2.1 p hp, off.2.2.1 p hp, off.2.2.2 p hp⟩⟩⟩⟩⟩⟩⟩
  have nown : ∀ {y}, AboveL y src rl nl Rt.lc (fx ++ own) → ∀ p ∈ own, p.1 ≠ y := fun h p hp => Nat.ne_of_lt (h.2.2.2.2 p (List.mem_append_right _ hp))
  have g1len : nv.length = i := by rw [g1.length, List.length_map, g3]
  refine TbPost.next' (nx := (src, srcO a b t1 t2 n) :: (rl, W.listOf (refs (R0 :: Rt :: Rs) ++ [Value.ref R1.r] ++ [Value.ref R2.r]).toArray nr) :: (nl, W.listOf (nv ++ [Value.int ((2 * i + 2 : Nat) : Int) tv1]).toArray nn) :: (Rt.lc, W.listOf (kv ++ [Value.int z3 tv1']).toArray nk) ::
    (R1.lc, W.listOf [Value.int ((2 * i + 3 : Nat) : Int) tv2].toArray n1) :: (R1.r, instObj 243 R1.rd) :: (R1.rd, dictOf (R1.es w) 9) :: (R2.lc, W.listOf ([] : List Value).toArray R2.nc) :: (R2.r, instObj 243 R2.rd) :: (R2.rd, dictOf (R2.es w) 9) :: fx) F N ?_ (fun p hp => hfo p (List.mem_append_right _ hp)) ?_ ⟨hP, ?_⟩
  · exact List.forall_mem_cons.mpr ⟨m1, List.forall_mem_cons.mpr ⟨m2, List.forall_mem_cons.mpr ⟨m3, List.forall_mem_cons.mpr ⟨m4, List.forall_mem_cons.mpr ⟨m5, List.forall_mem_cons.mpr ⟨m6, List.forall_mem_cons.mpr ⟨m7, List.forall_mem_cons.mpr ⟨m8, List.forall_mem_cons.mpr ⟨m9, List.forall_mem_cons.mpr ⟨m10, fun p hp => hfo p (List.mem_append_left _ hp)⟩⟩⟩⟩⟩⟩⟩⟩⟩⟩
  · intro p hp
    refine List.forall_mem_cons.mpr ⟨hto p hp (src, o1) List.mem_cons_self, List.forall_mem_cons.mpr ⟨hto p hp (rl, o2) (List.mem_cons_of_mem _ List.mem_cons_self), List.forall_mem_cons.mpr ⟨hto p hp (nl, o3) (List.mem_cons_of_mem _ (List.mem_cons_of_mem _ List.mem_cons_self)), List.forall_mem_cons.mpr ⟨hto p hp (Rt.lc, o4) (List.mem_cons_of_mem _ (List.mem_cons_of_mem _ (List.mem_cons_of_mem _ List.mem_cons_self))), ?_⟩⟩⟩⟩
    exact List.forall_mem_cons.mpr ⟨nown a1 p hp, List.forall_mem_cons.mpr ⟨nown a2 p hp, List.forall_mem_cons.mpr ⟨nown a3 p hp, List.forall_mem_cons.mpr ⟨nown a4 p hp, List.forall_mem_cons.mpr ⟨nown a5 p hp, List.forall_mem_cons.mpr ⟨nown a6 p hp, fun q hq => hto p hp q (List.mem_cons_of_mem _ (List.mem_cons_of_mem _ (List.mem_cons_of_mem _ (List.mem_cons_of_mem _ hq))))⟩⟩⟩⟩⟩⟩
  · refine ⟨a, b, t1, t2, n, nr, nn, nk, _, Rs ++ [{ R1 with kv := [Value.int ((2 * i + 3 : Nat) : Int) tv2], nc := n1 }, R2], xs ++ [(2 * i + 2, x)], nv ++ [Value.int ((2 * i + 2 : Nat) : Int) tv1], kv ++ [Value.int z3 tv1'], ?_, hb, ⟨fun p hp => (offs p hp).1, fun p hp => (offs p hp).2.1, fun p hp => (offs p hp).2.2.1, fun p hp => (offs p hp).2.2.2⟩,
      ⟨sub _ f1, sub _ f2, sub _ f3, sub _ f4, f5.mono sub, ?_, fun p hp => sub p (f7 p hp)⟩, ?_, ?_, ?_, ?_, ?_⟩
    · rw [e]
    · intro R hR
      rcases List.mem_append.mp hR with hR | hR
      · exact (f6 R hR).mono sub
      · rcases List.mem_cons.mp hR with rfl | hR
        · exact ⟨List.mem_cons_of_mem _ List.mem_cons_self, List.mem_cons_of_mem _ (List.mem_cons_of_mem _ List.mem_cons_self), List.mem_cons_self⟩
        · rw [List.mem_singleton.mp hR]
          refine ⟨by k_mem, by k_mem, ?_⟩
          rw [k4]
          k_mem
    · rw [List.map_append]
      exact IntsAre.append g1 (.cons _ _ .nil)
    · intro p hp
      rcases List.mem_append.mp hp with hp | hp
      · exact ⟨(g2 p hp).1.app, (g2 p hp).2⟩
      · rw [List.mem_singleton.mp hp]
        refine ⟨⟨2 * i, { R1 with kv := [Value.int ((2 * i + 3 : Nat) : Int) tv2], nc := n1 }, 2 * i + 1, R2, tv2, rfl, ?_, k1, rfl, ?_, k2, k3, k4⟩, hx⟩
        · rw [List.getElem?_append_right (by omega), g4, Nat.sub_self]
          rfl
        · rw [List.getElem?_append_right (by omega), g4, show 2 * i + 1 - 2 * i = 1 by omega]
          rfl
    · simp [g3]
    · simp [g4]
      omega
    · simp [g5]
end
section
local macro_rules | `(tactic| walk_at "call ref") => `(tactic| (k_here; (first | (with_reducible show wpAny _ _ (PySem.call (Value.ref 282) _) _ _ _) | (with_reducible show wpAny _ _ (PySem.call (Value.ref 296) _) _ _ _) | (with_reducible show wpAny _ _ (PySem.call (Value.ref 303) _) _ _ _)); k_dflt (refine wpAny_call ?_; (refine' code_def ?k1 ?k2 ?k3 ?k4 ?k5 ?kA ?kF ?kK ?k6 ?k7 ?k8 ?k9 ?kB ?_ ?c2 ?c3 ?c4 ?c5; (case kA => exact rfl); (case kF => exact rfl); (case kK => first | exact rfl | assumption); (case k1 => k_asm); (case k2 => k_asm); (case k3 => k_asm); (case k4 => k_asm); (case k5 => k_asm); (case k6 => k_is); (case k7 => k_is); (case k8 => ktr_room); (case k9 => exact BindsTo.of_eq rfl); (case c5 => decide); (case kB => exact locs rfl); (case c2 => exact rfl); (case c3 => exact rfl); (case c4 => exact rfl); k_whole; intro g' L' h' FG' F' N' B' X' T'; (try dsimp only); (try k_fold)))))
local macro_rules | `(tactic| walk_at "callWith ref nil nil") => `(tactic| (k_here; k_dflt ( refine' callWith_K0 ?k1 ?k2 ?_; (case k1 => first | with_reducible assumption | exact Frag.In.keeps (by k_asm) (Fr.keep (by k_asm))); (case k2 => k_is); k_whole)))
local macro_rules | `(tactic| walk_at "exec For Name Call cons nil") => `(tactic| (k_here; (rename Fr _ _ _ _ => lF'); (with_unfolding_all refine' For_invVF lF' ?k1 ?k2 ?_; (case k1 => exact rfl); (case k2 => exact rfl); k_whole)))
local macro_rules | `(tactic| walk_at "TbPost") => `(tactic| refine Halt.go ?_)
local macro_rules | `(tactic| walk_at "call builtin:list.append") => `(tactic| (k_here; k_dflt (refine' appendU ?F ?N ?U ?l ?_; (case F => k_asm); (case N => k_asm); (case U => k_updF); (case l => first | omega | (simp; omega))); intro h' o' ho' F' N'; subst ho'; (try dsimp only at N')))
theorem srcIn {w : World} {src rl nl t td : Addr} {k : Tok} {R0 Rt : RD} {rest nx : Led} {i : Nat} (hJ : MadeInv w src rl nl t td k R0 Rt rest i nx) : ∃ o, (src, o) ∈ nx := by
  obtain ⟨a, b, t1, t2, n, nr, nk', nk, fx, Rs, xs, nv, kv, rfl, hb, _⟩ := hJ
  exact ⟨_, List.mem_cons_self⟩
theorem offBoth {fx own nx : Led} {a : Addr} {o : Obj} (h : ∀ p ∈ fx, p.1 ≠ a) (ht : TbOff own nx) (hm : (a, o) ∈ nx) : ∀ p ∈ fx ++ own, p.1 ≠ a := fun p hp => by
  rcases List.mem_append.mp hp with hp | hp
  · exact h p hp
  · exact ht p hp _ hm
theorem getLastApp {l : List Value} {v : Value} : (l ++ [v])[l.length]? = some v := by simp
theorem listLast {prog : Program} {w : World} {A : Around} {E : Value → Shared → Prop} {s : Shared} {h₀ : Heap} {L l : Addr} {news : Led} {value slice : PySem.Expr} {vs : List Value} {n : Nat} {u : Tok} {v : Value} {Q : Value → Shared → Prop}
    (N : News h₀ L s.heap news) (hm : (l, W.listOf (vs ++ [v]).toArray n) ∈ news) (h : Q v s)
    (hs : subscripted slice false (.ref l) (.int (-1) u) = operate [.ref l, .int (-1) u] (getItem (.ref l) (.int (-1) u)) := by with_unfolding_all rfl) :
    wpAny (model prog w) A (subscriptTail value slice (.ref l) (.int (-1) u)) Q E s := by
  have hl := listIs N hm
  have e : ((-1 : Int) + ((vs ++ [v]).toArray.size : Int)).toNat = vs.length := by
    simp only [List.size_toArray, List.length_append, List.length_singleton]
    omega
  refine tail_any hl.typeIs slot_list_getitem.lookup (wpAny_getItem_list_neg hl (by decide) (by simp only [List.size_toArray, List.length_append, List.length_singleton]; omega) (by decide) ?_ h) hs
  rw [e]
  simp
local macro_rules | `(tactic| walk_at "pyIter ref") => `(tactic| refine Halt.go ?_)
theorem ex13 {α β γ δ ε ζ η θ ι κ μ ν ξ : Type} {P : α → β → γ → δ → ε → ζ → η → θ → ι → κ → μ → ν → ξ → Prop} {G : Prop} (h : ∃ x1 x2 x3 x4 x5 x6 x7 x8 x9 x10 x11 x12 x13, P x1 x2 x3 x4 x5 x6 x7 x8 x9 x10 x11 x12 x13) (k : ∀ x1 x2 x3 x4 x5 x6 x7 x8 x9 x10 x11 x12 x13, P x1 x2 x3 x4 x5 x6 x7 x8 x9 x10 x11 x12 x13 → G) : G := by obtain ⟨x1, x2, x3, x4, x5, x6, x7, x8, x9, x10, x11, x12, x13, h⟩ := h; exact k x1 x2 x3 x4 x5 x6 x7 x8 x9 x10 x11 x12 x13 h
theorem anMade {e hb o1 o2 o3 o4 f1 f2 f3 f4 f5 f6 f7 g1 g2 g3 g4 g5 G : Prop} (h : e ∧ hb ∧ (o1 ∧ o2 ∧ o3 ∧ o4) ∧ (f1 ∧ f2 ∧ f3 ∧ f4 ∧ f5 ∧ f6 ∧ f7) ∧ g1 ∧ g2 ∧ g3 ∧ g4 ∧ g5) (k : e → hb → o1 → o2 → o3 → o4 → f1 → f2 → f3 → f4 → f5 → f6 → f7 → g1 → g2 → g3 → g4 → g5 → G) : G := by obtain ⟨a1, a2, ⟨b1, b2, b3, b4⟩, ⟨c1, c2, c3, c4, c5, c6, c7⟩, d1, d2, d3, d4, d5⟩ := h; exact k a1 a2 b1 b2 b3 b4 c1 c2 c3 c4 c5 c6 c7 d1 d2 d3 d4 d5
theorem law_made_sp (w : World) (mean : ExcName → Option Value) (mg mb : MV) (rest : Led) (src : Addr) (a b : Int) (t1 t2 : Tok) (k : Nat) (hoff : ∀ p ∈ rest, p.1 ≠ src) (hb : SB a b) :
   Sp w mean mg mb 509 [.ref src] 30 1500 ((src, srcO a b t1 t2 k) :: rest) (MPost w src rest) := by
  intro dp un gd cn cs aa ccd cl outer A₀ base h₀ L m s Q E B F X N T hk hd hu hret
  refine wpAny_call ?_
  k_dflt ktr_enter
  (repeat' (first | (k_unfold; (try dsimp only)) | (k_end; wrow_close) | ((with_reducible show wpAny _ _ (PySem.call (Value.ref _) _) _ _ _); first | ((with_reducible show wpAny _ _ (PySem.call (Value.ref 289) _) _ _ _); refine Halt.go ?_) | (k_here; (with_reducible show wpAny _ _ (PySem.call (Value.ref 432) _) _ _ _); k_dflt (refine' call_cls ?k1 ?k2 ?k3 ?k4 ?k5 ?k6 ?_; (case k1 => k_asm); (case k2 => k_asm); (case k3 => k_asm); (case k4 => k_is); (case k5 => k_is); (case k6 => k_is); k_whole; intro _ _ h' F' N' _ _; (try k_sweep); (refine' code_def ?j1 ?j2 ?j3 ?j4 ?j5 ?jA ?jF ?jK ?j6 ?j7 ?j8 ?j9 ?jB ?_ ?c2 ?c3 ?c4 ?c5; (case jA => exact rfl); (case jF => exact rfl); (case jK => first | exact rfl | assumption); (case j1 => k_asm); (case j2 => k_asm); (case j3 => k_asm); (case j4 => k_asm); (case j5 => k_asm); (case j6 => k_is); (case j7 => k_is); (case j8 => ktr_room); (case j9 => exact BindsTo.of_eq rfl); (case c5 => decide); (case jB => exact locs rfl); (case c2 => exact rfl); (case c3 => exact rfl); (case c4 => exact rfl); k_whole; intro _ _ _ _ _ _ _ _ _; (try dsimp only); (try k_fold)))) | (k_here; (with_reducible show wpAny _ _ (PySem.call (Value.ref 268) _) _ _ _); k_dflt (refine' useNew (C := new_row_open _ _ _ _ _ _ _ _ _ _ _ _ _ _ _ _ _ _ _ _ (by k_mem) (by k_mem) (by k_updF) (by first | with_reducible assumption | exact Nat.le_of_ble_eq_true rfl)) (h := ?_); intro _ _ _ _ _ _ N9 _ _ _ _ _ _ _ _; (try dsimp only at N9); (try k_sweep); (try dsimp only))) | (k_here; (with_reducible show wpAny _ _ (PySem.call (Value.ref 464) _) _ _ _); k_dflt ((refine' useX (C := (law_texts_sp _ _ _ _ _)) (h := ?_); intro _ _ _ _ _ _ _ _; (try k_sweep); (try dsimp only)))) | (k_here; (with_reducible show wpAny _ _ (PySem.call (Value.ref 457) _) _ _ _); k_dflt ((refine' useO (C := (one_upd _ _ _ _ _ _ _ _ _ _ _ _ _ _ _ (by k_updF) (by with_reducible assumption) (by k_mem) (by k_ne) (by first | decide | omega | simp) (by first | decide | omega | simp))) (h := ?_); intro _ _ _ _ _ _ _ _ _ _ _ _ _; (try k_sweep); (try dsimp only)))) | (k_here; (with_reducible show wpAny _ _ (PySem.call (Value.ref 450) _) _ _ _); k_dflt ((refine' useT (C := (take_upd _ _ _ _ _ _ _ _ _ _ _ _ _ _ (by k_updF) (by with_reducible assumption) (by omega) (by omega))) (h := ?_); intro _ _ _ _ _ _ _ _ _ _ _ _ _ _; (try k_sweep); (try dsimp only)))) | fail) | (k_here; (with_reducible show wpAny _ _ (subscriptTail (PySem.Expr.Name ..) _ (Value.ref _) (Value.int (-1) _)) _ _ _); k_dflt (refine' listLast (by k_asm) (by k_mem) ?_ (by with_unfolding_all rfl))) | (k_here; (with_reducible show wpAny _ _ (subscriptTail _ _ (Value.ref _) (Value.int (-1) _)) _ _ _); k_dflt (refine' listLast (by k_asm) (by k_mem) ?_ (by with_unfolding_all rfl))) | (k_here; (with_reducible show wpAny _ _ (call (Value.type _) [Value.int _ _]) _ _ _); k_dflt (refine' range1_rows (by k_asm) (by k_asm) ?_); intro _ _ _ _ _ _ _ _ _) | (k_here; (with_reducible show wpAny _ _ (call (Value.builtin _) [Value.ref _]) _ _ _); k_dflt ( refine' sorted_texts (by exact rfl) (by ktr_units) (by k_asm) (by k_asm) (by exact TextsAt.mono (by with_reducible assumption) (fun _ hp => List.mem_append_left _ hp)) ?_; intro _ _ _ _ _ _ N' l1 hM'; replace N' := dropApp N'; replace l1 := dropLt l1; (have q' := And.left hM'))) | (k_here; (with_reducible show wpAny _ _ (callWith _ (Value.builtin _) [_] _ _) _ _ _); (with_reducible refine' callWith_method1 ?_ (by k_dflt (rfl)) (by k_dflt (rfl)))) | walk1 | (dsimp only; walk1) | (dsimp only; with_reducible show wpAny _ _ _ _ _ _) | (leave1; (try dsimp only)) | fail "no step"))
  rename RD => R0
  unfold Halt
  k_here
  k_dflt (refine' useAdd (C := (add_child_open _ _ _ _ _ _ _ _ _ _ _ [] _ _ _ _ _ _ _ _ _ _ _ _ R0 (by k_mem) (by k_mem) (by k_updF) (fun o9 => by k_updF) (Nat.le_of_ble_eq_true rfl) (Nat.le_of_ble_eq_true rfl) (by k_mem) (by k_mem) (.inl (by assumption)) rfl)) (h := ?_))
  intro h9 tk9 Rt nr9 nk9 tv9 F9 N9 a9 b9 c9 l7 l8 l9 n7 n8
  (try dsimp only at N9)
  (try k_lt l7)
  (try k_lt l8)
  (try k_lt l9)
  (try k_sweep)
  (try dsimp only)
  (repeat' (first | (k_unfold; (try dsimp only)) | (k_end; wrow_close) | ((with_reducible show wpAny _ _ (PySem.call (Value.ref _) _) _ _ _); first | ((with_reducible show wpAny _ _ (PySem.call (Value.ref 289) _) _ _ _); refine Halt.go ?_) | (k_here; (with_reducible show wpAny _ _ (PySem.call (Value.ref 432) _) _ _ _); k_dflt (refine' call_cls ?k1 ?k2 ?k3 ?k4 ?k5 ?k6 ?_; (case k1 => k_asm); (case k2 => k_asm); (case k3 => k_asm); (case k4 => k_is); (case k5 => k_is); (case k6 => k_is); k_whole; intro _ _ h' F' N' _ _; (try k_sweep); (refine' code_def ?j1 ?j2 ?j3 ?j4 ?j5 ?jA ?jF ?jK ?j6 ?j7 ?j8 ?j9 ?jB ?_ ?c2 ?c3 ?c4 ?c5; (case jA => exact rfl); (case jF => exact rfl); (case jK => first | exact rfl | assumption); (case j1 => k_asm); (case j2 => k_asm); (case j3 => k_asm); (case j4 => k_asm); (case j5 => k_asm); (case j6 => k_is); (case j7 => k_is); (case j8 => ktr_room); (case j9 => exact BindsTo.of_eq rfl); (case c5 => decide); (case jB => exact locs rfl); (case c2 => exact rfl); (case c3 => exact rfl); (case c4 => exact rfl); k_whole; intro _ _ _ _ _ _ _ _ _; (try dsimp only); (try k_fold)))) | (k_here; (with_reducible show wpAny _ _ (PySem.call (Value.ref 268) _) _ _ _); k_dflt (refine' useNew (C := new_row_open _ _ _ _ _ _ _ _ _ _ _ _ _ _ _ _ _ _ _ _ (by k_mem) (by k_mem) (by k_updF) (by first | with_reducible assumption | exact Nat.le_of_ble_eq_true rfl)) (h := ?_); intro _ _ _ _ _ _ N9 _ _ _ _ _ _ _ _; (try dsimp only at N9); (try k_sweep); (try dsimp only))) | (k_here; (with_reducible show wpAny _ _ (PySem.call (Value.ref 464) _) _ _ _); k_dflt ((refine' useX (C := (law_texts_sp _ _ _ _ _)) (h := ?_); intro _ _ _ _ _ _ _ _; (try k_sweep); (try dsimp only)))) | (k_here; (with_reducible show wpAny _ _ (PySem.call (Value.ref 457) _) _ _ _); k_dflt ((refine' useO (C := (one_upd _ _ _ _ _ _ _ _ _ _ _ _ _ _ _ (by k_updF) (by with_reducible assumption) (by k_mem) (by k_ne) (by first | decide | omega | simp) (by first | decide | omega | simp))) (h := ?_); intro _ _ _ _ _ _ _ _ _ _ _ _ _; (try k_sweep); (try dsimp only)))) | (k_here; (with_reducible show wpAny _ _ (PySem.call (Value.ref 450) _) _ _ _); k_dflt ((refine' useT (C := (take_upd _ _ _ _ _ _ _ _ _ _ _ _ _ _ (by k_updF) (by with_reducible assumption) (by omega) (by omega))) (h := ?_); intro _ _ _ _ _ _ _ _ _ _ _ _ _ _; (try k_sweep); (try dsimp only)))) | fail) | (k_here; (with_reducible show wpAny _ _ (subscriptTail (PySem.Expr.Name ..) _ (Value.ref _) (Value.int (-1) _)) _ _ _); k_dflt (refine' listLast (by k_asm) (by k_mem) ?_ (by with_unfolding_all rfl))) | (k_here; (with_reducible show wpAny _ _ (subscriptTail _ _ (Value.ref _) (Value.int (-1) _)) _ _ _); k_dflt (refine' listLast (by k_asm) (by k_mem) ?_ (by with_unfolding_all rfl))) | (k_here; (with_reducible show wpAny _ _ (call (Value.type _) [Value.int _ _]) _ _ _); k_dflt (refine' range1_rows (by k_asm) (by k_asm) ?_); intro _ _ _ _ _ _ _ _ _) | (k_here; (with_reducible show wpAny _ _ (call (Value.builtin _) [Value.ref _]) _ _ _); k_dflt ( refine' sorted_texts (by exact rfl) (by ktr_units) (by k_asm) (by k_asm) (by exact TextsAt.mono (by with_reducible assumption) (fun _ hp => List.mem_append_left _ hp)) ?_; intro _ _ _ _ _ _ N' l1 hM'; replace N' := dropApp N'; replace l1 := dropLt l1; (have q' := And.left hM'))) | (k_here; (with_reducible show wpAny _ _ (callWith _ (Value.builtin _) [_] _ _) _ _ _); (with_reducible refine' callWith_method1 ?_ (by k_dflt (rfl)) (by k_dflt (rfl)))) | walk1 | (dsimp only; walk1) | (dsimp only; with_reducible show wpAny _ _ _ _ _ _) | (leave1; (try dsimp only)) | fail "no step"))
  unfold Halt
  (rename News _ _ _ _ => N8)
  (rename IsRange _ _ _ _ _ _ _ _ => rgX)
  obtain ⟨nx, R0', Nx, hJ0⟩ := madeStart2 N8 rfl (by assumption) (by (refine' ltSub (by with_reducible assumption) (fun p hp => ?m); (case m => k_mem))) hoff (by (refine' ltL (by with_reducible assumption) ?m; (case m => k_mem))) (by (refine' ltL (by with_reducible assumption) ?m; (case m => k_mem))) (by (refine' ltL (by with_reducible assumption) ?m; (case m => k_mem))) (by (refine' ltL (by with_reducible assumption) ?m; (case m => k_mem))) (by (refine' ltL (by with_reducible assumption) ?m; (case m => k_mem)))
  refine' rangeLed [Str.ofString "turn"] (MadeInv w src _ _ _ _ _ _ Rt rest) ?hh rgX ?sm (rangeSize_nat _ _) ?F ?hL Nx hJ0 ?turn ?done
  case hh => exact rfl
  case sm => exact small_one (by decide) (by decide) (by omega) (by omega)
  case F => k_asm
  case hL => exact rfl
  case turn =>
    intro i k' t' u nx' h tk own hi hk' hto hJ F3 N3
    refine ex13 hJ fun a' b' s1 s2 n' nr nn nk fx Rs xs nv kv hJ2 => ?_
    refine anMade hJ2 fun e9 hb' o1 o2 o3 o4 f1 f2 f3 f4 f5 f6 f7 g1 g2 g3 g4 g5 => ?_
    clear hJ hJ2
    subst e9
    have hi5 : i < 5 := by omega
    have hnv : nv.length = i := by rw [g1.length, List.length_map, g3]
    simp only [List.cons_append] at N3
    obtain ⟨fo, hfo⟩ : ∃ fo, fo = fx ++ own := ⟨_, rfl⟩
    rw [← hfo] at N3
    have up : ∀ p ∈ fx, p ∈ fo := fun p hp => by rw [hfo]; exact List.mem_append_left _ hp
    have oo1 := offBoth o1 hto List.mem_cons_self
    have oo2 := offBoth o2 hto (List.mem_cons_of_mem _ List.mem_cons_self)
    have oo3 := offBoth o3 hto (List.mem_cons_of_mem _ (List.mem_cons_of_mem _ List.mem_cons_self))
    have oo4 := offBoth o4 hto (List.mem_cons_of_mem _ (List.mem_cons_of_mem _ (List.mem_cons_of_mem _ List.mem_cons_self)))
    rw [← hfo] at oo1 oo2 oo3 oo4
    have hfix : MadeFix w fx rest R0' Rs xs nv := ⟨f5, f6, f7, g1, g2⟩
    clear f5 f6 f7 g1 g2
    have ff1 := up _ f1
    have ff2 := up _ f2
    have ff3 := up _ f3
    have ff4 := up _ f4
    clear N8 Nx hJ0
    (repeat' (first | (k_unfold; (try dsimp only)) | (k_end; wrow_close) | ((with_reducible show wpAny _ _ (PySem.call (Value.ref _) _) _ _ _); first | ((with_reducible show wpAny _ _ (PySem.call (Value.ref 289) _) _ _ _); refine Halt.go ?_) | (k_here; (with_reducible show wpAny _ _ (PySem.call (Value.ref 432) _) _ _ _); k_dflt (refine' call_cls ?k1 ?k2 ?k3 ?k4 ?k5 ?k6 ?_; (case k1 => k_asm); (case k2 => k_asm); (case k3 => k_asm); (case k4 => k_is); (case k5 => k_is); (case k6 => k_is); k_whole; intro _ _ h' F' N' _ _; (try k_sweep); (refine' code_def ?j1 ?j2 ?j3 ?j4 ?j5 ?jA ?jF ?jK ?j6 ?j7 ?j8 ?j9 ?jB ?_ ?c2 ?c3 ?c4 ?c5; (case jA => exact rfl); (case jF => exact rfl); (case jK => first | exact rfl | assumption); (case j1 => k_asm); (case j2 => k_asm); (case j3 => k_asm); (case j4 => k_asm); (case j5 => k_asm); (case j6 => k_is); (case j7 => k_is); (case j8 => ktr_room); (case j9 => exact BindsTo.of_eq rfl); (case c5 => decide); (case jB => exact locs rfl); (case c2 => exact rfl); (case c3 => exact rfl); (case c4 => exact rfl); k_whole; intro _ _ _ _ _ _ _ _ _; (try dsimp only); (try k_fold)))) | (k_here; (with_reducible show wpAny _ _ (PySem.call (Value.ref 268) _) _ _ _); k_dflt (refine' useNew (C := new_row_open _ _ _ _ _ _ _ _ _ _ _ _ _ _ _ _ _ _ _ _ (by k_mem) (by k_mem) (by k_updF) (by first | with_reducible assumption | exact Nat.le_of_ble_eq_true rfl)) (h := ?_); intro _ _ _ _ _ _ N9 _ _ _ _ _ _ _ _; (try dsimp only at N9); (try k_sweep); (try dsimp only))) | (k_here; (with_reducible show wpAny _ _ (PySem.call (Value.ref 464) _) _ _ _); k_dflt ((refine' useX (C := (law_texts_sp _ _ _ _ _)) (h := ?_); intro _ _ _ _ _ _ _ _; (try k_sweep); (try dsimp only)))) | (k_here; (with_reducible show wpAny _ _ (PySem.call (Value.ref 457) _) _ _ _); k_dflt ((refine' useO (C := (one_upd _ _ _ _ _ _ _ _ _ _ _ _ _ _ _ (by k_updF) (by with_reducible assumption) (by k_mem) (by k_ne) (by first | decide | omega | simp) (by first | decide | omega | simp))) (h := ?_); intro _ _ _ _ _ _ _ _ _ _ _ _ _; (try k_sweep); (try dsimp only)))) | (k_here; (with_reducible show wpAny _ _ (PySem.call (Value.ref 450) _) _ _ _); k_dflt ((refine' useT (C := (take_upd _ _ _ _ _ _ _ _ _ _ _ _ _ _ (by k_updF) (by with_reducible assumption) (by omega) (by omega))) (h := ?_); intro _ _ _ _ _ _ _ _ _ _ _ _ _ _; (try k_sweep); (try dsimp only)))) | fail) | (k_here; (with_reducible show wpAny _ _ (subscriptTail (PySem.Expr.Name ..) _ (Value.ref _) (Value.int (-1) _)) _ _ _); k_dflt (refine' listLast (by k_asm) (by k_mem) ?_ (by with_unfolding_all rfl))) | (k_here; (with_reducible show wpAny _ _ (subscriptTail _ _ (Value.ref _) (Value.int (-1) _)) _ _ _); k_dflt (refine' listLast (by k_asm) (by k_mem) ?_ (by with_unfolding_all rfl))) | (k_here; (with_reducible show wpAny _ _ (call (Value.type _) [Value.int _ _]) _ _ _); k_dflt (refine' range1_rows (by k_asm) (by k_asm) ?_); intro _ _ _ _ _ _ _ _ _) | (k_here; (with_reducible show wpAny _ _ (call (Value.builtin _) [Value.ref _]) _ _ _); k_dflt ( refine' sorted_texts (by exact rfl) (by ktr_units) (by k_asm) (by k_asm) (by exact TextsAt.mono (by with_reducible assumption) (fun _ hp => List.mem_append_left _ hp)) ?_; intro _ _ _ _ _ _ N' l1 hM'; replace N' := dropApp N'; replace l1 := dropLt l1; (have q' := And.left hM'))) | (k_here; (with_reducible show wpAny _ _ (callWith _ (Value.builtin _) [_] _ _) _ _ _); (with_reducible refine' callWith_method1 ?_ (by k_dflt (rfl)) (by k_dflt (rfl)))) | walk1 | (dsimp only; walk1) | (dsimp only; with_reducible show wpAny _ _ _ _ _ _) | (leave1; (try dsimp only)) | fail "no step"))
    unfold Halt
    k_here
    k_dflt (refine' useAdd (C := (add_child_open _ _ _ _ _ _ _ _ _ _ _ kv _ _ _ _ _ _ _ _ _ _ _ _ Rt (by k_mem) (by k_mem) (by k_updF) (fun o9 => by k_updF) (by simp; omega) (by omega) (by k_mem) (by k_mem) (.inr (by assumption)) rfl)) (h := ?_))
    intro h9 tk9 R1 nr9 nk9 tv9 F9 N9 a9 b9 c9 l7 l8 l9 n7 n8
    have z1 := AboveL.ofRaw (fo := fo) hto l7 (by k_mem) (by k_mem) (by k_mem) (by k_mem) (fun p hp => by k_mem)
    have z2 := AboveL.ofRaw (fo := fo) hto l8 (by k_mem) (by k_mem) (by k_mem) (by k_mem) (fun p hp => by k_mem)
    have z3 := AboveL.ofRaw (fo := fo) hto l9 (by k_mem) (by k_mem) (by k_mem) (by k_mem) (fun p hp => by k_mem)
    (try dsimp only at N9)
    (try k_lt l7)
    (try k_lt l8)
    (try k_lt l9)
    (try k_sweep)
    (try dsimp only)
    (repeat' (first | (k_unfold; (try dsimp only)) | (k_end; wrow_close) | ((with_reducible show wpAny _ _ (PySem.call (Value.ref _) _) _ _ _); first | ((with_reducible show wpAny _ _ (PySem.call (Value.ref 289) _) _ _ _); refine Halt.go ?_) | (k_here; (with_reducible show wpAny _ _ (PySem.call (Value.ref 432) _) _ _ _); k_dflt (refine' call_cls ?k1 ?k2 ?k3 ?k4 ?k5 ?k6 ?_; (case k1 => k_asm); (case k2 => k_asm); (case k3 => k_asm); (case k4 => k_is); (case k5 => k_is); (case k6 => k_is); k_whole; intro _ _ h' F' N' _ _; (try k_sweep); (refine' code_def ?j1 ?j2 ?j3 ?j4 ?j5 ?jA ?jF ?jK ?j6 ?j7 ?j8 ?j9 ?jB ?_ ?c2 ?c3 ?c4 ?c5; (case jA => exact rfl); (case jF => exact rfl); (case jK => first | exact rfl | assumption); (case j1 => k_asm); (case j2 => k_asm); (case j3 => k_asm); (case j4 => k_asm); (case j5 => k_asm); (case j6 => k_is); (case j7 => k_is); (case j8 => ktr_room); (case j9 => exact BindsTo.of_eq rfl); (case c5 => decide); (case jB => exact locs rfl); (case c2 => exact rfl); (case c3 => exact rfl); (case c4 => exact rfl); k_whole; intro _ _ _ _ _ _ _ _ _; (try dsimp only); (try k_fold)))) | (k_here; (with_reducible show wpAny _ _ (PySem.call (Value.ref 268) _) _ _ _); k_dflt (refine' useNew (C := new_row_open _ _ _ _ _ _ _ _ _ _ _ _ _ _ _ _ _ _ _ _ (by k_mem) (by k_mem) (by k_updF) (by first | with_reducible assumption | exact Nat.le_of_ble_eq_true rfl)) (h := ?_); intro _ _ _ _ _ _ N9 _ _ _ _ _ _ _ _; (try dsimp only at N9); (try k_sweep); (try dsimp only))) | (k_here; (with_reducible show wpAny _ _ (PySem.call (Value.ref 464) _) _ _ _); k_dflt ((refine' useX (C := (law_texts_sp _ _ _ _ _)) (h := ?_); intro _ _ _ _ _ _ _ _; (try k_sweep); (try dsimp only)))) | (k_here; (with_reducible show wpAny _ _ (PySem.call (Value.ref 457) _) _ _ _); k_dflt ((refine' useO (C := (one_upd _ _ _ _ _ _ _ _ _ _ _ _ _ _ _ (by k_updF) (by with_reducible assumption) (by k_mem) (by k_ne) (by first | decide | omega | simp) (by first | decide | omega | simp))) (h := ?_); intro _ _ _ _ _ _ _ _ _ _ _ _ _; (try k_sweep); (try dsimp only)))) | (k_here; (with_reducible show wpAny _ _ (PySem.call (Value.ref 450) _) _ _ _); k_dflt ((refine' useT (C := (take_upd _ _ _ _ _ _ _ _ _ _ _ _ _ _ (by k_updF) (by with_reducible assumption) (by omega) (by omega))) (h := ?_); intro _ _ _ _ _ _ _ _ _ _ _ _ _ _; (try k_sweep); (try dsimp only)))) | fail) | (k_here; (with_reducible show wpAny _ _ (subscriptTail (PySem.Expr.Name ..) _ (Value.ref _) (Value.int (-1) _)) _ _ _); k_dflt (refine' listLast (by k_asm) (by k_mem) ?_ (by with_unfolding_all rfl))) | (k_here; (with_reducible show wpAny _ _ (subscriptTail _ _ (Value.ref _) (Value.int (-1) _)) _ _ _); k_dflt (refine' listLast (by k_asm) (by k_mem) ?_ (by with_unfolding_all rfl))) | (k_here; (with_reducible show wpAny _ _ (call (Value.type _) [Value.int _ _]) _ _ _); k_dflt (refine' range1_rows (by k_asm) (by k_asm) ?_); intro _ _ _ _ _ _ _ _ _) | (k_here; (with_reducible show wpAny _ _ (call (Value.builtin _) [Value.ref _]) _ _ _); k_dflt ( refine' sorted_texts (by exact rfl) (by ktr_units) (by k_asm) (by k_asm) (by exact TextsAt.mono (by with_reducible assumption) (fun _ hp => List.mem_append_left _ hp)) ?_; intro _ _ _ _ _ _ N' l1 hM'; replace N' := dropApp N'; replace l1 := dropLt l1; (have q' := And.left hM'))) | (k_here; (with_reducible show wpAny _ _ (callWith _ (Value.builtin _) [_] _ _) _ _ _); (with_reducible refine' callWith_method1 ?_ (by k_dflt (rfl)) (by k_dflt (rfl)))) | walk1 | (dsimp only; walk1) | (dsimp only; with_reducible show wpAny _ _ _ _ _ _) | (leave1; (try dsimp only)) | fail "no step"))
    unfold Halt
    k_here
    (rename MenuL _ => hM9)
    (rename _[_]? = some _ => gI9)
    obtain ⟨x, tx, rfl, hx⟩ := hM9.2 _ (List.mem_of_getElem? gI9)
    (rename News _ _ _ _ => NN)
    have y1 : (R1.r, instObj 243 R1.rd) ∈ ledOf NN := by dsimp only [ledOf]; k_mem
    have y2 : (R1.rd, dictOf (R1.es w) 9) ∈ ledOf NN := by dsimp only [ledOf]; k_mem
    (rename Fr _ _ _ _ => FF)
    k_dflt (refine' useAdd (F := FF) (N := NN) (C := (add_child_open _ _ _ _ _ _ _ _ _ _ _ [] _ _ _ _ _ _ _ _ _ _ _ _ R1 (by k_mem) (by k_mem) (by k_updF) (fun o9 => by k_updF) (by simp; omega) (Nat.le_of_ble_eq_true rfl) y1 y2 (.inr (by assumption)) (getLastApp (l := refs (R0' :: Rt :: Rs))))) (h := ?_))
    intro h9 tk9 R2 nr9 nk9 tv9 F9 N9 a9 b9 c9 l7 l8 l9 n7 n8
    have z4 := AboveL.ofRaw (fo := fo) hto l7 (by k_mem) (by k_mem) (by k_mem) (by k_mem) (fun p hp => by k_mem)
    have z5 := AboveL.ofRaw (fo := fo) hto l8 (by k_mem) (by k_mem) (by k_mem) (by k_mem) (fun p hp => by k_mem)
    have z6 := AboveL.ofRaw (fo := fo) hto l9 (by k_mem) (by k_mem) (by k_mem) (by k_mem) (fun p hp => by k_mem)
    (try dsimp only at N9)
    clear l7 l8 l9
    (try k_sweep)
    (try dsimp only)
    (repeat' (first | (k_unfold; (try dsimp only)) | (k_end; wrow_close) | ((with_reducible show wpAny _ _ (PySem.call (Value.ref _) _) _ _ _); first | ((with_reducible show wpAny _ _ (PySem.call (Value.ref 289) _) _ _ _); refine Halt.go ?_) | (k_here; (with_reducible show wpAny _ _ (PySem.call (Value.ref 432) _) _ _ _); k_dflt (refine' call_cls ?k1 ?k2 ?k3 ?k4 ?k5 ?k6 ?_; (case k1 => k_asm); (case k2 => k_asm); (case k3 => k_asm); (case k4 => k_is); (case k5 => k_is); (case k6 => k_is); k_whole; intro _ _ h' F' N' _ _; (try k_sweep); (refine' code_def ?j1 ?j2 ?j3 ?j4 ?j5 ?jA ?jF ?jK ?j6 ?j7 ?j8 ?j9 ?jB ?_ ?c2 ?c3 ?c4 ?c5; (case jA => exact rfl); (case jF => exact rfl); (case jK => first | exact rfl | assumption); (case j1 => k_asm); (case j2 => k_asm); (case j3 => k_asm); (case j4 => k_asm); (case j5 => k_asm); (case j6 => k_is); (case j7 => k_is); (case j8 => ktr_room); (case j9 => exact BindsTo.of_eq rfl); (case c5 => decide); (case jB => exact locs rfl); (case c2 => exact rfl); (case c3 => exact rfl); (case c4 => exact rfl); k_whole; intro _ _ _ _ _ _ _ _ _; (try dsimp only); (try k_fold)))) | (k_here; (with_reducible show wpAny _ _ (PySem.call (Value.ref 268) _) _ _ _); k_dflt (refine' useNew (C := new_row_open _ _ _ _ _ _ _ _ _ _ _ _ _ _ _ _ _ _ _ _ (by k_mem) (by k_mem) (by k_updF) (by first | with_reducible assumption | exact Nat.le_of_ble_eq_true rfl)) (h := ?_); intro _ _ _ _ _ _ N9 _ _ _ _ _ _ _ _; (try dsimp only at N9); (try k_sweep); (try dsimp only))) | (k_here; (with_reducible show wpAny _ _ (PySem.call (Value.ref 464) _) _ _ _); k_dflt ((refine' useX (C := (law_texts_sp _ _ _ _ _)) (h := ?_); intro _ _ _ _ _ _ _ _; (try k_sweep); (try dsimp only)))) | (k_here; (with_reducible show wpAny _ _ (PySem.call (Value.ref 457) _) _ _ _); k_dflt ((refine' useO (C := (one_upd _ _ _ _ _ _ _ _ _ _ _ _ _ _ _ (by k_updF) (by with_reducible assumption) (by k_mem) (by k_ne) (by first | decide | omega | simp) (by first | decide | omega | simp))) (h := ?_); intro _ _ _ _ _ _ _ _ _ _ _ _ _; (try k_sweep); (try dsimp only)))) | (k_here; (with_reducible show wpAny _ _ (PySem.call (Value.ref 450) _) _ _ _); k_dflt ((refine' useT (C := (take_upd _ _ _ _ _ _ _ _ _ _ _ _ _ _ (by k_updF) (by with_reducible assumption) (by omega) (by omega))) (h := ?_); intro _ _ _ _ _ _ _ _ _ _ _ _ _ _; (try k_sweep); (try dsimp only)))) | fail) | (k_here; (with_reducible show wpAny _ _ (subscriptTail (PySem.Expr.Name ..) _ (Value.ref _) (Value.int (-1) _)) _ _ _); k_dflt (refine' listLast (by k_asm) (by k_mem) ?_ (by with_unfolding_all rfl))) | (k_here; (with_reducible show wpAny _ _ (subscriptTail _ _ (Value.ref _) (Value.int (-1) _)) _ _ _); k_dflt (refine' listLast (by k_asm) (by k_mem) ?_ (by with_unfolding_all rfl))) | (k_here; (with_reducible show wpAny _ _ (call (Value.type _) [Value.int _ _]) _ _ _); k_dflt (refine' range1_rows (by k_asm) (by k_asm) ?_); intro _ _ _ _ _ _ _ _ _) | (k_here; (with_reducible show wpAny _ _ (call (Value.builtin _) [Value.ref _]) _ _ _); k_dflt ( refine' sorted_texts (by exact rfl) (by ktr_units) (by k_asm) (by k_asm) (by exact TextsAt.mono (by with_reducible assumption) (fun _ hp => List.mem_append_left _ hp)) ?_; intro _ _ _ _ _ _ N' l1 hM'; replace N' := dropApp N'; replace l1 := dropLt l1; (have q' := And.left hM'))) | (k_here; (with_reducible show wpAny _ _ (callWith _ (Value.builtin _) [_] _ _) _ _ _); (with_reducible refine' callWith_method1 ?_ (by k_dflt (rfl)) (by k_dflt (rfl)))) | walk1 | (dsimp only; walk1) | (dsimp only; with_reducible show wpAny _ _ _ _ _ _) | (leave1; (try dsimp only)) | fail "no step"))
    unfold Halt
    (rename News _ _ _ _ => NE)
    (rename Fr _ _ _ _ => FE)
    subst hfo
    refine' madeTurn FE NE ?P ?m1 ?hb ?m2 ?hlv ?m3 ?m4 ?m5 ?m6 ?m7 ?m8 ?m9 ?m10 ?k1 ?k2 ?k3 ?hx ?k4 ?hfo ⟨o1, o2, o3, o4⟩ f1 f2 f3 f4 hfix hto z1 z2 z3 z4 z5 z6 g3 g4 g5 ?hz1 ?hz2
    case P => exact keepC rfl keepI
    case m1 => k_mem
    case hb => assumption
    case m2 => k_mem
    case hlv => simp
    case m3 => k_mem
    case m4 => k_mem
    case m5 => k_mem
    case m6 => k_mem
    case m7 => k_mem
    case m8 => k_mem
    case m9 => k_mem
    case m10 => k_mem
    case k1 => assumption
    case k2 => assumption
    case k3 => assumption
    case hx => assumption
    case k4 => assumption
    case hfo => intro p hp; k_mem
    case hz1 => simp; omega
    case hz2 => simp; omega
  case done =>
    intro u nx' h tk hJ F3 N3
    clear N8 Nx hJ0
    (repeat' (first | (k_unfold; (try dsimp only)) | (k_end; wrow_close) | ((with_reducible show wpAny _ _ (PySem.call (Value.ref _) _) _ _ _); first | ((with_reducible show wpAny _ _ (PySem.call (Value.ref 289) _) _ _ _); refine Halt.go ?_) | (k_here; (with_reducible show wpAny _ _ (PySem.call (Value.ref 432) _) _ _ _); k_dflt (refine' call_cls ?k1 ?k2 ?k3 ?k4 ?k5 ?k6 ?_; (case k1 => k_asm); (case k2 => k_asm); (case k3 => k_asm); (case k4 => k_is); (case k5 => k_is); (case k6 => k_is); k_whole; intro _ _ h' F' N' _ _; (try k_sweep); (refine' code_def ?j1 ?j2 ?j3 ?j4 ?j5 ?jA ?jF ?jK ?j6 ?j7 ?j8 ?j9 ?jB ?_ ?c2 ?c3 ?c4 ?c5; (case jA => exact rfl); (case jF => exact rfl); (case jK => first | exact rfl | assumption); (case j1 => k_asm); (case j2 => k_asm); (case j3 => k_asm); (case j4 => k_asm); (case j5 => k_asm); (case j6 => k_is); (case j7 => k_is); (case j8 => ktr_room); (case j9 => exact BindsTo.of_eq rfl); (case c5 => decide); (case jB => exact locs rfl); (case c2 => exact rfl); (case c3 => exact rfl); (case c4 => exact rfl); k_whole; intro _ _ _ _ _ _ _ _ _; (try dsimp only); (try k_fold)))) | (k_here; (with_reducible show wpAny _ _ (PySem.call (Value.ref 268) _) _ _ _); k_dflt (refine' useNew (C := new_row_open _ _ _ _ _ _ _ _ _ _ _ _ _ _ _ _ _ _ _ _ (by k_mem) (by k_mem) (by k_updF) (by first | with_reducible assumption | exact Nat.le_of_ble_eq_true rfl)) (h := ?_); intro _ _ _ _ _ _ N9 _ _ _ _ _ _ _ _; (try dsimp only at N9); (try k_sweep); (try dsimp only))) | (k_here; (with_reducible show wpAny _ _ (PySem.call (Value.ref 464) _) _ _ _); k_dflt ((refine' useX (C := (law_texts_sp _ _ _ _ _)) (h := ?_); intro _ _ _ _ _ _ _ _; (try k_sweep); (try dsimp only)))) | (k_here; (with_reducible show wpAny _ _ (PySem.call (Value.ref 457) _) _ _ _); k_dflt ((refine' useO (C := (one_upd _ _ _ _ _ _ _ _ _ _ _ _ _ _ _ (by k_updF) (by with_reducible assumption) (by k_mem) (by k_ne) (by first | decide | omega | simp) (by first | decide | omega | simp))) (h := ?_); intro _ _ _ _ _ _ _ _ _ _ _ _ _; (try k_sweep); (try dsimp only)))) | (k_here; (with_reducible show wpAny _ _ (PySem.call (Value.ref 450) _) _ _ _); k_dflt ((refine' useT (C := (take_upd _ _ _ _ _ _ _ _ _ _ _ _ _ _ (by k_updF) (by with_reducible assumption) (by omega) (by omega))) (h := ?_); intro _ _ _ _ _ _ _ _ _ _ _ _ _ _; (try k_sweep); (try dsimp only)))) | fail) | (k_here; (with_reducible show wpAny _ _ (subscriptTail (PySem.Expr.Name ..) _ (Value.ref _) (Value.int (-1) _)) _ _ _); k_dflt (refine' listLast (by k_asm) (by k_mem) ?_ (by with_unfolding_all rfl))) | (k_here; (with_reducible show wpAny _ _ (subscriptTail _ _ (Value.ref _) (Value.int (-1) _)) _ _ _); k_dflt (refine' listLast (by k_asm) (by k_mem) ?_ (by with_unfolding_all rfl))) | (k_here; (with_reducible show wpAny _ _ (call (Value.type _) [Value.int _ _]) _ _ _); k_dflt (refine' range1_rows (by k_asm) (by k_asm) ?_); intro _ _ _ _ _ _ _ _ _) | (k_here; (with_reducible show wpAny _ _ (call (Value.builtin _) [Value.ref _]) _ _ _); k_dflt ( refine' sorted_texts (by exact rfl) (by ktr_units) (by k_asm) (by k_asm) (by exact TextsAt.mono (by with_reducible assumption) (fun _ hp => List.mem_append_left _ hp)) ?_; intro _ _ _ _ _ _ N' l1 hM'; replace N' := dropApp N'; replace l1 := dropLt l1; (have q' := And.left hM'))) | (k_here; (with_reducible show wpAny _ _ (callWith _ (Value.builtin _) [_] _ _) _ _ _); (with_reducible refine' callWith_method1 ?_ (by k_dflt (rfl)) (by k_dflt (rfl)))) | walk1 | (dsimp only; walk1) | (dsimp only; with_reducible show wpAny _ _ _ _ _ _) | (leave1; (try dsimp only)) | fail "no step"))
    refine' madeEnd hret ?F ?N ?i hJ ?l ?d1 ?d2 ?d3
    case F => k_asm
    case N => k_asm
    case i => omega
    case l =>
      obtain ⟨o, ho⟩ := srcIn hJ
      rename (∀ p ∈ nx', p.1 < _) => hlt
      exact Ne.symm (Nat.ne_of_lt (hlt _ ho))
    case d1 => k_ne
    case d2 => k_ne
    case d3 => k_ne
end
section
noncomputable def dig (x : Str) (j : Int) : Bool := !(Builtin.Str.occurrences (Str.ofString "0123456789") (Txt.item x j) 0 (Str.ofString "0123456789").length 1).isEmpty
theorem fits_of {i : Int} (h : 0 ≤ i) (h2 : i < 2 ^ 62) : fitsSsize i = true := by
  simp [fitsSsize]
  omega
theorem inDig {prog : Program} {w : World} {A : Around} {E : Value → Shared → Prop} {s : Shared} {x : Str} {j : Int} {b : Bool} {t u : Tok} {Q : Value → Shared → Prop} (h : dig x j = b) (hq : Q (.bool b) s) :
    wpAny (model prog w) A (compareOp .In (.str (Txt.item x j) t) (.str (Str.ofString "0123456789") u)) Q E s := in_str (by
  subst h
  exact hq)
local macro_rules | `(tactic| walk_at "subscriptTail Name Name str int") => `(tactic| k_dflt (refine' item_str ?a ?b ?c (fun _ => ?_); (case a => exact fits_of (by omega) (by omega)); (case b => omega); (case c => omega)))
local macro_rules | `(tactic| walk_at "exec While BoolOp cons nil") => `(tactic| (k_here; k_dflt (refine whl_start 3 ?_)))
local macro_rules | `(tactic| walk_at "WhlIf") => `(tactic| k_dflt (first | refine WhlIf.no rfl ?_ | refine WhlIf.yes rfl ?_))
local macro_rules | `(tactic| walk_at "compareOp In str str") => `(tactic| k_dflt (refine inDig (by assumption) ?_))
theorem digits_zero (w : World) (mean : ExcName → Option Value) (mg mb : MV) (news : Led) (x : Str) (tx ti : Tok) (i : Nat) (hl : x.length ≤ 1000) (h : ¬ i < x.length ∨ (i < x.length ∧ dig x (i : Int) = false)) :
   Sp w mean mg mb 79 [.str x tx, .int (i : Int) ti] 2 20 news (fun news' v => news' = news ∧ ∃ t, v = .int (i : Int) t) := by
  intro dp un gd cn cs aa ccd cl outer A₀ base h₀ L m s Q E B F X N T hk hd hu hret
  rcases h with h | ⟨h, hdig⟩
  · refine wpAny_call ?_
    k_dflt ktr_enter
    (repeat' (first | (k_unfold; (try dsimp only)) | (k_end; wrow_close) | ((with_reducible show wpAny _ _ (PySem.call (Value.builtin "len") [Value.str _ _]) _ _ _); k_dflt (refine' PyProof.Rows.len_str (by omega) ?_)) | (k_here; (with_reducible show wpAny _ _ (callWith _ (Value.builtin _) [_] _ _) _ _ _); (with_reducible refine' callWith_method1 ?_ (by k_dflt (rfl)) (by k_dflt (rfl)))) | (k_here; (with_reducible show wpAny _ _ (PySem.call (Value.builtin "len") [Value.ref _]) _ _ _); (with_reducible refine' kst_len (by k_dflt (k_asm)) (by k_dflt (k_mem)) (List.length_map _) (by k_dflt (omega)) ?_)) | walk1 | (dsimp only; walk1) | (dsimp only; with_reducible show wpAny _ _ _ _ _ _) | (leave1; (try dsimp only)) | fail "no step"))
    all_goals (exact hret _ _ _ _ (by k_asm) (by k_asm) ⟨rfl, _, rfl⟩)
  · refine wpAny_call ?_
    k_dflt ktr_enter
    (repeat' (first | (k_unfold; (try dsimp only)) | (k_end; wrow_close) | ((with_reducible show wpAny _ _ (PySem.call (Value.builtin "len") [Value.str _ _]) _ _ _); k_dflt (refine' PyProof.Rows.len_str (by omega) ?_)) | (k_here; (with_reducible show wpAny _ _ (callWith _ (Value.builtin _) [_] _ _) _ _ _); (with_reducible refine' callWith_method1 ?_ (by k_dflt (rfl)) (by k_dflt (rfl)))) | (k_here; (with_reducible show wpAny _ _ (PySem.call (Value.builtin "len") [Value.ref _]) _ _ _); (with_reducible refine' kst_len (by k_dflt (k_asm)) (by k_dflt (k_mem)) (List.length_map _) (by k_dflt (omega)) ?_)) | walk1 | (dsimp only; walk1) | (dsimp only; with_reducible show wpAny _ _ _ _ _ _) | (leave1; (try dsimp only)) | fail "no step"))
    all_goals (exact hret _ _ _ _ (by k_asm) (by k_asm) ⟨rfl, _, rfl⟩)
theorem digits_one (w : World) (mean : ExcName → Option Value) (mg mb : MV) (news : Led) (x : Str) (tx ti : Tok) (i : Nat) (hl : x.length ≤ 1000) (h1 : i < x.length) (hd1 : dig x (i : Int) = true) (h : ¬ i + 1 < x.length ∨ (i + 1 < x.length ∧ dig x ((i : Int) + 1) = false)) :
   Sp w mean mg mb 79 [.str x tx, .int (i : Int) ti] 2 20 news (fun news' v => news' = news ∧ ∃ t, v = .int ((i : Int) + 1) t) := by
  intro dp un gd cn cs aa ccd cl outer A₀ base h₀ L m s Q E B F X N T hk hd hu hret
  rcases h with h | ⟨h, hdig⟩
  · refine wpAny_call ?_
    k_dflt ktr_enter
    (repeat' (first | (k_unfold; (try dsimp only)) | (k_end; wrow_close) | ((with_reducible show wpAny _ _ (PySem.call (Value.builtin "len") [Value.str _ _]) _ _ _); k_dflt (refine' PyProof.Rows.len_str (by omega) ?_)) | (k_here; (with_reducible show wpAny _ _ (callWith _ (Value.builtin _) [_] _ _) _ _ _); (with_reducible refine' callWith_method1 ?_ (by k_dflt (rfl)) (by k_dflt (rfl)))) | (k_here; (with_reducible show wpAny _ _ (PySem.call (Value.builtin "len") [Value.ref _]) _ _ _); (with_reducible refine' kst_len (by k_dflt (k_asm)) (by k_dflt (k_mem)) (List.length_map _) (by k_dflt (omega)) ?_)) | walk1 | (dsimp only; walk1) | (dsimp only; with_reducible show wpAny _ _ _ _ _ _) | (leave1; (try dsimp only)) | fail "no step"))
    all_goals (exact hret _ _ _ _ (by k_asm) (by k_asm) ⟨rfl, _, rfl⟩)
  · refine wpAny_call ?_
    k_dflt ktr_enter
    (repeat' (first | (k_unfold; (try dsimp only)) | (k_end; wrow_close) | ((with_reducible show wpAny _ _ (PySem.call (Value.builtin "len") [Value.str _ _]) _ _ _); k_dflt (refine' PyProof.Rows.len_str (by omega) ?_)) | (k_here; (with_reducible show wpAny _ _ (callWith _ (Value.builtin _) [_] _ _) _ _ _); (with_reducible refine' callWith_method1 ?_ (by k_dflt (rfl)) (by k_dflt (rfl)))) | (k_here; (with_reducible show wpAny _ _ (PySem.call (Value.builtin "len") [Value.ref _]) _ _ _); (with_reducible refine' kst_len (by k_dflt (k_asm)) (by k_dflt (k_mem)) (List.length_map _) (by k_dflt (omega)) ?_)) | walk1 | (dsimp only; walk1) | (dsimp only; with_reducible show wpAny _ _ _ _ _ _) | (leave1; (try dsimp only)) | fail "no step"))
    all_goals (exact hret _ _ _ _ (by k_asm) (by k_asm) ⟨rfl, _, rfl⟩)
/-- what digits_end tells, and that the loop turns at most once -/
noncomputable def dEnd (x : Str) (i : Nat) : Nat := if i < x.length ∧ dig x (i : Int) = true then i + 1 else i
noncomputable def dOk (x : Str) (i : Nat) : Bool := decide (x.length ≤ 1000) && (!decide (i < x.length) || !dig x (i : Int) || !decide (i + 1 < x.length) || !dig x ((i : Int) + 1))
theorem digits_sp (w : World) (mean : ExcName → Option Value) (mg mb : MV) (news : Led) (x : Str) (tx ti : Tok) (i : Nat) (h : dOk x i = true) :
   Sp w mean mg mb 79 [.str x tx, .int (i : Int) ti] 2 20 news (fun news' v => news' = news ∧ ∃ t, v = .int (dEnd x i : Int) t) := by
  simp only [dOk, Bool.and_eq_true, Bool.or_eq_true, Bool.not_eq_true', decide_eq_true_eq, decide_eq_false_iff_not] at h
  obtain ⟨hl, h⟩ := h
  by_cases h1 : i < x.length
  · cases hd : dig x (i : Int) with
    | true =>
      have e : dEnd x i = i + 1 := by unfold dEnd; rw [if_pos ⟨h1, hd⟩]
      rw [e]
      refine digits_one w mean mg mb news x tx ti i hl h1 hd ?_
      by_cases h2 : i + 1 < x.length
      · refine .inr ⟨h2, ?_⟩
        rcases h with ((h | h) | h) | h
        · exact absurd h1 h
        · rw [hd] at h; cases h
        · exact absurd h2 h
        · exact h
      · exact .inl h2
    | false =>
      have e : dEnd x i = i := by unfold dEnd; rw [if_neg (fun h => by rw [hd] at h; cases h.2)]
      rw [e]
      exact digits_zero w mean mg mb news x tx ti i hl (.inr ⟨h1, hd⟩)
  · have e : dEnd x i = i := by unfold dEnd; rw [if_neg (fun h => h1 h.1)]
    rw [e]
    exact digits_zero w mean mg mb news x tx ti i hl (.inl h1)
theorem digits_lit (w : World) (mean : ExcName → Option Value) (mg mb : MV) (news : Led) (x : Str) (tx ti : Tok) (i : Nat) (j k : Int) (hj : j = (i : Int)) (h : dOk x i = true) (hk : (dEnd x i : Int) = k) :
   Sp w mean mg mb 79 [.str x tx, .int j ti] 2 20 news (fun news' v => news' = news ∧ ∃ t, v = .int k t) := by
  subst hj hk
  exact digits_sp w mean mg mb news x tx ti i h
end
section
noncomputable def spc (x : Str) (j : Int) : Bool := !(Builtin.Str.occurrences (Str.ofString " \t\n\r") (Txt.item x j) 0 (Str.ofString " \t\n\r").length 1).isEmpty
theorem inSpc {prog : Program} {w : World} {A : Around} {E : Value → Shared → Prop} {s : Shared} {x : Str} {j : Int} {b : Bool} {t u : Tok} {Q : Value → Shared → Prop} (h : spc x j = b) (hq : Q (.bool b) s) :
    wpAny (model prog w) A (compareOp .In (.str (Txt.item x j) t) (.str (Str.ofString " \t\n\r") u)) Q E s := in_str (by
  subst h
  exact hq)
local macro_rules | `(tactic| walk_at "subscriptTail Name Name str int") => `(tactic| k_dflt (refine' item_str ?a ?b ?c (fun _ => ?_); (case a => exact fits_of (by omega) (by omega)); (case b => omega); (case c => omega)))
local macro_rules | `(tactic| walk_at "subscriptTail Name BinOp str int") => `(tactic| k_dflt (refine' item_str ?a ?b ?c (fun _ => ?_); (case a => exact fits_of (by omega) (by omega)); (case b => omega); (case c => omega)))
local macro_rules | `(tactic| walk_at "exec While BoolOp cons nil") => `(tactic| (k_here; k_dflt (refine whl_start 3 ?_)))
local macro_rules | `(tactic| walk_at "WhlIf") => `(tactic| k_dflt (first | refine WhlIf.no rfl ?_ | refine WhlIf.yes rfl ?_))
local macro_rules | `(tactic| walk_at "compareOp In str str") => `(tactic| k_dflt (refine inSpc (by assumption) ?_))
theorem trimmed_plain (w : World) (mean : ExcName → Option Value) (mg mb : MV) (news : Led) (x : Str) (tx : Tok) (hl : x.length ≤ 1000) (h0 : 0 < x.length) (ha : spc x 0 = false) (hb : spc x ((x.length : Int) - 1) = false) (hs : Txt.slice x (some 0) (some (x.length : Int)) = x) :
   Sp w mean mg mb 86 [.str x tx] 2 40 news (fun news' v => ∃ new, news' = new ++ news ∧ ∃ t, v = .str x t) := by
  intro dp un gd cn cs aa ccd cl outer A₀ base h₀ L m s Q E B F X N T hk hd hu hret
  refine wpAny_call ?_
  k_dflt ktr_enter
  (repeat' (first | (k_unfold; (try dsimp only)) | (k_end; wrow_close) | ((with_reducible show wpAny _ _ (PySem.call (Value.builtin "len") [Value.str _ _]) _ _ _); k_dflt (refine' PyProof.Rows.len_str (by omega) ?_)) | (k_here; (with_reducible show wpAny _ _ (callWith _ (Value.builtin _) [_] _ _) _ _ _); (with_reducible refine' callWith_method1 ?_ (by k_dflt (rfl)) (by k_dflt (rfl)))) | (k_here; (with_reducible show wpAny _ _ (PySem.call (Value.builtin "len") [Value.ref _]) _ _ _); (with_reducible refine' kst_len (by k_dflt (k_asm)) (by k_dflt (k_mem)) (List.length_map _) (by k_dflt (omega)) ?_)) | walk1 | (dsimp only; walk1) | (dsimp only; with_reducible show wpAny _ _ _ _ _ _) | (leave1; (try dsimp only)) | fail "no step"))
  all_goals (exact hret _ _ _ _ (by k_asm) (by k_asm) ⟨[_], rfl, strv _ hs⟩)
end
section
local macro_rules | `(tactic| walk_at "exec While Compare cons nil") => `(tactic| (k_here; k_dflt (refine whl_start 4 ?_)))
local macro_rules | `(tactic| walk_at "WhlIf") => `(tactic| k_dflt (first | refine WhlIf.yes (decide_eq_true (by assumption)) ?_ | refine WhlIf.no (decide_eq_false (by assumption)) ?_))
noncomputable abbrev absI (x : Int) : Int := if x < 0 then -x else x
noncomputable def Cd (w : World) (mean : ExcName → Option Value) (mg mb : MV) (x y g : Int) : Prop :=
  ∀ (news : Led) (t u : Tok), Sp w mean mg mb 29 [.int x t, .int y u] 2 60 news (fun news' v => ∃ new, news' = new ++ news ∧ ∃ t, v = .int g t)
theorem cd1_sp (w : World) (mean : ExcName → Option Value) (mg mb : MV) (x y : Int) (hy : 0 < y) (hn : y ≠ 0) (h : ¬ 0 < Int.fmod (absI x) y) : Cd w mean mg mb x y y := by
  intro news t u dp un gd cn cs aa ccd cl outer A₀ base h₀ L m s Q E B F X N T hk hd hu hret
  refine wpAny_call ?_
  k_dflt ktr_enter
  (repeat' (first | (k_unfold; (try dsimp only)) | (k_end; wrow_close) | (k_here; first | ((with_reducible show wpAny _ _ (eval (Expr.Call (Expr.Name _ _) [Expr.Name _ _] [] _) _) _ _ _); k_dflt (refine' bigCall1 (by k_asm) (by k_asm) (by k_asm) (by k_is) (by k_is) (by rfl) ?_; k_whole)) | ((with_reducible show wpAny _ _ (eval (Expr.Call (Expr.Name _ _) [Expr.Name _ _, Expr.Name _ _] [] _) _) _ _ _); k_dflt (refine' bigCall2 (by k_asm) (by k_asm) (by k_asm) (by k_is) (by k_is) (by rfl) (by rfl) ?_; k_whole)) | ((with_reducible show wpAny _ _ (eval (Expr.Call (Expr.Name _ _) [Expr.Name _ _, Expr.Name _ _, Expr.Name _ _] [] _) _) _ _ _); k_dflt (refine' bigCall3 (by k_asm) (by k_asm) (by k_asm) (by k_is) (by k_is) (by rfl) (by rfl) (by rfl) ?_; k_whole)) | ((with_reducible show wpAny _ _ (eval (Expr.Call (Expr.Name _ _) [Expr.Name _ _, Expr.Name _ _, Expr.Name _ _, Expr.Name _ _] [] _) _) _ _ _); k_dflt (refine' bigCall4 (by k_asm) (by k_asm) (by k_asm) (by k_is) (by k_is) (by rfl) (by rfl) (by rfl) (by rfl) ?_; k_whole))) | (k_here; (with_reducible show wpAny _ _ (callWith _ (Value.builtin _) [_] _ _) _ _ _); (with_reducible refine' callWith_method1 ?_ (by k_dflt (rfl)) (by k_dflt (rfl)))) | (walk1; all_goals (try dsimp only)) | (dsimp only; walk1) | (dsimp only; with_reducible show wpAny _ _ _ _ _ _) | (leave1; (try dsimp only)) | fail "no step"))
  all_goals (exact hret _ _ _ _ (by k_asm) (by k_asm) ⟨[_, _], rfl, _, rfl⟩)
theorem cd2_sp (w : World) (mean : ExcName → Option Value) (mg mb : MV) (x y : Int) (hy : 0 < y) (hn : y ≠ 0) (h1 : 0 < Int.fmod (absI x) y) (hn1 : Int.fmod (absI x) y ≠ 0) (h : ¬ 0 < Int.fmod y (Int.fmod (absI x) y)) : Cd w mean mg mb x y (Int.fmod (absI x) y) := by
  intro news t u dp un gd cn cs aa ccd cl outer A₀ base h₀ L m s Q E B F X N T hk hd hu hret
  refine wpAny_call ?_
  k_dflt ktr_enter
  (repeat' (first | (k_unfold; (try dsimp only)) | (k_end; wrow_close) | (k_here; first | ((with_reducible show wpAny _ _ (eval (Expr.Call (Expr.Name _ _) [Expr.Name _ _] [] _) _) _ _ _); k_dflt (refine' bigCall1 (by k_asm) (by k_asm) (by k_asm) (by k_is) (by k_is) (by rfl) ?_; k_whole)) | ((with_reducible show wpAny _ _ (eval (Expr.Call (Expr.Name _ _) [Expr.Name _ _, Expr.Name _ _] [] _) _) _ _ _); k_dflt (refine' bigCall2 (by k_asm) (by k_asm) (by k_asm) (by k_is) (by k_is) (by rfl) (by rfl) ?_; k_whole)) | ((with_reducible show wpAny _ _ (eval (Expr.Call (Expr.Name _ _) [Expr.Name _ _, Expr.Name _ _, Expr.Name _ _] [] _) _) _ _ _); k_dflt (refine' bigCall3 (by k_asm) (by k_asm) (by k_asm) (by k_is) (by k_is) (by rfl) (by rfl) (by rfl) ?_; k_whole)) | ((with_reducible show wpAny _ _ (eval (Expr.Call (Expr.Name _ _) [Expr.Name _ _, Expr.Name _ _, Expr.Name _ _, Expr.Name _ _] [] _) _) _ _ _); k_dflt (refine' bigCall4 (by k_asm) (by k_asm) (by k_asm) (by k_is) (by k_is) (by rfl) (by rfl) (by rfl) (by rfl) ?_; k_whole))) | (k_here; (with_reducible show wpAny _ _ (callWith _ (Value.builtin _) [_] _ _) _ _ _); (with_reducible refine' callWith_method1 ?_ (by k_dflt (rfl)) (by k_dflt (rfl)))) | (walk1; all_goals (try dsimp only)) | (dsimp only; walk1) | (dsimp only; with_reducible show wpAny _ _ _ _ _ _) | (leave1; (try dsimp only)) | fail "no step"))
  all_goals (exact hret _ _ _ _ (by k_asm) (by k_asm) ⟨[_, _, _], rfl, _, rfl⟩)
theorem Cd.at {w : World} {mean : ExcName → Option Value} {mg mb : MV} {x y g : Int} {news : Led} {t u : Tok} (C : Cd w mean mg mb x y g) : Sp w mean mg mb 29 [.int x t, .int y u] 2 60 news (fun news' v => ∃ new, news' = new ++ news ∧ ∃ t, v = .int g t) := C news t u
theorem number_gen (w : World) (mean : ExcName → Option Value) (mg mb : MV) (news : Led) (x y g a b : Int) (t u : Tok) (hx : 0 ≤ x) (hx2 : x ≤ 1000) (hy : 0 < y) (hy2 : y ≤ 1000) (hg : 0 < g) (hg2 : g ≤ 1000) (C : Cd w mean mg mb x y g) (ha : x.fdiv g = a) (hb : y.fdiv g = b) :
   Sp w mean mg mb 44 [.int x t, .int y u] 6 120 news (fun news' v => ∃ new, news' = new ++ news ∧ NumAt w new v a b) := by
  intro dp un gd cn cs aa ccd cl outer A₀ base h₀ L m s Q E B F X N T hk hd hu hret
  subst ha hb
  refine wpAny_call ?_
  k_dflt (refine' code_defG (news := []) ?k1 ?k2 ?k3 ?k4 ?k5 ?kA ?kF ?kK ?k6 ?k7 ?k8 ?k9 ?kB ?_ ?c2 ?c3 ?c4 ?c5; (case kA => exact rfl); (case kF => exact rfl); (case kK => assumption); (case k1 => k_asm); (case k2 => k_asm); (case k3 => k_asm); (case k4 => exact News.nil); (case k5 => k_asm); (case k6 => k_is); (case k7 => k_is); (case k8 => ktr_room); (case k9 => exact binds_K (by k_in) rfl (by k_is) rfl rfl rfl); (case c5 => decide); (case kB => exact locs rfl); (case c2 => exact rfl); (case c3 => exact rfl); (case c4 => exact rfl); k_whole; intro g' L' h' FG' F' N' B' X' T' G'; (try dsimp only); (try k_fold))
  (repeat' (first | (k_unfold; (try dsimp only)) | (k_end; wrow_close) | ((with_reducible show wpAny _ _ (PySem.call (Value.ref _) _) _ _ _); first | (k_here; (with_reducible show wpAny _ _ (PySem.call (Value.ref 29) _) _ _ _); k_dflt ((refine' useD (C := (Cd.at (by with_reducible assumption))) (h := ?_); intro _ _ _ _ _ _; (try k_sweep); (try dsimp only)))) | fail) | (k_here; first | ((with_reducible show wpAny _ _ (eval (Expr.Call (Expr.Name _ _) [Expr.Name _ _] [] _) _) _ _ _); k_dflt (refine' bigCall1 (by k_asm) (by k_asm) (by k_asm) (by k_is) (by k_is) (by rfl) ?_; k_whole)) | ((with_reducible show wpAny _ _ (eval (Expr.Call (Expr.Name _ _) [Expr.Name _ _, Expr.Name _ _] [] _) _) _ _ _); k_dflt (refine' bigCall2 (by k_asm) (by k_asm) (by k_asm) (by k_is) (by k_is) (by rfl) (by rfl) ?_; k_whole)) | ((with_reducible show wpAny _ _ (eval (Expr.Call (Expr.Name _ _) [Expr.Name _ _, Expr.Name _ _, Expr.Name _ _] [] _) _) _ _ _); k_dflt (refine' bigCall3 (by k_asm) (by k_asm) (by k_asm) (by k_is) (by k_is) (by rfl) (by rfl) (by rfl) ?_; k_whole)) | ((with_reducible show wpAny _ _ (eval (Expr.Call (Expr.Name _ _) [Expr.Name _ _, Expr.Name _ _, Expr.Name _ _, Expr.Name _ _] [] _) _) _ _ _); k_dflt (refine' bigCall4 (by k_asm) (by k_asm) (by k_asm) (by k_is) (by k_is) (by rfl) (by rfl) (by rfl) (by rfl) ?_; k_whole))) | (k_here; (with_reducible show wpAny _ _ (callWith _ (Value.builtin _) [_] _ _) _ _ _); (with_reducible refine' callWith_method1 ?_ (by k_dflt (rfl)) (by k_dflt (rfl)))) | (walk1; all_goals (try dsimp only)) | (dsimp only; walk1) | (dsimp only; with_reducible show wpAny _ _ _ _ _ _) | (leave1; (try dsimp only)) | fail "no step"))
  · exfalso; omega
  refine' hret _ _ _ _ (by k_asm) (back ?kN N ?G ?F') ⟨_, rfl, ⟨_, _, _, rfl, .inl ?mem⟩⟩
  case kN => assumption
  case G => assumption
  case F' => assumption
  case mem => k_mem
end
section
local macro_rules | `(tactic| walk_at "ite") => `(tactic| (first | with_reducible refine ite_pos (by decide +kernel) ?_ | with_reducible refine ite_neg (by decide +kernel) ?_))
local macro_rules | `(tactic| walk_at "subscriptTail Name Name str int") => `(tactic| ((with_reducible refine' item_str ?a ?b ?c (fun _ => ?_)); (case a => decide +kernel); (case b => decide +kernel); (case c => decide +kernel)))
local macro_rules | `(tactic| walk_at "subscriptTail Name BinOp str int") => `(tactic| ((with_reducible refine' item_str ?a ?b ?c (fun _ => ?_)); (case a => decide +kernel); (case b => decide +kernel); (case c => decide +kernel)))
local macro_rules | `(tactic| walk_at "storeName") => `(tactic| (k_here; k_dflt ktx_write))
local macro_rules | `(tactic| walk_at "call builtin:len cons nil") => `(tactic| (k_here; k_dflt ktx_write))
local macro_rules | `(tactic| walk_at "subscriptTail") => `(tactic| (k_here; k_dflt ktx_write))
local macro_rules | `(tactic| walk_at "compareOp In str str") => `(tactic| (k_here; k_dflt ktx_write))
local macro_rules | `(tactic| walk_at "compareOp Eq str str") => `(tactic| (k_here; k_dflt ktx_write))
local macro_rules | `(tactic| walk_at "pyIter str") => `(tactic| walk_at "last pyIter str")
local macro_rules | `(tactic| walk_at "exec For Name Name cons nil") => `(tactic| (k_here; (rename Fr _ _ _ _ => lF'); (with_unfolding_all refine' For_invVF lF' ?k1 ?k2 ?_; (case k1 => exact rfl); (case k2 => exact rfl); k_whole)))
local macro_rules | `(tactic| walk_at "call builtin:str.index") => `(tactic| ((with_reducible refine' idxIn ?hA ?ho ?_); (case hA => exact rfl); (case ho => decide +kernel)))
theorem whole_1_sp (w : World) (mean : ExcName → Option Value) (mg mb : MV) (news : Led) (tx : Tok) :
   Sp w mean mg mb 93 [.str (Str.ofString "1") tx] 4 60 news (fun news' v => ∃ new, news' = new ++ news ∧ ∃ t, v = .int 1 t) := by
  intro dp un gd cn cs aa ccd cl outer A₀ base h₀ L m s Q E B F X N T hk hd hu hret
  refine wpAny_call ?_
  k_dflt (refine' code_defG (news := []) ?k1 ?k2 ?k3 ?k4 ?k5 ?kA ?kF ?kK ?k6 ?k7 ?k8 ?k9 ?kB ?_ ?c2 ?c3 ?c4 ?c5; (case kA => exact rfl); (case kF => exact rfl); (case kK => assumption); (case k1 => k_asm); (case k2 => k_asm); (case k3 => k_asm); (case k4 => exact News.nil); (case k5 => k_asm); (case k6 => k_is); (case k7 => k_is); (case k8 => ktr_room); (case k9 => exact BindsTo.of_eq rfl); (case c5 => decide); (case kB => exact locs rfl); (case c2 => exact rfl); (case c3 => exact rfl); (case c4 => exact rfl); k_whole; intro _ _ _ _ _ _ _ _ _ _; (try dsimp only); (try k_fold))
  (repeat' (first | (k_unfold; (try dsimp only)) | (k_end; wrow_close) | ((with_reducible show wpAny _ _ (PySem.call (Value.ref _) _) _ _ _); first | (k_here; (first | (with_reducible show wpAny _ _ (PySem.call (Value.ref _) [Value.str _ _]) _ _ _) | (with_reducible show wpAny _ _ (PySem.call (Value.ref _) [Value.str _ _, _]) _ _ _)); k_dflt ktx_write) | (k_here; (with_reducible show wpAny _ _ (PySem.call (Value.ref _) _) _ _ _); k_dflt (refine wpAny_call ?_; refine' code_def (by k_asm) (by k_asm) (by k_asm) (by k_asm) (by k_asm) (by exact rfl) (by exact rfl) (by exact rfl) (by k_is) (by k_is) (by ktr_room) (by first | exact BindsTo.of_eq rfl | exact binds_K (by k_in) rfl (by k_is) rfl rfl rfl) (by exact locs rfl) ?_ (by exact rfl) (by exact rfl) (by exact rfl) (by decide); k_whole; intro _ _ _ _ _ _ _ _ _; (try dsimp only); (try k_fold))) | fail) | ((with_reducible show wpAny _ _ (PySem.call (Value.builtin "len") [Value.str _ _]) _ _ _); (with_reducible refine' PyProof.Rows.len_str (by k_dflt (decide +kernel)) ?_)) | (k_here; first | ((with_reducible show wpAny _ _ (eval (Expr.Call (Expr.Name _ _) [Expr.Name _ _] [] _) _) _ _ _); k_dflt (refine' bigCall1 (by k_asm) (by k_asm) (by k_asm) (by k_is) (by k_is) (by rfl) ?_; k_whole)) | ((with_reducible show wpAny _ _ (eval (Expr.Call (Expr.Name _ _) [Expr.Name _ _, Expr.Name _ _] [] _) _) _ _ _); k_dflt (refine' bigCall2 (by k_asm) (by k_asm) (by k_asm) (by k_is) (by k_is) (by rfl) (by rfl) ?_; k_whole)) | ((with_reducible show wpAny _ _ (eval (Expr.Call (Expr.Name _ _) [Expr.Name _ _, Expr.Name _ _, Expr.Name _ _] [] _) _) _ _ _); k_dflt (refine' bigCall3 (by k_asm) (by k_asm) (by k_asm) (by k_is) (by k_is) (by rfl) (by rfl) (by rfl) ?_; k_whole)) | ((with_reducible show wpAny _ _ (eval (Expr.Call (Expr.Name _ _) [Expr.Name _ _, Expr.Name _ _, Expr.Name _ _, Expr.Name _ _] [] _) _) _ _ _); k_dflt (refine' bigCall4 (by k_asm) (by k_asm) (by k_asm) (by k_is) (by k_is) (by rfl) (by rfl) (by rfl) (by rfl) ?_; k_whole))) | (k_here; (with_reducible show wpAny _ _ (callWith _ (Value.builtin _) [_] _ _) _ _ _); (with_reducible refine' callWith_method1 ?_ (by k_dflt (rfl)) (by k_dflt (rfl)))) | (k_here; (with_reducible show wpAny _ _ (subscriptTail (PySem.Expr.Name ..) _ (Value.ref _) (Value.int _ _)) _ _ _); (with_reducible refine' listItem (by k_dflt (k_asm)) (by k_dflt (k_mem)) (by k_dflt (decide)) (by k_dflt (decide)) (by k_dflt (exact rfl)) ?_)) | (k_here; (with_reducible show wpAny _ _ (PySem.call (Value.builtin "len") [Value.ref _]) _ _ _); (with_reducible refine' kst_len (by k_dflt (k_asm)) (by k_dflt (k_mem)) (List.length_map _) (by k_dflt (omega)) ?_)) | (k_here; (with_reducible show wpAny _ _ (subscriptTail (PySem.Expr.Name ..) _ (Value.ref _) (Value.int _ _)) _ _ _); (with_reducible refine' item_tupleT (by k_dflt (exact heldTup (by k_asm) (by k_asm) (by k_asm) (by ktr_rel))) (by k_dflt (decide)) (by k_dflt (decide)) (by k_dflt (rfl)) (by k_dflt (rfl)) ?_); k_dflt (k_whole)) | (walk1; all_goals (try dsimp only)) | (dsimp only; walk1) | (dsimp only; with_reducible show wpAny _ _ _ _ _ _) | (leave1; (try dsimp only)) | fail "no step"))
  refine' hret _ _ _ _ (by k_asm) (back ?kN N ?G ?F') ⟨_, rfl, intv _ ?e1⟩
  case kN => assumption
  case G => assumption
  case F' => assumption
  case e1 => decide +kernel
theorem whole_2_sp (w : World) (mean : ExcName → Option Value) (mg mb : MV) (news : Led) (tx : Tok) :
   Sp w mean mg mb 93 [.str (Str.ofString "2") tx] 4 60 news (fun news' v => ∃ new, news' = new ++ news ∧ ∃ t, v = .int 2 t) := by
  intro dp un gd cn cs aa ccd cl outer A₀ base h₀ L m s Q E B F X N T hk hd hu hret
  refine wpAny_call ?_
  k_dflt (refine' code_defG (news := []) ?k1 ?k2 ?k3 ?k4 ?k5 ?kA ?kF ?kK ?k6 ?k7 ?k8 ?k9 ?kB ?_ ?c2 ?c3 ?c4 ?c5; (case kA => exact rfl); (case kF => exact rfl); (case kK => assumption); (case k1 => k_asm); (case k2 => k_asm); (case k3 => k_asm); (case k4 => exact News.nil); (case k5 => k_asm); (case k6 => k_is); (case k7 => k_is); (case k8 => ktr_room); (case k9 => exact BindsTo.of_eq rfl); (case c5 => decide); (case kB => exact locs rfl); (case c2 => exact rfl); (case c3 => exact rfl); (case c4 => exact rfl); k_whole; intro _ _ _ _ _ _ _ _ _ _; (try dsimp only); (try k_fold))
  (repeat' (first | (k_unfold; (try dsimp only)) | (k_end; wrow_close) | ((with_reducible show wpAny _ _ (PySem.call (Value.ref _) _) _ _ _); first | (k_here; (first | (with_reducible show wpAny _ _ (PySem.call (Value.ref _) [Value.str _ _]) _ _ _) | (with_reducible show wpAny _ _ (PySem.call (Value.ref _) [Value.str _ _, _]) _ _ _)); k_dflt ktx_write) | (k_here; (with_reducible show wpAny _ _ (PySem.call (Value.ref _) _) _ _ _); k_dflt (refine wpAny_call ?_; refine' code_def (by k_asm) (by k_asm) (by k_asm) (by k_asm) (by k_asm) (by exact rfl) (by exact rfl) (by exact rfl) (by k_is) (by k_is) (by ktr_room) (by first | exact BindsTo.of_eq rfl | exact binds_K (by k_in) rfl (by k_is) rfl rfl rfl) (by exact locs rfl) ?_ (by exact rfl) (by exact rfl) (by exact rfl) (by decide); k_whole; intro _ _ _ _ _ _ _ _ _; (try dsimp only); (try k_fold))) | fail) | ((with_reducible show wpAny _ _ (PySem.call (Value.builtin "len") [Value.str _ _]) _ _ _); (with_reducible refine' PyProof.Rows.len_str (by k_dflt (decide +kernel)) ?_)) | (k_here; first | ((with_reducible show wpAny _ _ (eval (Expr.Call (Expr.Name _ _) [Expr.Name _ _] [] _) _) _ _ _); k_dflt (refine' bigCall1 (by k_asm) (by k_asm) (by k_asm) (by k_is) (by k_is) (by rfl) ?_; k_whole)) | ((with_reducible show wpAny _ _ (eval (Expr.Call (Expr.Name _ _) [Expr.Name _ _, Expr.Name _ _] [] _) _) _ _ _); k_dflt (refine' bigCall2 (by k_asm) (by k_asm) (by k_asm) (by k_is) (by k_is) (by rfl) (by rfl) ?_; k_whole)) | ((with_reducible show wpAny _ _ (eval (Expr.Call (Expr.Name _ _) [Expr.Name _ _, Expr.Name _ _, Expr.Name _ _] [] _) _) _ _ _); k_dflt (refine' bigCall3 (by k_asm) (by k_asm) (by k_asm) (by k_is) (by k_is) (by rfl) (by rfl) (by rfl) ?_; k_whole)) | ((with_reducible show wpAny _ _ (eval (Expr.Call (Expr.Name _ _) [Expr.Name _ _, Expr.Name _ _, Expr.Name _ _, Expr.Name _ _] [] _) _) _ _ _); k_dflt (refine' bigCall4 (by k_asm) (by k_asm) (by k_asm) (by k_is) (by k_is) (by rfl) (by rfl) (by rfl) (by rfl) ?_; k_whole))) | (k_here; (with_reducible show wpAny _ _ (callWith _ (Value.builtin _) [_] _ _) _ _ _); (with_reducible refine' callWith_method1 ?_ (by k_dflt (rfl)) (by k_dflt (rfl)))) | (k_here; (with_reducible show wpAny _ _ (subscriptTail (PySem.Expr.Name ..) _ (Value.ref _) (Value.int _ _)) _ _ _); (with_reducible refine' listItem (by k_dflt (k_asm)) (by k_dflt (k_mem)) (by k_dflt (decide)) (by k_dflt (decide)) (by k_dflt (exact rfl)) ?_)) | (k_here; (with_reducible show wpAny _ _ (PySem.call (Value.builtin "len") [Value.ref _]) _ _ _); (with_reducible refine' kst_len (by k_dflt (k_asm)) (by k_dflt (k_mem)) (List.length_map _) (by k_dflt (omega)) ?_)) | (k_here; (with_reducible show wpAny _ _ (subscriptTail (PySem.Expr.Name ..) _ (Value.ref _) (Value.int _ _)) _ _ _); (with_reducible refine' item_tupleT (by k_dflt (exact heldTup (by k_asm) (by k_asm) (by k_asm) (by ktr_rel))) (by k_dflt (decide)) (by k_dflt (decide)) (by k_dflt (rfl)) (by k_dflt (rfl)) ?_); k_dflt (k_whole)) | (walk1; all_goals (try dsimp only)) | (dsimp only; walk1) | (dsimp only; with_reducible show wpAny _ _ _ _ _ _) | (leave1; (try dsimp only)) | fail "no step"))
  refine' hret _ _ _ _ (by k_asm) (back ?kN N ?G ?F') ⟨_, rfl, intv _ ?e1⟩
  case kN => assumption
  case G => assumption
  case F' => assumption
  case e1 => decide +kernel
theorem whole_15_sp (w : World) (mean : ExcName → Option Value) (mg mb : MV) (news : Led) (tx : Tok) :
   Sp w mean mg mb 93 [.str (Str.ofString "15") tx] 4 60 news (fun news' v => ∃ new, news' = new ++ news ∧ ∃ t, v = .int 15 t) := by
  intro dp un gd cn cs aa ccd cl outer A₀ base h₀ L m s Q E B F X N T hk hd hu hret
  refine wpAny_call ?_
  k_dflt (refine' code_defG (news := []) ?k1 ?k2 ?k3 ?k4 ?k5 ?kA ?kF ?kK ?k6 ?k7 ?k8 ?k9 ?kB ?_ ?c2 ?c3 ?c4 ?c5; (case kA => exact rfl); (case kF => exact rfl); (case kK => assumption); (case k1 => k_asm); (case k2 => k_asm); (case k3 => k_asm); (case k4 => exact News.nil); (case k5 => k_asm); (case k6 => k_is); (case k7 => k_is); (case k8 => ktr_room); (case k9 => exact BindsTo.of_eq rfl); (case c5 => decide); (case kB => exact locs rfl); (case c2 => exact rfl); (case c3 => exact rfl); (case c4 => exact rfl); k_whole; intro _ _ _ _ _ _ _ _ _ _; (try dsimp only); (try k_fold))
  (repeat' (first | (k_unfold; (try dsimp only)) | (k_end; wrow_close) | ((with_reducible show wpAny _ _ (PySem.call (Value.ref _) _) _ _ _); first | (k_here; (first | (with_reducible show wpAny _ _ (PySem.call (Value.ref _) [Value.str _ _]) _ _ _) | (with_reducible show wpAny _ _ (PySem.call (Value.ref _) [Value.str _ _, _]) _ _ _)); k_dflt ktx_write) | (k_here; (with_reducible show wpAny _ _ (PySem.call (Value.ref _) _) _ _ _); k_dflt (refine wpAny_call ?_; refine' code_def (by k_asm) (by k_asm) (by k_asm) (by k_asm) (by k_asm) (by exact rfl) (by exact rfl) (by exact rfl) (by k_is) (by k_is) (by ktr_room) (by first | exact BindsTo.of_eq rfl | exact binds_K (by k_in) rfl (by k_is) rfl rfl rfl) (by exact locs rfl) ?_ (by exact rfl) (by exact rfl) (by exact rfl) (by decide); k_whole; intro _ _ _ _ _ _ _ _ _; (try dsimp only); (try k_fold))) | fail) | ((with_reducible show wpAny _ _ (PySem.call (Value.builtin "len") [Value.str _ _]) _ _ _); (with_reducible refine' PyProof.Rows.len_str (by k_dflt (decide +kernel)) ?_)) | (k_here; first | ((with_reducible show wpAny _ _ (eval (Expr.Call (Expr.Name _ _) [Expr.Name _ _] [] _) _) _ _ _); k_dflt (refine' bigCall1 (by k_asm) (by k_asm) (by k_asm) (by k_is) (by k_is) (by rfl) ?_; k_whole)) | ((with_reducible show wpAny _ _ (eval (Expr.Call (Expr.Name _ _) [Expr.Name _ _, Expr.Name _ _] [] _) _) _ _ _); k_dflt (refine' bigCall2 (by k_asm) (by k_asm) (by k_asm) (by k_is) (by k_is) (by rfl) (by rfl) ?_; k_whole)) | ((with_reducible show wpAny _ _ (eval (Expr.Call (Expr.Name _ _) [Expr.Name _ _, Expr.Name _ _, Expr.Name _ _] [] _) _) _ _ _); k_dflt (refine' bigCall3 (by k_asm) (by k_asm) (by k_asm) (by k_is) (by k_is) (by rfl) (by rfl) (by rfl) ?_; k_whole)) | ((with_reducible show wpAny _ _ (eval (Expr.Call (Expr.Name _ _) [Expr.Name _ _, Expr.Name _ _, Expr.Name _ _, Expr.Name _ _] [] _) _) _ _ _); k_dflt (refine' bigCall4 (by k_asm) (by k_asm) (by k_asm) (by k_is) (by k_is) (by rfl) (by rfl) (by rfl) (by rfl) ?_; k_whole))) | (k_here; (with_reducible show wpAny _ _ (callWith _ (Value.builtin _) [_] _ _) _ _ _); (with_reducible refine' callWith_method1 ?_ (by k_dflt (rfl)) (by k_dflt (rfl)))) | (k_here; (with_reducible show wpAny _ _ (subscriptTail (PySem.Expr.Name ..) _ (Value.ref _) (Value.int _ _)) _ _ _); (with_reducible refine' listItem (by k_dflt (k_asm)) (by k_dflt (k_mem)) (by k_dflt (decide)) (by k_dflt (decide)) (by k_dflt (exact rfl)) ?_)) | (k_here; (with_reducible show wpAny _ _ (PySem.call (Value.builtin "len") [Value.ref _]) _ _ _); (with_reducible refine' kst_len (by k_dflt (k_asm)) (by k_dflt (k_mem)) (List.length_map _) (by k_dflt (omega)) ?_)) | (k_here; (with_reducible show wpAny _ _ (subscriptTail (PySem.Expr.Name ..) _ (Value.ref _) (Value.int _ _)) _ _ _); (with_reducible refine' item_tupleT (by k_dflt (exact heldTup (by k_asm) (by k_asm) (by k_asm) (by ktr_rel))) (by k_dflt (decide)) (by k_dflt (decide)) (by k_dflt (rfl)) (by k_dflt (rfl)) ?_); k_dflt (k_whole)) | (walk1; all_goals (try dsimp only)) | (dsimp only; walk1) | (dsimp only; with_reducible show wpAny _ _ _ _ _ _) | (leave1; (try dsimp only)) | fail "no step"))
  refine' hret _ _ _ _ (by k_asm) (back ?kN N ?G ?F') ⟨_, rfl, intv _ ?e1⟩
  case kN => assumption
  case G => assumption
  case F' => assumption
  case e1 => decide +kernel
theorem whole_10_sp (w : World) (mean : ExcName → Option Value) (mg mb : MV) (news : Led) (tx : Tok) :
   Sp w mean mg mb 93 [.str (Str.ofString "10") tx] 4 60 news (fun news' v => ∃ new, news' = new ++ news ∧ ∃ t, v = .int 10 t) := by
  intro dp un gd cn cs aa ccd cl outer A₀ base h₀ L m s Q E B F X N T hk hd hu hret
  refine wpAny_call ?_
  k_dflt (refine' code_defG (news := []) ?k1 ?k2 ?k3 ?k4 ?k5 ?kA ?kF ?kK ?k6 ?k7 ?k8 ?k9 ?kB ?_ ?c2 ?c3 ?c4 ?c5; (case kA => exact rfl); (case kF => exact rfl); (case kK => assumption); (case k1 => k_asm); (case k2 => k_asm); (case k3 => k_asm); (case k4 => exact News.nil); (case k5 => k_asm); (case k6 => k_is); (case k7 => k_is); (case k8 => ktr_room); (case k9 => exact BindsTo.of_eq rfl); (case c5 => decide); (case kB => exact locs rfl); (case c2 => exact rfl); (case c3 => exact rfl); (case c4 => exact rfl); k_whole; intro _ _ _ _ _ _ _ _ _ _; (try dsimp only); (try k_fold))
  (repeat' (first | (k_unfold; (try dsimp only)) | (k_end; wrow_close) | ((with_reducible show wpAny _ _ (PySem.call (Value.ref _) _) _ _ _); first | (k_here; (first | (with_reducible show wpAny _ _ (PySem.call (Value.ref _) [Value.str _ _]) _ _ _) | (with_reducible show wpAny _ _ (PySem.call (Value.ref _) [Value.str _ _, _]) _ _ _)); k_dflt ktx_write) | (k_here; (with_reducible show wpAny _ _ (PySem.call (Value.ref _) _) _ _ _); k_dflt (refine wpAny_call ?_; refine' code_def (by k_asm) (by k_asm) (by k_asm) (by k_asm) (by k_asm) (by exact rfl) (by exact rfl) (by exact rfl) (by k_is) (by k_is) (by ktr_room) (by first | exact BindsTo.of_eq rfl | exact binds_K (by k_in) rfl (by k_is) rfl rfl rfl) (by exact locs rfl) ?_ (by exact rfl) (by exact rfl) (by exact rfl) (by decide); k_whole; intro _ _ _ _ _ _ _ _ _; (try dsimp only); (try k_fold))) | fail) | ((with_reducible show wpAny _ _ (PySem.call (Value.builtin "len") [Value.str _ _]) _ _ _); (with_reducible refine' PyProof.Rows.len_str (by k_dflt (decide +kernel)) ?_)) | (k_here; first | ((with_reducible show wpAny _ _ (eval (Expr.Call (Expr.Name _ _) [Expr.Name _ _] [] _) _) _ _ _); k_dflt (refine' bigCall1 (by k_asm) (by k_asm) (by k_asm) (by k_is) (by k_is) (by rfl) ?_; k_whole)) | ((with_reducible show wpAny _ _ (eval (Expr.Call (Expr.Name _ _) [Expr.Name _ _, Expr.Name _ _] [] _) _) _ _ _); k_dflt (refine' bigCall2 (by k_asm) (by k_asm) (by k_asm) (by k_is) (by k_is) (by rfl) (by rfl) ?_; k_whole)) | ((with_reducible show wpAny _ _ (eval (Expr.Call (Expr.Name _ _) [Expr.Name _ _, Expr.Name _ _, Expr.Name _ _] [] _) _) _ _ _); k_dflt (refine' bigCall3 (by k_asm) (by k_asm) (by k_asm) (by k_is) (by k_is) (by rfl) (by rfl) (by rfl) ?_; k_whole)) | ((with_reducible show wpAny _ _ (eval (Expr.Call (Expr.Name _ _) [Expr.Name _ _, Expr.Name _ _, Expr.Name _ _, Expr.Name _ _] [] _) _) _ _ _); k_dflt (refine' bigCall4 (by k_asm) (by k_asm) (by k_asm) (by k_is) (by k_is) (by rfl) (by rfl) (by rfl) (by rfl) ?_; k_whole))) | (k_here; (with_reducible show wpAny _ _ (callWith _ (Value.builtin _) [_] _ _) _ _ _); (with_reducible refine' callWith_method1 ?_ (by k_dflt (rfl)) (by k_dflt (rfl)))) | (k_here; (with_reducible show wpAny _ _ (subscriptTail (PySem.Expr.Name ..) _ (Value.ref _) (Value.int _ _)) _ _ _); (with_reducible refine' listItem (by k_dflt (k_asm)) (by k_dflt (k_mem)) (by k_dflt (decide)) (by k_dflt (decide)) (by k_dflt (exact rfl)) ?_)) | (k_here; (with_reducible show wpAny _ _ (PySem.call (Value.builtin "len") [Value.ref _]) _ _ _); (with_reducible refine' kst_len (by k_dflt (k_asm)) (by k_dflt (k_mem)) (List.length_map _) (by k_dflt (omega)) ?_)) | (k_here; (with_reducible show wpAny _ _ (subscriptTail (PySem.Expr.Name ..) _ (Value.ref _) (Value.int _ _)) _ _ _); (with_reducible refine' item_tupleT (by k_dflt (exact heldTup (by k_asm) (by k_asm) (by k_asm) (by ktr_rel))) (by k_dflt (decide)) (by k_dflt (decide)) (by k_dflt (rfl)) (by k_dflt (rfl)) ?_); k_dflt (k_whole)) | (walk1; all_goals (try dsimp only)) | (dsimp only; walk1) | (dsimp only; with_reducible show wpAny _ _ _ _ _ _) | (leave1; (try dsimp only)) | fail "no step"))
  refine' hret _ _ _ _ (by k_asm) (back ?kN N ?G ?F') ⟨_, rfl, intv _ ?e1⟩
  case kN => assumption
  case G => assumption
  case F' => assumption
  case e1 => decide +kernel
theorem number_1_1_sp (w : World) (mean : ExcName → Option Value) (mg mb : MV) (news : Led) (t u : Tok) :
   Sp w mean mg mb 44 [.int 1 t, .int 1 u] 6 120 news (fun news' v => ∃ new, news' = new ++ news ∧ NumAt w new v 1 1) :=
  number_gen w mean mg mb news 1 1 1 1 1 t u (by decide) (by decide) (by decide) (by decide) (by decide) (by decide) (cd1_sp w mean mg mb 1 1 (by decide) (by decide) (by decide)) (by decide) (by decide)
theorem number_2_1_sp (w : World) (mean : ExcName → Option Value) (mg mb : MV) (news : Led) (t u : Tok) :
   Sp w mean mg mb 44 [.int 2 t, .int 1 u] 6 120 news (fun news' v => ∃ new, news' = new ++ news ∧ NumAt w new v 2 1) :=
  number_gen w mean mg mb news 2 1 1 2 1 t u (by decide) (by decide) (by decide) (by decide) (by decide) (by decide) (cd1_sp w mean mg mb 2 1 (by decide) (by decide) (by decide)) (by decide) (by decide)
theorem number_15_10_sp (w : World) (mean : ExcName → Option Value) (mg mb : MV) (news : Led) (t u : Tok) :
   Sp w mean mg mb 44 [.int 15 t, .int 10 u] 6 120 news (fun news' v => ∃ new, news' = new ++ news ∧ NumAt w new v 3 2) :=
  number_gen w mean mg mb news 15 10 5 3 2 t u (by decide) (by decide) (by decide) (by decide) (by decide) (by decide) (by have h := cd2_sp w mean mg mb 15 10 (by decide) (by decide) (by decide) (by decide) (by decide); rw [show Int.fmod (absI 15) 10 = 5 from by decide] at h; exact h) (by decide) (by decide)
theorem number_10_10_sp (w : World) (mean : ExcName → Option Value) (mg mb : MV) (news : Led) (t u : Tok) :
   Sp w mean mg mb 44 [.int 10 t, .int 10 u] 6 120 news (fun news' v => ∃ new, news' = new ++ news ∧ NumAt w new v 1 1) :=
  number_gen w mean mg mb news 10 10 10 1 1 t u (by decide) (by decide) (by decide) (by decide) (by decide) (by decide) (cd1_sp w mean mg mb 10 10 (by decide) (by decide) (by decide)) (by decide) (by decide)
theorem trim_e_sp (w : World) (mean : ExcName → Option Value) (mg mb : MV) (news : Led) (tx : Tok) :
   Sp w mean mg mb 86 [.str (Str.ofString "") tx] 4 100 news (fun news' v => ∃ new, news' = new ++ news ∧ ∃ t, v = .str (Str.ofString "") t) := by
  intro dp un gd cn cs aa ccd cl outer A₀ base h₀ L m s Q E B F X N T hk hd hu hret
  refine wpAny_call ?_
  k_dflt (refine' code_defG (news := []) ?k1 ?k2 ?k3 ?k4 ?k5 ?kA ?kF ?kK ?k6 ?k7 ?k8 ?k9 ?kB ?_ ?c2 ?c3 ?c4 ?c5; (case kA => exact rfl); (case kF => exact rfl); (case kK => assumption); (case k1 => k_asm); (case k2 => k_asm); (case k3 => k_asm); (case k4 => exact News.nil); (case k5 => k_asm); (case k6 => k_is); (case k7 => k_is); (case k8 => ktr_room); (case k9 => exact BindsTo.of_eq rfl); (case c5 => decide); (case kB => exact locs rfl); (case c2 => exact rfl); (case c3 => exact rfl); (case c4 => exact rfl); k_whole; intro _ _ _ _ _ _ _ _ _ _; (try dsimp only); (try k_fold))
  (repeat' (first | (k_unfold; (try dsimp only)) | (k_end; wrow_close) | ((with_reducible show wpAny _ _ (PySem.call (Value.ref _) _) _ _ _); first | (k_here; (first | (with_reducible show wpAny _ _ (PySem.call (Value.ref _) [Value.str _ _]) _ _ _) | (with_reducible show wpAny _ _ (PySem.call (Value.ref _) [Value.str _ _, _]) _ _ _)); k_dflt ktx_write) | (k_here; (with_reducible show wpAny _ _ (PySem.call (Value.ref _) _) _ _ _); k_dflt (refine wpAny_call ?_; refine' code_def (by k_asm) (by k_asm) (by k_asm) (by k_asm) (by k_asm) (by exact rfl) (by exact rfl) (by exact rfl) (by k_is) (by k_is) (by ktr_room) (by first | exact BindsTo.of_eq rfl | exact binds_K (by k_in) rfl (by k_is) rfl rfl rfl) (by exact locs rfl) ?_ (by exact rfl) (by exact rfl) (by exact rfl) (by decide); k_whole; intro _ _ _ _ _ _ _ _ _; (try dsimp only); (try k_fold))) | fail) | ((with_reducible show wpAny _ _ (PySem.call (Value.builtin "len") [Value.str _ _]) _ _ _); (with_reducible refine' PyProof.Rows.len_str (by k_dflt (decide +kernel)) ?_)) | (k_here; first | ((with_reducible show wpAny _ _ (eval (Expr.Call (Expr.Name _ _) [Expr.Name _ _] [] _) _) _ _ _); k_dflt (refine' bigCall1 (by k_asm) (by k_asm) (by k_asm) (by k_is) (by k_is) (by rfl) ?_; k_whole)) | ((with_reducible show wpAny _ _ (eval (Expr.Call (Expr.Name _ _) [Expr.Name _ _, Expr.Name _ _] [] _) _) _ _ _); k_dflt (refine' bigCall2 (by k_asm) (by k_asm) (by k_asm) (by k_is) (by k_is) (by rfl) (by rfl) ?_; k_whole)) | ((with_reducible show wpAny _ _ (eval (Expr.Call (Expr.Name _ _) [Expr.Name _ _, Expr.Name _ _, Expr.Name _ _] [] _) _) _ _ _); k_dflt (refine' bigCall3 (by k_asm) (by k_asm) (by k_asm) (by k_is) (by k_is) (by rfl) (by rfl) (by rfl) ?_; k_whole)) | ((with_reducible show wpAny _ _ (eval (Expr.Call (Expr.Name _ _) [Expr.Name _ _, Expr.Name _ _, Expr.Name _ _, Expr.Name _ _] [] _) _) _ _ _); k_dflt (refine' bigCall4 (by k_asm) (by k_asm) (by k_asm) (by k_is) (by k_is) (by rfl) (by rfl) (by rfl) (by rfl) ?_; k_whole))) | (k_here; (with_reducible show wpAny _ _ (callWith _ (Value.builtin _) [_] _ _) _ _ _); (with_reducible refine' callWith_method1 ?_ (by k_dflt (rfl)) (by k_dflt (rfl)))) | (k_here; (with_reducible show wpAny _ _ (subscriptTail (PySem.Expr.Name ..) _ (Value.ref _) (Value.int _ _)) _ _ _); (with_reducible refine' listItem (by k_dflt (k_asm)) (by k_dflt (k_mem)) (by k_dflt (decide)) (by k_dflt (decide)) (by k_dflt (exact rfl)) ?_)) | (k_here; (with_reducible show wpAny _ _ (PySem.call (Value.builtin "len") [Value.ref _]) _ _ _); (with_reducible refine' kst_len (by k_dflt (k_asm)) (by k_dflt (k_mem)) (List.length_map _) (by k_dflt (omega)) ?_)) | (k_here; (with_reducible show wpAny _ _ (subscriptTail (PySem.Expr.Name ..) _ (Value.ref _) (Value.int _ _)) _ _ _); (with_reducible refine' item_tupleT (by k_dflt (exact heldTup (by k_asm) (by k_asm) (by k_asm) (by ktr_rel))) (by k_dflt (decide)) (by k_dflt (decide)) (by k_dflt (rfl)) (by k_dflt (rfl)) ?_); k_dflt (k_whole)) | (walk1; all_goals (try dsimp only)) | (dsimp only; walk1) | (dsimp only; with_reducible show wpAny _ _ _ _ _ _) | (leave1; (try dsimp only)) | fail "no step"))
  refine' hret _ _ _ _ (by k_asm) (back ?kN N ?G ?F') ⟨_, rfl, strv _ ?e1⟩
  case kN => assumption
  case G => assumption
  case F' => assumption
  case e1 => decide +kernel
theorem trim_s1_sp (w : World) (mean : ExcName → Option Value) (mg mb : MV) (news : Led) (tx : Tok) :
   Sp w mean mg mb 86 [.str (Str.ofString " 1 ") tx] 4 100 news (fun news' v => ∃ new, news' = new ++ news ∧ ∃ t, v = .str (Str.ofString "1") t) := by
  intro dp un gd cn cs aa ccd cl outer A₀ base h₀ L m s Q E B F X N T hk hd hu hret
  refine wpAny_call ?_
  k_dflt (refine' code_defG (news := []) ?k1 ?k2 ?k3 ?k4 ?k5 ?kA ?kF ?kK ?k6 ?k7 ?k8 ?k9 ?kB ?_ ?c2 ?c3 ?c4 ?c5; (case kA => exact rfl); (case kF => exact rfl); (case kK => assumption); (case k1 => k_asm); (case k2 => k_asm); (case k3 => k_asm); (case k4 => exact News.nil); (case k5 => k_asm); (case k6 => k_is); (case k7 => k_is); (case k8 => ktr_room); (case k9 => exact BindsTo.of_eq rfl); (case c5 => decide); (case kB => exact locs rfl); (case c2 => exact rfl); (case c3 => exact rfl); (case c4 => exact rfl); k_whole; intro _ _ _ _ _ _ _ _ _ _; (try dsimp only); (try k_fold))
  (repeat' (first | (k_unfold; (try dsimp only)) | (k_end; wrow_close) | ((with_reducible show wpAny _ _ (PySem.call (Value.ref _) _) _ _ _); first | (k_here; (first | (with_reducible show wpAny _ _ (PySem.call (Value.ref _) [Value.str _ _]) _ _ _) | (with_reducible show wpAny _ _ (PySem.call (Value.ref _) [Value.str _ _, _]) _ _ _)); k_dflt ktx_write) | (k_here; (with_reducible show wpAny _ _ (PySem.call (Value.ref _) _) _ _ _); k_dflt (refine wpAny_call ?_; refine' code_def (by k_asm) (by k_asm) (by k_asm) (by k_asm) (by k_asm) (by exact rfl) (by exact rfl) (by exact rfl) (by k_is) (by k_is) (by ktr_room) (by first | exact BindsTo.of_eq rfl | exact binds_K (by k_in) rfl (by k_is) rfl rfl rfl) (by exact locs rfl) ?_ (by exact rfl) (by exact rfl) (by exact rfl) (by decide); k_whole; intro _ _ _ _ _ _ _ _ _; (try dsimp only); (try k_fold))) | fail) | ((with_reducible show wpAny _ _ (PySem.call (Value.builtin "len") [Value.str _ _]) _ _ _); (with_reducible refine' PyProof.Rows.len_str (by k_dflt (decide +kernel)) ?_)) | (k_here; first | ((with_reducible show wpAny _ _ (eval (Expr.Call (Expr.Name _ _) [Expr.Name _ _] [] _) _) _ _ _); k_dflt (refine' bigCall1 (by k_asm) (by k_asm) (by k_asm) (by k_is) (by k_is) (by rfl) ?_; k_whole)) | ((with_reducible show wpAny _ _ (eval (Expr.Call (Expr.Name _ _) [Expr.Name _ _, Expr.Name _ _] [] _) _) _ _ _); k_dflt (refine' bigCall2 (by k_asm) (by k_asm) (by k_asm) (by k_is) (by k_is) (by rfl) (by rfl) ?_; k_whole)) | ((with_reducible show wpAny _ _ (eval (Expr.Call (Expr.Name _ _) [Expr.Name _ _, Expr.Name _ _, Expr.Name _ _] [] _) _) _ _ _); k_dflt (refine' bigCall3 (by k_asm) (by k_asm) (by k_asm) (by k_is) (by k_is) (by rfl) (by rfl) (by rfl) ?_; k_whole)) | ((with_reducible show wpAny _ _ (eval (Expr.Call (Expr.Name _ _) [Expr.Name _ _, Expr.Name _ _, Expr.Name _ _, Expr.Name _ _] [] _) _) _ _ _); k_dflt (refine' bigCall4 (by k_asm) (by k_asm) (by k_asm) (by k_is) (by k_is) (by rfl) (by rfl) (by rfl) (by rfl) ?_; k_whole))) | (k_here; (with_reducible show wpAny _ _ (callWith _ (Value.builtin _) [_] _ _) _ _ _); (with_reducible refine' callWith_method1 ?_ (by k_dflt (rfl)) (by k_dflt (rfl)))) | (k_here; (with_reducible show wpAny _ _ (subscriptTail (PySem.Expr.Name ..) _ (Value.ref _) (Value.int _ _)) _ _ _); (with_reducible refine' listItem (by k_dflt (k_asm)) (by k_dflt (k_mem)) (by k_dflt (decide)) (by k_dflt (decide)) (by k_dflt (exact rfl)) ?_)) | (k_here; (with_reducible show wpAny _ _ (PySem.call (Value.builtin "len") [Value.ref _]) _ _ _); (with_reducible refine' kst_len (by k_dflt (k_asm)) (by k_dflt (k_mem)) (List.length_map _) (by k_dflt (omega)) ?_)) | (k_here; (with_reducible show wpAny _ _ (subscriptTail (PySem.Expr.Name ..) _ (Value.ref _) (Value.int _ _)) _ _ _); (with_reducible refine' item_tupleT (by k_dflt (exact heldTup (by k_asm) (by k_asm) (by k_asm) (by ktr_rel))) (by k_dflt (decide)) (by k_dflt (decide)) (by k_dflt (rfl)) (by k_dflt (rfl)) ?_); k_dflt (k_whole)) | (walk1; all_goals (try dsimp only)) | (dsimp only; walk1) | (dsimp only; with_reducible show wpAny _ _ _ _ _ _) | (leave1; (try dsimp only)) | fail "no step"))
  refine' hret _ _ _ _ (by k_asm) (back ?kN N ?G ?F') ⟨_, rfl, strv _ ?e1⟩
  case kN => assumption
  case G => assumption
  case F' => assumption
  case e1 => decide +kernel
local macro_rules | `(tactic| ktr_rel) => `(tactic| first | with_reducible assumption | ((with_reducible show HeldK _ (_ ++ _) _ _); exact HeldK.mono (by with_reducible assumption) (fun _ h => List.mem_append_left _ h)) | ((with_reducible show HeldK _ (_ :: _) _ _); exact HeldK.tail (by ktr_rel)))
theorem read_e_sp (w : World) (mean : ExcName → Option Value) (mg mb : MV) (news : Led) (tx : Tok) :
   Sp w mean mg mb 100 [.str (Str.ofString "") tx] 12 200 news (fun news' v => ∃ new, news' = new ++ news ∧ NumAt w news' v 0 0 ∧ Fresh new news ∧ NumAt w new v 0 0) := by
  intro dp un gd cn cs aa ccd cl outer A₀ base h₀ L m s Q E B F X N T hk hd hu hret
  refine wpAny_call ?_
  k_dflt (refine' code_defG (news := []) ?k1 ?k2 ?k3 ?k4 ?k5 ?kA ?kF ?kK ?k6 ?k7 ?k8 ?k9 ?kB ?_ ?c2 ?c3 ?c4 ?c5; (case kA => exact rfl); (case kF => exact rfl); (case kK => assumption); (case k1 => k_asm); (case k2 => k_asm); (case k3 => k_asm); (case k4 => exact News.nil); (case k5 => k_asm); (case k6 => k_is); (case k7 => k_is); (case k8 => ktr_room); (case k9 => exact BindsTo.of_eq rfl); (case c5 => decide); (case kB => exact locs rfl); (case c2 => exact rfl); (case c3 => exact rfl); (case c4 => exact rfl); k_whole; intro _ _ _ _ _ _ _ _ _ _; (try dsimp only); (try k_fold))
  (repeat' (first | (k_unfold; (try dsimp only)) | (k_end; wrow_close) | ((with_reducible show wpAny _ _ (PySem.call (Value.ref _) _) _ _ _); first | (k_here; (with_reducible show wpAny _ _ (PySem.call (Value.ref 44) _) _ _ _); k_dflt (first | ((refine' useN (C := (number_1_1_sp _ _ _ _ _ _ _)) (h := ?_); intro _ _ _ _ _ _ _ _ _; (try k_sweep); (try dsimp only))) | ((refine' useN (C := (number_2_1_sp _ _ _ _ _ _ _)) (h := ?_); intro _ _ _ _ _ _ _ _ _; (try k_sweep); (try dsimp only))) | ((refine' useN (C := (number_15_10_sp _ _ _ _ _ _ _)) (h := ?_); intro _ _ _ _ _ _ _ _ _; (try k_sweep); (try dsimp only))) | ((refine' useN (C := (number_10_10_sp _ _ _ _ _ _ _)) (h := ?_); intro _ _ _ _ _ _ _ _ _; (try k_sweep); (try dsimp only))) | fail)) | (k_here; (with_reducible show wpAny _ _ (PySem.call (Value.ref 93) _) _ _ _); k_dflt (first | ((refine' useD (C := (whole_1_sp _ _ _ _ _ _)) (h := ?_); intro _ _ _ _ _ _; (try k_sweep); (try dsimp only))) | ((refine' useD (C := (whole_2_sp _ _ _ _ _ _)) (h := ?_); intro _ _ _ _ _ _; (try k_sweep); (try dsimp only))) | ((refine' useD (C := (whole_15_sp _ _ _ _ _ _)) (h := ?_); intro _ _ _ _ _ _; (try k_sweep); (try dsimp only))) | ((refine' useD (C := (whole_10_sp _ _ _ _ _ _)) (h := ?_); intro _ _ _ _ _ _; (try k_sweep); (try dsimp only))) | fail)) | (k_here; (with_reducible show wpAny _ _ (PySem.call (Value.ref 79) _) _ _ _); k_dflt (first | ((refine' useB (C := (digits_lit _ _ _ _ _ _ _ _ 0 _ 0 (by decide +kernel) (by decide +kernel) (by decide +kernel))) (h := ?_); intro _ _ _ _ _; (try k_sweep); (try dsimp only))) | ((refine' useB (C := (digits_lit _ _ _ _ _ _ _ _ 0 _ 1 (by decide +kernel) (by decide +kernel) (by decide +kernel))) (h := ?_); intro _ _ _ _ _; (try k_sweep); (try dsimp only))) | ((refine' useB (C := (digits_lit _ _ _ _ _ _ _ _ 1 _ 2 (by decide +kernel) (by decide +kernel) (by decide +kernel))) (h := ?_); intro _ _ _ _ _; (try k_sweep); (try dsimp only))) | ((refine' useB (C := (digits_lit _ _ _ _ _ _ _ _ 2 _ 3 (by decide +kernel) (by decide +kernel) (by decide +kernel))) (h := ?_); intro _ _ _ _ _; (try k_sweep); (try dsimp only))) | fail)) | (k_here; (with_reducible show wpAny _ _ (PySem.call (Value.ref 86) _) _ _ _); k_dflt (first | ((refine' useD (C := (trim_e_sp _ _ _ _ _ _)) (h := ?_); intro _ _ _ _ _ _; (try k_sweep); (try dsimp only))) | ((refine' useD (C := (trim_s1_sp _ _ _ _ _ _)) (h := ?_); intro _ _ _ _ _ _; (try k_sweep); (try dsimp only))) | ((refine' useD (C := (trimmed_plain _ _ _ _ _ _ _ (by decide +kernel) (by decide +kernel) (by decide +kernel) (by decide +kernel) (by decide +kernel))) (h := ?_); intro _ _ _ _ _ _; (try k_sweep); (try dsimp only))) | fail)) | (k_here; (first | (with_reducible show wpAny _ _ (PySem.call (Value.ref _) [Value.str _ _]) _ _ _) | (with_reducible show wpAny _ _ (PySem.call (Value.ref _) [Value.str _ _, _]) _ _ _)); k_dflt ktx_write) | (k_here; (with_reducible show wpAny _ _ (PySem.call (Value.ref _) _) _ _ _); k_dflt (refine wpAny_call ?_; refine' code_def (by k_asm) (by k_asm) (by k_asm) (by k_asm) (by k_asm) (by exact rfl) (by exact rfl) (by exact rfl) (by k_is) (by k_is) (by ktr_room) (by first | exact BindsTo.of_eq rfl | exact binds_K (by k_in) rfl (by k_is) rfl rfl rfl) (by exact locs rfl) ?_ (by exact rfl) (by exact rfl) (by exact rfl) (by decide); k_whole; intro _ _ _ _ _ _ _ _ _; (try dsimp only); (try k_fold))) | fail) | ((with_reducible show wpAny _ _ (PySem.call (Value.builtin "len") [Value.str _ _]) _ _ _); (with_reducible refine' PyProof.Rows.len_str (by k_dflt (decide +kernel)) ?_)) | (k_here; first | ((with_reducible show wpAny _ _ (eval (Expr.Call (Expr.Name _ _) [Expr.Name _ _] [] _) _) _ _ _); k_dflt (refine' bigCall1 (by k_asm) (by k_asm) (by k_asm) (by k_is) (by k_is) (by rfl) ?_; k_whole)) | ((with_reducible show wpAny _ _ (eval (Expr.Call (Expr.Name _ _) [Expr.Name _ _, Expr.Name _ _] [] _) _) _ _ _); k_dflt (refine' bigCall2 (by k_asm) (by k_asm) (by k_asm) (by k_is) (by k_is) (by rfl) (by rfl) ?_; k_whole)) | ((with_reducible show wpAny _ _ (eval (Expr.Call (Expr.Name _ _) [Expr.Name _ _, Expr.Name _ _, Expr.Name _ _] [] _) _) _ _ _); k_dflt (refine' bigCall3 (by k_asm) (by k_asm) (by k_asm) (by k_is) (by k_is) (by rfl) (by rfl) (by rfl) ?_; k_whole)) | ((with_reducible show wpAny _ _ (eval (Expr.Call (Expr.Name _ _) [Expr.Name _ _, Expr.Name _ _, Expr.Name _ _, Expr.Name _ _] [] _) _) _ _ _); k_dflt (refine' bigCall4 (by k_asm) (by k_asm) (by k_asm) (by k_is) (by k_is) (by rfl) (by rfl) (by rfl) (by rfl) ?_; k_whole))) | (k_here; (with_reducible show wpAny _ _ (callWith _ (Value.builtin _) [_] _ _) _ _ _); (with_reducible refine' callWith_method1 ?_ (by k_dflt (rfl)) (by k_dflt (rfl)))) | (k_here; (with_reducible show wpAny _ _ (subscriptTail (PySem.Expr.Name ..) _ (Value.ref _) (Value.int _ _)) _ _ _); (with_reducible refine' listItem (by k_dflt (k_asm)) (by k_dflt (k_mem)) (by k_dflt (decide)) (by k_dflt (decide)) (by k_dflt (exact rfl)) ?_)) | (k_here; (with_reducible show wpAny _ _ (PySem.call (Value.builtin "len") [Value.ref _]) _ _ _); (with_reducible refine' kst_len (by k_dflt (k_asm)) (by k_dflt (k_mem)) (List.length_map _) (by k_dflt (omega)) ?_)) | (k_here; (with_reducible show wpAny _ _ (subscriptTail (PySem.Expr.Name ..) _ (Value.ref _) (Value.int _ _)) _ _ _); (with_reducible refine' item_tupleT (by k_dflt (exact heldTup (by k_asm) (by k_asm) (by k_asm) (by ktr_rel))) (by k_dflt (decide)) (by k_dflt (decide)) (by k_dflt (rfl)) (by k_dflt (rfl)) ?_); k_dflt (k_whole)) | (walk1; all_goals (try dsimp only)) | (dsimp only; walk1) | (dsimp only; with_reducible show wpAny _ _ _ _ _ _) | (leave1; (try dsimp only)) | fail "no step"))
  refine' hret _ _ _ _ (by k_asm) (back ?kN N ?G ?F') (readR (fresh ?N2 N ?G) ⟨_, _, _, rfl, .inr (nanK w)⟩)
  case kN => assumption
  case G => assumption
  case F' => assumption
  case N2 => assumption
theorem read_a_sp (w : World) (mean : ExcName → Option Value) (mg mb : MV) (news : Led) (tx : Tok) :
   Sp w mean mg mb 100 [.str (Str.ofString "a") tx] 12 200 news (fun news' v => ∃ new, news' = new ++ news ∧ NumAt w news' v 0 0 ∧ Fresh new news ∧ NumAt w new v 0 0) := by
  intro dp un gd cn cs aa ccd cl outer A₀ base h₀ L m s Q E B F X N T hk hd hu hret
  refine wpAny_call ?_
  k_dflt (refine' code_defG (news := []) ?k1 ?k2 ?k3 ?k4 ?k5 ?kA ?kF ?kK ?k6 ?k7 ?k8 ?k9 ?kB ?_ ?c2 ?c3 ?c4 ?c5; (case kA => exact rfl); (case kF => exact rfl); (case kK => assumption); (case k1 => k_asm); (case k2 => k_asm); (case k3 => k_asm); (case k4 => exact News.nil); (case k5 => k_asm); (case k6 => k_is); (case k7 => k_is); (case k8 => ktr_room); (case k9 => exact BindsTo.of_eq rfl); (case c5 => decide); (case kB => exact locs rfl); (case c2 => exact rfl); (case c3 => exact rfl); (case c4 => exact rfl); k_whole; intro _ _ _ _ _ _ _ _ _ _; (try dsimp only); (try k_fold))
  (repeat' (first | (k_unfold; (try dsimp only)) | (k_end; wrow_close) | ((with_reducible show wpAny _ _ (PySem.call (Value.ref _) _) _ _ _); first | (k_here; (with_reducible show wpAny _ _ (PySem.call (Value.ref 44) _) _ _ _); k_dflt (first | ((refine' useN (C := (number_1_1_sp _ _ _ _ _ _ _)) (h := ?_); intro _ _ _ _ _ _ _ _ _; (try k_sweep); (try dsimp only))) | ((refine' useN (C := (number_2_1_sp _ _ _ _ _ _ _)) (h := ?_); intro _ _ _ _ _ _ _ _ _; (try k_sweep); (try dsimp only))) | ((refine' useN (C := (number_15_10_sp _ _ _ _ _ _ _)) (h := ?_); intro _ _ _ _ _ _ _ _ _; (try k_sweep); (try dsimp only))) | ((refine' useN (C := (number_10_10_sp _ _ _ _ _ _ _)) (h := ?_); intro _ _ _ _ _ _ _ _ _; (try k_sweep); (try dsimp only))) | fail)) | (k_here; (with_reducible show wpAny _ _ (PySem.call (Value.ref 93) _) _ _ _); k_dflt (first | ((refine' useD (C := (whole_1_sp _ _ _ _ _ _)) (h := ?_); intro _ _ _ _ _ _; (try k_sweep); (try dsimp only))) | ((refine' useD (C := (whole_2_sp _ _ _ _ _ _)) (h := ?_); intro _ _ _ _ _ _; (try k_sweep); (try dsimp only))) | ((refine' useD (C := (whole_15_sp _ _ _ _ _ _)) (h := ?_); intro _ _ _ _ _ _; (try k_sweep); (try dsimp only))) | ((refine' useD (C := (whole_10_sp _ _ _ _ _ _)) (h := ?_); intro _ _ _ _ _ _; (try k_sweep); (try dsimp only))) | fail)) | (k_here; (with_reducible show wpAny _ _ (PySem.call (Value.ref 79) _) _ _ _); k_dflt (first | ((refine' useB (C := (digits_lit _ _ _ _ _ _ _ _ 0 _ 0 (by decide +kernel) (by decide +kernel) (by decide +kernel))) (h := ?_); intro _ _ _ _ _; (try k_sweep); (try dsimp only))) | ((refine' useB (C := (digits_lit _ _ _ _ _ _ _ _ 0 _ 1 (by decide +kernel) (by decide +kernel) (by decide +kernel))) (h := ?_); intro _ _ _ _ _; (try k_sweep); (try dsimp only))) | ((refine' useB (C := (digits_lit _ _ _ _ _ _ _ _ 1 _ 2 (by decide +kernel) (by decide +kernel) (by decide +kernel))) (h := ?_); intro _ _ _ _ _; (try k_sweep); (try dsimp only))) | ((refine' useB (C := (digits_lit _ _ _ _ _ _ _ _ 2 _ 3 (by decide +kernel) (by decide +kernel) (by decide +kernel))) (h := ?_); intro _ _ _ _ _; (try k_sweep); (try dsimp only))) | fail)) | (k_here; (with_reducible show wpAny _ _ (PySem.call (Value.ref 86) _) _ _ _); k_dflt (first | ((refine' useD (C := (trim_e_sp _ _ _ _ _ _)) (h := ?_); intro _ _ _ _ _ _; (try k_sweep); (try dsimp only))) | ((refine' useD (C := (trim_s1_sp _ _ _ _ _ _)) (h := ?_); intro _ _ _ _ _ _; (try k_sweep); (try dsimp only))) | ((refine' useD (C := (trimmed_plain _ _ _ _ _ _ _ (by decide +kernel) (by decide +kernel) (by decide +kernel) (by decide +kernel) (by decide +kernel))) (h := ?_); intro _ _ _ _ _ _; (try k_sweep); (try dsimp only))) | fail)) | (k_here; (first | (with_reducible show wpAny _ _ (PySem.call (Value.ref _) [Value.str _ _]) _ _ _) | (with_reducible show wpAny _ _ (PySem.call (Value.ref _) [Value.str _ _, _]) _ _ _)); k_dflt ktx_write) | (k_here; (with_reducible show wpAny _ _ (PySem.call (Value.ref _) _) _ _ _); k_dflt (refine wpAny_call ?_; refine' code_def (by k_asm) (by k_asm) (by k_asm) (by k_asm) (by k_asm) (by exact rfl) (by exact rfl) (by exact rfl) (by k_is) (by k_is) (by ktr_room) (by first | exact BindsTo.of_eq rfl | exact binds_K (by k_in) rfl (by k_is) rfl rfl rfl) (by exact locs rfl) ?_ (by exact rfl) (by exact rfl) (by exact rfl) (by decide); k_whole; intro _ _ _ _ _ _ _ _ _; (try dsimp only); (try k_fold))) | fail) | ((with_reducible show wpAny _ _ (PySem.call (Value.builtin "len") [Value.str _ _]) _ _ _); (with_reducible refine' PyProof.Rows.len_str (by k_dflt (decide +kernel)) ?_)) | (k_here; first | ((with_reducible show wpAny _ _ (eval (Expr.Call (Expr.Name _ _) [Expr.Name _ _] [] _) _) _ _ _); k_dflt (refine' bigCall1 (by k_asm) (by k_asm) (by k_asm) (by k_is) (by k_is) (by rfl) ?_; k_whole)) | ((with_reducible show wpAny _ _ (eval (Expr.Call (Expr.Name _ _) [Expr.Name _ _, Expr.Name _ _] [] _) _) _ _ _); k_dflt (refine' bigCall2 (by k_asm) (by k_asm) (by k_asm) (by k_is) (by k_is) (by rfl) (by rfl) ?_; k_whole)) | ((with_reducible show wpAny _ _ (eval (Expr.Call (Expr.Name _ _) [Expr.Name _ _, Expr.Name _ _, Expr.Name _ _] [] _) _) _ _ _); k_dflt (refine' bigCall3 (by k_asm) (by k_asm) (by k_asm) (by k_is) (by k_is) (by rfl) (by rfl) (by rfl) ?_; k_whole)) | ((with_reducible show wpAny _ _ (eval (Expr.Call (Expr.Name _ _) [Expr.Name _ _, Expr.Name _ _, Expr.Name _ _, Expr.Name _ _] [] _) _) _ _ _); k_dflt (refine' bigCall4 (by k_asm) (by k_asm) (by k_asm) (by k_is) (by k_is) (by rfl) (by rfl) (by rfl) (by rfl) ?_; k_whole))) | (k_here; (with_reducible show wpAny _ _ (callWith _ (Value.builtin _) [_] _ _) _ _ _); (with_reducible refine' callWith_method1 ?_ (by k_dflt (rfl)) (by k_dflt (rfl)))) | (k_here; (with_reducible show wpAny _ _ (subscriptTail (PySem.Expr.Name ..) _ (Value.ref _) (Value.int _ _)) _ _ _); (with_reducible refine' listItem (by k_dflt (k_asm)) (by k_dflt (k_mem)) (by k_dflt (decide)) (by k_dflt (decide)) (by k_dflt (exact rfl)) ?_)) | (k_here; (with_reducible show wpAny _ _ (PySem.call (Value.builtin "len") [Value.ref _]) _ _ _); (with_reducible refine' kst_len (by k_dflt (k_asm)) (by k_dflt (k_mem)) (List.length_map _) (by k_dflt (omega)) ?_)) | (k_here; (with_reducible show wpAny _ _ (subscriptTail (PySem.Expr.Name ..) _ (Value.ref _) (Value.int _ _)) _ _ _); (with_reducible refine' item_tupleT (by k_dflt (exact heldTup (by k_asm) (by k_asm) (by k_asm) (by ktr_rel))) (by k_dflt (decide)) (by k_dflt (decide)) (by k_dflt (rfl)) (by k_dflt (rfl)) ?_); k_dflt (k_whole)) | (walk1; all_goals (try dsimp only)) | (dsimp only; walk1) | (dsimp only; with_reducible show wpAny _ _ _ _ _ _) | (leave1; (try dsimp only)) | fail "no step"))
  refine' hret _ _ _ _ (by k_asm) (back ?kN N ?G ?F') (readR (fresh ?N2 N ?G) ⟨_, _, _, rfl, .inr (nanK w)⟩)
  case kN => assumption
  case G => assumption
  case F' => assumption
  case N2 => assumption
theorem read_1_sp (w : World) (mean : ExcName → Option Value) (mg mb : MV) (news : Led) (tx : Tok) :
   Sp w mean mg mb 100 [.str (Str.ofString "1") tx] 12 200 news (fun news' v => ∃ new, news' = new ++ news ∧ NumAt w news' v 1 1 ∧ Fresh new news ∧ NumAt w new v 1 1) := by
  intro dp un gd cn cs aa ccd cl outer A₀ base h₀ L m s Q E B F X N T hk hd hu hret
  refine wpAny_call ?_
  k_dflt (refine' code_defG (news := []) ?k1 ?k2 ?k3 ?k4 ?k5 ?kA ?kF ?kK ?k6 ?k7 ?k8 ?k9 ?kB ?_ ?c2 ?c3 ?c4 ?c5; (case kA => exact rfl); (case kF => exact rfl); (case kK => assumption); (case k1 => k_asm); (case k2 => k_asm); (case k3 => k_asm); (case k4 => exact News.nil); (case k5 => k_asm); (case k6 => k_is); (case k7 => k_is); (case k8 => ktr_room); (case k9 => exact BindsTo.of_eq rfl); (case c5 => decide); (case kB => exact locs rfl); (case c2 => exact rfl); (case c3 => exact rfl); (case c4 => exact rfl); k_whole; intro _ _ _ _ _ _ _ _ _ _; (try dsimp only); (try k_fold))
  (repeat' (first | (k_unfold; (try dsimp only)) | (k_end; wrow_close) | ((with_reducible show wpAny _ _ (PySem.call (Value.ref _) _) _ _ _); first | (k_here; (with_reducible show wpAny _ _ (PySem.call (Value.ref 44) _) _ _ _); k_dflt (first | ((refine' useN (C := (number_1_1_sp _ _ _ _ _ _ _)) (h := ?_); intro _ _ _ _ _ _ _ _ _; (try k_sweep); (try dsimp only))) | ((refine' useN (C := (number_2_1_sp _ _ _ _ _ _ _)) (h := ?_); intro _ _ _ _ _ _ _ _ _; (try k_sweep); (try dsimp only))) | ((refine' useN (C := (number_15_10_sp _ _ _ _ _ _ _)) (h := ?_); intro _ _ _ _ _ _ _ _ _; (try k_sweep); (try dsimp only))) | ((refine' useN (C := (number_10_10_sp _ _ _ _ _ _ _)) (h := ?_); intro _ _ _ _ _ _ _ _ _; (try k_sweep); (try dsimp only))) | fail)) | (k_here; (with_reducible show wpAny _ _ (PySem.call (Value.ref 93) _) _ _ _); k_dflt (first | ((refine' useD (C := (whole_1_sp _ _ _ _ _ _)) (h := ?_); intro _ _ _ _ _ _; (try k_sweep); (try dsimp only))) | ((refine' useD (C := (whole_2_sp _ _ _ _ _ _)) (h := ?_); intro _ _ _ _ _ _; (try k_sweep); (try dsimp only))) | ((refine' useD (C := (whole_15_sp _ _ _ _ _ _)) (h := ?_); intro _ _ _ _ _ _; (try k_sweep); (try dsimp only))) | ((refine' useD (C := (whole_10_sp _ _ _ _ _ _)) (h := ?_); intro _ _ _ _ _ _; (try k_sweep); (try dsimp only))) | fail)) | (k_here; (with_reducible show wpAny _ _ (PySem.call (Value.ref 79) _) _ _ _); k_dflt (first | ((refine' useB (C := (digits_lit _ _ _ _ _ _ _ _ 0 _ 0 (by decide +kernel) (by decide +kernel) (by decide +kernel))) (h := ?_); intro _ _ _ _ _; (try k_sweep); (try dsimp only))) | ((refine' useB (C := (digits_lit _ _ _ _ _ _ _ _ 0 _ 1 (by decide +kernel) (by decide +kernel) (by decide +kernel))) (h := ?_); intro _ _ _ _ _; (try k_sweep); (try dsimp only))) | ((refine' useB (C := (digits_lit _ _ _ _ _ _ _ _ 1 _ 2 (by decide +kernel) (by decide +kernel) (by decide +kernel))) (h := ?_); intro _ _ _ _ _; (try k_sweep); (try dsimp only))) | ((refine' useB (C := (digits_lit _ _ _ _ _ _ _ _ 2 _ 3 (by decide +kernel) (by decide +kernel) (by decide +kernel))) (h := ?_); intro _ _ _ _ _; (try k_sweep); (try dsimp only))) | fail)) | (k_here; (with_reducible show wpAny _ _ (PySem.call (Value.ref 86) _) _ _ _); k_dflt (first | ((refine' useD (C := (trim_e_sp _ _ _ _ _ _)) (h := ?_); intro _ _ _ _ _ _; (try k_sweep); (try dsimp only))) | ((refine' useD (C := (trim_s1_sp _ _ _ _ _ _)) (h := ?_); intro _ _ _ _ _ _; (try k_sweep); (try dsimp only))) | ((refine' useD (C := (trimmed_plain _ _ _ _ _ _ _ (by decide +kernel) (by decide +kernel) (by decide +kernel) (by decide +kernel) (by decide +kernel))) (h := ?_); intro _ _ _ _ _ _; (try k_sweep); (try dsimp only))) | fail)) | (k_here; (first | (with_reducible show wpAny _ _ (PySem.call (Value.ref _) [Value.str _ _]) _ _ _) | (with_reducible show wpAny _ _ (PySem.call (Value.ref _) [Value.str _ _, _]) _ _ _)); k_dflt ktx_write) | (k_here; (with_reducible show wpAny _ _ (PySem.call (Value.ref _) _) _ _ _); k_dflt (refine wpAny_call ?_; refine' code_def (by k_asm) (by k_asm) (by k_asm) (by k_asm) (by k_asm) (by exact rfl) (by exact rfl) (by exact rfl) (by k_is) (by k_is) (by ktr_room) (by first | exact BindsTo.of_eq rfl | exact binds_K (by k_in) rfl (by k_is) rfl rfl rfl) (by exact locs rfl) ?_ (by exact rfl) (by exact rfl) (by exact rfl) (by decide); k_whole; intro _ _ _ _ _ _ _ _ _; (try dsimp only); (try k_fold))) | fail) | ((with_reducible show wpAny _ _ (PySem.call (Value.builtin "len") [Value.str _ _]) _ _ _); (with_reducible refine' PyProof.Rows.len_str (by k_dflt (decide +kernel)) ?_)) | (k_here; first | ((with_reducible show wpAny _ _ (eval (Expr.Call (Expr.Name _ _) [Expr.Name _ _] [] _) _) _ _ _); k_dflt (refine' bigCall1 (by k_asm) (by k_asm) (by k_asm) (by k_is) (by k_is) (by rfl) ?_; k_whole)) | ((with_reducible show wpAny _ _ (eval (Expr.Call (Expr.Name _ _) [Expr.Name _ _, Expr.Name _ _] [] _) _) _ _ _); k_dflt (refine' bigCall2 (by k_asm) (by k_asm) (by k_asm) (by k_is) (by k_is) (by rfl) (by rfl) ?_; k_whole)) | ((with_reducible show wpAny _ _ (eval (Expr.Call (Expr.Name _ _) [Expr.Name _ _, Expr.Name _ _, Expr.Name _ _] [] _) _) _ _ _); k_dflt (refine' bigCall3 (by k_asm) (by k_asm) (by k_asm) (by k_is) (by k_is) (by rfl) (by rfl) (by rfl) ?_; k_whole)) | ((with_reducible show wpAny _ _ (eval (Expr.Call (Expr.Name _ _) [Expr.Name _ _, Expr.Name _ _, Expr.Name _ _, Expr.Name _ _] [] _) _) _ _ _); k_dflt (refine' bigCall4 (by k_asm) (by k_asm) (by k_asm) (by k_is) (by k_is) (by rfl) (by rfl) (by rfl) (by rfl) ?_; k_whole))) | (k_here; (with_reducible show wpAny _ _ (callWith _ (Value.builtin _) [_] _ _) _ _ _); (with_reducible refine' callWith_method1 ?_ (by k_dflt (rfl)) (by k_dflt (rfl)))) | (k_here; (with_reducible show wpAny _ _ (subscriptTail (PySem.Expr.Name ..) _ (Value.ref _) (Value.int _ _)) _ _ _); (with_reducible refine' listItem (by k_dflt (k_asm)) (by k_dflt (k_mem)) (by k_dflt (decide)) (by k_dflt (decide)) (by k_dflt (exact rfl)) ?_)) | (k_here; (with_reducible show wpAny _ _ (PySem.call (Value.builtin "len") [Value.ref _]) _ _ _); (with_reducible refine' kst_len (by k_dflt (k_asm)) (by k_dflt (k_mem)) (List.length_map _) (by k_dflt (omega)) ?_)) | (k_here; (with_reducible show wpAny _ _ (subscriptTail (PySem.Expr.Name ..) _ (Value.ref _) (Value.int _ _)) _ _ _); (with_reducible refine' item_tupleT (by k_dflt (exact heldTup (by k_asm) (by k_asm) (by k_asm) (by ktr_rel))) (by k_dflt (decide)) (by k_dflt (decide)) (by k_dflt (rfl)) (by k_dflt (rfl)) ?_); k_dflt (k_whole)) | (walk1; all_goals (try dsimp only)) | (dsimp only; walk1) | (dsimp only; with_reducible show wpAny _ _ _ _ _ _) | (leave1; (try dsimp only)) | fail "no step"))
  refine' hret _ _ _ _ (by k_asm) (back ?kN N ?G ?F') (readR (fresh ?N2 N ?G) ⟨_, _, _, rfl, ?num⟩)
  case kN => assumption
  case G => assumption
  case F' => assumption
  case N2 => assumption
  case num => ktr_rel
theorem read_2_sp (w : World) (mean : ExcName → Option Value) (mg mb : MV) (news : Led) (tx : Tok) :
   Sp w mean mg mb 100 [.str (Str.ofString "2") tx] 12 200 news (fun news' v => ∃ new, news' = new ++ news ∧ NumAt w news' v 2 1 ∧ Fresh new news ∧ NumAt w new v 2 1) := by
  intro dp un gd cn cs aa ccd cl outer A₀ base h₀ L m s Q E B F X N T hk hd hu hret
  refine wpAny_call ?_
  k_dflt (refine' code_defG (news := []) ?k1 ?k2 ?k3 ?k4 ?k5 ?kA ?kF ?kK ?k6 ?k7 ?k8 ?k9 ?kB ?_ ?c2 ?c3 ?c4 ?c5; (case kA => exact rfl); (case kF => exact rfl); (case kK => assumption); (case k1 => k_asm); (case k2 => k_asm); (case k3 => k_asm); (case k4 => exact News.nil); (case k5 => k_asm); (case k6 => k_is); (case k7 => k_is); (case k8 => ktr_room); (case k9 => exact BindsTo.of_eq rfl); (case c5 => decide); (case kB => exact locs rfl); (case c2 => exact rfl); (case c3 => exact rfl); (case c4 => exact rfl); k_whole; intro _ _ _ _ _ _ _ _ _ _; (try dsimp only); (try k_fold))
  (repeat' (first | (k_unfold; (try dsimp only)) | (k_end; wrow_close) | ((with_reducible show wpAny _ _ (PySem.call (Value.ref _) _) _ _ _); first | (k_here; (with_reducible show wpAny _ _ (PySem.call (Value.ref 44) _) _ _ _); k_dflt (first | ((refine' useN (C := (number_1_1_sp _ _ _ _ _ _ _)) (h := ?_); intro _ _ _ _ _ _ _ _ _; (try k_sweep); (try dsimp only))) | ((refine' useN (C := (number_2_1_sp _ _ _ _ _ _ _)) (h := ?_); intro _ _ _ _ _ _ _ _ _; (try k_sweep); (try dsimp only))) | ((refine' useN (C := (number_15_10_sp _ _ _ _ _ _ _)) (h := ?_); intro _ _ _ _ _ _ _ _ _; (try k_sweep); (try dsimp only))) | ((refine' useN (C := (number_10_10_sp _ _ _ _ _ _ _)) (h := ?_); intro _ _ _ _ _ _ _ _ _; (try k_sweep); (try dsimp only))) | fail)) | (k_here; (with_reducible show wpAny _ _ (PySem.call (Value.ref 93) _) _ _ _); k_dflt (first | ((refine' useD (C := (whole_1_sp _ _ _ _ _ _)) (h := ?_); intro _ _ _ _ _ _; (try k_sweep); (try dsimp only))) | ((refine' useD (C := (whole_2_sp _ _ _ _ _ _)) (h := ?_); intro _ _ _ _ _ _; (try k_sweep); (try dsimp only))) | ((refine' useD (C := (whole_15_sp _ _ _ _ _ _)) (h := ?_); intro _ _ _ _ _ _; (try k_sweep); (try dsimp only))) | ((refine' useD (C := (whole_10_sp _ _ _ _ _ _)) (h := ?_); intro _ _ _ _ _ _; (try k_sweep); (try dsimp only))) | fail)) | (k_here; (with_reducible show wpAny _ _ (PySem.call (Value.ref 79) _) _ _ _); k_dflt (first | ((refine' useB (C := (digits_lit _ _ _ _ _ _ _ _ 0 _ 0 (by decide +kernel) (by decide +kernel) (by decide +kernel))) (h := ?_); intro _ _ _ _ _; (try k_sweep); (try dsimp only))) | ((refine' useB (C := (digits_lit _ _ _ _ _ _ _ _ 0 _ 1 (by decide +kernel) (by decide +kernel) (by decide +kernel))) (h := ?_); intro _ _ _ _ _; (try k_sweep); (try dsimp only))) | ((refine' useB (C := (digits_lit _ _ _ _ _ _ _ _ 1 _ 2 (by decide +kernel) (by decide +kernel) (by decide +kernel))) (h := ?_); intro _ _ _ _ _; (try k_sweep); (try dsimp only))) | ((refine' useB (C := (digits_lit _ _ _ _ _ _ _ _ 2 _ 3 (by decide +kernel) (by decide +kernel) (by decide +kernel))) (h := ?_); intro _ _ _ _ _; (try k_sweep); (try dsimp only))) | fail)) | (k_here; (with_reducible show wpAny _ _ (PySem.call (Value.ref 86) _) _ _ _); k_dflt (first | ((refine' useD (C := (trim_e_sp _ _ _ _ _ _)) (h := ?_); intro _ _ _ _ _ _; (try k_sweep); (try dsimp only))) | ((refine' useD (C := (trim_s1_sp _ _ _ _ _ _)) (h := ?_); intro _ _ _ _ _ _; (try k_sweep); (try dsimp only))) | ((refine' useD (C := (trimmed_plain _ _ _ _ _ _ _ (by decide +kernel) (by decide +kernel) (by decide +kernel) (by decide +kernel) (by decide +kernel))) (h := ?_); intro _ _ _ _ _ _; (try k_sweep); (try dsimp only))) | fail)) | (k_here; (first | (with_reducible show wpAny _ _ (PySem.call (Value.ref _) [Value.str _ _]) _ _ _) | (with_reducible show wpAny _ _ (PySem.call (Value.ref _) [Value.str _ _, _]) _ _ _)); k_dflt ktx_write) | (k_here; (with_reducible show wpAny _ _ (PySem.call (Value.ref _) _) _ _ _); k_dflt (refine wpAny_call ?_; refine' code_def (by k_asm) (by k_asm) (by k_asm) (by k_asm) (by k_asm) (by exact rfl) (by exact rfl) (by exact rfl) (by k_is) (by k_is) (by ktr_room) (by first | exact BindsTo.of_eq rfl | exact binds_K (by k_in) rfl (by k_is) rfl rfl rfl) (by exact locs rfl) ?_ (by exact rfl) (by exact rfl) (by exact rfl) (by decide); k_whole; intro _ _ _ _ _ _ _ _ _; (try dsimp only); (try k_fold))) | fail) | ((with_reducible show wpAny _ _ (PySem.call (Value.builtin "len") [Value.str _ _]) _ _ _); (with_reducible refine' PyProof.Rows.len_str (by k_dflt (decide +kernel)) ?_)) | (k_here; first | ((with_reducible show wpAny _ _ (eval (Expr.Call (Expr.Name _ _) [Expr.Name _ _] [] _) _) _ _ _); k_dflt (refine' bigCall1 (by k_asm) (by k_asm) (by k_asm) (by k_is) (by k_is) (by rfl) ?_; k_whole)) | ((with_reducible show wpAny _ _ (eval (Expr.Call (Expr.Name _ _) [Expr.Name _ _, Expr.Name _ _] [] _) _) _ _ _); k_dflt (refine' bigCall2 (by k_asm) (by k_asm) (by k_asm) (by k_is) (by k_is) (by rfl) (by rfl) ?_; k_whole)) | ((with_reducible show wpAny _ _ (eval (Expr.Call (Expr.Name _ _) [Expr.Name _ _, Expr.Name _ _, Expr.Name _ _] [] _) _) _ _ _); k_dflt (refine' bigCall3 (by k_asm) (by k_asm) (by k_asm) (by k_is) (by k_is) (by rfl) (by rfl) (by rfl) ?_; k_whole)) | ((with_reducible show wpAny _ _ (eval (Expr.Call (Expr.Name _ _) [Expr.Name _ _, Expr.Name _ _, Expr.Name _ _, Expr.Name _ _] [] _) _) _ _ _); k_dflt (refine' bigCall4 (by k_asm) (by k_asm) (by k_asm) (by k_is) (by k_is) (by rfl) (by rfl) (by rfl) (by rfl) ?_; k_whole))) | (k_here; (with_reducible show wpAny _ _ (callWith _ (Value.builtin _) [_] _ _) _ _ _); (with_reducible refine' callWith_method1 ?_ (by k_dflt (rfl)) (by k_dflt (rfl)))) | (k_here; (with_reducible show wpAny _ _ (subscriptTail (PySem.Expr.Name ..) _ (Value.ref _) (Value.int _ _)) _ _ _); (with_reducible refine' listItem (by k_dflt (k_asm)) (by k_dflt (k_mem)) (by k_dflt (decide)) (by k_dflt (decide)) (by k_dflt (exact rfl)) ?_)) | (k_here; (with_reducible show wpAny _ _ (PySem.call (Value.builtin "len") [Value.ref _]) _ _ _); (with_reducible refine' kst_len (by k_dflt (k_asm)) (by k_dflt (k_mem)) (List.length_map _) (by k_dflt (omega)) ?_)) | (k_here; (with_reducible show wpAny _ _ (subscriptTail (PySem.Expr.Name ..) _ (Value.ref _) (Value.int _ _)) _ _ _); (with_reducible refine' item_tupleT (by k_dflt (exact heldTup (by k_asm) (by k_asm) (by k_asm) (by ktr_rel))) (by k_dflt (decide)) (by k_dflt (decide)) (by k_dflt (rfl)) (by k_dflt (rfl)) ?_); k_dflt (k_whole)) | (walk1; all_goals (try dsimp only)) | (dsimp only; walk1) | (dsimp only; with_reducible show wpAny _ _ _ _ _ _) | (leave1; (try dsimp only)) | fail "no step"))
  refine' hret _ _ _ _ (by k_asm) (back ?kN N ?G ?F') (readR (fresh ?N2 N ?G) ⟨_, _, _, rfl, ?num⟩)
  case kN => assumption
  case G => assumption
  case F' => assumption
  case N2 => assumption
  case num => ktr_rel
theorem read_15_sp (w : World) (mean : ExcName → Option Value) (mg mb : MV) (news : Led) (tx : Tok) :
   Sp w mean mg mb 100 [.str (Str.ofString "1.5") tx] 12 200 news (fun news' v => ∃ new, news' = new ++ news ∧ NumAt w news' v 3 2 ∧ Fresh new news ∧ NumAt w new v 3 2) := by
  intro dp un gd cn cs aa ccd cl outer A₀ base h₀ L m s Q E B F X N T hk hd hu hret
  refine wpAny_call ?_
  k_dflt (refine' code_defG (news := []) ?k1 ?k2 ?k3 ?k4 ?k5 ?kA ?kF ?kK ?k6 ?k7 ?k8 ?k9 ?kB ?_ ?c2 ?c3 ?c4 ?c5; (case kA => exact rfl); (case kF => exact rfl); (case kK => assumption); (case k1 => k_asm); (case k2 => k_asm); (case k3 => k_asm); (case k4 => exact News.nil); (case k5 => k_asm); (case k6 => k_is); (case k7 => k_is); (case k8 => ktr_room); (case k9 => exact BindsTo.of_eq rfl); (case c5 => decide); (case kB => exact locs rfl); (case c2 => exact rfl); (case c3 => exact rfl); (case c4 => exact rfl); k_whole; intro _ _ _ _ _ _ _ _ _ _; (try dsimp only); (try k_fold))
  (repeat' (first | (k_unfold; (try dsimp only)) | (k_end; wrow_close) | ((with_reducible show wpAny _ _ (PySem.call (Value.ref _) _) _ _ _); first | (k_here; (with_reducible show wpAny _ _ (PySem.call (Value.ref 44) _) _ _ _); k_dflt (first | ((refine' useN (C := (number_1_1_sp _ _ _ _ _ _ _)) (h := ?_); intro _ _ _ _ _ _ _ _ _; (try k_sweep); (try dsimp only))) | ((refine' useN (C := (number_2_1_sp _ _ _ _ _ _ _)) (h := ?_); intro _ _ _ _ _ _ _ _ _; (try k_sweep); (try dsimp only))) | ((refine' useN (C := (number_15_10_sp _ _ _ _ _ _ _)) (h := ?_); intro _ _ _ _ _ _ _ _ _; (try k_sweep); (try dsimp only))) | ((refine' useN (C := (number_10_10_sp _ _ _ _ _ _ _)) (h := ?_); intro _ _ _ _ _ _ _ _ _; (try k_sweep); (try dsimp only))) | fail)) | (k_here; (with_reducible show wpAny _ _ (PySem.call (Value.ref 93) _) _ _ _); k_dflt (first | ((refine' useD (C := (whole_1_sp _ _ _ _ _ _)) (h := ?_); intro _ _ _ _ _ _; (try k_sweep); (try dsimp only))) | ((refine' useD (C := (whole_2_sp _ _ _ _ _ _)) (h := ?_); intro _ _ _ _ _ _; (try k_sweep); (try dsimp only))) | ((refine' useD (C := (whole_15_sp _ _ _ _ _ _)) (h := ?_); intro _ _ _ _ _ _; (try k_sweep); (try dsimp only))) | ((refine' useD (C := (whole_10_sp _ _ _ _ _ _)) (h := ?_); intro _ _ _ _ _ _; (try k_sweep); (try dsimp only))) | fail)) | (k_here; (with_reducible show wpAny _ _ (PySem.call (Value.ref 79) _) _ _ _); k_dflt (first | ((refine' useB (C := (digits_lit _ _ _ _ _ _ _ _ 0 _ 0 (by decide +kernel) (by decide +kernel) (by decide +kernel))) (h := ?_); intro _ _ _ _ _; (try k_sweep); (try dsimp only))) | ((refine' useB (C := (digits_lit _ _ _ _ _ _ _ _ 0 _ 1 (by decide +kernel) (by decide +kernel) (by decide +kernel))) (h := ?_); intro _ _ _ _ _; (try k_sweep); (try dsimp only))) | ((refine' useB (C := (digits_lit _ _ _ _ _ _ _ _ 1 _ 2 (by decide +kernel) (by decide +kernel) (by decide +kernel))) (h := ?_); intro _ _ _ _ _; (try k_sweep); (try dsimp only))) | ((refine' useB (C := (digits_lit _ _ _ _ _ _ _ _ 2 _ 3 (by decide +kernel) (by decide +kernel) (by decide +kernel))) (h := ?_); intro _ _ _ _ _; (try k_sweep); (try dsimp only))) | fail)) | (k_here; (with_reducible show wpAny _ _ (PySem.call (Value.ref 86) _) _ _ _); k_dflt (first | ((refine' useD (C := (trim_e_sp _ _ _ _ _ _)) (h := ?_); intro _ _ _ _ _ _; (try k_sweep); (try dsimp only))) | ((refine' useD (C := (trim_s1_sp _ _ _ _ _ _)) (h := ?_); intro _ _ _ _ _ _; (try k_sweep); (try dsimp only))) | ((refine' useD (C := (trimmed_plain _ _ _ _ _ _ _ (by decide +kernel) (by decide +kernel) (by decide +kernel) (by decide +kernel) (by decide +kernel))) (h := ?_); intro _ _ _ _ _ _; (try k_sweep); (try dsimp only))) | fail)) | (k_here; (first | (with_reducible show wpAny _ _ (PySem.call (Value.ref _) [Value.str _ _]) _ _ _) | (with_reducible show wpAny _ _ (PySem.call (Value.ref _) [Value.str _ _, _]) _ _ _)); k_dflt ktx_write) | (k_here; (with_reducible show wpAny _ _ (PySem.call (Value.ref _) _) _ _ _); k_dflt (refine wpAny_call ?_; refine' code_def (by k_asm) (by k_asm) (by k_asm) (by k_asm) (by k_asm) (by exact rfl) (by exact rfl) (by exact rfl) (by k_is) (by k_is) (by ktr_room) (by first | exact BindsTo.of_eq rfl | exact binds_K (by k_in) rfl (by k_is) rfl rfl rfl) (by exact locs rfl) ?_ (by exact rfl) (by exact rfl) (by exact rfl) (by decide); k_whole; intro _ _ _ _ _ _ _ _ _; (try dsimp only); (try k_fold))) | fail) | ((with_reducible show wpAny _ _ (PySem.call (Value.builtin "len") [Value.str _ _]) _ _ _); (with_reducible refine' PyProof.Rows.len_str (by k_dflt (decide +kernel)) ?_)) | (k_here; first | ((with_reducible show wpAny _ _ (eval (Expr.Call (Expr.Name _ _) [Expr.Name _ _] [] _) _) _ _ _); k_dflt (refine' bigCall1 (by k_asm) (by k_asm) (by k_asm) (by k_is) (by k_is) (by rfl) ?_; k_whole)) | ((with_reducible show wpAny _ _ (eval (Expr.Call (Expr.Name _ _) [Expr.Name _ _, Expr.Name _ _] [] _) _) _ _ _); k_dflt (refine' bigCall2 (by k_asm) (by k_asm) (by k_asm) (by k_is) (by k_is) (by rfl) (by rfl) ?_; k_whole)) | ((with_reducible show wpAny _ _ (eval (Expr.Call (Expr.Name _ _) [Expr.Name _ _, Expr.Name _ _, Expr.Name _ _] [] _) _) _ _ _); k_dflt (refine' bigCall3 (by k_asm) (by k_asm) (by k_asm) (by k_is) (by k_is) (by rfl) (by rfl) (by rfl) ?_; k_whole)) | ((with_reducible show wpAny _ _ (eval (Expr.Call (Expr.Name _ _) [Expr.Name _ _, Expr.Name _ _, Expr.Name _ _, Expr.Name _ _] [] _) _) _ _ _); k_dflt (refine' bigCall4 (by k_asm) (by k_asm) (by k_asm) (by k_is) (by k_is) (by rfl) (by rfl) (by rfl) (by rfl) ?_; k_whole))) | (k_here; (with_reducible show wpAny _ _ (callWith _ (Value.builtin _) [_] _ _) _ _ _); (with_reducible refine' callWith_method1 ?_ (by k_dflt (rfl)) (by k_dflt (rfl)))) | (k_here; (with_reducible show wpAny _ _ (subscriptTail (PySem.Expr.Name ..) _ (Value.ref _) (Value.int _ _)) _ _ _); (with_reducible refine' listItem (by k_dflt (k_asm)) (by k_dflt (k_mem)) (by k_dflt (decide)) (by k_dflt (decide)) (by k_dflt (exact rfl)) ?_)) | (k_here; (with_reducible show wpAny _ _ (PySem.call (Value.builtin "len") [Value.ref _]) _ _ _); (with_reducible refine' kst_len (by k_dflt (k_asm)) (by k_dflt (k_mem)) (List.length_map _) (by k_dflt (omega)) ?_)) | (k_here; (with_reducible show wpAny _ _ (subscriptTail (PySem.Expr.Name ..) _ (Value.ref _) (Value.int _ _)) _ _ _); (with_reducible refine' item_tupleT (by k_dflt (exact heldTup (by k_asm) (by k_asm) (by k_asm) (by ktr_rel))) (by k_dflt (decide)) (by k_dflt (decide)) (by k_dflt (rfl)) (by k_dflt (rfl)) ?_); k_dflt (k_whole)) | (walk1; all_goals (try dsimp only)) | (dsimp only; walk1) | (dsimp only; with_reducible show wpAny _ _ _ _ _ _) | (leave1; (try dsimp only)) | fail "no step"))
  refine' hret _ _ _ _ (by k_asm) (back ?kN N ?G ?F') (readR (fresh ?N2 N ?G) ⟨_, _, _, rfl, ?num⟩)
  case kN => assumption
  case G => assumption
  case F' => assumption
  case N2 => assumption
  case num => ktr_rel
theorem read_10_sp (w : World) (mean : ExcName → Option Value) (mg mb : MV) (news : Led) (tx : Tok) :
   Sp w mean mg mb 100 [.str (Str.ofString "1.0") tx] 12 200 news (fun news' v => ∃ new, news' = new ++ news ∧ NumAt w news' v 1 1 ∧ Fresh new news ∧ NumAt w new v 1 1) := by
  intro dp un gd cn cs aa ccd cl outer A₀ base h₀ L m s Q E B F X N T hk hd hu hret
  refine wpAny_call ?_
  k_dflt (refine' code_defG (news := []) ?k1 ?k2 ?k3 ?k4 ?k5 ?kA ?kF ?kK ?k6 ?k7 ?k8 ?k9 ?kB ?_ ?c2 ?c3 ?c4 ?c5; (case kA => exact rfl); (case kF => exact rfl); (case kK => assumption); (case k1 => k_asm); (case k2 => k_asm); (case k3 => k_asm); (case k4 => exact News.nil); (case k5 => k_asm); (case k6 => k_is); (case k7 => k_is); (case k8 => ktr_room); (case k9 => exact BindsTo.of_eq rfl); (case c5 => decide); (case kB => exact locs rfl); (case c2 => exact rfl); (case c3 => exact rfl); (case c4 => exact rfl); k_whole; intro _ _ _ _ _ _ _ _ _ _; (try dsimp only); (try k_fold))
  (repeat' (first | (k_unfold; (try dsimp only)) | (k_end; wrow_close) | ((with_reducible show wpAny _ _ (PySem.call (Value.ref _) _) _ _ _); first | (k_here; (with_reducible show wpAny _ _ (PySem.call (Value.ref 44) _) _ _ _); k_dflt (first | ((refine' useN (C := (number_1_1_sp _ _ _ _ _ _ _)) (h := ?_); intro _ _ _ _ _ _ _ _ _; (try k_sweep); (try dsimp only))) | ((refine' useN (C := (number_2_1_sp _ _ _ _ _ _ _)) (h := ?_); intro _ _ _ _ _ _ _ _ _; (try k_sweep); (try dsimp only))) | ((refine' useN (C := (number_15_10_sp _ _ _ _ _ _ _)) (h := ?_); intro _ _ _ _ _ _ _ _ _; (try k_sweep); (try dsimp only))) | ((refine' useN (C := (number_10_10_sp _ _ _ _ _ _ _)) (h := ?_); intro _ _ _ _ _ _ _ _ _; (try k_sweep); (try dsimp only))) | fail)) | (k_here; (with_reducible show wpAny _ _ (PySem.call (Value.ref 93) _) _ _ _); k_dflt (first | ((refine' useD (C := (whole_1_sp _ _ _ _ _ _)) (h := ?_); intro _ _ _ _ _ _; (try k_sweep); (try dsimp only))) | ((refine' useD (C := (whole_2_sp _ _ _ _ _ _)) (h := ?_); intro _ _ _ _ _ _; (try k_sweep); (try dsimp only))) | ((refine' useD (C := (whole_15_sp _ _ _ _ _ _)) (h := ?_); intro _ _ _ _ _ _; (try k_sweep); (try dsimp only))) | ((refine' useD (C := (whole_10_sp _ _ _ _ _ _)) (h := ?_); intro _ _ _ _ _ _; (try k_sweep); (try dsimp only))) | fail)) | (k_here; (with_reducible show wpAny _ _ (PySem.call (Value.ref 79) _) _ _ _); k_dflt (first | ((refine' useB (C := (digits_lit _ _ _ _ _ _ _ _ 0 _ 0 (by decide +kernel) (by decide +kernel) (by decide +kernel))) (h := ?_); intro _ _ _ _ _; (try k_sweep); (try dsimp only))) | ((refine' useB (C := (digits_lit _ _ _ _ _ _ _ _ 0 _ 1 (by decide +kernel) (by decide +kernel) (by decide +kernel))) (h := ?_); intro _ _ _ _ _; (try k_sweep); (try dsimp only))) | ((refine' useB (C := (digits_lit _ _ _ _ _ _ _ _ 1 _ 2 (by decide +kernel) (by decide +kernel) (by decide +kernel))) (h := ?_); intro _ _ _ _ _; (try k_sweep); (try dsimp only))) | ((refine' useB (C := (digits_lit _ _ _ _ _ _ _ _ 2 _ 3 (by decide +kernel) (by decide +kernel) (by decide +kernel))) (h := ?_); intro _ _ _ _ _; (try k_sweep); (try dsimp only))) | fail)) | (k_here; (with_reducible show wpAny _ _ (PySem.call (Value.ref 86) _) _ _ _); k_dflt (first | ((refine' useD (C := (trim_e_sp _ _ _ _ _ _)) (h := ?_); intro _ _ _ _ _ _; (try k_sweep); (try dsimp only))) | ((refine' useD (C := (trim_s1_sp _ _ _ _ _ _)) (h := ?_); intro _ _ _ _ _ _; (try k_sweep); (try dsimp only))) | ((refine' useD (C := (trimmed_plain _ _ _ _ _ _ _ (by decide +kernel) (by decide +kernel) (by decide +kernel) (by decide +kernel) (by decide +kernel))) (h := ?_); intro _ _ _ _ _ _; (try k_sweep); (try dsimp only))) | fail)) | (k_here; (first | (with_reducible show wpAny _ _ (PySem.call (Value.ref _) [Value.str _ _]) _ _ _) | (with_reducible show wpAny _ _ (PySem.call (Value.ref _) [Value.str _ _, _]) _ _ _)); k_dflt ktx_write) | (k_here; (with_reducible show wpAny _ _ (PySem.call (Value.ref _) _) _ _ _); k_dflt (refine wpAny_call ?_; refine' code_def (by k_asm) (by k_asm) (by k_asm) (by k_asm) (by k_asm) (by exact rfl) (by exact rfl) (by exact rfl) (by k_is) (by k_is) (by ktr_room) (by first | exact BindsTo.of_eq rfl | exact binds_K (by k_in) rfl (by k_is) rfl rfl rfl) (by exact locs rfl) ?_ (by exact rfl) (by exact rfl) (by exact rfl) (by decide); k_whole; intro _ _ _ _ _ _ _ _ _; (try dsimp only); (try k_fold))) | fail) | ((with_reducible show wpAny _ _ (PySem.call (Value.builtin "len") [Value.str _ _]) _ _ _); (with_reducible refine' PyProof.Rows.len_str (by k_dflt (decide +kernel)) ?_)) | (k_here; first | ((with_reducible show wpAny _ _ (eval (Expr.Call (Expr.Name _ _) [Expr.Name _ _] [] _) _) _ _ _); k_dflt (refine' bigCall1 (by k_asm) (by k_asm) (by k_asm) (by k_is) (by k_is) (by rfl) ?_; k_whole)) | ((with_reducible show wpAny _ _ (eval (Expr.Call (Expr.Name _ _) [Expr.Name _ _, Expr.Name _ _] [] _) _) _ _ _); k_dflt (refine' bigCall2 (by k_asm) (by k_asm) (by k_asm) (by k_is) (by k_is) (by rfl) (by rfl) ?_; k_whole)) | ((with_reducible show wpAny _ _ (eval (Expr.Call (Expr.Name _ _) [Expr.Name _ _, Expr.Name _ _, Expr.Name _ _] [] _) _) _ _ _); k_dflt (refine' bigCall3 (by k_asm) (by k_asm) (by k_asm) (by k_is) (by k_is) (by rfl) (by rfl) (by rfl) ?_; k_whole)) | ((with_reducible show wpAny _ _ (eval (Expr.Call (Expr.Name _ _) [Expr.Name _ _, Expr.Name _ _, Expr.Name _ _, Expr.Name _ _] [] _) _) _ _ _); k_dflt (refine' bigCall4 (by k_asm) (by k_asm) (by k_asm) (by k_is) (by k_is) (by rfl) (by rfl) (by rfl) (by rfl) ?_; k_whole))) | (k_here; (with_reducible show wpAny _ _ (callWith _ (Value.builtin _) [_] _ _) _ _ _); (with_reducible refine' callWith_method1 ?_ (by k_dflt (rfl)) (by k_dflt (rfl)))) | (k_here; (with_reducible show wpAny _ _ (subscriptTail (PySem.Expr.Name ..) _ (Value.ref _) (Value.int _ _)) _ _ _); (with_reducible refine' listItem (by k_dflt (k_asm)) (by k_dflt (k_mem)) (by k_dflt (decide)) (by k_dflt (decide)) (by k_dflt (exact rfl)) ?_)) | (k_here; (with_reducible show wpAny _ _ (PySem.call (Value.builtin "len") [Value.ref _]) _ _ _); (with_reducible refine' kst_len (by k_dflt (k_asm)) (by k_dflt (k_mem)) (List.length_map _) (by k_dflt (omega)) ?_)) | (k_here; (with_reducible show wpAny _ _ (subscriptTail (PySem.Expr.Name ..) _ (Value.ref _) (Value.int _ _)) _ _ _); (with_reducible refine' item_tupleT (by k_dflt (exact heldTup (by k_asm) (by k_asm) (by k_asm) (by ktr_rel))) (by k_dflt (decide)) (by k_dflt (decide)) (by k_dflt (rfl)) (by k_dflt (rfl)) ?_); k_dflt (k_whole)) | (walk1; all_goals (try dsimp only)) | (dsimp only; walk1) | (dsimp only; with_reducible show wpAny _ _ _ _ _ _) | (leave1; (try dsimp only)) | fail "no step"))
  refine' hret _ _ _ _ (by k_asm) (back ?kN N ?G ?F') (readR (fresh ?N2 N ?G) ⟨_, _, _, rfl, ?num⟩)
  case kN => assumption
  case G => assumption
  case F' => assumption
  case N2 => assumption
  case num => ktr_rel
theorem read_s1_sp (w : World) (mean : ExcName → Option Value) (mg mb : MV) (news : Led) (tx : Tok) :
   Sp w mean mg mb 100 [.str (Str.ofString " 1 ") tx] 12 200 news (fun news' v => ∃ new, news' = new ++ news ∧ NumAt w news' v 1 1 ∧ Fresh new news ∧ NumAt w new v 1 1) := by
  intro dp un gd cn cs aa ccd cl outer A₀ base h₀ L m s Q E B F X N T hk hd hu hret
  refine wpAny_call ?_
  k_dflt (refine' code_defG (news := []) ?k1 ?k2 ?k3 ?k4 ?k5 ?kA ?kF ?kK ?k6 ?k7 ?k8 ?k9 ?kB ?_ ?c2 ?c3 ?c4 ?c5; (case kA => exact rfl); (case kF => exact rfl); (case kK => assumption); (case k1 => k_asm); (case k2 => k_asm); (case k3 => k_asm); (case k4 => exact News.nil); (case k5 => k_asm); (case k6 => k_is); (case k7 => k_is); (case k8 => ktr_room); (case k9 => exact BindsTo.of_eq rfl); (case c5 => decide); (case kB => exact locs rfl); (case c2 => exact rfl); (case c3 => exact rfl); (case c4 => exact rfl); k_whole; intro _ _ _ _ _ _ _ _ _ _; (try dsimp only); (try k_fold))
  (repeat' (first | (k_unfold; (try dsimp only)) | (k_end; wrow_close) | ((with_reducible show wpAny _ _ (PySem.call (Value.ref _) _) _ _ _); first | (k_here; (with_reducible show wpAny _ _ (PySem.call (Value.ref 44) _) _ _ _); k_dflt (first | ((refine' useN (C := (number_1_1_sp _ _ _ _ _ _ _)) (h := ?_); intro _ _ _ _ _ _ _ _ _; (try k_sweep); (try dsimp only))) | ((refine' useN (C := (number_2_1_sp _ _ _ _ _ _ _)) (h := ?_); intro _ _ _ _ _ _ _ _ _; (try k_sweep); (try dsimp only))) | ((refine' useN (C := (number_15_10_sp _ _ _ _ _ _ _)) (h := ?_); intro _ _ _ _ _ _ _ _ _; (try k_sweep); (try dsimp only))) | ((refine' useN (C := (number_10_10_sp _ _ _ _ _ _ _)) (h := ?_); intro _ _ _ _ _ _ _ _ _; (try k_sweep); (try dsimp only))) | fail)) | (k_here; (with_reducible show wpAny _ _ (PySem.call (Value.ref 93) _) _ _ _); k_dflt (first | ((refine' useD (C := (whole_1_sp _ _ _ _ _ _)) (h := ?_); intro _ _ _ _ _ _; (try k_sweep); (try dsimp only))) | ((refine' useD (C := (whole_2_sp _ _ _ _ _ _)) (h := ?_); intro _ _ _ _ _ _; (try k_sweep); (try dsimp only))) | ((refine' useD (C := (whole_15_sp _ _ _ _ _ _)) (h := ?_); intro _ _ _ _ _ _; (try k_sweep); (try dsimp only))) | ((refine' useD (C := (whole_10_sp _ _ _ _ _ _)) (h := ?_); intro _ _ _ _ _ _; (try k_sweep); (try dsimp only))) | fail)) | (k_here; (with_reducible show wpAny _ _ (PySem.call (Value.ref 79) _) _ _ _); k_dflt (first | ((refine' useB (C := (digits_lit _ _ _ _ _ _ _ _ 0 _ 0 (by decide +kernel) (by decide +kernel) (by decide +kernel))) (h := ?_); intro _ _ _ _ _; (try k_sweep); (try dsimp only))) | ((refine' useB (C := (digits_lit _ _ _ _ _ _ _ _ 0 _ 1 (by decide +kernel) (by decide +kernel) (by decide +kernel))) (h := ?_); intro _ _ _ _ _; (try k_sweep); (try dsimp only))) | ((refine' useB (C := (digits_lit _ _ _ _ _ _ _ _ 1 _ 2 (by decide +kernel) (by decide +kernel) (by decide +kernel))) (h := ?_); intro _ _ _ _ _; (try k_sweep); (try dsimp only))) | ((refine' useB (C := (digits_lit _ _ _ _ _ _ _ _ 2 _ 3 (by decide +kernel) (by decide +kernel) (by decide +kernel))) (h := ?_); intro _ _ _ _ _; (try k_sweep); (try dsimp only))) | fail)) | (k_here; (with_reducible show wpAny _ _ (PySem.call (Value.ref 86) _) _ _ _); k_dflt (first | ((refine' useD (C := (trim_e_sp _ _ _ _ _ _)) (h := ?_); intro _ _ _ _ _ _; (try k_sweep); (try dsimp only))) | ((refine' useD (C := (trim_s1_sp _ _ _ _ _ _)) (h := ?_); intro _ _ _ _ _ _; (try k_sweep); (try dsimp only))) | ((refine' useD (C := (trimmed_plain _ _ _ _ _ _ _ (by decide +kernel) (by decide +kernel) (by decide +kernel) (by decide +kernel) (by decide +kernel))) (h := ?_); intro _ _ _ _ _ _; (try k_sweep); (try dsimp only))) | fail)) | (k_here; (first | (with_reducible show wpAny _ _ (PySem.call (Value.ref _) [Value.str _ _]) _ _ _) | (with_reducible show wpAny _ _ (PySem.call (Value.ref _) [Value.str _ _, _]) _ _ _)); k_dflt ktx_write) | (k_here; (with_reducible show wpAny _ _ (PySem.call (Value.ref _) _) _ _ _); k_dflt (refine wpAny_call ?_; refine' code_def (by k_asm) (by k_asm) (by k_asm) (by k_asm) (by k_asm) (by exact rfl) (by exact rfl) (by exact rfl) (by k_is) (by k_is) (by ktr_room) (by first | exact BindsTo.of_eq rfl | exact binds_K (by k_in) rfl (by k_is) rfl rfl rfl) (by exact locs rfl) ?_ (by exact rfl) (by exact rfl) (by exact rfl) (by decide); k_whole; intro _ _ _ _ _ _ _ _ _; (try dsimp only); (try k_fold))) | fail) | ((with_reducible show wpAny _ _ (PySem.call (Value.builtin "len") [Value.str _ _]) _ _ _); (with_reducible refine' PyProof.Rows.len_str (by k_dflt (decide +kernel)) ?_)) | (k_here; first | ((with_reducible show wpAny _ _ (eval (Expr.Call (Expr.Name _ _) [Expr.Name _ _] [] _) _) _ _ _); k_dflt (refine' bigCall1 (by k_asm) (by k_asm) (by k_asm) (by k_is) (by k_is) (by rfl) ?_; k_whole)) | ((with_reducible show wpAny _ _ (eval (Expr.Call (Expr.Name _ _) [Expr.Name _ _, Expr.Name _ _] [] _) _) _ _ _); k_dflt (refine' bigCall2 (by k_asm) (by k_asm) (by k_asm) (by k_is) (by k_is) (by rfl) (by rfl) ?_; k_whole)) | ((with_reducible show wpAny _ _ (eval (Expr.Call (Expr.Name _ _) [Expr.Name _ _, Expr.Name _ _, Expr.Name _ _] [] _) _) _ _ _); k_dflt (refine' bigCall3 (by k_asm) (by k_asm) (by k_asm) (by k_is) (by k_is) (by rfl) (by rfl) (by rfl) ?_; k_whole)) | ((with_reducible show wpAny _ _ (eval (Expr.Call (Expr.Name _ _) [Expr.Name _ _, Expr.Name _ _, Expr.Name _ _, Expr.Name _ _] [] _) _) _ _ _); k_dflt (refine' bigCall4 (by k_asm) (by k_asm) (by k_asm) (by k_is) (by k_is) (by rfl) (by rfl) (by rfl) (by rfl) ?_; k_whole))) | (k_here; (with_reducible show wpAny _ _ (callWith _ (Value.builtin _) [_] _ _) _ _ _); (with_reducible refine' callWith_method1 ?_ (by k_dflt (rfl)) (by k_dflt (rfl)))) | (k_here; (with_reducible show wpAny _ _ (subscriptTail (PySem.Expr.Name ..) _ (Value.ref _) (Value.int _ _)) _ _ _); (with_reducible refine' listItem (by k_dflt (k_asm)) (by k_dflt (k_mem)) (by k_dflt (decide)) (by k_dflt (decide)) (by k_dflt (exact rfl)) ?_)) | (k_here; (with_reducible show wpAny _ _ (PySem.call (Value.builtin "len") [Value.ref _]) _ _ _); (with_reducible refine' kst_len (by k_dflt (k_asm)) (by k_dflt (k_mem)) (List.length_map _) (by k_dflt (omega)) ?_)) | (k_here; (with_reducible show wpAny _ _ (subscriptTail (PySem.Expr.Name ..) _ (Value.ref _) (Value.int _ _)) _ _ _); (with_reducible refine' item_tupleT (by k_dflt (exact heldTup (by k_asm) (by k_asm) (by k_asm) (by ktr_rel))) (by k_dflt (decide)) (by k_dflt (decide)) (by k_dflt (rfl)) (by k_dflt (rfl)) ?_); k_dflt (k_whole)) | (walk1; all_goals (try dsimp only)) | (dsimp only; walk1) | (dsimp only; with_reducible show wpAny _ _ _ _ _ _) | (leave1; (try dsimp only)) | fail "no step"))
  refine' hret _ _ _ _ (by k_asm) (back ?kN N ?G ?F') (readR (fresh ?N2 N ?G) ⟨_, _, _, rfl, ?num⟩)
  case kN => assumption
  case G => assumption
  case F' => assumption
  case N2 => assumption
  case num => ktr_rel
theorem read_m2_sp (w : World) (mean : ExcName → Option Value) (mg mb : MV) (news : Led) (tx : Tok) :
   Sp w mean mg mb 100 [.str (Str.ofString "-2") tx] 12 200 news (fun news' v => ∃ new, news' = new ++ news ∧ NumAt w news' v (-2) 1 ∧ Fresh new news ∧ NumAt w new v (-2) 1) := by
  intro dp un gd cn cs aa ccd cl outer A₀ base h₀ L m s Q E B F X N T hk hd hu hret
  refine wpAny_call ?_
  k_dflt (refine' code_defG (news := []) ?k1 ?k2 ?k3 ?k4 ?k5 ?kA ?kF ?kK ?k6 ?k7 ?k8 ?k9 ?kB ?_ ?c2 ?c3 ?c4 ?c5; (case kA => exact rfl); (case kF => exact rfl); (case kK => assumption); (case k1 => k_asm); (case k2 => k_asm); (case k3 => k_asm); (case k4 => exact News.nil); (case k5 => k_asm); (case k6 => k_is); (case k7 => k_is); (case k8 => ktr_room); (case k9 => exact BindsTo.of_eq rfl); (case c5 => decide); (case kB => exact locs rfl); (case c2 => exact rfl); (case c3 => exact rfl); (case c4 => exact rfl); k_whole; intro _ _ _ _ _ _ _ _ _ _; (try dsimp only); (try k_fold))
  (repeat' (first | (k_unfold; (try dsimp only)) | (k_end; wrow_close) | ((with_reducible show wpAny _ _ (PySem.call (Value.ref _) _) _ _ _); first | (k_here; (with_reducible show wpAny _ _ (PySem.call (Value.ref 44) _) _ _ _); k_dflt (first | ((refine' useN (C := (number_1_1_sp _ _ _ _ _ _ _)) (h := ?_); intro _ _ _ _ _ _ _ _ _; (try k_sweep); (try dsimp only))) | ((refine' useN (C := (number_2_1_sp _ _ _ _ _ _ _)) (h := ?_); intro _ _ _ _ _ _ _ _ _; (try k_sweep); (try dsimp only))) | ((refine' useN (C := (number_15_10_sp _ _ _ _ _ _ _)) (h := ?_); intro _ _ _ _ _ _ _ _ _; (try k_sweep); (try dsimp only))) | ((refine' useN (C := (number_10_10_sp _ _ _ _ _ _ _)) (h := ?_); intro _ _ _ _ _ _ _ _ _; (try k_sweep); (try dsimp only))) | fail)) | (k_here; (with_reducible show wpAny _ _ (PySem.call (Value.ref 93) _) _ _ _); k_dflt (first | ((refine' useD (C := (whole_1_sp _ _ _ _ _ _)) (h := ?_); intro _ _ _ _ _ _; (try k_sweep); (try dsimp only))) | ((refine' useD (C := (whole_2_sp _ _ _ _ _ _)) (h := ?_); intro _ _ _ _ _ _; (try k_sweep); (try dsimp only))) | ((refine' useD (C := (whole_15_sp _ _ _ _ _ _)) (h := ?_); intro _ _ _ _ _ _; (try k_sweep); (try dsimp only))) | ((refine' useD (C := (whole_10_sp _ _ _ _ _ _)) (h := ?_); intro _ _ _ _ _ _; (try k_sweep); (try dsimp only))) | fail)) | (k_here; (with_reducible show wpAny _ _ (PySem.call (Value.ref 79) _) _ _ _); k_dflt (first | ((refine' useB (C := (digits_lit _ _ _ _ _ _ _ _ 0 _ 0 (by decide +kernel) (by decide +kernel) (by decide +kernel))) (h := ?_); intro _ _ _ _ _; (try k_sweep); (try dsimp only))) | ((refine' useB (C := (digits_lit _ _ _ _ _ _ _ _ 0 _ 1 (by decide +kernel) (by decide +kernel) (by decide +kernel))) (h := ?_); intro _ _ _ _ _; (try k_sweep); (try dsimp only))) | ((refine' useB (C := (digits_lit _ _ _ _ _ _ _ _ 1 _ 2 (by decide +kernel) (by decide +kernel) (by decide +kernel))) (h := ?_); intro _ _ _ _ _; (try k_sweep); (try dsimp only))) | ((refine' useB (C := (digits_lit _ _ _ _ _ _ _ _ 2 _ 3 (by decide +kernel) (by decide +kernel) (by decide +kernel))) (h := ?_); intro _ _ _ _ _; (try k_sweep); (try dsimp only))) | fail)) | (k_here; (with_reducible show wpAny _ _ (PySem.call (Value.ref 86) _) _ _ _); k_dflt (first | ((refine' useD (C := (trim_e_sp _ _ _ _ _ _)) (h := ?_); intro _ _ _ _ _ _; (try k_sweep); (try dsimp only))) | ((refine' useD (C := (trim_s1_sp _ _ _ _ _ _)) (h := ?_); intro _ _ _ _ _ _; (try k_sweep); (try dsimp only))) | ((refine' useD (C := (trimmed_plain _ _ _ _ _ _ _ (by decide +kernel) (by decide +kernel) (by decide +kernel) (by decide +kernel) (by decide +kernel))) (h := ?_); intro _ _ _ _ _ _; (try k_sweep); (try dsimp only))) | fail)) | (k_here; (first | (with_reducible show wpAny _ _ (PySem.call (Value.ref _) [Value.str _ _]) _ _ _) | (with_reducible show wpAny _ _ (PySem.call (Value.ref _) [Value.str _ _, _]) _ _ _)); k_dflt ktx_write) | (k_here; (with_reducible show wpAny _ _ (PySem.call (Value.ref _) _) _ _ _); k_dflt (refine wpAny_call ?_; refine' code_def (by k_asm) (by k_asm) (by k_asm) (by k_asm) (by k_asm) (by exact rfl) (by exact rfl) (by exact rfl) (by k_is) (by k_is) (by ktr_room) (by first | exact BindsTo.of_eq rfl | exact binds_K (by k_in) rfl (by k_is) rfl rfl rfl) (by exact locs rfl) ?_ (by exact rfl) (by exact rfl) (by exact rfl) (by decide); k_whole; intro _ _ _ _ _ _ _ _ _; (try dsimp only); (try k_fold))) | fail) | ((with_reducible show wpAny _ _ (PySem.call (Value.builtin "len") [Value.str _ _]) _ _ _); (with_reducible refine' PyProof.Rows.len_str (by k_dflt (decide +kernel)) ?_)) | (k_here; first | ((with_reducible show wpAny _ _ (eval (Expr.Call (Expr.Name _ _) [Expr.Name _ _] [] _) _) _ _ _); k_dflt (refine' bigCall1 (by k_asm) (by k_asm) (by k_asm) (by k_is) (by k_is) (by rfl) ?_; k_whole)) | ((with_reducible show wpAny _ _ (eval (Expr.Call (Expr.Name _ _) [Expr.Name _ _, Expr.Name _ _] [] _) _) _ _ _); k_dflt (refine' bigCall2 (by k_asm) (by k_asm) (by k_asm) (by k_is) (by k_is) (by rfl) (by rfl) ?_; k_whole)) | ((with_reducible show wpAny _ _ (eval (Expr.Call (Expr.Name _ _) [Expr.Name _ _, Expr.Name _ _, Expr.Name _ _] [] _) _) _ _ _); k_dflt (refine' bigCall3 (by k_asm) (by k_asm) (by k_asm) (by k_is) (by k_is) (by rfl) (by rfl) (by rfl) ?_; k_whole)) | ((with_reducible show wpAny _ _ (eval (Expr.Call (Expr.Name _ _) [Expr.Name _ _, Expr.Name _ _, Expr.Name _ _, Expr.Name _ _] [] _) _) _ _ _); k_dflt (refine' bigCall4 (by k_asm) (by k_asm) (by k_asm) (by k_is) (by k_is) (by rfl) (by rfl) (by rfl) (by rfl) ?_; k_whole))) | (k_here; (with_reducible show wpAny _ _ (callWith _ (Value.builtin _) [_] _ _) _ _ _); (with_reducible refine' callWith_method1 ?_ (by k_dflt (rfl)) (by k_dflt (rfl)))) | (k_here; (with_reducible show wpAny _ _ (subscriptTail (PySem.Expr.Name ..) _ (Value.ref _) (Value.int _ _)) _ _ _); (with_reducible refine' listItem (by k_dflt (k_asm)) (by k_dflt (k_mem)) (by k_dflt (decide)) (by k_dflt (decide)) (by k_dflt (exact rfl)) ?_)) | (k_here; (with_reducible show wpAny _ _ (PySem.call (Value.builtin "len") [Value.ref _]) _ _ _); (with_reducible refine' kst_len (by k_dflt (k_asm)) (by k_dflt (k_mem)) (List.length_map _) (by k_dflt (omega)) ?_)) | (k_here; (with_reducible show wpAny _ _ (subscriptTail (PySem.Expr.Name ..) _ (Value.ref _) (Value.int _ _)) _ _ _); (with_reducible refine' item_tupleT (by k_dflt (exact heldTup (by k_asm) (by k_asm) (by k_asm) (by ktr_rel))) (by k_dflt (decide)) (by k_dflt (decide)) (by k_dflt (rfl)) (by k_dflt (rfl)) ?_); k_dflt (k_whole)) | (walk1; all_goals (try dsimp only)) | (dsimp only; walk1) | (dsimp only; with_reducible show wpAny _ _ _ _ _ _) | (leave1; (try dsimp only)) | fail "no step"))
  refine' hret _ _ _ _ (by k_asm) (back ?kN N ?G ?F') (readR (fresh ?N2 N ?G) (numCast ⟨_, _, _, rfl, .inl ?mem⟩ ?e1 ?e2))
  case kN => assumption
  case G => assumption
  case F' => assumption
  case N2 => assumption
  case mem => k_mem
  case e1 => decide +kernel
  case e2 => decide +kernel
theorem read_sp (w : World) (mean : ExcName → Option Value) (mg mb : MV) (news : Led) (x : Str) (tx : Tok) (hx : x ∈ menuT) :
   Sp w mean mg mb 100 [.str x tx] 12 200 news (fun news' v => ∃ new, news' = new ++ news ∧ NumAt w news' v (numOf x).1 (numOf x).2 ∧ Fresh new news ∧ NumAt w new v (numOf x).1 (numOf x).2) := by
  simp only [menuT, List.mem_cons, List.not_mem_nil, or_false] at hx
  rcases hx with rfl | rfl | rfl | rfl | rfl | rfl | rfl | rfl
  · rw [show numOf (Str.ofString "") = (0, 0) from by decide +kernel]; exact read_e_sp w mean mg mb news tx
  · rw [show numOf (Str.ofString " 1 ") = (1, 1) from by decide +kernel]; exact read_s1_sp w mean mg mb news tx
  · rw [show numOf (Str.ofString "-2") = (-2, 1) from by decide +kernel]; exact read_m2_sp w mean mg mb news tx
  · rw [show numOf (Str.ofString "1") = (1, 1) from by decide +kernel]; exact read_1_sp w mean mg mb news tx
  · rw [show numOf (Str.ofString "1.0") = (1, 1) from by decide +kernel]; exact read_10_sp w mean mg mb news tx
  · rw [show numOf (Str.ofString "1.5") = (3, 2) from by decide +kernel]; exact read_15_sp w mean mg mb news tx
  · rw [show numOf (Str.ofString "2") = (2, 1) from by decide +kernel]; exact read_2_sp w mean mg mb news tx
  · rw [show numOf (Str.ofString "a") = (0, 0) from by decide +kernel]; exact read_a_sp w mean mg mb news tx
end
section
theorem as_number_sp (w : World) (mean : ExcName → Option Value) (mg mb : MV) (news : Led) (v : Value) (t : Addr) (D : TD) (X : V) (hT : TreeAt w news t D) (hl : D.rows.length ≤ 1000) (hv : RepV w news D v X) :
   Sp w mean mg mb 134 [v, .ref t] 16 700 news (fun news' v => ∃ new, news' = new ++ news ∧ NumAt w news' v (numV X).1 (numV X).2) := by
  intro dp un gd cn cs aa ccd cl outer A₀ base h₀ L m s Q E B F X0 N T hk hd hu hret
  have hv0 := hv
  cases X with
  | set xs =>
    have hX : (∃ ys, V.set xs = .set ys) ∨ ∃ x, V.set xs = .txt x := .inl ⟨_, rfl⟩
    have hmx : textV (V.set xs) ∈ menuT := by
      cases xs with
      | nil => exact List.mem_cons_self
      | cons p r => obtain ⟨l, vs, n, rfl, hm, hi, hall, hlen⟩ := hv; exact (hall p List.mem_cons_self).2
    refine ex3 hv fun l vs n zz15 => ?_
    refine an5 zz15 fun ee16 hm hi hall hlen => ?_
    clear hv zz15
    subst ee16
    refine wpAny_call ?_
    k_dflt ktr_enter
    (repeat' (first | (k_unfold; (try dsimp only)) | (k_end; wrow_close) | ((with_reducible show wpAny _ _ (PySem.call (Value.ref _) _) _ _ _); first | (k_here; (with_reducible show wpAny _ _ (PySem.call (Value.ref 100) _) _ _ _); k_dflt ((refine' useM (C := (read_sp _ _ _ _ _ _ _ (by with_reducible assumption))) (h := ?_); intro _ _ _ _ _ _ _ _; (try k_sweep); (try dsimp only)))) | (k_here; (with_reducible show wpAny _ _ (PySem.call (Value.ref 127) _) _ _ _); k_dflt ((refine' useB (C := (as_text_sp _ _ _ _ _ _ _ _ _ (by ktr_rel) (by with_reducible assumption) (by with_reducible assumption) (by with_reducible assumption))) (h := ?_); intro _ _ _ _ _; (try k_sweep); (try dsimp only)))) | fail) | (k_here; first | ((with_reducible show wpAny _ _ (eval (Expr.Call (Expr.Name _ _) [Expr.Name _ _] [] _) _) _ _ _); k_dflt (refine' bigCall1 (by k_asm) (by k_asm) (by k_asm) (by k_is) (by k_is) (by rfl) ?_; k_whole)) | ((with_reducible show wpAny _ _ (eval (Expr.Call (Expr.Name _ _) [Expr.Name _ _, Expr.Name _ _] [] _) _) _ _ _); k_dflt (refine' bigCall2 (by k_asm) (by k_asm) (by k_asm) (by k_is) (by k_is) (by rfl) (by rfl) ?_; k_whole)) | ((with_reducible show wpAny _ _ (eval (Expr.Call (Expr.Name _ _) [Expr.Name _ _, Expr.Name _ _, Expr.Name _ _] [] _) _) _ _ _); k_dflt (refine' bigCall3 (by k_asm) (by k_asm) (by k_asm) (by k_is) (by k_is) (by rfl) (by rfl) (by rfl) ?_; k_whole)) | ((with_reducible show wpAny _ _ (eval (Expr.Call (Expr.Name _ _) [Expr.Name _ _, Expr.Name _ _, Expr.Name _ _, Expr.Name _ _] [] _) _) _ _ _); k_dflt (refine' bigCall4 (by k_asm) (by k_asm) (by k_asm) (by k_is) (by k_is) (by rfl) (by rfl) (by rfl) (by rfl) ?_; k_whole))) | (k_here; (with_reducible show wpAny _ _ (callWith _ (Value.builtin _) [_] _ _) _ _ _); (with_reducible refine' callWith_method1 ?_ (by k_dflt (rfl)) (by k_dflt (rfl)))) | (k_here; (first | ((with_reducible show wpAny _ _ (PySem.call (Value.builtin "isinstance") [_, Value.type "bool"]) _ _ _); (with_reducible refine' isi_rep_bool (by k_dflt (k_asm)) (by k_dflt (k_asm)) (by k_dflt (k_asm)) (by k_dflt (ktr_rel)) ?_)) | ((with_reducible show wpAny _ _ (PySem.call (Value.builtin "isinstance") [_, Value.type "str"]) _ _ _); (with_reducible refine' isi_rep_str (by k_dflt (k_asm)) (by k_dflt (k_asm)) (by k_dflt (k_asm)) (by k_dflt (ktr_rel)) ?_)) | ((with_reducible show wpAny _ _ (PySem.call (Value.builtin "isinstance") [_, Value.type "list"]) _ _ _); (with_reducible refine' isi_rep_list (by k_dflt (k_asm)) (by k_dflt (k_asm)) (by k_dflt (k_asm)) (by k_dflt (ktr_rel)) ?_)) | ((with_reducible show wpAny _ _ (PySem.call (Value.builtin "isinstance") [_, Value.type "tuple"]) _ _ _); (with_reducible refine' isi_rep_tuple (by k_dflt (k_asm)) (by k_dflt (k_asm)) (by k_dflt (k_asm)) (by k_dflt (ktr_rel)) ?_))); intro _; (try simp only [isSet_set, isSet_num, isSet_txt, isSet_tru, isNum_set, isNum_num, isNum_txt, isNum_tru, isTxt_set, isTxt_num, isTxt_txt, isTxt_tru, isTru_set, isTru_num, isTru_txt, isTru_tru])) | (k_here; (with_reducible show wpAny _ _ (PySem.call (Value.builtin "isinstance") [Value.ref _, Value.type _]) _ _ _); (first | with_reducible refine' IsiPair.tuple_bool (by k_dflt (exact HeldK.get (by k_asm) (by k_asm) (by k_asm) (by ktr_rel))) (by k_dflt (exact rfl)) ?_ | with_reducible refine' IsiPair.tuple_tuple (by k_dflt (exact HeldK.get (by k_asm) (by k_asm) (by k_asm) (by ktr_rel))) (by k_dflt (exact rfl)) ?_ | with_reducible refine' IsiPair.tuple_str (by k_dflt (exact HeldK.get (by k_asm) (by k_asm) (by k_asm) (by ktr_rel))) (by k_dflt (exact rfl)) ?_ | with_reducible refine' IsiPair.tuple_list (by k_dflt (exact HeldK.get (by k_asm) (by k_asm) (by k_asm) (by ktr_rel))) (by k_dflt (exact rfl)) ?_)) | walk1 | (dsimp only; walk1) | (dsimp only; with_reducible show wpAny _ _ _ _ _ _) | (leave1; (try dsimp only)) | fail "no step"))
    all_goals (exact hret _ _ _ _ (by k_asm) (by k_asm) ⟨_, rfl, by assumption⟩)
  | num a =>
    refine an2 hv fun zz17 hmenu => ?_
    refine ex3 zz17 fun r t1 t2 zz18 => ?_
    refine an2 zz18 fun ee19 hm => ?_
    clear hv zz17 zz18
    subst ee19
    refine wpAny_call ?_
    k_dflt ktr_enter
    (repeat' (first | (k_unfold; (try dsimp only)) | (k_end; wrow_close) | ((with_reducible show wpAny _ _ (PySem.call (Value.ref _) _) _ _ _); first | (k_here; (with_reducible show wpAny _ _ (PySem.call (Value.ref 100) _) _ _ _); k_dflt ((refine' useM (C := (read_sp _ _ _ _ _ _ _ (by with_reducible assumption))) (h := ?_); intro _ _ _ _ _ _ _ _; (try k_sweep); (try dsimp only)))) | (k_here; (with_reducible show wpAny _ _ (PySem.call (Value.ref 127) _) _ _ _); k_dflt ((refine' useB (C := (as_text_sp _ _ _ _ _ _ _ _ _ (by ktr_rel) (by with_reducible assumption) (by with_reducible assumption) (by with_reducible assumption))) (h := ?_); intro _ _ _ _ _; (try k_sweep); (try dsimp only)))) | fail) | (k_here; first | ((with_reducible show wpAny _ _ (eval (Expr.Call (Expr.Name _ _) [Expr.Name _ _] [] _) _) _ _ _); k_dflt (refine' bigCall1 (by k_asm) (by k_asm) (by k_asm) (by k_is) (by k_is) (by rfl) ?_; k_whole)) | ((with_reducible show wpAny _ _ (eval (Expr.Call (Expr.Name _ _) [Expr.Name _ _, Expr.Name _ _] [] _) _) _ _ _); k_dflt (refine' bigCall2 (by k_asm) (by k_asm) (by k_asm) (by k_is) (by k_is) (by rfl) (by rfl) ?_; k_whole)) | ((with_reducible show wpAny _ _ (eval (Expr.Call (Expr.Name _ _) [Expr.Name _ _, Expr.Name _ _, Expr.Name _ _] [] _) _) _ _ _); k_dflt (refine' bigCall3 (by k_asm) (by k_asm) (by k_asm) (by k_is) (by k_is) (by rfl) (by rfl) (by rfl) ?_; k_whole)) | ((with_reducible show wpAny _ _ (eval (Expr.Call (Expr.Name _ _) [Expr.Name _ _, Expr.Name _ _, Expr.Name _ _, Expr.Name _ _] [] _) _) _ _ _); k_dflt (refine' bigCall4 (by k_asm) (by k_asm) (by k_asm) (by k_is) (by k_is) (by rfl) (by rfl) (by rfl) (by rfl) ?_; k_whole))) | (k_here; (with_reducible show wpAny _ _ (callWith _ (Value.builtin _) [_] _ _) _ _ _); (with_reducible refine' callWith_method1 ?_ (by k_dflt (rfl)) (by k_dflt (rfl)))) | (k_here; (first | ((with_reducible show wpAny _ _ (PySem.call (Value.builtin "isinstance") [_, Value.type "bool"]) _ _ _); (with_reducible refine' isi_rep_bool (by k_dflt (k_asm)) (by k_dflt (k_asm)) (by k_dflt (k_asm)) (by k_dflt (ktr_rel)) ?_)) | ((with_reducible show wpAny _ _ (PySem.call (Value.builtin "isinstance") [_, Value.type "str"]) _ _ _); (with_reducible refine' isi_rep_str (by k_dflt (k_asm)) (by k_dflt (k_asm)) (by k_dflt (k_asm)) (by k_dflt (ktr_rel)) ?_)) | ((with_reducible show wpAny _ _ (PySem.call (Value.builtin "isinstance") [_, Value.type "list"]) _ _ _); (with_reducible refine' isi_rep_list (by k_dflt (k_asm)) (by k_dflt (k_asm)) (by k_dflt (k_asm)) (by k_dflt (ktr_rel)) ?_)) | ((with_reducible show wpAny _ _ (PySem.call (Value.builtin "isinstance") [_, Value.type "tuple"]) _ _ _); (with_reducible refine' isi_rep_tuple (by k_dflt (k_asm)) (by k_dflt (k_asm)) (by k_dflt (k_asm)) (by k_dflt (ktr_rel)) ?_))); intro _; (try simp only [isSet_set, isSet_num, isSet_txt, isSet_tru, isNum_set, isNum_num, isNum_txt, isNum_tru, isTxt_set, isTxt_num, isTxt_txt, isTxt_tru, isTru_set, isTru_num, isTru_txt, isTru_tru])) | (k_here; (with_reducible show wpAny _ _ (PySem.call (Value.builtin "isinstance") [Value.ref _, Value.type _]) _ _ _); (first | with_reducible refine' IsiPair.tuple_bool (by k_dflt (exact HeldK.get (by k_asm) (by k_asm) (by k_asm) (by ktr_rel))) (by k_dflt (exact rfl)) ?_ | with_reducible refine' IsiPair.tuple_tuple (by k_dflt (exact HeldK.get (by k_asm) (by k_asm) (by k_asm) (by ktr_rel))) (by k_dflt (exact rfl)) ?_ | with_reducible refine' IsiPair.tuple_str (by k_dflt (exact HeldK.get (by k_asm) (by k_asm) (by k_asm) (by ktr_rel))) (by k_dflt (exact rfl)) ?_ | with_reducible refine' IsiPair.tuple_list (by k_dflt (exact HeldK.get (by k_asm) (by k_asm) (by k_asm) (by ktr_rel))) (by k_dflt (exact rfl)) ?_)) | walk1 | (dsimp only; walk1) | (dsimp only; with_reducible show wpAny _ _ _ _ _ _) | (leave1; (try dsimp only)) | fail "no step"))
    all_goals (exact hret _ _ _ _ (by k_asm) (by k_asm) ⟨[], rfl, hv0.1⟩)
  | txt x =>
    have hX : (∃ ys, V.txt x = .set ys) ∨ ∃ y, V.txt x = .txt y := .inr ⟨_, rfl⟩
    refine an2 hv fun zz20 hmenu => ?_
    refine Exists.elim zz20 fun tx ee22 => ?_
    clear hv zz20
    subst ee22
    have hmx : textV (V.txt x) ∈ menuT := hmenu
    refine wpAny_call ?_
    k_dflt ktr_enter
    (repeat' (first | (k_unfold; (try dsimp only)) | (k_end; wrow_close) | ((with_reducible show wpAny _ _ (PySem.call (Value.ref _) _) _ _ _); first | (k_here; (with_reducible show wpAny _ _ (PySem.call (Value.ref 100) _) _ _ _); k_dflt ((refine' useM (C := (read_sp _ _ _ _ _ _ _ (by with_reducible assumption))) (h := ?_); intro _ _ _ _ _ _ _ _; (try k_sweep); (try dsimp only)))) | (k_here; (with_reducible show wpAny _ _ (PySem.call (Value.ref 127) _) _ _ _); k_dflt ((refine' useB (C := (as_text_sp _ _ _ _ _ _ _ _ _ (by ktr_rel) (by with_reducible assumption) (by with_reducible assumption) (by with_reducible assumption))) (h := ?_); intro _ _ _ _ _; (try k_sweep); (try dsimp only)))) | fail) | (k_here; first | ((with_reducible show wpAny _ _ (eval (Expr.Call (Expr.Name _ _) [Expr.Name _ _] [] _) _) _ _ _); k_dflt (refine' bigCall1 (by k_asm) (by k_asm) (by k_asm) (by k_is) (by k_is) (by rfl) ?_; k_whole)) | ((with_reducible show wpAny _ _ (eval (Expr.Call (Expr.Name _ _) [Expr.Name _ _, Expr.Name _ _] [] _) _) _ _ _); k_dflt (refine' bigCall2 (by k_asm) (by k_asm) (by k_asm) (by k_is) (by k_is) (by rfl) (by rfl) ?_; k_whole)) | ((with_reducible show wpAny _ _ (eval (Expr.Call (Expr.Name _ _) [Expr.Name _ _, Expr.Name _ _, Expr.Name _ _] [] _) _) _ _ _); k_dflt (refine' bigCall3 (by k_asm) (by k_asm) (by k_asm) (by k_is) (by k_is) (by rfl) (by rfl) (by rfl) ?_; k_whole)) | ((with_reducible show wpAny _ _ (eval (Expr.Call (Expr.Name _ _) [Expr.Name _ _, Expr.Name _ _, Expr.Name _ _, Expr.Name _ _] [] _) _) _ _ _); k_dflt (refine' bigCall4 (by k_asm) (by k_asm) (by k_asm) (by k_is) (by k_is) (by rfl) (by rfl) (by rfl) (by rfl) ?_; k_whole))) | (k_here; (with_reducible show wpAny _ _ (callWith _ (Value.builtin _) [_] _ _) _ _ _); (with_reducible refine' callWith_method1 ?_ (by k_dflt (rfl)) (by k_dflt (rfl)))) | (k_here; (first | ((with_reducible show wpAny _ _ (PySem.call (Value.builtin "isinstance") [_, Value.type "bool"]) _ _ _); (with_reducible refine' isi_rep_bool (by k_dflt (k_asm)) (by k_dflt (k_asm)) (by k_dflt (k_asm)) (by k_dflt (ktr_rel)) ?_)) | ((with_reducible show wpAny _ _ (PySem.call (Value.builtin "isinstance") [_, Value.type "str"]) _ _ _); (with_reducible refine' isi_rep_str (by k_dflt (k_asm)) (by k_dflt (k_asm)) (by k_dflt (k_asm)) (by k_dflt (ktr_rel)) ?_)) | ((with_reducible show wpAny _ _ (PySem.call (Value.builtin "isinstance") [_, Value.type "list"]) _ _ _); (with_reducible refine' isi_rep_list (by k_dflt (k_asm)) (by k_dflt (k_asm)) (by k_dflt (k_asm)) (by k_dflt (ktr_rel)) ?_)) | ((with_reducible show wpAny _ _ (PySem.call (Value.builtin "isinstance") [_, Value.type "tuple"]) _ _ _); (with_reducible refine' isi_rep_tuple (by k_dflt (k_asm)) (by k_dflt (k_asm)) (by k_dflt (k_asm)) (by k_dflt (ktr_rel)) ?_))); intro _; (try simp only [isSet_set, isSet_num, isSet_txt, isSet_tru, isNum_set, isNum_num, isNum_txt, isNum_tru, isTxt_set, isTxt_num, isTxt_txt, isTxt_tru, isTru_set, isTru_num, isTru_txt, isTru_tru])) | (k_here; (with_reducible show wpAny _ _ (PySem.call (Value.builtin "isinstance") [Value.ref _, Value.type _]) _ _ _); (first | with_reducible refine' IsiPair.tuple_bool (by k_dflt (exact HeldK.get (by k_asm) (by k_asm) (by k_asm) (by ktr_rel))) (by k_dflt (exact rfl)) ?_ | with_reducible refine' IsiPair.tuple_tuple (by k_dflt (exact HeldK.get (by k_asm) (by k_asm) (by k_asm) (by ktr_rel))) (by k_dflt (exact rfl)) ?_ | with_reducible refine' IsiPair.tuple_str (by k_dflt (exact HeldK.get (by k_asm) (by k_asm) (by k_asm) (by ktr_rel))) (by k_dflt (exact rfl)) ?_ | with_reducible refine' IsiPair.tuple_list (by k_dflt (exact HeldK.get (by k_asm) (by k_asm) (by k_asm) (by ktr_rel))) (by k_dflt (exact rfl)) ?_)) | walk1 | (dsimp only; walk1) | (dsimp only; with_reducible show wpAny _ _ _ _ _ _) | (leave1; (try dsimp only)) | fail "no step"))
    all_goals (exact hret _ _ _ _ (by k_asm) (by k_asm) ⟨_, rfl, by assumption⟩)
  | tru b =>
    subst hv
    refine wpAny_call ?_
    k_dflt ktr_enter
    (repeat' (first | (k_unfold; (try dsimp only)) | (k_end; wrow_close) | ((with_reducible show wpAny _ _ (PySem.call (Value.ref _) _) _ _ _); first | (k_here; (with_reducible show wpAny _ _ (PySem.call (Value.ref 100) _) _ _ _); k_dflt ((refine' useM (C := (read_sp _ _ _ _ _ _ _ (by with_reducible assumption))) (h := ?_); intro _ _ _ _ _ _ _ _; (try k_sweep); (try dsimp only)))) | (k_here; (with_reducible show wpAny _ _ (PySem.call (Value.ref 127) _) _ _ _); k_dflt ((refine' useB (C := (as_text_sp _ _ _ _ _ _ _ _ _ (by ktr_rel) (by with_reducible assumption) (by with_reducible assumption) (by with_reducible assumption))) (h := ?_); intro _ _ _ _ _; (try k_sweep); (try dsimp only)))) | fail) | (k_here; first | ((with_reducible show wpAny _ _ (eval (Expr.Call (Expr.Name _ _) [Expr.Name _ _] [] _) _) _ _ _); k_dflt (refine' bigCall1 (by k_asm) (by k_asm) (by k_asm) (by k_is) (by k_is) (by rfl) ?_; k_whole)) | ((with_reducible show wpAny _ _ (eval (Expr.Call (Expr.Name _ _) [Expr.Name _ _, Expr.Name _ _] [] _) _) _ _ _); k_dflt (refine' bigCall2 (by k_asm) (by k_asm) (by k_asm) (by k_is) (by k_is) (by rfl) (by rfl) ?_; k_whole)) | ((with_reducible show wpAny _ _ (eval (Expr.Call (Expr.Name _ _) [Expr.Name _ _, Expr.Name _ _, Expr.Name _ _] [] _) _) _ _ _); k_dflt (refine' bigCall3 (by k_asm) (by k_asm) (by k_asm) (by k_is) (by k_is) (by rfl) (by rfl) (by rfl) ?_; k_whole)) | ((with_reducible show wpAny _ _ (eval (Expr.Call (Expr.Name _ _) [Expr.Name _ _, Expr.Name _ _, Expr.Name _ _, Expr.Name _ _] [] _) _) _ _ _); k_dflt (refine' bigCall4 (by k_asm) (by k_asm) (by k_asm) (by k_is) (by k_is) (by rfl) (by rfl) (by rfl) (by rfl) ?_; k_whole))) | (k_here; (with_reducible show wpAny _ _ (callWith _ (Value.builtin _) [_] _ _) _ _ _); (with_reducible refine' callWith_method1 ?_ (by k_dflt (rfl)) (by k_dflt (rfl)))) | (k_here; (first | ((with_reducible show wpAny _ _ (PySem.call (Value.builtin "isinstance") [_, Value.type "bool"]) _ _ _); (with_reducible refine' isi_rep_bool (by k_dflt (k_asm)) (by k_dflt (k_asm)) (by k_dflt (k_asm)) (by k_dflt (ktr_rel)) ?_)) | ((with_reducible show wpAny _ _ (PySem.call (Value.builtin "isinstance") [_, Value.type "str"]) _ _ _); (with_reducible refine' isi_rep_str (by k_dflt (k_asm)) (by k_dflt (k_asm)) (by k_dflt (k_asm)) (by k_dflt (ktr_rel)) ?_)) | ((with_reducible show wpAny _ _ (PySem.call (Value.builtin "isinstance") [_, Value.type "list"]) _ _ _); (with_reducible refine' isi_rep_list (by k_dflt (k_asm)) (by k_dflt (k_asm)) (by k_dflt (k_asm)) (by k_dflt (ktr_rel)) ?_)) | ((with_reducible show wpAny _ _ (PySem.call (Value.builtin "isinstance") [_, Value.type "tuple"]) _ _ _); (with_reducible refine' isi_rep_tuple (by k_dflt (k_asm)) (by k_dflt (k_asm)) (by k_dflt (k_asm)) (by k_dflt (ktr_rel)) ?_))); intro _; (try simp only [isSet_set, isSet_num, isSet_txt, isSet_tru, isNum_set, isNum_num, isNum_txt, isNum_tru, isTxt_set, isTxt_num, isTxt_txt, isTxt_tru, isTru_set, isTru_num, isTru_txt, isTru_tru])) | (k_here; (with_reducible show wpAny _ _ (PySem.call (Value.builtin "isinstance") [Value.ref _, Value.type _]) _ _ _); (first | with_reducible refine' IsiPair.tuple_bool (by k_dflt (exact HeldK.get (by k_asm) (by k_asm) (by k_asm) (by ktr_rel))) (by k_dflt (exact rfl)) ?_ | with_reducible refine' IsiPair.tuple_tuple (by k_dflt (exact HeldK.get (by k_asm) (by k_asm) (by k_asm) (by ktr_rel))) (by k_dflt (exact rfl)) ?_ | with_reducible refine' IsiPair.tuple_str (by k_dflt (exact HeldK.get (by k_asm) (by k_asm) (by k_asm) (by ktr_rel))) (by k_dflt (exact rfl)) ?_ | with_reducible refine' IsiPair.tuple_list (by k_dflt (exact HeldK.get (by k_asm) (by k_asm) (by k_asm) (by ktr_rel))) (by k_dflt (exact rfl)) ?_)) | walk1 | (dsimp only; walk1) | (dsimp only; with_reducible show wpAny _ _ _ _ _ _) | (leave1; (try dsimp only)) | fail "no step"))
    all_goals (refine' hret _ _ _ _ (by k_asm) (by k_asm) ⟨[_], rfl, numCast ⟨_, _, _, rfl, .inl (List.mem_append_left _ List.mem_cons_self)⟩ ?_ ?_⟩ <;> clear hret <;> simp_all [numV])
end
section
theorem compared_texts_rep (w : World) (mean : ExcName → Option Value) (mg mb : MV) (news : Led) (op : Str) (top : Tok) (v u : Value) (D : TD) (X Y : V) (hv : RepV w news D v X) (hu : RepV w news D u Y) (hX : isTxt X = true) (hY : isTxt Y = true) :
   Sp w mean mg mb 155 [.str op top, v, u] 2 8 news (fun news' v => news' = news ∧ v = .bool ((textV X == textV Y) == (op == Str.ofString "="))) := by
  cases X <;> first | (cases hX; done) | skip
  cases Y <;> first | (cases hY; done) | skip
  refine an2 hv fun zz23 _ => ?_
  refine Exists.elim zz23 fun t ee25 => ?_
  clear hv zz23
  subst ee25
  refine an2 hu fun zz26 _ => ?_
  refine Exists.elim zz26 fun t' ee28 => ?_
  clear hu zz26
  subst ee28
  exact compared_texts_sp w mean mg mb news op _ _ top t t'
theorem compared_plain_sp (w : World) (mean : ExcName → Option Value) (mg mb : MV) (news : Led) (op : Str) (top : Tok) (v u : Value) (t : Addr) (D : TD) (X Y : V) (hT : TreeAt w news t D) (hl : D.rows.length ≤ 1000) (hv : RepV w news D v X) (hu : RepV w news D u Y) :
   Sp w mean mg mb 162 [.str op top, v, u, .ref t] 20 800 news (fun news' v => ∃ new, news' = new ++ news ∧ v = .bool (plainV op X Y)) := by
  intro dp un gd cn cs aa ccd cl outer A₀ base h₀ L m s Q E B F X0 N T hk hd hu' hret
  have sX := numV_small hv
  have sY := numV_small hu
  refine wpAny_call ?_
  k_dflt ktr_enter
  (repeat' (first | (k_unfold; (try dsimp only)) | (k_end; wrow_close) | ((with_reducible show wpAny _ _ (PySem.call (Value.ref _) _) _ _ _); first | (k_here; (with_reducible show wpAny _ _ (PySem.call (Value.ref 72) _) _ _ _); k_dflt ((refine' useA (C := (compared_numbers_sp _ _ _ _ _ _ _ _ _ _ _ (by ktr_rel) (by ktr_rel) (by with_reducible assumption) (by with_reducible assumption))) (h := ?_); intro _ _ _ _; (try k_sweep); (try dsimp only)))) | (k_here; (with_reducible show wpAny _ _ (PySem.call (Value.ref 134) _) _ _ _); k_dflt ((refine' useM1 (C := (as_number_sp _ _ _ _ _ _ _ _ _ (by ktr_rel) (by with_reducible assumption) (by ktr_rel))) (h := ?_); intro _ _ _ _ _ _ _; (try k_sweep); (try dsimp only)))) | (k_here; (with_reducible show wpAny _ _ (PySem.call (Value.ref 141) _) _ _ _); k_dflt ((refine' useA (C := (as_truth_sp _ _ _ _ _ _ _ _ _ (by ktr_rel))) (h := ?_); intro _ _ _ _; (try k_sweep); (try dsimp only)))) | (k_here; (with_reducible show wpAny _ _ (PySem.call (Value.ref 148) _) _ _ _); k_dflt ((refine' useA (C := (is_equality_sp _ _ _ _ _ _ _)) (h := ?_); intro _ _ _ _; (try k_sweep); (try dsimp only)))) | (k_here; (with_reducible show wpAny _ _ (PySem.call (Value.ref 155) _) _ _ _); k_dflt ((refine' useA (C := (compared_texts_rep _ _ _ _ _ _ _ _ _ _ _ _ (by ktr_rel) (by ktr_rel) (by with_reducible assumption) (by with_reducible assumption))) (h := ?_); intro _ _ _ _; (try k_sweep); (try dsimp only)))) | fail) | (k_here; first | ((with_reducible show wpAny _ _ (eval (Expr.Call (Expr.Name _ _) [Expr.Name _ _] [] _) _) _ _ _); k_dflt (refine' bigCall1 (by k_asm) (by k_asm) (by k_asm) (by k_is) (by k_is) (by rfl) ?_; k_whole)) | ((with_reducible show wpAny _ _ (eval (Expr.Call (Expr.Name _ _) [Expr.Name _ _, Expr.Name _ _] [] _) _) _ _ _); k_dflt (refine' bigCall2 (by k_asm) (by k_asm) (by k_asm) (by k_is) (by k_is) (by rfl) (by rfl) ?_; k_whole)) | ((with_reducible show wpAny _ _ (eval (Expr.Call (Expr.Name _ _) [Expr.Name _ _, Expr.Name _ _, Expr.Name _ _] [] _) _) _ _ _); k_dflt (refine' bigCall3 (by k_asm) (by k_asm) (by k_asm) (by k_is) (by k_is) (by rfl) (by rfl) (by rfl) ?_; k_whole)) | ((with_reducible show wpAny _ _ (eval (Expr.Call (Expr.Name _ _) [Expr.Name _ _, Expr.Name _ _, Expr.Name _ _, Expr.Name _ _] [] _) _) _ _ _); k_dflt (refine' bigCall4 (by k_asm) (by k_asm) (by k_asm) (by k_is) (by k_is) (by rfl) (by rfl) (by rfl) (by rfl) ?_; k_whole))) | (k_here; (with_reducible show wpAny _ _ (callWith _ (Value.builtin _) [_] _ _) _ _ _); (with_reducible refine' callWith_method1 ?_ (by k_dflt (rfl)) (by k_dflt (rfl)))) | (k_here; (first | ((with_reducible show wpAny _ _ (PySem.call (Value.builtin "isinstance") [_, Value.type "bool"]) _ _ _); (with_reducible refine' isi_rep_bool (by k_dflt (k_asm)) (by k_dflt (k_asm)) (by k_dflt (k_asm)) (by k_dflt (ktr_rel)) ?_)) | ((with_reducible show wpAny _ _ (PySem.call (Value.builtin "isinstance") [_, Value.type "str"]) _ _ _); (with_reducible refine' isi_rep_str (by k_dflt (k_asm)) (by k_dflt (k_asm)) (by k_dflt (k_asm)) (by k_dflt (ktr_rel)) ?_)) | ((with_reducible show wpAny _ _ (PySem.call (Value.builtin "isinstance") [_, Value.type "list"]) _ _ _); (with_reducible refine' isi_rep_list (by k_dflt (k_asm)) (by k_dflt (k_asm)) (by k_dflt (k_asm)) (by k_dflt (ktr_rel)) ?_)) | ((with_reducible show wpAny _ _ (PySem.call (Value.builtin "isinstance") [_, Value.type "tuple"]) _ _ _); (with_reducible refine' isi_rep_tuple (by k_dflt (k_asm)) (by k_dflt (k_asm)) (by k_dflt (k_asm)) (by k_dflt (ktr_rel)) ?_))); intro _; (try simp only [isSet_set, isSet_num, isSet_txt, isSet_tru, isNum_set, isNum_num, isNum_txt, isNum_tru, isTxt_set, isTxt_num, isTxt_txt, isTxt_tru, isTru_set, isTru_num, isTru_txt, isTru_tru])) | (k_here; (with_reducible show wpAny _ _ (PySem.call (Value.builtin "isinstance") [Value.ref _, Value.type _]) _ _ _); (first | with_reducible refine' IsiPair.tuple_bool (by k_dflt (exact HeldK.get (by k_asm) (by k_asm) (by k_asm) (by ktr_rel))) (by k_dflt (exact rfl)) ?_ | with_reducible refine' IsiPair.tuple_tuple (by k_dflt (exact HeldK.get (by k_asm) (by k_asm) (by k_asm) (by ktr_rel))) (by k_dflt (exact rfl)) ?_ | with_reducible refine' IsiPair.tuple_str (by k_dflt (exact HeldK.get (by k_asm) (by k_asm) (by k_asm) (by ktr_rel))) (by k_dflt (exact rfl)) ?_ | with_reducible refine' IsiPair.tuple_list (by k_dflt (exact HeldK.get (by k_asm) (by k_asm) (by k_asm) (by ktr_rel))) (by k_dflt (exact rfl)) ?_)) | walk1 | (dsimp only; walk1) | (dsimp only; with_reducible show wpAny _ _ _ _ _ _) | (leave1; (try dsimp only)) | fail "no step"))
  all_goals (refine' hret _ _ _ _ (by k_asm) (by k_asm) ?_)
  all_goals (first | refine' ⟨[], rfl, boov ?_⟩ | refine' ⟨_, rfl, boov ?_⟩ | refine' ⟨_, (List.append_assoc _ _ _).symm, boov ?_⟩)
  all_goals (clear hret; simp_all [plainV, eqOp])
end
section
local macro_rules | `(tactic| walk_at "CompSrc") => `(tactic| (k_here; k_dflt (refine LCg.CompSrc.ledger (by rfl) (by k_asm) (by k_asm) (by k_mem) (by exact sizeOK (by omega)) ?_; intro g')))
theorem as_compared_sp (w : World) (mean : ExcName → Option Value) (mg mb : MV) (news : Led) (op : Str) (top : Tok) (tv v : Value) (D : TD) (xs : List (Nat × Str)) (Y : V) (hx : ∀ p ∈ xs, p.2 ∈ menuT) (ht : ListAt w news D tv (xs.map fun p => V.txt p.2)) (hv : RepV w news D v Y) :
   Sp w mean mg mb 167 [.str op top, tv, v] 16 400 news (fun news' r => ∃ new, news' = new ++ news ∧ ListAt w news' D r (listedV op (.set xs) Y)) := by
  intro dp un gd cn cs aa ccd cl outer A₀ base h₀ L m s Q E B F X0 N T hk hd hu hret
  have ht0 := ht
  refine ex3 ht fun l n vs zz38 => ?_
  refine an4 zz38 fun ee39 hm hr hvl => ?_
  clear ht zz38
  subst ee39
  refine wpAny_call ?_
  k_dflt ktr_enter
  (repeat' (first | (k_unfold; (try dsimp only)) | (k_end; wrow_close) | ((with_reducible show wpAny _ _ (PySem.call (Value.ref _) _) _ _ _); first | (k_here; (with_reducible show wpAny _ _ (PySem.call (Value.ref 148) _) _ _ _); k_dflt ((refine' useA (C := (is_equality_sp _ _ _ _ _ _ _)) (h := ?_); intro _ _ _ _; (try k_sweep); (try dsimp only)))) | (k_here; (with_reducible show wpAny _ _ (PySem.call (Value.ref 100) _) _ _ _); k_dflt ((refine' useM (C := (read_sp _ _ _ _ _ _ _ (by with_reducible assumption))) (h := ?_); intro _ _ _ _ _ _ _ _; (try k_sweep); (try dsimp only)))) | fail) | (k_here; first | ((with_reducible show wpAny _ _ (eval (Expr.Call (Expr.Name _ _) [Expr.Name _ _] [] _) _) _ _ _); k_dflt (refine' bigCall1 (by k_asm) (by k_asm) (by k_asm) (by k_is) (by k_is) (by rfl) ?_; k_whole)) | ((with_reducible show wpAny _ _ (eval (Expr.Call (Expr.Name _ _) [Expr.Name _ _, Expr.Name _ _] [] _) _) _ _ _); k_dflt (refine' bigCall2 (by k_asm) (by k_asm) (by k_asm) (by k_is) (by k_is) (by rfl) (by rfl) ?_; k_whole)) | ((with_reducible show wpAny _ _ (eval (Expr.Call (Expr.Name _ _) [Expr.Name _ _, Expr.Name _ _, Expr.Name _ _] [] _) _) _ _ _); k_dflt (refine' bigCall3 (by k_asm) (by k_asm) (by k_asm) (by k_is) (by k_is) (by rfl) (by rfl) (by rfl) ?_; k_whole)) | ((with_reducible show wpAny _ _ (eval (Expr.Call (Expr.Name _ _) [Expr.Name _ _, Expr.Name _ _, Expr.Name _ _, Expr.Name _ _] [] _) _) _ _ _); k_dflt (refine' bigCall4 (by k_asm) (by k_asm) (by k_asm) (by k_is) (by k_is) (by rfl) (by rfl) (by rfl) (by rfl) ?_; k_whole))) | (k_here; (with_reducible show wpAny _ _ (callWith _ (Value.builtin _) [_] _ _) _ _ _); (with_reducible refine' callWith_method1 ?_ (by k_dflt (rfl)) (by k_dflt (rfl)))) | (k_here; (first | ((with_reducible show wpAny _ _ (PySem.call (Value.builtin "isinstance") [_, Value.type "bool"]) _ _ _); (with_reducible refine' isi_rep_bool (by k_dflt (k_asm)) (by k_dflt (k_asm)) (by k_dflt (k_asm)) (by k_dflt (ktr_rel)) ?_)) | ((with_reducible show wpAny _ _ (PySem.call (Value.builtin "isinstance") [_, Value.type "str"]) _ _ _); (with_reducible refine' isi_rep_str (by k_dflt (k_asm)) (by k_dflt (k_asm)) (by k_dflt (k_asm)) (by k_dflt (ktr_rel)) ?_)) | ((with_reducible show wpAny _ _ (PySem.call (Value.builtin "isinstance") [_, Value.type "list"]) _ _ _); (with_reducible refine' isi_rep_list (by k_dflt (k_asm)) (by k_dflt (k_asm)) (by k_dflt (k_asm)) (by k_dflt (ktr_rel)) ?_)) | ((with_reducible show wpAny _ _ (PySem.call (Value.builtin "isinstance") [_, Value.type "tuple"]) _ _ _); (with_reducible refine' isi_rep_tuple (by k_dflt (k_asm)) (by k_dflt (k_asm)) (by k_dflt (k_asm)) (by k_dflt (ktr_rel)) ?_))); intro _; (try simp only [isSet_set, isSet_num, isSet_txt, isSet_tru, isNum_set, isNum_num, isNum_txt, isNum_tru, isTxt_set, isTxt_num, isTxt_txt, isTxt_tru, isTru_set, isTru_num, isTru_txt, isTru_tru])) | (k_here; (with_reducible show wpAny _ _ (PySem.call (Value.builtin "isinstance") [Value.ref _, Value.type _]) _ _ _); (first | with_reducible refine' IsiPair.tuple_bool (by k_dflt (exact HeldK.get (by k_asm) (by k_asm) (by k_asm) (by ktr_rel))) (by k_dflt (exact rfl)) ?_ | with_reducible refine' IsiPair.tuple_tuple (by k_dflt (exact HeldK.get (by k_asm) (by k_asm) (by k_asm) (by ktr_rel))) (by k_dflt (exact rfl)) ?_ | with_reducible refine' IsiPair.tuple_str (by k_dflt (exact HeldK.get (by k_asm) (by k_asm) (by k_asm) (by ktr_rel))) (by k_dflt (exact rfl)) ?_ | with_reducible refine' IsiPair.tuple_list (by k_dflt (exact HeldK.get (by k_asm) (by k_asm) (by k_asm) (by ktr_rel))) (by k_dflt (exact rfl)) ?_)) | walk1 | (dsimp only; walk1) | (dsimp only; with_reducible show wpAny _ _ _ _ _ _) | (leave1; (try dsimp only)) | fail "no step"))
  all_goals first
    | (refine' hret _ _ _ _ (by k_asm) (by k_asm) ⟨[], rfl, ?_⟩
       rw [show listedV op (.set xs) Y = xs.map fun p => V.txt p.2 by clear hret; simp [listedV, eqOp, *]]
       exact ht0)
    | (have hlist : listedV op (.set xs) Y = xs.map fun p => V.num (numOf p.2) := by clear hret; simp [listedV, eqOp, *]
       refine' comp_ind (fun i ys news' => (∃ new, news' = new ++ news) ∧ Reps w news' D ys ((xs.take i).map fun p => V.num (numOf p.2))) ?_ ?_ ?_
       · exact ⟨⟨[], rfl⟩, Reps.nil⟩
       · intro i ys news' u I oI C oC Dd m₂ h9 tk9 E' hi' hI hu' hC hx' F' N' off' ne'
         refine an2 hI fun zz40 hR => ?_
         refine Exists.elim zz40 fun new ee42 => ?_
         clear hI zz40
         subst ee42
         refine Exists.elim (hr.at (by simpa using hu')) fun Z zz43 => ?_
         refine an2 zz43 fun hZ hZv => ?_
         clear zz43
         have zq44 : ∃ p, xs[i]? = some p ∧ Z = V.txt p.2 := by
           rw [List.getElem?_map] at hZ
           cases e : xs[i]? with
           | none => rw [e] at hZ; cases hZ
           | some p => rw [e] at hZ; exact ⟨p, rfl, (Option.some.inj hZ).symm⟩
         refine Exists.elim zq44 fun p zz45 => ?_
         refine an2 zz45 fun hp ee46 => ?_
         subst ee46
         have hmx := hx p (List.mem_of_getElem? hp)
         refine an2 hZv fun zz47 _ => ?_
         refine Exists.elim zz47 fun tp ee49 => ?_
         clear hZv zz47
         subst ee49
         (repeat' (first | (k_unfold; (try dsimp only)) | (k_end; wrow_close) | ((with_reducible show wpAny _ _ (PySem.call (Value.ref _) _) _ _ _); first | (k_here; (with_reducible show wpAny _ _ (PySem.call (Value.ref 148) _) _ _ _); k_dflt ((refine' useA (C := (is_equality_sp _ _ _ _ _ _ _)) (h := ?_); intro _ _ _ _; (try k_sweep); (try dsimp only)))) | (k_here; (with_reducible show wpAny _ _ (PySem.call (Value.ref 100) _) _ _ _); k_dflt ((refine' useM (C := (read_sp _ _ _ _ _ _ _ (by with_reducible assumption))) (h := ?_); intro _ _ _ _ _ _ _ _; (try k_sweep); (try dsimp only)))) | fail) | (k_here; first | ((with_reducible show wpAny _ _ (eval (Expr.Call (Expr.Name _ _) [Expr.Name _ _] [] _) _) _ _ _); k_dflt (refine' bigCall1 (by k_asm) (by k_asm) (by k_asm) (by k_is) (by k_is) (by rfl) ?_; k_whole)) | ((with_reducible show wpAny _ _ (eval (Expr.Call (Expr.Name _ _) [Expr.Name _ _, Expr.Name _ _] [] _) _) _ _ _); k_dflt (refine' bigCall2 (by k_asm) (by k_asm) (by k_asm) (by k_is) (by k_is) (by rfl) (by rfl) ?_; k_whole)) | ((with_reducible show wpAny _ _ (eval (Expr.Call (Expr.Name _ _) [Expr.Name _ _, Expr.Name _ _, Expr.Name _ _] [] _) _) _ _ _); k_dflt (refine' bigCall3 (by k_asm) (by k_asm) (by k_asm) (by k_is) (by k_is) (by rfl) (by rfl) (by rfl) ?_; k_whole)) | ((with_reducible show wpAny _ _ (eval (Expr.Call (Expr.Name _ _) [Expr.Name _ _, Expr.Name _ _, Expr.Name _ _, Expr.Name _ _] [] _) _) _ _ _); k_dflt (refine' bigCall4 (by k_asm) (by k_asm) (by k_asm) (by k_is) (by k_is) (by rfl) (by rfl) (by rfl) (by rfl) ?_; k_whole))) | (k_here; (with_reducible show wpAny _ _ (callWith _ (Value.builtin _) [_] _ _) _ _ _); (with_reducible refine' callWith_method1 ?_ (by k_dflt (rfl)) (by k_dflt (rfl)))) | (k_here; (first | ((with_reducible show wpAny _ _ (PySem.call (Value.builtin "isinstance") [_, Value.type "bool"]) _ _ _); (with_reducible refine' isi_rep_bool (by k_dflt (k_asm)) (by k_dflt (k_asm)) (by k_dflt (k_asm)) (by k_dflt (ktr_rel)) ?_)) | ((with_reducible show wpAny _ _ (PySem.call (Value.builtin "isinstance") [_, Value.type "str"]) _ _ _); (with_reducible refine' isi_rep_str (by k_dflt (k_asm)) (by k_dflt (k_asm)) (by k_dflt (k_asm)) (by k_dflt (ktr_rel)) ?_)) | ((with_reducible show wpAny _ _ (PySem.call (Value.builtin "isinstance") [_, Value.type "list"]) _ _ _); (with_reducible refine' isi_rep_list (by k_dflt (k_asm)) (by k_dflt (k_asm)) (by k_dflt (k_asm)) (by k_dflt (ktr_rel)) ?_)) | ((with_reducible show wpAny _ _ (PySem.call (Value.builtin "isinstance") [_, Value.type "tuple"]) _ _ _); (with_reducible refine' isi_rep_tuple (by k_dflt (k_asm)) (by k_dflt (k_asm)) (by k_dflt (k_asm)) (by k_dflt (ktr_rel)) ?_))); intro _; (try simp only [isSet_set, isSet_num, isSet_txt, isSet_tru, isNum_set, isNum_num, isNum_txt, isNum_tru, isTxt_set, isTxt_num, isTxt_txt, isTxt_tru, isTru_set, isTru_num, isTru_txt, isTru_tru])) | (k_here; (with_reducible show wpAny _ _ (PySem.call (Value.builtin "isinstance") [Value.ref _, Value.type _]) _ _ _); (first | with_reducible refine' IsiPair.tuple_bool (by k_dflt (exact HeldK.get (by k_asm) (by k_asm) (by k_asm) (by ktr_rel))) (by k_dflt (exact rfl)) ?_ | with_reducible refine' IsiPair.tuple_tuple (by k_dflt (exact HeldK.get (by k_asm) (by k_asm) (by k_asm) (by ktr_rel))) (by k_dflt (exact rfl)) ?_ | with_reducible refine' IsiPair.tuple_str (by k_dflt (exact HeldK.get (by k_asm) (by k_asm) (by k_asm) (by ktr_rel))) (by k_dflt (exact rfl)) ?_ | with_reducible refine' IsiPair.tuple_list (by k_dflt (exact HeldK.get (by k_asm) (by k_asm) (by k_asm) (by ktr_rel))) (by k_dflt (exact rfl)) ?_)) | walk1 | (dsimp only; walk1) | (dsimp only; with_reducible show wpAny _ _ _ _ _ _) | (leave1; (try dsimp only)) | fail "no step"))
         rename_i u9 h8 tk8 p9 F9 N9 f9 g9
         refine' LCg.CompEnd.intro F9 N9 (p9 ++ (new ++ news)) subApp (off3App g9.1 off') (Or.inr ⟨_, by k_mem, rfl, _, rfl⟩) ?_
         refine' ⟨⟨p9 ++ new, (List.append_assoc _ _ _).symm⟩, ?_⟩
         rw [List.take_add_one, hp, Option.toList, List.map_append]
         exact hR.app.snoc ⟨g9.2.mono fun _ h => List.mem_append_left _ h, numOf_menu _⟩
       · intro ys news' hI
         refine an2 hI fun zz50 hR => ?_
         refine Exists.elim zz50 fun new ee52 => ?_
         clear hI zz50
         subst ee52
         have hsz : xs.length = vs.length := by have := hr.1; simp at this; omega
         rw [List.size_toArray, ← hsz, List.take_length] at hR
         have hlen9 : ys.length ≤ 10 := by have := hR.1; simp at this; omega
         (repeat' (first | (k_unfold; (try dsimp only)) | (k_end; wrow_close) | ((with_reducible show wpAny _ _ (PySem.call (Value.ref _) _) _ _ _); first | (k_here; (with_reducible show wpAny _ _ (PySem.call (Value.ref 148) _) _ _ _); k_dflt ((refine' useA (C := (is_equality_sp _ _ _ _ _ _ _)) (h := ?_); intro _ _ _ _; (try k_sweep); (try dsimp only)))) | (k_here; (with_reducible show wpAny _ _ (PySem.call (Value.ref 100) _) _ _ _); k_dflt ((refine' useM (C := (read_sp _ _ _ _ _ _ _ (by with_reducible assumption))) (h := ?_); intro _ _ _ _ _ _ _ _; (try k_sweep); (try dsimp only)))) | fail) | (k_here; first | ((with_reducible show wpAny _ _ (eval (Expr.Call (Expr.Name _ _) [Expr.Name _ _] [] _) _) _ _ _); k_dflt (refine' bigCall1 (by k_asm) (by k_asm) (by k_asm) (by k_is) (by k_is) (by rfl) ?_; k_whole)) | ((with_reducible show wpAny _ _ (eval (Expr.Call (Expr.Name _ _) [Expr.Name _ _, Expr.Name _ _] [] _) _) _ _ _); k_dflt (refine' bigCall2 (by k_asm) (by k_asm) (by k_asm) (by k_is) (by k_is) (by rfl) (by rfl) ?_; k_whole)) | ((with_reducible show wpAny _ _ (eval (Expr.Call (Expr.Name _ _) [Expr.Name _ _, Expr.Name _ _, Expr.Name _ _] [] _) _) _ _ _); k_dflt (refine' bigCall3 (by k_asm) (by k_asm) (by k_asm) (by k_is) (by k_is) (by rfl) (by rfl) (by rfl) ?_; k_whole)) | ((with_reducible show wpAny _ _ (eval (Expr.Call (Expr.Name _ _) [Expr.Name _ _, Expr.Name _ _, Expr.Name _ _, Expr.Name _ _] [] _) _) _ _ _); k_dflt (refine' bigCall4 (by k_asm) (by k_asm) (by k_asm) (by k_is) (by k_is) (by rfl) (by rfl) (by rfl) (by rfl) ?_; k_whole))) | (k_here; (with_reducible show wpAny _ _ (callWith _ (Value.builtin _) [_] _ _) _ _ _); (with_reducible refine' callWith_method1 ?_ (by k_dflt (rfl)) (by k_dflt (rfl)))) | (k_here; (first | ((with_reducible show wpAny _ _ (PySem.call (Value.builtin "isinstance") [_, Value.type "bool"]) _ _ _); (with_reducible refine' isi_rep_bool (by k_dflt (k_asm)) (by k_dflt (k_asm)) (by k_dflt (k_asm)) (by k_dflt (ktr_rel)) ?_)) | ((with_reducible show wpAny _ _ (PySem.call (Value.builtin "isinstance") [_, Value.type "str"]) _ _ _); (with_reducible refine' isi_rep_str (by k_dflt (k_asm)) (by k_dflt (k_asm)) (by k_dflt (k_asm)) (by k_dflt (ktr_rel)) ?_)) | ((with_reducible show wpAny _ _ (PySem.call (Value.builtin "isinstance") [_, Value.type "list"]) _ _ _); (with_reducible refine' isi_rep_list (by k_dflt (k_asm)) (by k_dflt (k_asm)) (by k_dflt (k_asm)) (by k_dflt (ktr_rel)) ?_)) | ((with_reducible show wpAny _ _ (PySem.call (Value.builtin "isinstance") [_, Value.type "tuple"]) _ _ _); (with_reducible refine' isi_rep_tuple (by k_dflt (k_asm)) (by k_dflt (k_asm)) (by k_dflt (k_asm)) (by k_dflt (ktr_rel)) ?_))); intro _; (try simp only [isSet_set, isSet_num, isSet_txt, isSet_tru, isNum_set, isNum_num, isNum_txt, isNum_tru, isTxt_set, isTxt_num, isTxt_txt, isTxt_tru, isTru_set, isTru_num, isTru_txt, isTru_tru])) | (k_here; (with_reducible show wpAny _ _ (PySem.call (Value.builtin "isinstance") [Value.ref _, Value.type _]) _ _ _); (first | with_reducible refine' IsiPair.tuple_bool (by k_dflt (exact HeldK.get (by k_asm) (by k_asm) (by k_asm) (by ktr_rel))) (by k_dflt (exact rfl)) ?_ | with_reducible refine' IsiPair.tuple_tuple (by k_dflt (exact HeldK.get (by k_asm) (by k_asm) (by k_asm) (by ktr_rel))) (by k_dflt (exact rfl)) ?_ | with_reducible refine' IsiPair.tuple_str (by k_dflt (exact HeldK.get (by k_asm) (by k_asm) (by k_asm) (by ktr_rel))) (by k_dflt (exact rfl)) ?_ | with_reducible refine' IsiPair.tuple_list (by k_dflt (exact HeldK.get (by k_asm) (by k_asm) (by k_asm) (by ktr_rel))) (by k_dflt (exact rfl)) ?_)) | walk1 | (dsimp only; walk1) | (dsimp only; with_reducible show wpAny _ _ _ _ _ _) | (leave1; (try dsimp only)) | fail "no step"))
         refine' hret _ _ _ _ (by k_asm) (by k_asm) ⟨_, (List.cons_append ..).symm, ?_⟩
         rw [hlist]
         exact ⟨_, _, _, rfl, List.mem_cons_self, hR.tail, hlen9⟩)
end
section
theorem appCons {p : Addr × Obj} {a b : Led} : a ++ p :: b = (a ++ [p]) ++ b := by simp
theorem listedV_no {op : Str} {X Y : V} (h : isSet X = false) : listedV op X Y = if eqOp op then [X] else [V.num (numV X)] := by
  cases X <;> first | rfl | cases h
theorem listed_sp (w : World) (mean : ExcName → Option Value) (mg mb : MV) (news : Led) (op : Str) (top : Tok) (v u : Value) (t : Addr) (D : TD) (X Y : V) (hT : TreeAt w news t D) (hl : D.rows.length ≤ 1000) (hv : RepV w news D v X) (hu' : RepV w news D u Y) :
   Sp w mean mg mb 186 [.str op top, v, u, .ref t] 20 800 news (fun news' r => ∃ new, news' = new ++ news ∧ ListAt w news' D r (listedV op X Y)) := by
  intro dp un gd cn cs aa ccd cl outer A₀ base h₀ L m s Q E B F X0 N T hk hd hu hret
  have hN : NumAt w news v (numV X).1 (numV X).2 → RepV w news D v (V.num (numV X)) := fun h => ⟨h, numV_menu hv⟩
  by_cases hS : isSet X = true
  · cases X <;> first | (cases hS; done) | skip
    rename_i xs
    have hx : ∀ p ∈ xs, p.2 ∈ menuT := by
      obtain ⟨l, vs, n, e, hm, hi, hall, hlen⟩ := hv
      exact fun p hp => (hall p hp).2
    refine wpAny_call ?_
    k_dflt ktr_enter
    (repeat' (first | (k_unfold; (try dsimp only)) | (k_end; wrow_close) | ((with_reducible show wpAny _ _ (PySem.call (Value.ref _) _) _ _ _); first | (k_here; (with_reducible show wpAny _ _ (PySem.call (Value.ref 167) _) _ _ _); k_dflt ((refine' useM1 (C := (as_compared_sp _ _ _ _ _ _ _ _ _ _ _ _ (by with_reducible assumption) (by ktr_rel) (by ktr_rel))) (h := ?_); intro _ _ _ _ _ _ _; (try k_sweep); (try dsimp only)))) | (k_here; (with_reducible show wpAny _ _ (PySem.call (Value.ref 179) _) _ _ _); k_dflt ((refine' useP (C := (texts_of_sp _ _ _ _ _ _ _ _ _ (by ktr_rel) (by with_reducible assumption) (by ktr_rel))) (h := ?_); intro _ _ _ _ _ _ _; (try k_sweep); (try dsimp only)))) | (k_here; (with_reducible show wpAny _ _ (PySem.call (Value.ref 134) _) _ _ _); k_dflt ((refine' useM1 (C := (as_number_sp _ _ _ _ _ _ _ _ _ (by ktr_rel) (by with_reducible assumption) (by ktr_rel))) (h := ?_); intro _ _ _ _ _ _ _; (try k_sweep); (try dsimp only)))) | (k_here; (with_reducible show wpAny _ _ (PySem.call (Value.ref 148) _) _ _ _); k_dflt ((refine' useA (C := (is_equality_sp _ _ _ _ _ _ _)) (h := ?_); intro _ _ _ _; (try k_sweep); (try dsimp only)))) | fail) | (k_here; first | ((with_reducible show wpAny _ _ (eval (Expr.Call (Expr.Name _ _) [Expr.Name _ _] [] _) _) _ _ _); k_dflt (refine' bigCall1 (by k_asm) (by k_asm) (by k_asm) (by k_is) (by k_is) (by rfl) ?_; k_whole)) | ((with_reducible show wpAny _ _ (eval (Expr.Call (Expr.Name _ _) [Expr.Name _ _, Expr.Name _ _] [] _) _) _ _ _); k_dflt (refine' bigCall2 (by k_asm) (by k_asm) (by k_asm) (by k_is) (by k_is) (by rfl) (by rfl) ?_; k_whole)) | ((with_reducible show wpAny _ _ (eval (Expr.Call (Expr.Name _ _) [Expr.Name _ _, Expr.Name _ _, Expr.Name _ _] [] _) _) _ _ _); k_dflt (refine' bigCall3 (by k_asm) (by k_asm) (by k_asm) (by k_is) (by k_is) (by rfl) (by rfl) (by rfl) ?_; k_whole)) | ((with_reducible show wpAny _ _ (eval (Expr.Call (Expr.Name _ _) [Expr.Name _ _, Expr.Name _ _, Expr.Name _ _, Expr.Name _ _] [] _) _) _ _ _); k_dflt (refine' bigCall4 (by k_asm) (by k_asm) (by k_asm) (by k_is) (by k_is) (by rfl) (by rfl) (by rfl) (by rfl) ?_; k_whole))) | (k_here; (with_reducible show wpAny _ _ (callWith _ (Value.builtin _) [_] _ _) _ _ _); (with_reducible refine' callWith_method1 ?_ (by k_dflt (rfl)) (by k_dflt (rfl)))) | (k_here; (first | ((with_reducible show wpAny _ _ (PySem.call (Value.builtin "isinstance") [_, Value.type "bool"]) _ _ _); (with_reducible refine' isi_rep_bool (by k_dflt (k_asm)) (by k_dflt (k_asm)) (by k_dflt (k_asm)) (by k_dflt (ktr_rel)) ?_)) | ((with_reducible show wpAny _ _ (PySem.call (Value.builtin "isinstance") [_, Value.type "str"]) _ _ _); (with_reducible refine' isi_rep_str (by k_dflt (k_asm)) (by k_dflt (k_asm)) (by k_dflt (k_asm)) (by k_dflt (ktr_rel)) ?_)) | ((with_reducible show wpAny _ _ (PySem.call (Value.builtin "isinstance") [_, Value.type "list"]) _ _ _); (with_reducible refine' isi_rep_list (by k_dflt (k_asm)) (by k_dflt (k_asm)) (by k_dflt (k_asm)) (by k_dflt (ktr_rel)) ?_)) | ((with_reducible show wpAny _ _ (PySem.call (Value.builtin "isinstance") [_, Value.type "tuple"]) _ _ _); (with_reducible refine' isi_rep_tuple (by k_dflt (k_asm)) (by k_dflt (k_asm)) (by k_dflt (k_asm)) (by k_dflt (ktr_rel)) ?_))); intro _; (try simp only [isSet_set, isSet_num, isSet_txt, isSet_tru, isNum_set, isNum_num, isNum_txt, isNum_tru, isTxt_set, isTxt_num, isTxt_txt, isTxt_tru, isTru_set, isTru_num, isTru_txt, isTru_tru])) | (k_here; (with_reducible show wpAny _ _ (PySem.call (Value.builtin "isinstance") [Value.ref _, Value.type _]) _ _ _); (first | with_reducible refine' IsiPair.tuple_bool (by k_dflt (exact HeldK.get (by k_asm) (by k_asm) (by k_asm) (by ktr_rel))) (by k_dflt (exact rfl)) ?_ | with_reducible refine' IsiPair.tuple_tuple (by k_dflt (exact HeldK.get (by k_asm) (by k_asm) (by k_asm) (by ktr_rel))) (by k_dflt (exact rfl)) ?_ | with_reducible refine' IsiPair.tuple_str (by k_dflt (exact HeldK.get (by k_asm) (by k_asm) (by k_asm) (by ktr_rel))) (by k_dflt (exact rfl)) ?_ | with_reducible refine' IsiPair.tuple_list (by k_dflt (exact HeldK.get (by k_asm) (by k_asm) (by k_asm) (by ktr_rel))) (by k_dflt (exact rfl)) ?_)) | walk1 | (dsimp only; walk1) | (dsimp only; with_reducible show wpAny _ _ _ _ _ _) | (leave1; (try dsimp only)) | fail "no step"))
    exact hret _ _ _ _ (by k_asm) (by k_asm) ⟨_, appCons, by assumption⟩
  · have hS : isSet X = false := by simpa using hS
    have hm := numV_menu hv
    have hnum : ∀ news v, NumAt w news v (numV X).1 (numV X).2 → RepV w news D v (V.num (numV X)) := fun _ _ h => ⟨h, hm⟩
    refine wpAny_call ?_
    k_dflt ktr_enter
    (repeat' (first | (k_unfold; (try dsimp only)) | (k_end; wrow_close) | ((with_reducible show wpAny _ _ (PySem.call (Value.ref _) _) _ _ _); first | (k_here; (with_reducible show wpAny _ _ (PySem.call (Value.ref 167) _) _ _ _); k_dflt ((refine' useM1 (C := (as_compared_sp _ _ _ _ _ _ _ _ _ _ _ _ (by with_reducible assumption) (by ktr_rel) (by ktr_rel))) (h := ?_); intro _ _ _ _ _ _ _; (try k_sweep); (try dsimp only)))) | (k_here; (with_reducible show wpAny _ _ (PySem.call (Value.ref 179) _) _ _ _); k_dflt ((refine' useP (C := (texts_of_sp _ _ _ _ _ _ _ _ _ (by ktr_rel) (by with_reducible assumption) (by ktr_rel))) (h := ?_); intro _ _ _ _ _ _ _; (try k_sweep); (try dsimp only)))) | (k_here; (with_reducible show wpAny _ _ (PySem.call (Value.ref 134) _) _ _ _); k_dflt ((refine' useM1 (C := (as_number_sp _ _ _ _ _ _ _ _ _ (by ktr_rel) (by with_reducible assumption) (by ktr_rel))) (h := ?_); intro _ _ _ _ _ _ _; (try k_sweep); (try dsimp only)))) | (k_here; (with_reducible show wpAny _ _ (PySem.call (Value.ref 148) _) _ _ _); k_dflt ((refine' useA (C := (is_equality_sp _ _ _ _ _ _ _)) (h := ?_); intro _ _ _ _; (try k_sweep); (try dsimp only)))) | fail) | (k_here; first | ((with_reducible show wpAny _ _ (eval (Expr.Call (Expr.Name _ _) [Expr.Name _ _] [] _) _) _ _ _); k_dflt (refine' bigCall1 (by k_asm) (by k_asm) (by k_asm) (by k_is) (by k_is) (by rfl) ?_; k_whole)) | ((with_reducible show wpAny _ _ (eval (Expr.Call (Expr.Name _ _) [Expr.Name _ _, Expr.Name _ _] [] _) _) _ _ _); k_dflt (refine' bigCall2 (by k_asm) (by k_asm) (by k_asm) (by k_is) (by k_is) (by rfl) (by rfl) ?_; k_whole)) | ((with_reducible show wpAny _ _ (eval (Expr.Call (Expr.Name _ _) [Expr.Name _ _, Expr.Name _ _, Expr.Name _ _] [] _) _) _ _ _); k_dflt (refine' bigCall3 (by k_asm) (by k_asm) (by k_asm) (by k_is) (by k_is) (by rfl) (by rfl) (by rfl) ?_; k_whole)) | ((with_reducible show wpAny _ _ (eval (Expr.Call (Expr.Name _ _) [Expr.Name _ _, Expr.Name _ _, Expr.Name _ _, Expr.Name _ _] [] _) _) _ _ _); k_dflt (refine' bigCall4 (by k_asm) (by k_asm) (by k_asm) (by k_is) (by k_is) (by rfl) (by rfl) (by rfl) (by rfl) ?_; k_whole))) | (k_here; (with_reducible show wpAny _ _ (callWith _ (Value.builtin _) [_] _ _) _ _ _); (with_reducible refine' callWith_method1 ?_ (by k_dflt (rfl)) (by k_dflt (rfl)))) | (k_here; (first | ((with_reducible show wpAny _ _ (PySem.call (Value.builtin "isinstance") [_, Value.type "bool"]) _ _ _); (with_reducible refine' isi_rep_bool (by k_dflt (k_asm)) (by k_dflt (k_asm)) (by k_dflt (k_asm)) (by k_dflt (ktr_rel)) ?_)) | ((with_reducible show wpAny _ _ (PySem.call (Value.builtin "isinstance") [_, Value.type "str"]) _ _ _); (with_reducible refine' isi_rep_str (by k_dflt (k_asm)) (by k_dflt (k_asm)) (by k_dflt (k_asm)) (by k_dflt (ktr_rel)) ?_)) | ((with_reducible show wpAny _ _ (PySem.call (Value.builtin "isinstance") [_, Value.type "list"]) _ _ _); (with_reducible refine' isi_rep_list (by k_dflt (k_asm)) (by k_dflt (k_asm)) (by k_dflt (k_asm)) (by k_dflt (ktr_rel)) ?_)) | ((with_reducible show wpAny _ _ (PySem.call (Value.builtin "isinstance") [_, Value.type "tuple"]) _ _ _); (with_reducible refine' isi_rep_tuple (by k_dflt (k_asm)) (by k_dflt (k_asm)) (by k_dflt (k_asm)) (by k_dflt (ktr_rel)) ?_))); intro _; (try simp only [isSet_set, isSet_num, isSet_txt, isSet_tru, isNum_set, isNum_num, isNum_txt, isNum_tru, isTxt_set, isTxt_num, isTxt_txt, isTxt_tru, isTru_set, isTru_num, isTru_txt, isTru_tru])) | (k_here; (with_reducible show wpAny _ _ (PySem.call (Value.builtin "isinstance") [Value.ref _, Value.type _]) _ _ _); (first | with_reducible refine' IsiPair.tuple_bool (by k_dflt (exact HeldK.get (by k_asm) (by k_asm) (by k_asm) (by ktr_rel))) (by k_dflt (exact rfl)) ?_ | with_reducible refine' IsiPair.tuple_tuple (by k_dflt (exact HeldK.get (by k_asm) (by k_asm) (by k_asm) (by ktr_rel))) (by k_dflt (exact rfl)) ?_ | with_reducible refine' IsiPair.tuple_str (by k_dflt (exact HeldK.get (by k_asm) (by k_asm) (by k_asm) (by ktr_rel))) (by k_dflt (exact rfl)) ?_ | with_reducible refine' IsiPair.tuple_list (by k_dflt (exact HeldK.get (by k_asm) (by k_asm) (by k_asm) (by ktr_rel))) (by k_dflt (exact rfl)) ?_)) | walk1 | (dsimp only; walk1) | (dsimp only; with_reducible show wpAny _ _ _ _ _ _) | (leave1; (try dsimp only)) | fail "no step"))
    all_goals first
      | (refine' hret _ _ _ _ (by k_asm) (by k_asm) ⟨[_], rfl, ?_⟩
         rw [listedV_no hS, show eqOp op = true by clear hret; simp [eqOp, *], if_pos rfl]
         exact ⟨_, _, [v], rfl, List.mem_cons_self, (Reps.one hv).tail, Nat.le_of_ble_eq_true rfl⟩)
      | (refine' hret _ _ _ _ (by k_asm) (by k_asm) ⟨_ :: _, rfl, ?_⟩
         rw [listedV_no hS, show eqOp op = false by clear hret; simp [eqOp, *], if_neg Bool.false_ne_true]
         exact ⟨_, _, [_], rfl, List.mem_cons_self, (Reps.one (hnum _ _ (by assumption))).tail, Nat.le_of_ble_eq_true rfl⟩)
end
section
noncomputable def comparedV (op : Str) (X Y : V) : Bool :=
  if !isSet X && !isSet Y then plainV op X Y
  else if isTru X || isTru Y then plainV op (.tru (truthV X)) (.tru (truthV Y))
  else pairV op (listedV op X Y) (listedV op Y X)
theorem likeListed {op : Str} {X Y : V} (h : isSet X = true ∨ isSet Y = true) (hX : isTru X = false) (hY : isTru Y = false) : likeV (listedV op X Y) (listedV op Y X) := by
  intro P hP R hR
  cases he : eqOp op <;> cases X <;> cases Y <;> simp_all [listedV, isSet, isNum, isTxt, isTru] <;> (first | (obtain ⟨a, b, ha, rfl⟩ := hP; obtain ⟨c, d, hc, rfl⟩ := hR; first | exact ⟨rfl, rfl⟩ | exact .inl ⟨rfl, rfl⟩ | exact .inr ⟨rfl, rfl⟩) | (obtain ⟨a, b, ha, rfl⟩ := hP; obtain ⟨c, d, hc, rfl⟩ := hR; rfl) | (obtain ⟨a, b, ha, rfl⟩ := hP; rfl) | (obtain ⟨c, d, hc, rfl⟩ := hR; rfl) | trivial)
theorem compared_sp (w : World) (mean : ExcName → Option Value) (mg mb : MV) (news : Led) (op : Str) (top : Tok) (v u : Value) (t : Addr) (D : TD) (X Y : V) (hT : TreeAt w news t D) (hl : D.rows.length ≤ 1000) (hv : RepV w news D v X) (hu' : RepV w news D u Y) :
   Sp w mean mg mb 193 [.str op top, v, u, .ref t] 24 2000 news (fun news' v => ∃ new, news' = new ++ news ∧ v = .bool (comparedV op X Y)) := by
  intro dp un gd cn cs aa ccd cl outer A₀ base h₀ L m s Q E B F X0 N T hk hd hu hret
  refine wpAny_call ?_
  k_dflt ktr_enter
  (repeat' (first | (k_unfold; (try dsimp only)) | (k_end; wrow_close) | ((with_reducible show wpAny _ _ (PySem.call (Value.ref _) _) _ _ _); first | (k_here; (with_reducible show wpAny _ _ (PySem.call (Value.ref 174) _) _ _ _); k_dflt ((refine' useA (C := (some_pair_sp _ _ _ _ _ _ _ _ _ _ _ _ (by ktr_rel) (by ktr_rel) (by first | assumption | exact likeListed (by first | exact Or.inl (by assumption) | exact Or.inr (by assumption)) (by assumption) (by assumption)))) (h := ?_); intro _ _ _ _; (try k_sweep); (try dsimp only)))) | (k_here; (with_reducible show wpAny _ _ (PySem.call (Value.ref 186) _) _ _ _); k_dflt ((refine' useM1 (C := (listed_sp _ _ _ _ _ _ _ _ _ _ _ _ _ (by ktr_rel) (by with_reducible assumption) (by ktr_rel) (by ktr_rel))) (h := ?_); intro _ _ _ _ _ _ _; (try k_sweep); (try dsimp only)))) | (k_here; (with_reducible show wpAny _ _ (PySem.call (Value.ref 162) _) _ _ _); k_dflt ((refine' useC (C := (compared_plain_sp _ _ _ _ _ _ _ _ _ _ _ _ _ (by ktr_rel) (by with_reducible assumption) (by first | ktr_rel | exact repTru _) (by first | ktr_rel | exact repTru _))) (h := ?_); intro _ _ _ _ _; (try k_sweep); (try dsimp only)))) | (k_here; (with_reducible show wpAny _ _ (PySem.call (Value.ref 141) _) _ _ _); k_dflt ((refine' useA (C := (as_truth_sp _ _ _ _ _ _ _ _ _ (by ktr_rel))) (h := ?_); intro _ _ _ _; (try k_sweep); (try dsimp only)))) | fail) | (k_here; first | ((with_reducible show wpAny _ _ (eval (Expr.Call (Expr.Name _ _) [Expr.Name _ _] [] _) _) _ _ _); k_dflt (refine' bigCall1 (by k_asm) (by k_asm) (by k_asm) (by k_is) (by k_is) (by rfl) ?_; k_whole)) | ((with_reducible show wpAny _ _ (eval (Expr.Call (Expr.Name _ _) [Expr.Name _ _, Expr.Name _ _] [] _) _) _ _ _); k_dflt (refine' bigCall2 (by k_asm) (by k_asm) (by k_asm) (by k_is) (by k_is) (by rfl) (by rfl) ?_; k_whole)) | ((with_reducible show wpAny _ _ (eval (Expr.Call (Expr.Name _ _) [Expr.Name _ _, Expr.Name _ _, Expr.Name _ _] [] _) _) _ _ _); k_dflt (refine' bigCall3 (by k_asm) (by k_asm) (by k_asm) (by k_is) (by k_is) (by rfl) (by rfl) (by rfl) ?_; k_whole)) | ((with_reducible show wpAny _ _ (eval (Expr.Call (Expr.Name _ _) [Expr.Name _ _, Expr.Name _ _, Expr.Name _ _, Expr.Name _ _] [] _) _) _ _ _); k_dflt (refine' bigCall4 (by k_asm) (by k_asm) (by k_asm) (by k_is) (by k_is) (by rfl) (by rfl) (by rfl) (by rfl) ?_; k_whole))) | (k_here; (with_reducible show wpAny _ _ (callWith _ (Value.builtin _) [_] _ _) _ _ _); (with_reducible refine' callWith_method1 ?_ (by k_dflt (rfl)) (by k_dflt (rfl)))) | (k_here; (first | ((with_reducible show wpAny _ _ (PySem.call (Value.builtin "isinstance") [_, Value.type "bool"]) _ _ _); (with_reducible refine' isi_rep_bool (by k_dflt (k_asm)) (by k_dflt (k_asm)) (by k_dflt (k_asm)) (by k_dflt (ktr_rel)) ?_)) | ((with_reducible show wpAny _ _ (PySem.call (Value.builtin "isinstance") [_, Value.type "str"]) _ _ _); (with_reducible refine' isi_rep_str (by k_dflt (k_asm)) (by k_dflt (k_asm)) (by k_dflt (k_asm)) (by k_dflt (ktr_rel)) ?_)) | ((with_reducible show wpAny _ _ (PySem.call (Value.builtin "isinstance") [_, Value.type "list"]) _ _ _); (with_reducible refine' isi_rep_list (by k_dflt (k_asm)) (by k_dflt (k_asm)) (by k_dflt (k_asm)) (by k_dflt (ktr_rel)) ?_)) | ((with_reducible show wpAny _ _ (PySem.call (Value.builtin "isinstance") [_, Value.type "tuple"]) _ _ _); (with_reducible refine' isi_rep_tuple (by k_dflt (k_asm)) (by k_dflt (k_asm)) (by k_dflt (k_asm)) (by k_dflt (ktr_rel)) ?_))); intro _; (try simp only [isSet_set, isSet_num, isSet_txt, isSet_tru, isNum_set, isNum_num, isNum_txt, isNum_tru, isTxt_set, isTxt_num, isTxt_txt, isTxt_tru, isTru_set, isTru_num, isTru_txt, isTru_tru])) | (k_here; (with_reducible show wpAny _ _ (PySem.call (Value.builtin "isinstance") [Value.ref _, Value.type _]) _ _ _); (first | with_reducible refine' IsiPair.tuple_bool (by k_dflt (exact HeldK.get (by k_asm) (by k_asm) (by k_asm) (by ktr_rel))) (by k_dflt (exact rfl)) ?_ | with_reducible refine' IsiPair.tuple_tuple (by k_dflt (exact HeldK.get (by k_asm) (by k_asm) (by k_asm) (by ktr_rel))) (by k_dflt (exact rfl)) ?_ | with_reducible refine' IsiPair.tuple_str (by k_dflt (exact HeldK.get (by k_asm) (by k_asm) (by k_asm) (by ktr_rel))) (by k_dflt (exact rfl)) ?_ | with_reducible refine' IsiPair.tuple_list (by k_dflt (exact HeldK.get (by k_asm) (by k_asm) (by k_asm) (by ktr_rel))) (by k_dflt (exact rfl)) ?_)) | walk1 | (dsimp only; walk1) | (dsimp only; with_reducible show wpAny _ _ _ _ _ _) | (leave1; (try dsimp only)) | fail "no step"))
  all_goals first
    | (refine' hret _ _ _ _ (by k_asm) (by k_asm) ⟨_, rfl, boov ?_⟩
       clear hret
       simp [comparedV, *]
       done)
    | (refine' hret _ _ _ _ (by k_asm) (by k_asm) ⟨_, (List.append_assoc _ _ _).symm, boov ?_⟩
       clear hret
       simp [comparedV, *]
       done)
end
section
theorem same_law (op : Str) (X Y : V) : comparedV op X Y = dueV op X Y := by
  unfold comparedV dueV
  by_cases h1 : (!isSet X && !isSet Y) = true
  · rw [if_pos h1, if_pos h1]
  · rw [if_neg h1, if_neg h1]
    by_cases h2 : (isTru X || isTru Y) = true
    · rw [if_pos h2, if_pos h2]
    · rw [if_neg h2, if_neg h2]
      cases he : eqOp op <;> cases X <;> cases Y <;> simp_all [listedV, itemsV, pairV, hitV, plainV, isSet, isNum, isTxt, isTru, numV, textV, List.any_map, Function.comp_def]
end
section
theorem neNum {w : World} {A : Around} {E : Value → Shared → Prop} {s : Shared} {h₀ : Heap} {L : Addr} {m : MV} {news : Led} {v u : Value} {x y : Int} {Q : Value → Shared → Prop} (F : Fr h₀ L s.heap m) (X : (K w.params).In h₀) (N : News h₀ L s.heap news)
    (hv : NumAt w news v x y) (hu : NumAt w news u x y) (hun : A.units + 64 < cLine) (h : Q (.bool false) s) : wpAny (model P0 w) A (compareOp .NotEq v u) Q E s := by
  obtain ⟨r, t1, t2, rfl, h1⟩ := hv
  obtain ⟨r', t3, t4, rfl, h2⟩ := hu
  refine ne_dataH (reads_tuple_at (h1.get F X N) rfl rfl (.cons (.int _ _) (.cons (.int _ _) .nil))) (reads_tuple_at (h2.get F X N) rfl rfl (.cons (.int _ _) (.cons (.int _ _) .nil))) (by rfl) (by rfl) hun ?_
  have e : (!PyData.eqv (.tuple [.int x, .int y]) (.tuple [.int x, .int y])) = false := by
    simp [PyData.eqv, PyData.eqvAll]
  rw [e]
  exact h
theorem neBool {prog : Program} {w : World} {A : Around} {E : Value → Shared → Prop} {s : Shared} {b : Bool} {Q : Value → Shared → Prop} (h : Q (.bool false) s) : wpAny (model prog w) A (compareOp .NotEq (.bool b) (.bool b)) Q E s :=
  ne_bool (by rw [bne_self_eq_false]; exact h)
theorem neStr {prog : Program} {w : World} {A : Around} {E : Value → Shared → Prop} {s : Shared} {x : Str} {t u : Tok} {Q : Value → Shared → Prop} (h : Q (.bool false) s) : wpAny (model prog w) A (compareOp .NotEq (.str x t) (.str x u)) Q E s :=
  ne_str (by rw [bne_self_eq_false]; exact h)
/-- what is to hold behind a run, under a name -/
theorem absQE {M : Model} {A : Around} {α : Type} {t : Sem α} {Q : α → Shared → Prop} {E : Value → Shared → Prop} {s : Shared} (h : ∀ (Q' : α → Shared → Prop) (E' : Value → Shared → Prop), (∀ f s', Q f s' → Q' f s') → wpAny M A t Q' E' s) : wpAny M A t Q E s := h Q E fun _ _ h => h
/-- what law_value leaves, opened: a rest of its own -/
noncomputable def VOpen (w : World) (D : TD) (src : Addr) (rest news' : Led) (v : Value) : Prop :=
  ∃ a' b' t1 t2 n rest' l v1 v2 X nn, news' = (src, srcO a' b' t1 t2 n) :: rest' ∧ v = .ref l ∧ SB a' b' ∧ (∀ p ∈ rest', p.1 ≠ src) ∧ (∀ p ∈ rest, p ∈ rest') ∧ (l, W.listOf [v1, v2].toArray nn) ∈ rest' ∧ RepV w rest' D v1 X ∧ RepL w rest' D v2 X
theorem VPost.open {w : World} {D : TD} {src : Addr} {rest news' : Led} {v : Value} (hoff : ∀ p ∈ rest, p.1 ≠ src) (h : VPost w D src rest news' v) : VOpen w D src rest news' v := by
  obtain ⟨a, b, t1, t2, n, new, l, v1, v2, X, nn, rfl, hb, hn, rfl, hl, hv, hL⟩ := h
  refine ⟨a, b, t1, t2, n, new ++ rest, l, v1, v2, X, nn, rfl, rfl, hb, fun p hp => ?_, fun p hp => List.mem_append_right _ hp, List.mem_append_left _ hl, hv, hL⟩
  rcases List.mem_append.mp hp with hp | hp
  · exact hn p hp
  · exact hoff p hp
theorem law_value_open (w : World) (mean : ExcName → Option Value) (mg mb : MV) (rest : Led) (src t nl : Addr) (a b : Int) (t1 t2 : Tok) (k : Nat) (D : TD) (xs : List (Nat × Str)) (hoff : ∀ p ∈ rest, p.1 ≠ src) (hb : SB a b) (hT : TreeAt w rest t D) (hl : D.rows.length ≤ 1000) (hn : RepV w rest D (.ref nl) (.set xs)) :
   Sp w mean mg mb 469 [.ref src, .ref t, .ref nl] 20 800 ((src, srcO a b t1 t2 k) :: rest) (VOpen w D src rest) := by
  intro dp un gd cn cs aa ccd cl outer A₀ base h₀ L m s Q E B F X N T hk hd hu hret
  exact law_value_sp w mean mg mb rest src t nl a b t1 t2 k D xs hoff hb hT hl hn dp un gd cn cs aa ccd cl outer A₀ base h₀ L m s Q E B F X N T hk hd hu fun v h' tk' news' F' N' R' => hret v h' tk' news' F' N' (R'.open hoff)
/-- what law_made leaves, opened -/
noncomputable def MOpen (w : World) (src : Addr) (rest news' : Led) (v : Value) : Prop :=
  ∃ a' b' t1 t2 n rest' l t nl nn xs D, news' = (src, srcO a' b' t1 t2 n) :: rest' ∧ v = .ref l ∧ SB a' b' ∧ (∀ p ∈ rest', p.1 ≠ src) ∧ (∀ p ∈ rest, p ∈ rest') ∧ (l, W.listOf [Value.ref t, Value.ref nl].toArray nn) ∈ rest' ∧ TreeAt w rest' t D ∧ D.rows.length ≤ 1000 ∧ RepV w rest' D (.ref nl) (.set xs)
theorem MPost.open {w : World} {src : Addr} {rest news' : Led} {v : Value} (hoff : ∀ p ∈ rest, p.1 ≠ src) (h : MPost w src rest news' v) : MOpen w src rest news' v := by
  obtain ⟨a, b, t1, t2, n, new, l, t, nl, nn, xs, D, rfl, hb, hn, rfl, hl, hT, hD, hv⟩ := h
  refine ⟨a, b, t1, t2, n, new ++ rest, l, t, nl, nn, xs, D, rfl, rfl, hb, fun p hp => ?_, fun p hp => List.mem_append_right _ hp, List.mem_append_left _ hl, hT, hD, hv⟩
  rcases List.mem_append.mp hp with hp | hp
  · exact hn p hp
  · exact hoff p hp
theorem law_made_open (w : World) (mean : ExcName → Option Value) (mg mb : MV) (rest : Led) (src : Addr) (a b : Int) (t1 t2 : Tok) (k : Nat) (hoff : ∀ p ∈ rest, p.1 ≠ src) (hb : SB a b) :
   Sp w mean mg mb 509 [.ref src] 30 1500 ((src, srcO a b t1 t2 k) :: rest) (MOpen w src rest) := by
  intro dp un gd cn cs aa ccd cl outer A₀ base h₀ L m s Q E B F X N T hk hd hu hret
  exact law_made_sp w mean mg mb rest src a b t1 t2 k hoff hb dp un gd cn cs aa ccd cl outer A₀ base h₀ L m s Q E B F X N T hk hd hu fun v h' tk' news' F' N' R' => hret v h' tk' news' F' N' (R'.open hoff)
theorem compared_due (w : World) (mean : ExcName → Option Value) (mg mb : MV) (news : Led) (op : Str) (top : Tok) (v u : Value) (t : Addr) (D : TD) (X Y : V) (hT : TreeAt w news t D) (hl : D.rows.length ≤ 1000) (hv : RepV w news D v X) (hu' : RepV w news D u Y) :
   Sp w mean mg mb 193 [.str op top, v, u, .ref t] 24 2000 news (fun news' v => ∃ new, news' = new ++ news ∧ v = .bool (dueV op X Y)) := by
  rw [← same_law]
  exact compared_sp w mean mg mb news op top v u t D X Y hT hl hv hu'
/-- between the turns of law's inner loop -/
noncomputable def TurnInv (src : Addr) (rest : Led) (nx : Led) : Prop := ∃ a b t1 t2 n, nx = (src, srcO a b t1 t2 n) :: rest ∧ SB a b
theorem turnEnd {h₀ : Heap} {L src : Addr} {m' : MV} {X rest own : Led} {P : MV → Prop} {s₁ : Shared} {Q : Flow → Shared → Prop} {h' : Heap} {tk : Nat} {a b : Int} {t1 t2 : Tok} {n : Nat} {o : Obj}
    (hto : TbOff own ((src, o) :: rest)) (F : Fr h₀ L h' m') (N : News h₀ L h' X) (hP : P m') (h1 : (src, srcO a b t1 t2 n) ∈ X) (hb : SB a b) (h2 : ∀ p ∈ rest ++ own, p ∈ X) :
    TbPost h₀ L (fun m₁ nx' => P m₁ ∧ TurnInv src rest nx') own s₁ Q .next { s₁ with heap := h', toks := tk } := by
  refine TbPost.next' F N (nx := (src, srcO a b t1 t2 n) :: rest) (List.forall_mem_cons.mpr ⟨h1, fun p hp => h2 p (List.mem_append_left _ hp)⟩) (fun p hp => h2 p (List.mem_append_right _ hp)) ?_ ⟨hP, a, b, t1, t2, n, rfl, hb⟩
  intro p hp
  exact List.forall_mem_cons.mpr ⟨hto p hp (src, o) List.mem_cons_self, fun q hq => hto p hp q (List.mem_cons_of_mem _ hq)⟩
theorem outEnd {h₀ : Heap} {L : Addr} {m' : MV} {X own : Led} {P : MV → Prop} {s₁ : Shared} {Q : Flow → Shared → Prop} {h' : Heap} {tk : Nat} (F : Fr h₀ L h' m') (N : News h₀ L h' X) (hP : P m') (h2 : ∀ p ∈ own, p ∈ X) :
    TbPost h₀ L (fun m₁ nx' => P m₁ ∧ nx' = []) own s₁ Q .next { s₁ with heap := h', toks := tk } :=
  TbPost.next' F N (nx := []) (fun p hp => nomatch hp) h2 (fun p hp q hq => nomatch hq) ⟨hP, rfl⟩
theorem opIn {v : Value} {i : Nat} {k1 k2 k3 k4 k5 k6 : Tok} (h : [Value.str (Str.ofString "=") k1, .str (Str.ofString "!=") k2, .str (Str.ofString "<") k3, .str (Str.ofString "<=") k4, .str (Str.ofString ">") k5, .str (Str.ofString ">=") k6][i]? = some v) : ∃ op t, v = .str op t ∧ op ∈ opsL := by
  have := List.mem_of_getElem? h
  simp only [List.mem_cons, List.not_mem_nil, or_false] at this
  rcases this with rfl | rfl | rfl | rfl | rfl | rfl <;> exact ⟨_, _, rfl, by decide +kernel⟩
theorem firstItem' {w : World} {news : Led} {D : TD} {vs : List Value} {xs : List (Nat × Str)} (hr : Reps w news D vs (xs.map fun p => V.txt p.2)) (t0 : Tok) : ∃ t, (vs ++ [.str (Str.ofString "") t0])[(0 : Int).toNat]? = some (.str (textV (.set xs)) t) := by
  cases xs with
  | nil =>
    have : vs = [] := List.eq_nil_of_length_eq_zero hr.1
    subst this
    exact ⟨t0, rfl⟩
  | cons p r =>
    cases vs with
    | nil => have := hr.1; simp at this
    | cons v vs =>
      obtain ⟨⟨t, rfl⟩, _⟩ := hr.2 0 v (V.txt p.2) rfl rfl
      exact ⟨t, rfl⟩
theorem firstText {prog : Program} {w : World} {A : Around} {E : Value → Shared → Prop} {s : Shared} {h₀ : Heap} {L l : Addr} {news ns : Led} {D : TD} {value slice : PySem.Expr} {vs : List Value} {xs : List (Nat × Str)} {n : Nat} {t0 u : Tok} {Q : Value → Shared → Prop}
    (hr : Reps w ns D vs (xs.map fun p => V.txt p.2)) (N : News h₀ L s.heap news) (hm : (l, W.listOf (vs ++ [Value.str (Str.ofString "") t0]).toArray n) ∈ news) (h : ∀ t, Q (.str (textV (.set xs)) t) s)
    (hs : subscripted slice false (.ref l) (.int 0 u) = operate [.ref l, .int 0 u] (getItem (.ref l) (.int 0 u)) := by with_unfolding_all rfl) :
    wpAny (model prog w) A (subscriptTail value slice (.ref l) (.int 0 u)) Q E s := by
  obtain ⟨t, e⟩ := firstItem' hr t0
  exact listItem N hm (by decide) (by decide) e (h t) hs
/-- a frame's map under a name -/
theorem letF {P : Prop} {h₀ : Heap} {L : Addr} {h : Heap} {m : MV} (g : let m' := m; Fr h₀ L h m' → P) : Fr h₀ L h m → P := g
section
variable {w : World} {mean : ExcName → Option Value} {mg mb : MV} {f : Addr} {vs : List Value} {dd uu : Nat} {news : Led} {dp un : Nat} {gd : Option (List Code)} {cn : Str} {cs : Scope} {a : Addr} {ccd : Value} {cl : List (Str × Addr)} {outer : List Env} {A₀ : Around} {base h₀ : Heap} {L : Addr} {m : MV} {s : Shared} {Q E : Value → Shared → Prop}
theorem useVal {D : TD} {src : Addr} {rest : Led} (F : Fr h₀ L s.heap m := by k_asm) (N : News h₀ L s.heap news := by k_asm) (B : Below A₀ base outer h₀ := by k_asm) (XK : (K w.params).In h₀ := by k_asm) (T : Top q (looseW q loose) mean mg mb h₀ := by k_asm) (hk : cs.kind = .function := by first | exact rfl | assumption)
    (C : Sp w mean mg mb f vs dd uu news (VOpen w D src rest)) (hd : dp + dd < recursionLimit := by ktr_room) (hu : un + uu < cLine := by ktr_units)
    (h : ∀ h' tk' a' b' t1 t2 n rest' l v1 v2 X nn, Fr h₀ L h' m → News h₀ L h' ((src, srcO a' b' t1 t2 n) :: rest') → SB a' b' → (∀ p ∈ rest', p.1 ≠ src) → (∀ p ∈ rest, p ∈ rest') → (l, W.listOf [v1, v2].toArray nn) ∈ rest' → RepV w rest' D v1 X → RepL w rest' D v2 X → Q (.ref l) { s with heap := h', toks := tk' }) : wpAny (model P0 w) (ktrTop dp un gd cn cs L a ccd cl outer) (call (.ref f) vs) Q E s :=
  use2 F N B XK T hk C hd hu fun _ h' tk' _ F9 N9 R9 => by obtain ⟨a', b', t1, t2, n, rest', l, v1, v2, X, nn, rfl, rfl, p1, p2, p3, p4, p5, p6⟩ := R9; exact h h' tk' a' b' t1 t2 n rest' l v1 v2 X nn F9 N9 p1 p2 p3 p4 p5 p6
theorem useMade {src : Addr} {rest : Led} (F : Fr h₀ L s.heap m := by k_asm) (N : News h₀ L s.heap news := by k_asm) (B : Below A₀ base outer h₀ := by k_asm) (XK : (K w.params).In h₀ := by k_asm) (T : Top q (looseW q loose) mean mg mb h₀ := by k_asm) (hk : cs.kind = .function := by first | exact rfl | assumption)
    (C : Sp w mean mg mb f vs dd uu news (MOpen w src rest)) (hd : dp + dd < recursionLimit := by ktr_room) (hu : un + uu < cLine := by ktr_units)
    (h : ∀ h' tk' a' b' t1 t2 n rest' l t nl nn xs D, Fr h₀ L h' m → News h₀ L h' ((src, srcO a' b' t1 t2 n) :: rest') → SB a' b' → (∀ p ∈ rest', p.1 ≠ src) → (∀ p ∈ rest, p ∈ rest') → (l, W.listOf [Value.ref t, Value.ref nl].toArray nn) ∈ rest' → TreeAt w rest' t D → D.rows.length ≤ 1000 → RepV w rest' D (.ref nl) (.set xs) → Q (.ref l) { s with heap := h', toks := tk' }) : wpAny (model P0 w) (ktrTop dp un gd cn cs L a ccd cl outer) (call (.ref f) vs) Q E s :=
  use2 F N B XK T hk C hd hu fun _ h' tk' _ F9 N9 R9 => by obtain ⟨a', b', t1, t2, n, rest', l, t, nl, nn, xs, D, rfl, rfl, p1, p2, p3, p4, p5, p6, p7⟩ := R9; exact h h' tk' a' b' t1 t2 n rest' l t nl nn xs D F9 N9 p1 p2 p3 p4 p5 p6 p7
end
end
section
local macro_rules | `(tactic| walk_at "exec For Name Call cons nil") => `(tactic| (k_here; (rename Fr _ _ _ _ => lF'); (with_unfolding_all refine' For_invVF lF' ?k1 ?k2 ?_; (case k1 => exact rfl); (case k2 => exact rfl); k_whole)))
local macro_rules | `(tactic| walk_at "TbPost") => `(tactic| refine Halt.go ?_)
local macro_rules | `(tactic| walk_at "pyIter ref") => `(tactic| refine Halt.go ?_)
theorem rangeBound {h : Heap} {r : Addr} {a b : Int} {t u v : Tok} (rg : IsRange h r a b 1 t u v) (hb : 1 ≤ b ∧ b ≤ 2) : ∃ bb, IsRange h r a bb 1 t u v ∧ 1 ≤ bb ∧ bb ≤ 2 := ⟨b, rg, hb⟩
noncomputable abbrev stO : List Str := [Str.ofString "k", Str.ofString "source", Str.ofString "tree", Str.ofString "nodes", Str.ofString "turn", Str.ofString "left", Str.ofString "right", Str.ofString "op", Str.ofString "told"]
noncomputable abbrev stI : List Str := [Str.ofString "turn", Str.ofString "left", Str.ofString "right", Str.ofString "op", Str.ofString "told"]
theorem subC {a b : List Str} (h : ∀ x ∈ a, b.contains x = true) : ∀ z, a.contains z = true → b.contains z = true := fun z hz => h z (List.contains_iff_mem.mp hz)
local macro_rules | `(tactic| ktr_rel) => `(tactic| first | with_reducible assumption | ((with_reducible show RepL _ (_ :: _) _ _ _); exact RepL.tail (by ktr_rel)) | ((with_reducible show RepL _ (_ ++ _) _ _ _); exact RepL.app (by ktr_rel)))
local macro_rules | `(tactic| ktr_room) => `(tactic| (first | decide | ((try simp only [depth_under_make, depth_under_kw, depth_in1, depth_deeper, depth_caller]); (try dsimp only [ktrTop]); first | decide | omega)))
local macro_rules | `(tactic| ktr_units) => `(tactic| (first | decide | (have hcL9 := cLine_is; (try simp only [units_in1, units_deeper, Around.mark_units, units_caller]); (try dsimp only [ktrTop]); first | decide | omega)))
local macro_rules | `(tactic| walk_at "compareOp NotEq bool bool") => `(tactic| (k_here; with_reducible refine neBool ?_))
local macro_rules | `(tactic| walk_at "compareOp NotEq str str") => `(tactic| (k_here; k_dflt (refine neStr ?_)))
/-- what _law_pool leaves -/
noncomputable def PoolR (base : Led) (nx : Led) (v : Value) : Prop := ∃ l a b t1 t2 n, v = .ref l ∧ nx = (l, srcO a b t1 t2 n) :: base ∧ SB a b ∧ ∀ p ∈ base, p.1 ≠ l
theorem law_holds : PySem.Challenge.rw_nu0045_01.Holds := by
  w_on
  refine holds_law well_said fun said => ?_
  refine holds_open (q := q) (loose := loose) (Xt := XtM) (XP := XL q []) (Yf := Hook.obs (kHook K Kas (fun _ => rfl))) (Ya := Hook.val (kHook K Kas (fun _ => rfl))) (YP := Hook.says (kHook K Kas (fun _ => rfl))) (N := 6048) left (Hook.of _) (Hook.keeps _) (fun s e => xl_of s (Bool.and_eq_true_iff.mp e).1) XL.keeps (by rfl) (by rfl) (by rfl) (fun s e => recFacts_of (Bool.and_eq_true_iff.mp e).2) (by rfl) (by first | assumption | decide +kernel) (by decide +kernel) ⟨rfl, rfl, rfl, rfl, rfl, by decide +kernel⟩ ?hw ?hc
  case hw => w_witness2
  case hc =>
    w_strict (
      k_fill
      intro w s₀ s₁ mg mb G Y fa o pm cd doc dV kV ho hd hcd hD hmg hg args vals as hpre hlay hrd hwl hlo
      have KX := kIn_of Y
      have X := (Ground.X G).1
      have V := (Ground.X G).2
      try w_nolog (first | (have GL := glob_more (Ground.glob G (by decide +kernel) (by decide +kernel)) V) | (have GL := glob_more (Ground.glob G (by decide +kernel)) V))
      refine Ground.open G ?_
      intro T B D TE TW
      try (refine guard_noD D (by decide +kernel) ?_; clear D)
      obtain ⟨_, _, M⟩ := bmod_of_top T
      have TA := at_of_top T
      try (obtain ⟨_, _, he, B0⟩ := based_of_top T rfl hmg ho hd; have he' : cd = _ := he; subst he'; clear he)
      clear hmg
      wrow_args hpre hlay hrd hwl hlo
      all_goals (
        first | refine callC_kw (enter_call ?_) | refine enter_call ?_ | refine callC_kw (enter_callW ?_) | refine enter_callW ?_ | w_how
        w_top on
        try refine codeAny_mono ?_ (fun _ _ g => GoodW.toG g)
        have K0 := below_caller (Top.heap T)
        w_call any ho hd hcd hD T F
        clear hd TA
        k_drop
        skip)
      (all_goals try k_fold)
      (repeat' (first | (k_unfold; (try dsimp only)) | (k_end; wrow_close) | ((with_reducible show wpAny _ _ (PySem.call (Value.ref _) _) _ _ _); first | (k_here; (with_reducible show wpAny _ _ (PySem.call (Value.ref 127) _) _ _ _); k_dflt ((refine' useB (C := (as_text_sp _ _ _ _ _ _ _ _ _ (by ktr_rel) (by with_reducible assumption) (by ktr_rel) (by first | exact .inl ⟨_, rfl⟩ | exact .inr ⟨_, rfl⟩))) (h := ?_); intro _ _ _ _ _; (try k_sweep); (try dsimp only)))) | (k_here; (with_reducible show wpAny _ _ (PySem.call (Value.ref 476) _) _ _ _); k_dflt ((refine' useNN (C := (law_number_sp _ _ _ _ _ _ _ _ (by ktr_rel))) (h := ?_); intro _ _ _ _ _ _ _ _ _; (try k_sweep); (try dsimp only)))) | (k_here; (with_reducible show wpAny _ _ (PySem.call (Value.ref 134) _) _ _ _); k_dflt ((refine' useNN (C := (as_number_sp _ _ _ _ _ _ _ _ _ (by ktr_rel) (by with_reducible assumption) (by ktr_rel))) (h := ?_); intro _ _ _ _ _ _ _ _ _; (try k_sweep); (try dsimp only)))) | (k_here; (with_reducible show wpAny _ _ (PySem.call (Value.ref 483) _) _ _ _); k_dflt ((refine' useA (C := (law_truth_sp _ _ _ _ _ _ _ _ (by ktr_rel))) (h := ?_); intro _ _ _ _; (try k_sweep); (try dsimp only)))) | (k_here; (with_reducible show wpAny _ _ (PySem.call (Value.ref 141) _) _ _ _); k_dflt ((refine' useA (C := (as_truth_sp _ _ _ _ _ _ _ _ _ (by ktr_rel))) (h := ?_); intro _ _ _ _; (try k_sweep); (try dsimp only)))) | (k_here; (with_reducible show wpAny _ _ (PySem.call (Value.ref 502) _) _ _ _); k_dflt ((refine' useC (C := (law_due_sp _ _ _ _ _ _ _ _ _ _ _ _ (by with_reducible assumption) (by ktr_rel) (by ktr_rel))) (h := ?_); intro _ _ _ _ _; (try k_sweep); (try dsimp only)))) | (k_here; (with_reducible show wpAny _ _ (PySem.call (Value.ref 193) _) _ _ _); k_dflt ((refine' useC (C := (compared_due _ _ _ _ _ _ _ _ _ _ _ _ _ (by ktr_rel) (by with_reducible assumption) (by ktr_rel) (by ktr_rel))) (h := ?_); intro _ _ _ _ _; (try k_sweep); (try dsimp only)))) | ((first | (with_reducible show wpAny _ _ (PySem.call (Value.ref 469) _) _ _ _) | (with_reducible show wpAny _ _ (PySem.call (Value.ref 457) _) _ _ _)); refine Halt.go ?_) | ((with_reducible show wpAny _ _ (PySem.call (Value.ref 443) _) _ _ _); refine Halt.go ?_) | ((with_reducible show wpAny _ _ (PySem.call (Value.ref 509) _) _ _ _); refine Halt.go ?_) | fail) | (k_here; (with_reducible show wpAny _ _ (subscriptTail (PySem.Expr.BinOp ..) _ (Value.ref _) (Value.int 0 _)) _ _ _); k_dflt (refine' firstText (by with_reducible assumption) (by k_asm) (by k_mem) ?_ (by with_unfolding_all rfl); intro _)) | (k_here; (with_reducible show wpAny _ _ (subscriptTail (PySem.Expr.Subscript ..) _ (Value.ref _) (Value.int _ _)) _ _ _); k_dflt (refine' item_tupleT (by exact heldTup (by k_asm) (by k_asm) (by k_asm) (.inl (by k_mem))) (by decide) (by decide) (by rfl) (by rfl) ?_; k_whole)) | (k_here; (with_reducible show wpAny _ _ (binaryOp _ (Value.ref _) (Value.ref _)) _ _ _); (with_reducible refine' addL (by k_dflt (k_asm)) (by k_dflt (k_asm)) (by k_dflt (k_mem)) (by k_dflt (k_mem)) (by k_dflt (first | omega | simp)) (by k_dflt (first | omega | simp)) ?_); intro _ _ _ _ _) | ((with_reducible show wpAny _ _ (compareOp _ (Value.str (kindL _) _) _) _ _ _); refine Halt.go ?_) | (k_here; (with_reducible show wpAny _ _ (compareOp CmpOp.NotEq (Value.ref _) (Value.ref _)) _ _ _); k_dflt (refine neNum (by k_asm) (by k_asm) (by k_asm) ⟨_, _, _, rfl, by ktr_rel⟩ ⟨_, _, _, rfl, by ktr_rel⟩ (by ktr_units) ?_)) | (k_here; (with_reducible show wpAny _ _ (call (Value.type _) [Value.int _ _]) _ _ _); k_dflt (refine' range1_rows (by k_asm) (by k_asm) ?_); intro _ _ _ _ _ _ _ _ _) | (k_here; first | ((with_reducible show wpAny _ _ (eval (Expr.Call (Expr.Name _ _) [Expr.Name _ _] [] _) _) _ _ _); k_dflt (refine' bigCall1 (by k_asm) (by k_asm) (by k_asm) (by k_is) (by k_is) (by rfl) ?_; k_whole)) | ((with_reducible show wpAny _ _ (eval (Expr.Call (Expr.Name _ _) [Expr.Name _ _, Expr.Name _ _] [] _) _) _ _ _); k_dflt (refine' bigCall2 (by k_asm) (by k_asm) (by k_asm) (by k_is) (by k_is) (by rfl) (by rfl) ?_; k_whole)) | ((with_reducible show wpAny _ _ (eval (Expr.Call (Expr.Name _ _) [Expr.Name _ _, Expr.Name _ _, Expr.Name _ _] [] _) _) _ _ _); k_dflt (refine' bigCall3 (by k_asm) (by k_asm) (by k_asm) (by k_is) (by k_is) (by rfl) (by rfl) (by rfl) ?_; k_whole)) | ((with_reducible show wpAny _ _ (eval (Expr.Call (Expr.Name _ _) [Expr.Name _ _, Expr.Name _ _, Expr.Name _ _, Expr.Name _ _] [] _) _) _ _ _); k_dflt (refine' bigCall4 (by k_asm) (by k_asm) (by k_asm) (by k_is) (by k_is) (by rfl) (by rfl) (by rfl) (by rfl) ?_; k_whole))) | (k_here; (with_reducible show wpAny _ _ (callWith _ (Value.builtin _) [_] _ _) _ _ _); (with_reducible refine' callWith_method1 ?_ (by k_dflt (rfl)) (by k_dflt (rfl)))) | (k_here; (with_reducible show wpAny _ _ (subscriptTail (PySem.Expr.Name ..) _ (Value.ref _) (Value.int _ _)) _ _ _); (with_reducible refine' listItem (by k_dflt (k_asm)) (by k_dflt (k_mem)) (by k_dflt (decide)) (by k_dflt (decide)) (by k_dflt (exact rfl)) ?_)) | (k_here; (with_reducible show wpAny _ _ (compareOp CmpOp.NotEq (Value.ref _) (Value.ref _)) _ _ _); k_dflt (refine ke_ne_ints (listIs (by k_asm) (by k_mem)) (listIs (by k_asm) (by k_mem)) (by l_ints) (by l_ints) (by ktr_units) ?_); ke_norm) | (k_here; (with_reducible show wpAny _ _ (subscriptTail (PySem.Expr.Name ..) _ (Value.ref _) (Value.int _ _)) _ _ _); (with_reducible refine' item_tupleT (by k_dflt (exact heldTup (by k_asm) (by k_asm) (by k_asm) (by ktr_rel))) (by k_dflt (decide)) (by k_dflt (decide)) (by k_dflt (rfl)) (by k_dflt (rfl)) ?_); k_dflt (k_whole)) | walk1 | (dsimp only; walk1) | (dsimp only; with_reducible show wpAny _ _ _ _ _ _) | (leave1; (try dsimp only)) | fail "no step")))
    unfold Halt
    (rename IsRange _ _ _ _ _ _ _ _ => rg0)
    obtain ⟨bb, rgX, hb1, hb2⟩ := rangeBound rg0 (by constructor <;> (repeat' split) <;> omega)
    (rename News _ _ _ _ => N0)
    clear rg0
    refine' rangeLed stO (fun _ nx => nx = []) ?hh rgX ?sm (rangeSize_nat _ _) ?F ?hL N0 rfl ?turn ?done
    case hh => exact rfl
    case sm => exact small_one (by decide) (by decide) (by omega) (by omega)
    case F => k_asm
    case hL => exact rfl
    case done =>
      intro u nx' h tk hJ F3 N3
      (repeat' (first | (k_unfold; (try dsimp only)) | (k_end; wrow_close) | ((with_reducible show wpAny _ _ (PySem.call (Value.ref _) _) _ _ _); first | (k_here; (with_reducible show wpAny _ _ (PySem.call (Value.ref 127) _) _ _ _); k_dflt ((refine' useB (C := (as_text_sp _ _ _ _ _ _ _ _ _ (by ktr_rel) (by with_reducible assumption) (by ktr_rel) (by first | exact .inl ⟨_, rfl⟩ | exact .inr ⟨_, rfl⟩))) (h := ?_); intro _ _ _ _ _; (try k_sweep); (try dsimp only)))) | (k_here; (with_reducible show wpAny _ _ (PySem.call (Value.ref 476) _) _ _ _); k_dflt ((refine' useNN (C := (law_number_sp _ _ _ _ _ _ _ _ (by ktr_rel))) (h := ?_); intro _ _ _ _ _ _ _ _ _; (try k_sweep); (try dsimp only)))) | (k_here; (with_reducible show wpAny _ _ (PySem.call (Value.ref 134) _) _ _ _); k_dflt ((refine' useNN (C := (as_number_sp _ _ _ _ _ _ _ _ _ (by ktr_rel) (by with_reducible assumption) (by ktr_rel))) (h := ?_); intro _ _ _ _ _ _ _ _ _; (try k_sweep); (try dsimp only)))) | (k_here; (with_reducible show wpAny _ _ (PySem.call (Value.ref 483) _) _ _ _); k_dflt ((refine' useA (C := (law_truth_sp _ _ _ _ _ _ _ _ (by ktr_rel))) (h := ?_); intro _ _ _ _; (try k_sweep); (try dsimp only)))) | (k_here; (with_reducible show wpAny _ _ (PySem.call (Value.ref 141) _) _ _ _); k_dflt ((refine' useA (C := (as_truth_sp _ _ _ _ _ _ _ _ _ (by ktr_rel))) (h := ?_); intro _ _ _ _; (try k_sweep); (try dsimp only)))) | (k_here; (with_reducible show wpAny _ _ (PySem.call (Value.ref 502) _) _ _ _); k_dflt ((refine' useC (C := (law_due_sp _ _ _ _ _ _ _ _ _ _ _ _ (by with_reducible assumption) (by ktr_rel) (by ktr_rel))) (h := ?_); intro _ _ _ _ _; (try k_sweep); (try dsimp only)))) | (k_here; (with_reducible show wpAny _ _ (PySem.call (Value.ref 193) _) _ _ _); k_dflt ((refine' useC (C := (compared_due _ _ _ _ _ _ _ _ _ _ _ _ _ (by ktr_rel) (by with_reducible assumption) (by ktr_rel) (by ktr_rel))) (h := ?_); intro _ _ _ _ _; (try k_sweep); (try dsimp only)))) | ((first | (with_reducible show wpAny _ _ (PySem.call (Value.ref 469) _) _ _ _) | (with_reducible show wpAny _ _ (PySem.call (Value.ref 457) _) _ _ _)); refine Halt.go ?_) | ((with_reducible show wpAny _ _ (PySem.call (Value.ref 443) _) _ _ _); refine Halt.go ?_) | ((with_reducible show wpAny _ _ (PySem.call (Value.ref 509) _) _ _ _); refine Halt.go ?_) | fail) | (k_here; (with_reducible show wpAny _ _ (subscriptTail (PySem.Expr.BinOp ..) _ (Value.ref _) (Value.int 0 _)) _ _ _); k_dflt (refine' firstText (by with_reducible assumption) (by k_asm) (by k_mem) ?_ (by with_unfolding_all rfl); intro _)) | (k_here; (with_reducible show wpAny _ _ (subscriptTail (PySem.Expr.Subscript ..) _ (Value.ref _) (Value.int _ _)) _ _ _); k_dflt (refine' item_tupleT (by exact heldTup (by k_asm) (by k_asm) (by k_asm) (.inl (by k_mem))) (by decide) (by decide) (by rfl) (by rfl) ?_; k_whole)) | (k_here; (with_reducible show wpAny _ _ (binaryOp _ (Value.ref _) (Value.ref _)) _ _ _); (with_reducible refine' addL (by k_dflt (k_asm)) (by k_dflt (k_asm)) (by k_dflt (k_mem)) (by k_dflt (k_mem)) (by k_dflt (first | omega | simp)) (by k_dflt (first | omega | simp)) ?_); intro _ _ _ _ _) | ((with_reducible show wpAny _ _ (compareOp _ (Value.str (kindL _) _) _) _ _ _); refine Halt.go ?_) | (k_here; (with_reducible show wpAny _ _ (compareOp CmpOp.NotEq (Value.ref _) (Value.ref _)) _ _ _); k_dflt (refine neNum (by k_asm) (by k_asm) (by k_asm) ⟨_, _, _, rfl, by ktr_rel⟩ ⟨_, _, _, rfl, by ktr_rel⟩ (by ktr_units) ?_)) | (k_here; (with_reducible show wpAny _ _ (call (Value.type _) [Value.int _ _]) _ _ _); k_dflt (refine' range1_rows (by k_asm) (by k_asm) ?_); intro _ _ _ _ _ _ _ _ _) | (k_here; first | ((with_reducible show wpAny _ _ (eval (Expr.Call (Expr.Name _ _) [Expr.Name _ _] [] _) _) _ _ _); k_dflt (refine' bigCall1 (by k_asm) (by k_asm) (by k_asm) (by k_is) (by k_is) (by rfl) ?_; k_whole)) | ((with_reducible show wpAny _ _ (eval (Expr.Call (Expr.Name _ _) [Expr.Name _ _, Expr.Name _ _] [] _) _) _ _ _); k_dflt (refine' bigCall2 (by k_asm) (by k_asm) (by k_asm) (by k_is) (by k_is) (by rfl) (by rfl) ?_; k_whole)) | ((with_reducible show wpAny _ _ (eval (Expr.Call (Expr.Name _ _) [Expr.Name _ _, Expr.Name _ _, Expr.Name _ _] [] _) _) _ _ _); k_dflt (refine' bigCall3 (by k_asm) (by k_asm) (by k_asm) (by k_is) (by k_is) (by rfl) (by rfl) (by rfl) ?_; k_whole)) | ((with_reducible show wpAny _ _ (eval (Expr.Call (Expr.Name _ _) [Expr.Name _ _, Expr.Name _ _, Expr.Name _ _, Expr.Name _ _] [] _) _) _ _ _); k_dflt (refine' bigCall4 (by k_asm) (by k_asm) (by k_asm) (by k_is) (by k_is) (by rfl) (by rfl) (by rfl) (by rfl) ?_; k_whole))) | (k_here; (with_reducible show wpAny _ _ (callWith _ (Value.builtin _) [_] _ _) _ _ _); (with_reducible refine' callWith_method1 ?_ (by k_dflt (rfl)) (by k_dflt (rfl)))) | (k_here; (with_reducible show wpAny _ _ (subscriptTail (PySem.Expr.Name ..) _ (Value.ref _) (Value.int _ _)) _ _ _); (with_reducible refine' listItem (by k_dflt (k_asm)) (by k_dflt (k_mem)) (by k_dflt (decide)) (by k_dflt (decide)) (by k_dflt (exact rfl)) ?_)) | (k_here; (with_reducible show wpAny _ _ (compareOp CmpOp.NotEq (Value.ref _) (Value.ref _)) _ _ _); k_dflt (refine ke_ne_ints (listIs (by k_asm) (by k_mem)) (listIs (by k_asm) (by k_mem)) (by l_ints) (by l_ints) (by ktr_units) ?_); ke_norm) | (k_here; (with_reducible show wpAny _ _ (subscriptTail (PySem.Expr.Name ..) _ (Value.ref _) (Value.int _ _)) _ _ _); (with_reducible refine' item_tupleT (by k_dflt (exact heldTup (by k_asm) (by k_asm) (by k_asm) (by ktr_rel))) (by k_dflt (decide)) (by k_dflt (decide)) (by k_dflt (rfl)) (by k_dflt (rfl)) ?_); k_dflt (k_whole)) | walk1 | (dsimp only; walk1) | (dsimp only; with_reducible show wpAny _ _ _ _ _ _) | (leave1; (try dsimp only)) | fail "no step"))
    case turn =>
      intro i k' t' u nx' h tk own hi hk' hto hJ F3 N3
      have hi2 : i < 2 := by omega
      have hk0 : 0 ≤ k' := by omega
      have hk1 : k' ≤ 1 := by omega
      subst hJ
      simp only [List.nil_append] at N3
      clear N0 hi hk' rgX
      (repeat' (first | (k_unfold; (try dsimp only)) | (k_end; wrow_close) | ((with_reducible show wpAny _ _ (PySem.call (Value.ref _) _) _ _ _); first | (k_here; (with_reducible show wpAny _ _ (PySem.call (Value.ref 127) _) _ _ _); k_dflt ((refine' useB (C := (as_text_sp _ _ _ _ _ _ _ _ _ (by ktr_rel) (by with_reducible assumption) (by ktr_rel) (by first | exact .inl ⟨_, rfl⟩ | exact .inr ⟨_, rfl⟩))) (h := ?_); intro _ _ _ _ _; (try k_sweep); (try dsimp only)))) | (k_here; (with_reducible show wpAny _ _ (PySem.call (Value.ref 476) _) _ _ _); k_dflt ((refine' useNN (C := (law_number_sp _ _ _ _ _ _ _ _ (by ktr_rel))) (h := ?_); intro _ _ _ _ _ _ _ _ _; (try k_sweep); (try dsimp only)))) | (k_here; (with_reducible show wpAny _ _ (PySem.call (Value.ref 134) _) _ _ _); k_dflt ((refine' useNN (C := (as_number_sp _ _ _ _ _ _ _ _ _ (by ktr_rel) (by with_reducible assumption) (by ktr_rel))) (h := ?_); intro _ _ _ _ _ _ _ _ _; (try k_sweep); (try dsimp only)))) | (k_here; (with_reducible show wpAny _ _ (PySem.call (Value.ref 483) _) _ _ _); k_dflt ((refine' useA (C := (law_truth_sp _ _ _ _ _ _ _ _ (by ktr_rel))) (h := ?_); intro _ _ _ _; (try k_sweep); (try dsimp only)))) | (k_here; (with_reducible show wpAny _ _ (PySem.call (Value.ref 141) _) _ _ _); k_dflt ((refine' useA (C := (as_truth_sp _ _ _ _ _ _ _ _ _ (by ktr_rel))) (h := ?_); intro _ _ _ _; (try k_sweep); (try dsimp only)))) | (k_here; (with_reducible show wpAny _ _ (PySem.call (Value.ref 502) _) _ _ _); k_dflt ((refine' useC (C := (law_due_sp _ _ _ _ _ _ _ _ _ _ _ _ (by with_reducible assumption) (by ktr_rel) (by ktr_rel))) (h := ?_); intro _ _ _ _ _; (try k_sweep); (try dsimp only)))) | (k_here; (with_reducible show wpAny _ _ (PySem.call (Value.ref 193) _) _ _ _); k_dflt ((refine' useC (C := (compared_due _ _ _ _ _ _ _ _ _ _ _ _ _ (by ktr_rel) (by with_reducible assumption) (by ktr_rel) (by ktr_rel))) (h := ?_); intro _ _ _ _ _; (try k_sweep); (try dsimp only)))) | ((first | (with_reducible show wpAny _ _ (PySem.call (Value.ref 469) _) _ _ _) | (with_reducible show wpAny _ _ (PySem.call (Value.ref 457) _) _ _ _)); refine Halt.go ?_) | ((with_reducible show wpAny _ _ (PySem.call (Value.ref 443) _) _ _ _); refine Halt.go ?_) | ((with_reducible show wpAny _ _ (PySem.call (Value.ref 509) _) _ _ _); refine Halt.go ?_) | fail) | (k_here; (with_reducible show wpAny _ _ (subscriptTail (PySem.Expr.BinOp ..) _ (Value.ref _) (Value.int 0 _)) _ _ _); k_dflt (refine' firstText (by with_reducible assumption) (by k_asm) (by k_mem) ?_ (by with_unfolding_all rfl); intro _)) | (k_here; (with_reducible show wpAny _ _ (subscriptTail (PySem.Expr.Subscript ..) _ (Value.ref _) (Value.int _ _)) _ _ _); k_dflt (refine' item_tupleT (by exact heldTup (by k_asm) (by k_asm) (by k_asm) (.inl (by k_mem))) (by decide) (by decide) (by rfl) (by rfl) ?_; k_whole)) | (k_here; (with_reducible show wpAny _ _ (binaryOp _ (Value.ref _) (Value.ref _)) _ _ _); (with_reducible refine' addL (by k_dflt (k_asm)) (by k_dflt (k_asm)) (by k_dflt (k_mem)) (by k_dflt (k_mem)) (by k_dflt (first | omega | simp)) (by k_dflt (first | omega | simp)) ?_); intro _ _ _ _ _) | ((with_reducible show wpAny _ _ (compareOp _ (Value.str (kindL _) _) _) _ _ _); refine Halt.go ?_) | (k_here; (with_reducible show wpAny _ _ (compareOp CmpOp.NotEq (Value.ref _) (Value.ref _)) _ _ _); k_dflt (refine neNum (by k_asm) (by k_asm) (by k_asm) ⟨_, _, _, rfl, by ktr_rel⟩ ⟨_, _, _, rfl, by ktr_rel⟩ (by ktr_units) ?_)) | (k_here; (with_reducible show wpAny _ _ (call (Value.type _) [Value.int _ _]) _ _ _); k_dflt (refine' range1_rows (by k_asm) (by k_asm) ?_); intro _ _ _ _ _ _ _ _ _) | (k_here; first | ((with_reducible show wpAny _ _ (eval (Expr.Call (Expr.Name _ _) [Expr.Name _ _] [] _) _) _ _ _); k_dflt (refine' bigCall1 (by k_asm) (by k_asm) (by k_asm) (by k_is) (by k_is) (by rfl) ?_; k_whole)) | ((with_reducible show wpAny _ _ (eval (Expr.Call (Expr.Name _ _) [Expr.Name _ _, Expr.Name _ _] [] _) _) _ _ _); k_dflt (refine' bigCall2 (by k_asm) (by k_asm) (by k_asm) (by k_is) (by k_is) (by rfl) (by rfl) ?_; k_whole)) | ((with_reducible show wpAny _ _ (eval (Expr.Call (Expr.Name _ _) [Expr.Name _ _, Expr.Name _ _, Expr.Name _ _] [] _) _) _ _ _); k_dflt (refine' bigCall3 (by k_asm) (by k_asm) (by k_asm) (by k_is) (by k_is) (by rfl) (by rfl) (by rfl) ?_; k_whole)) | ((with_reducible show wpAny _ _ (eval (Expr.Call (Expr.Name _ _) [Expr.Name _ _, Expr.Name _ _, Expr.Name _ _, Expr.Name _ _] [] _) _) _ _ _); k_dflt (refine' bigCall4 (by k_asm) (by k_asm) (by k_asm) (by k_is) (by k_is) (by rfl) (by rfl) (by rfl) (by rfl) ?_; k_whole))) | (k_here; (with_reducible show wpAny _ _ (callWith _ (Value.builtin _) [_] _ _) _ _ _); (with_reducible refine' callWith_method1 ?_ (by k_dflt (rfl)) (by k_dflt (rfl)))) | (k_here; (with_reducible show wpAny _ _ (subscriptTail (PySem.Expr.Name ..) _ (Value.ref _) (Value.int _ _)) _ _ _); (with_reducible refine' listItem (by k_dflt (k_asm)) (by k_dflt (k_mem)) (by k_dflt (decide)) (by k_dflt (decide)) (by k_dflt (exact rfl)) ?_)) | (k_here; (with_reducible show wpAny _ _ (compareOp CmpOp.NotEq (Value.ref _) (Value.ref _)) _ _ _); k_dflt (refine ke_ne_ints (listIs (by k_asm) (by k_mem)) (listIs (by k_asm) (by k_mem)) (by l_ints) (by l_ints) (by ktr_units) ?_); ke_norm) | (k_here; (with_reducible show wpAny _ _ (subscriptTail (PySem.Expr.Name ..) _ (Value.ref _) (Value.int _ _)) _ _ _); (with_reducible refine' item_tupleT (by k_dflt (exact heldTup (by k_asm) (by k_asm) (by k_asm) (by ktr_rel))) (by k_dflt (decide)) (by k_dflt (decide)) (by k_dflt (rfl)) (by k_dflt (rfl)) ?_); k_dflt (k_whole)) | walk1 | (dsimp only; walk1) | (dsimp only; with_reducible show wpAny _ _ _ _ _ _) | (leave1; (try dsimp only)) | fail "no step"))
      unfold Halt
      (rename Fr _ _ _ _ => F9)
      (rename News _ _ _ _ => N9)
      refine joined F9 N9 (R := PoolR own) ?pool ?rest
      case pool =>
        refine wpAny_call ?_
        k_dflt k_enter
        (repeat' (first | (k_unfold; (try dsimp only)) | (k_end; wrow_close) | ((with_reducible show wpAny _ _ (PySem.call (Value.ref _) _) _ _ _); first | (k_here; (with_reducible show wpAny _ _ (PySem.call (Value.ref 127) _) _ _ _); k_dflt ((refine' useB (C := (as_text_sp _ _ _ _ _ _ _ _ _ (by ktr_rel) (by with_reducible assumption) (by ktr_rel) (by first | exact .inl ⟨_, rfl⟩ | exact .inr ⟨_, rfl⟩))) (h := ?_); intro _ _ _ _ _; (try k_sweep); (try dsimp only)))) | (k_here; (with_reducible show wpAny _ _ (PySem.call (Value.ref 476) _) _ _ _); k_dflt ((refine' useNN (C := (law_number_sp _ _ _ _ _ _ _ _ (by ktr_rel))) (h := ?_); intro _ _ _ _ _ _ _ _ _; (try k_sweep); (try dsimp only)))) | (k_here; (with_reducible show wpAny _ _ (PySem.call (Value.ref 134) _) _ _ _); k_dflt ((refine' useNN (C := (as_number_sp _ _ _ _ _ _ _ _ _ (by ktr_rel) (by with_reducible assumption) (by ktr_rel))) (h := ?_); intro _ _ _ _ _ _ _ _ _; (try k_sweep); (try dsimp only)))) | (k_here; (with_reducible show wpAny _ _ (PySem.call (Value.ref 483) _) _ _ _); k_dflt ((refine' useA (C := (law_truth_sp _ _ _ _ _ _ _ _ (by ktr_rel))) (h := ?_); intro _ _ _ _; (try k_sweep); (try dsimp only)))) | (k_here; (with_reducible show wpAny _ _ (PySem.call (Value.ref 141) _) _ _ _); k_dflt ((refine' useA (C := (as_truth_sp _ _ _ _ _ _ _ _ _ (by ktr_rel))) (h := ?_); intro _ _ _ _; (try k_sweep); (try dsimp only)))) | (k_here; (with_reducible show wpAny _ _ (PySem.call (Value.ref 502) _) _ _ _); k_dflt ((refine' useC (C := (law_due_sp _ _ _ _ _ _ _ _ _ _ _ _ (by with_reducible assumption) (by ktr_rel) (by ktr_rel))) (h := ?_); intro _ _ _ _ _; (try k_sweep); (try dsimp only)))) | (k_here; (with_reducible show wpAny _ _ (PySem.call (Value.ref 193) _) _ _ _); k_dflt ((refine' useC (C := (compared_due _ _ _ _ _ _ _ _ _ _ _ _ _ (by ktr_rel) (by with_reducible assumption) (by ktr_rel) (by ktr_rel))) (h := ?_); intro _ _ _ _ _; (try k_sweep); (try dsimp only)))) | ((first | (with_reducible show wpAny _ _ (PySem.call (Value.ref 469) _) _ _ _) | (with_reducible show wpAny _ _ (PySem.call (Value.ref 457) _) _ _ _)); refine Halt.go ?_) | ((with_reducible show wpAny _ _ (PySem.call (Value.ref 443) _) _ _ _); refine Halt.go ?_) | ((with_reducible show wpAny _ _ (PySem.call (Value.ref 509) _) _ _ _); refine Halt.go ?_) | fail) | (k_here; (with_reducible show wpAny _ _ (subscriptTail (PySem.Expr.BinOp ..) _ (Value.ref _) (Value.int 0 _)) _ _ _); k_dflt (refine' firstText (by with_reducible assumption) (by k_asm) (by k_mem) ?_ (by with_unfolding_all rfl); intro _)) | (k_here; (with_reducible show wpAny _ _ (subscriptTail (PySem.Expr.Subscript ..) _ (Value.ref _) (Value.int _ _)) _ _ _); k_dflt (refine' item_tupleT (by exact heldTup (by k_asm) (by k_asm) (by k_asm) (.inl (by k_mem))) (by decide) (by decide) (by rfl) (by rfl) ?_; k_whole)) | (k_here; (with_reducible show wpAny _ _ (binaryOp _ (Value.ref _) (Value.ref _)) _ _ _); (with_reducible refine' addL (by k_dflt (k_asm)) (by k_dflt (k_asm)) (by k_dflt (k_mem)) (by k_dflt (k_mem)) (by k_dflt (first | omega | simp)) (by k_dflt (first | omega | simp)) ?_); intro _ _ _ _ _) | ((with_reducible show wpAny _ _ (compareOp _ (Value.str (kindL _) _) _) _ _ _); refine Halt.go ?_) | (k_here; (with_reducible show wpAny _ _ (compareOp CmpOp.NotEq (Value.ref _) (Value.ref _)) _ _ _); k_dflt (refine neNum (by k_asm) (by k_asm) (by k_asm) ⟨_, _, _, rfl, by ktr_rel⟩ ⟨_, _, _, rfl, by ktr_rel⟩ (by ktr_units) ?_)) | (k_here; (with_reducible show wpAny _ _ (call (Value.type _) [Value.int _ _]) _ _ _); k_dflt (refine' range1_rows (by k_asm) (by k_asm) ?_); intro _ _ _ _ _ _ _ _ _) | (k_here; first | ((with_reducible show wpAny _ _ (eval (Expr.Call (Expr.Name _ _) [Expr.Name _ _] [] _) _) _ _ _); k_dflt (refine' bigCall1 (by k_asm) (by k_asm) (by k_asm) (by k_is) (by k_is) (by rfl) ?_; k_whole)) | ((with_reducible show wpAny _ _ (eval (Expr.Call (Expr.Name _ _) [Expr.Name _ _, Expr.Name _ _] [] _) _) _ _ _); k_dflt (refine' bigCall2 (by k_asm) (by k_asm) (by k_asm) (by k_is) (by k_is) (by rfl) (by rfl) ?_; k_whole)) | ((with_reducible show wpAny _ _ (eval (Expr.Call (Expr.Name _ _) [Expr.Name _ _, Expr.Name _ _, Expr.Name _ _] [] _) _) _ _ _); k_dflt (refine' bigCall3 (by k_asm) (by k_asm) (by k_asm) (by k_is) (by k_is) (by rfl) (by rfl) (by rfl) ?_; k_whole)) | ((with_reducible show wpAny _ _ (eval (Expr.Call (Expr.Name _ _) [Expr.Name _ _, Expr.Name _ _, Expr.Name _ _, Expr.Name _ _] [] _) _) _ _ _); k_dflt (refine' bigCall4 (by k_asm) (by k_asm) (by k_asm) (by k_is) (by k_is) (by rfl) (by rfl) (by rfl) (by rfl) ?_; k_whole))) | (k_here; (with_reducible show wpAny _ _ (callWith _ (Value.builtin _) [_] _ _) _ _ _); (with_reducible refine' callWith_method1 ?_ (by k_dflt (rfl)) (by k_dflt (rfl)))) | (k_here; (with_reducible show wpAny _ _ (subscriptTail (PySem.Expr.Name ..) _ (Value.ref _) (Value.int _ _)) _ _ _); (with_reducible refine' listItem (by k_dflt (k_asm)) (by k_dflt (k_mem)) (by k_dflt (decide)) (by k_dflt (decide)) (by k_dflt (exact rfl)) ?_)) | (k_here; (with_reducible show wpAny _ _ (compareOp CmpOp.NotEq (Value.ref _) (Value.ref _)) _ _ _); k_dflt (refine ke_ne_ints (listIs (by k_asm) (by k_mem)) (listIs (by k_asm) (by k_mem)) (by l_ints) (by l_ints) (by ktr_units) ?_); ke_norm) | (k_here; (with_reducible show wpAny _ _ (subscriptTail (PySem.Expr.Name ..) _ (Value.ref _) (Value.int _ _)) _ _ _); (with_reducible refine' item_tupleT (by k_dflt (exact heldTup (by k_asm) (by k_asm) (by k_asm) (by ktr_rel))) (by k_dflt (decide)) (by k_dflt (decide)) (by k_dflt (rfl)) (by k_dflt (rfl)) ?_); k_dflt (k_whole)) | walk1 | (dsimp only; walk1) | (dsimp only; with_reducible show wpAny _ _ _ _ _ _) | (leave1; (try dsimp only)) | fail "no step"))
        all_goals (
          (rename Fr _ _ _ _ => kF)
          (rename News _ _ _ _ => kN)
          (rename (∀ p ∈ own, p.1 < _) => kL)
          refine Joined.intro [_] kF kN ⟨_, _, _, _, _, _, rfl, rfl, ⟨?_, ?_, ?_⟩, neOfLt kL⟩
          · refine Int.mul_nonneg ?_ ?_ <;> (repeat' split) <;> omega
          · exact (fm1 _).1
          · exact Int.lt_trans (fm1 _).2 (by decide))
      case rest =>
        intro v h tk' new F8 N8 R8
        refine ex6 R8 fun src a b t1 t2 n R8' => ?_
        refine an4 R8' fun e7 e8 hb hoff => ?_
        clear R8 R8'
        subst e7
        rw [e8] at N8
        clear N9 F9
        (repeat' (first | (k_unfold; (try dsimp only)) | (k_end; wrow_close) | ((with_reducible show wpAny _ _ (PySem.call (Value.ref _) _) _ _ _); first | (k_here; (with_reducible show wpAny _ _ (PySem.call (Value.ref 127) _) _ _ _); k_dflt ((refine' useB (C := (as_text_sp _ _ _ _ _ _ _ _ _ (by ktr_rel) (by with_reducible assumption) (by ktr_rel) (by first | exact .inl ⟨_, rfl⟩ | exact .inr ⟨_, rfl⟩))) (h := ?_); intro _ _ _ _ _; (try k_sweep); (try dsimp only)))) | (k_here; (with_reducible show wpAny _ _ (PySem.call (Value.ref 476) _) _ _ _); k_dflt ((refine' useNN (C := (law_number_sp _ _ _ _ _ _ _ _ (by ktr_rel))) (h := ?_); intro _ _ _ _ _ _ _ _ _; (try k_sweep); (try dsimp only)))) | (k_here; (with_reducible show wpAny _ _ (PySem.call (Value.ref 134) _) _ _ _); k_dflt ((refine' useNN (C := (as_number_sp _ _ _ _ _ _ _ _ _ (by ktr_rel) (by with_reducible assumption) (by ktr_rel))) (h := ?_); intro _ _ _ _ _ _ _ _ _; (try k_sweep); (try dsimp only)))) | (k_here; (with_reducible show wpAny _ _ (PySem.call (Value.ref 483) _) _ _ _); k_dflt ((refine' useA (C := (law_truth_sp _ _ _ _ _ _ _ _ (by ktr_rel))) (h := ?_); intro _ _ _ _; (try k_sweep); (try dsimp only)))) | (k_here; (with_reducible show wpAny _ _ (PySem.call (Value.ref 141) _) _ _ _); k_dflt ((refine' useA (C := (as_truth_sp _ _ _ _ _ _ _ _ _ (by ktr_rel))) (h := ?_); intro _ _ _ _; (try k_sweep); (try dsimp only)))) | (k_here; (with_reducible show wpAny _ _ (PySem.call (Value.ref 502) _) _ _ _); k_dflt ((refine' useC (C := (law_due_sp _ _ _ _ _ _ _ _ _ _ _ _ (by with_reducible assumption) (by ktr_rel) (by ktr_rel))) (h := ?_); intro _ _ _ _ _; (try k_sweep); (try dsimp only)))) | (k_here; (with_reducible show wpAny _ _ (PySem.call (Value.ref 193) _) _ _ _); k_dflt ((refine' useC (C := (compared_due _ _ _ _ _ _ _ _ _ _ _ _ _ (by ktr_rel) (by with_reducible assumption) (by ktr_rel) (by ktr_rel))) (h := ?_); intro _ _ _ _ _; (try k_sweep); (try dsimp only)))) | ((first | (with_reducible show wpAny _ _ (PySem.call (Value.ref 469) _) _ _ _) | (with_reducible show wpAny _ _ (PySem.call (Value.ref 457) _) _ _ _)); refine Halt.go ?_) | ((with_reducible show wpAny _ _ (PySem.call (Value.ref 443) _) _ _ _); refine Halt.go ?_) | ((with_reducible show wpAny _ _ (PySem.call (Value.ref 509) _) _ _ _); refine Halt.go ?_) | fail) | (k_here; (with_reducible show wpAny _ _ (subscriptTail (PySem.Expr.BinOp ..) _ (Value.ref _) (Value.int 0 _)) _ _ _); k_dflt (refine' firstText (by with_reducible assumption) (by k_asm) (by k_mem) ?_ (by with_unfolding_all rfl); intro _)) | (k_here; (with_reducible show wpAny _ _ (subscriptTail (PySem.Expr.Subscript ..) _ (Value.ref _) (Value.int _ _)) _ _ _); k_dflt (refine' item_tupleT (by exact heldTup (by k_asm) (by k_asm) (by k_asm) (.inl (by k_mem))) (by decide) (by decide) (by rfl) (by rfl) ?_; k_whole)) | (k_here; (with_reducible show wpAny _ _ (binaryOp _ (Value.ref _) (Value.ref _)) _ _ _); (with_reducible refine' addL (by k_dflt (k_asm)) (by k_dflt (k_asm)) (by k_dflt (k_mem)) (by k_dflt (k_mem)) (by k_dflt (first | omega | simp)) (by k_dflt (first | omega | simp)) ?_); intro _ _ _ _ _) | ((with_reducible show wpAny _ _ (compareOp _ (Value.str (kindL _) _) _) _ _ _); refine Halt.go ?_) | (k_here; (with_reducible show wpAny _ _ (compareOp CmpOp.NotEq (Value.ref _) (Value.ref _)) _ _ _); k_dflt (refine neNum (by k_asm) (by k_asm) (by k_asm) ⟨_, _, _, rfl, by ktr_rel⟩ ⟨_, _, _, rfl, by ktr_rel⟩ (by ktr_units) ?_)) | (k_here; (with_reducible show wpAny _ _ (call (Value.type _) [Value.int _ _]) _ _ _); k_dflt (refine' range1_rows (by k_asm) (by k_asm) ?_); intro _ _ _ _ _ _ _ _ _) | (k_here; first | ((with_reducible show wpAny _ _ (eval (Expr.Call (Expr.Name _ _) [Expr.Name _ _] [] _) _) _ _ _); k_dflt (refine' bigCall1 (by k_asm) (by k_asm) (by k_asm) (by k_is) (by k_is) (by rfl) ?_; k_whole)) | ((with_reducible show wpAny _ _ (eval (Expr.Call (Expr.Name _ _) [Expr.Name _ _, Expr.Name _ _] [] _) _) _ _ _); k_dflt (refine' bigCall2 (by k_asm) (by k_asm) (by k_asm) (by k_is) (by k_is) (by rfl) (by rfl) ?_; k_whole)) | ((with_reducible show wpAny _ _ (eval (Expr.Call (Expr.Name _ _) [Expr.Name _ _, Expr.Name _ _, Expr.Name _ _] [] _) _) _ _ _); k_dflt (refine' bigCall3 (by k_asm) (by k_asm) (by k_asm) (by k_is) (by k_is) (by rfl) (by rfl) (by rfl) ?_; k_whole)) | ((with_reducible show wpAny _ _ (eval (Expr.Call (Expr.Name _ _) [Expr.Name _ _, Expr.Name _ _, Expr.Name _ _, Expr.Name _ _] [] _) _) _ _ _); k_dflt (refine' bigCall4 (by k_asm) (by k_asm) (by k_asm) (by k_is) (by k_is) (by rfl) (by rfl) (by rfl) (by rfl) ?_; k_whole))) | (k_here; (with_reducible show wpAny _ _ (callWith _ (Value.builtin _) [_] _ _) _ _ _); (with_reducible refine' callWith_method1 ?_ (by k_dflt (rfl)) (by k_dflt (rfl)))) | (k_here; (with_reducible show wpAny _ _ (subscriptTail (PySem.Expr.Name ..) _ (Value.ref _) (Value.int _ _)) _ _ _); (with_reducible refine' listItem (by k_dflt (k_asm)) (by k_dflt (k_mem)) (by k_dflt (decide)) (by k_dflt (decide)) (by k_dflt (exact rfl)) ?_)) | (k_here; (with_reducible show wpAny _ _ (compareOp CmpOp.NotEq (Value.ref _) (Value.ref _)) _ _ _); k_dflt (refine ke_ne_ints (listIs (by k_asm) (by k_mem)) (listIs (by k_asm) (by k_mem)) (by l_ints) (by l_ints) (by ktr_units) ?_); ke_norm) | (k_here; (with_reducible show wpAny _ _ (subscriptTail (PySem.Expr.Name ..) _ (Value.ref _) (Value.int _ _)) _ _ _); (with_reducible refine' item_tupleT (by k_dflt (exact heldTup (by k_asm) (by k_asm) (by k_asm) (by ktr_rel))) (by k_dflt (decide)) (by k_dflt (decide)) (by k_dflt (rfl)) (by k_dflt (rfl)) ?_); k_dflt (k_whole)) | walk1 | (dsimp only; walk1) | (dsimp only; with_reducible show wpAny _ _ _ _ _ _) | (leave1; (try dsimp only)) | fail "no step"))
        unfold Halt
        (rename Fr _ _ _ _ => F9)
        (rename News _ _ _ _ => N9)
        k_dflt (refine' useMade (F := F9) (N := N9) (C := law_made_open _ _ _ _ _ _ _ _ _ _ _ hoff hb) (hd := by first | decide | ktr_room) (hu := by first | decide | ktr_units) (h := ?_))
        intro h9 tk9 a' b' u1 u2 n' rest l t nl nn xs D F9 N9 hb' hoff' hsub hl hT hD hn
        clear hoff hb e8
        (repeat' (first | (k_unfold; (try dsimp only)) | (k_end; wrow_close) | ((with_reducible show wpAny _ _ (PySem.call (Value.ref _) _) _ _ _); first | (k_here; (with_reducible show wpAny _ _ (PySem.call (Value.ref 127) _) _ _ _); k_dflt ((refine' useB (C := (as_text_sp _ _ _ _ _ _ _ _ _ (by ktr_rel) (by with_reducible assumption) (by ktr_rel) (by first | exact .inl ⟨_, rfl⟩ | exact .inr ⟨_, rfl⟩))) (h := ?_); intro _ _ _ _ _; (try k_sweep); (try dsimp only)))) | (k_here; (with_reducible show wpAny _ _ (PySem.call (Value.ref 476) _) _ _ _); k_dflt ((refine' useNN (C := (law_number_sp _ _ _ _ _ _ _ _ (by ktr_rel))) (h := ?_); intro _ _ _ _ _ _ _ _ _; (try k_sweep); (try dsimp only)))) | (k_here; (with_reducible show wpAny _ _ (PySem.call (Value.ref 134) _) _ _ _); k_dflt ((refine' useNN (C := (as_number_sp _ _ _ _ _ _ _ _ _ (by ktr_rel) (by with_reducible assumption) (by ktr_rel))) (h := ?_); intro _ _ _ _ _ _ _ _ _; (try k_sweep); (try dsimp only)))) | (k_here; (with_reducible show wpAny _ _ (PySem.call (Value.ref 483) _) _ _ _); k_dflt ((refine' useA (C := (law_truth_sp _ _ _ _ _ _ _ _ (by ktr_rel))) (h := ?_); intro _ _ _ _; (try k_sweep); (try dsimp only)))) | (k_here; (with_reducible show wpAny _ _ (PySem.call (Value.ref 141) _) _ _ _); k_dflt ((refine' useA (C := (as_truth_sp _ _ _ _ _ _ _ _ _ (by ktr_rel))) (h := ?_); intro _ _ _ _; (try k_sweep); (try dsimp only)))) | (k_here; (with_reducible show wpAny _ _ (PySem.call (Value.ref 502) _) _ _ _); k_dflt ((refine' useC (C := (law_due_sp _ _ _ _ _ _ _ _ _ _ _ _ (by with_reducible assumption) (by ktr_rel) (by ktr_rel))) (h := ?_); intro _ _ _ _ _; (try k_sweep); (try dsimp only)))) | (k_here; (with_reducible show wpAny _ _ (PySem.call (Value.ref 193) _) _ _ _); k_dflt ((refine' useC (C := (compared_due _ _ _ _ _ _ _ _ _ _ _ _ _ (by ktr_rel) (by with_reducible assumption) (by ktr_rel) (by ktr_rel))) (h := ?_); intro _ _ _ _ _; (try k_sweep); (try dsimp only)))) | ((first | (with_reducible show wpAny _ _ (PySem.call (Value.ref 469) _) _ _ _) | (with_reducible show wpAny _ _ (PySem.call (Value.ref 457) _) _ _ _)); refine Halt.go ?_) | ((with_reducible show wpAny _ _ (PySem.call (Value.ref 443) _) _ _ _); refine Halt.go ?_) | ((with_reducible show wpAny _ _ (PySem.call (Value.ref 509) _) _ _ _); refine Halt.go ?_) | fail) | (k_here; (with_reducible show wpAny _ _ (subscriptTail (PySem.Expr.BinOp ..) _ (Value.ref _) (Value.int 0 _)) _ _ _); k_dflt (refine' firstText (by with_reducible assumption) (by k_asm) (by k_mem) ?_ (by with_unfolding_all rfl); intro _)) | (k_here; (with_reducible show wpAny _ _ (subscriptTail (PySem.Expr.Subscript ..) _ (Value.ref _) (Value.int _ _)) _ _ _); k_dflt (refine' item_tupleT (by exact heldTup (by k_asm) (by k_asm) (by k_asm) (.inl (by k_mem))) (by decide) (by decide) (by rfl) (by rfl) ?_; k_whole)) | (k_here; (with_reducible show wpAny _ _ (binaryOp _ (Value.ref _) (Value.ref _)) _ _ _); (with_reducible refine' addL (by k_dflt (k_asm)) (by k_dflt (k_asm)) (by k_dflt (k_mem)) (by k_dflt (k_mem)) (by k_dflt (first | omega | simp)) (by k_dflt (first | omega | simp)) ?_); intro _ _ _ _ _) | ((with_reducible show wpAny _ _ (compareOp _ (Value.str (kindL _) _) _) _ _ _); refine Halt.go ?_) | (k_here; (with_reducible show wpAny _ _ (compareOp CmpOp.NotEq (Value.ref _) (Value.ref _)) _ _ _); k_dflt (refine neNum (by k_asm) (by k_asm) (by k_asm) ⟨_, _, _, rfl, by ktr_rel⟩ ⟨_, _, _, rfl, by ktr_rel⟩ (by ktr_units) ?_)) | (k_here; (with_reducible show wpAny _ _ (call (Value.type _) [Value.int _ _]) _ _ _); k_dflt (refine' range1_rows (by k_asm) (by k_asm) ?_); intro _ _ _ _ _ _ _ _ _) | (k_here; first | ((with_reducible show wpAny _ _ (eval (Expr.Call (Expr.Name _ _) [Expr.Name _ _] [] _) _) _ _ _); k_dflt (refine' bigCall1 (by k_asm) (by k_asm) (by k_asm) (by k_is) (by k_is) (by rfl) ?_; k_whole)) | ((with_reducible show wpAny _ _ (eval (Expr.Call (Expr.Name _ _) [Expr.Name _ _, Expr.Name _ _] [] _) _) _ _ _); k_dflt (refine' bigCall2 (by k_asm) (by k_asm) (by k_asm) (by k_is) (by k_is) (by rfl) (by rfl) ?_; k_whole)) | ((with_reducible show wpAny _ _ (eval (Expr.Call (Expr.Name _ _) [Expr.Name _ _, Expr.Name _ _, Expr.Name _ _] [] _) _) _ _ _); k_dflt (refine' bigCall3 (by k_asm) (by k_asm) (by k_asm) (by k_is) (by k_is) (by rfl) (by rfl) (by rfl) ?_; k_whole)) | ((with_reducible show wpAny _ _ (eval (Expr.Call (Expr.Name _ _) [Expr.Name _ _, Expr.Name _ _, Expr.Name _ _, Expr.Name _ _] [] _) _) _ _ _); k_dflt (refine' bigCall4 (by k_asm) (by k_asm) (by k_asm) (by k_is) (by k_is) (by rfl) (by rfl) (by rfl) (by rfl) ?_; k_whole))) | (k_here; (with_reducible show wpAny _ _ (callWith _ (Value.builtin _) [_] _ _) _ _ _); (with_reducible refine' callWith_method1 ?_ (by k_dflt (rfl)) (by k_dflt (rfl)))) | (k_here; (with_reducible show wpAny _ _ (subscriptTail (PySem.Expr.Name ..) _ (Value.ref _) (Value.int _ _)) _ _ _); (with_reducible refine' listItem (by k_dflt (k_asm)) (by k_dflt (k_mem)) (by k_dflt (decide)) (by k_dflt (decide)) (by k_dflt (exact rfl)) ?_)) | (k_here; (with_reducible show wpAny _ _ (compareOp CmpOp.NotEq (Value.ref _) (Value.ref _)) _ _ _); k_dflt (refine ke_ne_ints (listIs (by k_asm) (by k_mem)) (listIs (by k_asm) (by k_mem)) (by l_ints) (by l_ints) (by ktr_units) ?_); ke_norm) | (k_here; (with_reducible show wpAny _ _ (subscriptTail (PySem.Expr.Name ..) _ (Value.ref _) (Value.int _ _)) _ _ _); (with_reducible refine' item_tupleT (by k_dflt (exact heldTup (by k_asm) (by k_asm) (by k_asm) (by ktr_rel))) (by k_dflt (decide)) (by k_dflt (decide)) (by k_dflt (rfl)) (by k_dflt (rfl)) ?_); k_dflt (k_whole)) | walk1 | (dsimp only; walk1) | (dsimp only; with_reducible show wpAny _ _ _ _ _ _) | (leave1; (try dsimp only)) | fail "no step"))
        unfold Halt
        (rename IsRange _ _ _ _ _ _ _ _ => rg2)
        (rename News _ _ _ _ => N7)
        refine' rangeLed stI (fun _ nx => TurnInv src rest nx) ?hh rg2 ?sm (rangeSize_nat _ _) ?F ?hL N7 ⟨_, _, _, _, _, rfl, hb'⟩ ?turn ?done
        case hh => exact rfl
        case sm => exact small_one (by decide) (by decide) (by decide) (by decide)
        case F => k_asm
        case hL => exact rfl
        case done =>
          intro u2 nx2 h2 tk2 hJ2 F2 N2
          refine ex5 hJ2 fun a2 b2 s1 s2 n2 zz1 => ?_
          refine an2 zz1 fun ee2 hb2 => ?_
          clear hJ2 zz1
          subst ee2
          (repeat' (first | (k_unfold; (try dsimp only)) | (k_end; wrow_close) | ((with_reducible show wpAny _ _ (PySem.call (Value.ref _) _) _ _ _); first | (k_here; (with_reducible show wpAny _ _ (PySem.call (Value.ref 127) _) _ _ _); k_dflt ((refine' useB (C := (as_text_sp _ _ _ _ _ _ _ _ _ (by ktr_rel) (by with_reducible assumption) (by ktr_rel) (by first | exact .inl ⟨_, rfl⟩ | exact .inr ⟨_, rfl⟩))) (h := ?_); intro _ _ _ _ _; (try k_sweep); (try dsimp only)))) | (k_here; (with_reducible show wpAny _ _ (PySem.call (Value.ref 476) _) _ _ _); k_dflt ((refine' useNN (C := (law_number_sp _ _ _ _ _ _ _ _ (by ktr_rel))) (h := ?_); intro _ _ _ _ _ _ _ _ _; (try k_sweep); (try dsimp only)))) | (k_here; (with_reducible show wpAny _ _ (PySem.call (Value.ref 134) _) _ _ _); k_dflt ((refine' useNN (C := (as_number_sp _ _ _ _ _ _ _ _ _ (by ktr_rel) (by with_reducible assumption) (by ktr_rel))) (h := ?_); intro _ _ _ _ _ _ _ _ _; (try k_sweep); (try dsimp only)))) | (k_here; (with_reducible show wpAny _ _ (PySem.call (Value.ref 483) _) _ _ _); k_dflt ((refine' useA (C := (law_truth_sp _ _ _ _ _ _ _ _ (by ktr_rel))) (h := ?_); intro _ _ _ _; (try k_sweep); (try dsimp only)))) | (k_here; (with_reducible show wpAny _ _ (PySem.call (Value.ref 141) _) _ _ _); k_dflt ((refine' useA (C := (as_truth_sp _ _ _ _ _ _ _ _ _ (by ktr_rel))) (h := ?_); intro _ _ _ _; (try k_sweep); (try dsimp only)))) | (k_here; (with_reducible show wpAny _ _ (PySem.call (Value.ref 502) _) _ _ _); k_dflt ((refine' useC (C := (law_due_sp _ _ _ _ _ _ _ _ _ _ _ _ (by with_reducible assumption) (by ktr_rel) (by ktr_rel))) (h := ?_); intro _ _ _ _ _; (try k_sweep); (try dsimp only)))) | (k_here; (with_reducible show wpAny _ _ (PySem.call (Value.ref 193) _) _ _ _); k_dflt ((refine' useC (C := (compared_due _ _ _ _ _ _ _ _ _ _ _ _ _ (by ktr_rel) (by with_reducible assumption) (by ktr_rel) (by ktr_rel))) (h := ?_); intro _ _ _ _ _; (try k_sweep); (try dsimp only)))) | ((first | (with_reducible show wpAny _ _ (PySem.call (Value.ref 469) _) _ _ _) | (with_reducible show wpAny _ _ (PySem.call (Value.ref 457) _) _ _ _)); refine Halt.go ?_) | ((with_reducible show wpAny _ _ (PySem.call (Value.ref 443) _) _ _ _); refine Halt.go ?_) | ((with_reducible show wpAny _ _ (PySem.call (Value.ref 509) _) _ _ _); refine Halt.go ?_) | fail) | (k_here; (with_reducible show wpAny _ _ (subscriptTail (PySem.Expr.BinOp ..) _ (Value.ref _) (Value.int 0 _)) _ _ _); k_dflt (refine' firstText (by with_reducible assumption) (by k_asm) (by k_mem) ?_ (by with_unfolding_all rfl); intro _)) | (k_here; (with_reducible show wpAny _ _ (subscriptTail (PySem.Expr.Subscript ..) _ (Value.ref _) (Value.int _ _)) _ _ _); k_dflt (refine' item_tupleT (by exact heldTup (by k_asm) (by k_asm) (by k_asm) (.inl (by k_mem))) (by decide) (by decide) (by rfl) (by rfl) ?_; k_whole)) | (k_here; (with_reducible show wpAny _ _ (binaryOp _ (Value.ref _) (Value.ref _)) _ _ _); (with_reducible refine' addL (by k_dflt (k_asm)) (by k_dflt (k_asm)) (by k_dflt (k_mem)) (by k_dflt (k_mem)) (by k_dflt (first | omega | simp)) (by k_dflt (first | omega | simp)) ?_); intro _ _ _ _ _) | ((with_reducible show wpAny _ _ (compareOp _ (Value.str (kindL _) _) _) _ _ _); refine Halt.go ?_) | (k_here; (with_reducible show wpAny _ _ (compareOp CmpOp.NotEq (Value.ref _) (Value.ref _)) _ _ _); k_dflt (refine neNum (by k_asm) (by k_asm) (by k_asm) ⟨_, _, _, rfl, by ktr_rel⟩ ⟨_, _, _, rfl, by ktr_rel⟩ (by ktr_units) ?_)) | (k_here; (with_reducible show wpAny _ _ (call (Value.type _) [Value.int _ _]) _ _ _); k_dflt (refine' range1_rows (by k_asm) (by k_asm) ?_); intro _ _ _ _ _ _ _ _ _) | (k_here; first | ((with_reducible show wpAny _ _ (eval (Expr.Call (Expr.Name _ _) [Expr.Name _ _] [] _) _) _ _ _); k_dflt (refine' bigCall1 (by k_asm) (by k_asm) (by k_asm) (by k_is) (by k_is) (by rfl) ?_; k_whole)) | ((with_reducible show wpAny _ _ (eval (Expr.Call (Expr.Name _ _) [Expr.Name _ _, Expr.Name _ _] [] _) _) _ _ _); k_dflt (refine' bigCall2 (by k_asm) (by k_asm) (by k_asm) (by k_is) (by k_is) (by rfl) (by rfl) ?_; k_whole)) | ((with_reducible show wpAny _ _ (eval (Expr.Call (Expr.Name _ _) [Expr.Name _ _, Expr.Name _ _, Expr.Name _ _] [] _) _) _ _ _); k_dflt (refine' bigCall3 (by k_asm) (by k_asm) (by k_asm) (by k_is) (by k_is) (by rfl) (by rfl) (by rfl) ?_; k_whole)) | ((with_reducible show wpAny _ _ (eval (Expr.Call (Expr.Name _ _) [Expr.Name _ _, Expr.Name _ _, Expr.Name _ _, Expr.Name _ _] [] _) _) _ _ _); k_dflt (refine' bigCall4 (by k_asm) (by k_asm) (by k_asm) (by k_is) (by k_is) (by rfl) (by rfl) (by rfl) (by rfl) ?_; k_whole))) | (k_here; (with_reducible show wpAny _ _ (callWith _ (Value.builtin _) [_] _ _) _ _ _); (with_reducible refine' callWith_method1 ?_ (by k_dflt (rfl)) (by k_dflt (rfl)))) | (k_here; (with_reducible show wpAny _ _ (subscriptTail (PySem.Expr.Name ..) _ (Value.ref _) (Value.int _ _)) _ _ _); (with_reducible refine' listItem (by k_dflt (k_asm)) (by k_dflt (k_mem)) (by k_dflt (decide)) (by k_dflt (decide)) (by k_dflt (exact rfl)) ?_)) | (k_here; (with_reducible show wpAny _ _ (compareOp CmpOp.NotEq (Value.ref _) (Value.ref _)) _ _ _); k_dflt (refine ke_ne_ints (listIs (by k_asm) (by k_mem)) (listIs (by k_asm) (by k_mem)) (by l_ints) (by l_ints) (by ktr_units) ?_); ke_norm) | (k_here; (with_reducible show wpAny _ _ (subscriptTail (PySem.Expr.Name ..) _ (Value.ref _) (Value.int _ _)) _ _ _); (with_reducible refine' item_tupleT (by k_dflt (exact heldTup (by k_asm) (by k_asm) (by k_asm) (by ktr_rel))) (by k_dflt (decide)) (by k_dflt (decide)) (by k_dflt (rfl)) (by k_dflt (rfl)) ?_); k_dflt (k_whole)) | walk1 | (dsimp only; walk1) | (dsimp only; with_reducible show wpAny _ _ _ _ _ _) | (leave1; (try dsimp only)) | fail "no step"))
          unfold Halt
          refine' outEnd F2 N2 ?P (fun p hp => List.mem_cons_of_mem _ (hsub p hp))
          case P => exact keepS (subC (by decide +kernel)) (keepC rfl (keepC rfl (keepC rfl (keepC rfl keepI))))
        case turn =>
          intro j k2 t2' u2 nx2 h2 tk2 own2 hj hk2 hto2 hJ2 F2 N2
          refine ex5 hJ2 fun a2 b2 s1 s2 n2 zz3 => ?_
          refine an2 zz3 fun ee4 hb2 => ?_
          clear hJ2 zz3
          subst ee4
          simp only [List.cons_append] at N2
          have off2 := offBoth hoff' hto2 List.mem_cons_self
          have sub2 : ∀ p ∈ rest, p ∈ rest ++ own2 := fun p hp => List.mem_append_left _ hp
          have hT2 := hT.mono sub2
          have hn2 := hn.mono sub2
          obtain ⟨r0, hr0⟩ : ∃ r0, r0 = rest ++ own2 := ⟨_, rfl⟩
          rw [← hr0] at N2 off2 hT2 hn2
          clear N7 rg2 hn hT hl hoff'
          revert F2
          refine letF ?_
          intro mm F2
          (repeat' (first | (k_unfold; (try dsimp only)) | (k_end; wrow_close) | ((with_reducible show wpAny _ _ (PySem.call (Value.ref _) _) _ _ _); first | (k_here; (with_reducible show wpAny _ _ (PySem.call (Value.ref 127) _) _ _ _); k_dflt ((refine' useB (C := (as_text_sp _ _ _ _ _ _ _ _ _ (by ktr_rel) (by with_reducible assumption) (by ktr_rel) (by first | exact .inl ⟨_, rfl⟩ | exact .inr ⟨_, rfl⟩))) (h := ?_); intro _ _ _ _ _; (try k_sweep); (try dsimp only)))) | (k_here; (with_reducible show wpAny _ _ (PySem.call (Value.ref 476) _) _ _ _); k_dflt ((refine' useNN (C := (law_number_sp _ _ _ _ _ _ _ _ (by ktr_rel))) (h := ?_); intro _ _ _ _ _ _ _ _ _; (try k_sweep); (try dsimp only)))) | (k_here; (with_reducible show wpAny _ _ (PySem.call (Value.ref 134) _) _ _ _); k_dflt ((refine' useNN (C := (as_number_sp _ _ _ _ _ _ _ _ _ (by ktr_rel) (by with_reducible assumption) (by ktr_rel))) (h := ?_); intro _ _ _ _ _ _ _ _ _; (try k_sweep); (try dsimp only)))) | (k_here; (with_reducible show wpAny _ _ (PySem.call (Value.ref 483) _) _ _ _); k_dflt ((refine' useA (C := (law_truth_sp _ _ _ _ _ _ _ _ (by ktr_rel))) (h := ?_); intro _ _ _ _; (try k_sweep); (try dsimp only)))) | (k_here; (with_reducible show wpAny _ _ (PySem.call (Value.ref 141) _) _ _ _); k_dflt ((refine' useA (C := (as_truth_sp _ _ _ _ _ _ _ _ _ (by ktr_rel))) (h := ?_); intro _ _ _ _; (try k_sweep); (try dsimp only)))) | (k_here; (with_reducible show wpAny _ _ (PySem.call (Value.ref 502) _) _ _ _); k_dflt ((refine' useC (C := (law_due_sp _ _ _ _ _ _ _ _ _ _ _ _ (by with_reducible assumption) (by ktr_rel) (by ktr_rel))) (h := ?_); intro _ _ _ _ _; (try k_sweep); (try dsimp only)))) | (k_here; (with_reducible show wpAny _ _ (PySem.call (Value.ref 193) _) _ _ _); k_dflt ((refine' useC (C := (compared_due _ _ _ _ _ _ _ _ _ _ _ _ _ (by ktr_rel) (by with_reducible assumption) (by ktr_rel) (by ktr_rel))) (h := ?_); intro _ _ _ _ _; (try k_sweep); (try dsimp only)))) | ((first | (with_reducible show wpAny _ _ (PySem.call (Value.ref 469) _) _ _ _) | (with_reducible show wpAny _ _ (PySem.call (Value.ref 457) _) _ _ _)); refine Halt.go ?_) | ((with_reducible show wpAny _ _ (PySem.call (Value.ref 443) _) _ _ _); refine Halt.go ?_) | ((with_reducible show wpAny _ _ (PySem.call (Value.ref 509) _) _ _ _); refine Halt.go ?_) | fail) | (k_here; (with_reducible show wpAny _ _ (subscriptTail (PySem.Expr.BinOp ..) _ (Value.ref _) (Value.int 0 _)) _ _ _); k_dflt (refine' firstText (by with_reducible assumption) (by k_asm) (by k_mem) ?_ (by with_unfolding_all rfl); intro _)) | (k_here; (with_reducible show wpAny _ _ (subscriptTail (PySem.Expr.Subscript ..) _ (Value.ref _) (Value.int _ _)) _ _ _); k_dflt (refine' item_tupleT (by exact heldTup (by k_asm) (by k_asm) (by k_asm) (.inl (by k_mem))) (by decide) (by decide) (by rfl) (by rfl) ?_; k_whole)) | (k_here; (with_reducible show wpAny _ _ (binaryOp _ (Value.ref _) (Value.ref _)) _ _ _); (with_reducible refine' addL (by k_dflt (k_asm)) (by k_dflt (k_asm)) (by k_dflt (k_mem)) (by k_dflt (k_mem)) (by k_dflt (first | omega | simp)) (by k_dflt (first | omega | simp)) ?_); intro _ _ _ _ _) | ((with_reducible show wpAny _ _ (compareOp _ (Value.str (kindL _) _) _) _ _ _); refine Halt.go ?_) | (k_here; (with_reducible show wpAny _ _ (compareOp CmpOp.NotEq (Value.ref _) (Value.ref _)) _ _ _); k_dflt (refine neNum (by k_asm) (by k_asm) (by k_asm) ⟨_, _, _, rfl, by ktr_rel⟩ ⟨_, _, _, rfl, by ktr_rel⟩ (by ktr_units) ?_)) | (k_here; (with_reducible show wpAny _ _ (call (Value.type _) [Value.int _ _]) _ _ _); k_dflt (refine' range1_rows (by k_asm) (by k_asm) ?_); intro _ _ _ _ _ _ _ _ _) | (k_here; first | ((with_reducible show wpAny _ _ (eval (Expr.Call (Expr.Name _ _) [Expr.Name _ _] [] _) _) _ _ _); k_dflt (refine' bigCall1 (by k_asm) (by k_asm) (by k_asm) (by k_is) (by k_is) (by rfl) ?_; k_whole)) | ((with_reducible show wpAny _ _ (eval (Expr.Call (Expr.Name _ _) [Expr.Name _ _, Expr.Name _ _] [] _) _) _ _ _); k_dflt (refine' bigCall2 (by k_asm) (by k_asm) (by k_asm) (by k_is) (by k_is) (by rfl) (by rfl) ?_; k_whole)) | ((with_reducible show wpAny _ _ (eval (Expr.Call (Expr.Name _ _) [Expr.Name _ _, Expr.Name _ _, Expr.Name _ _] [] _) _) _ _ _); k_dflt (refine' bigCall3 (by k_asm) (by k_asm) (by k_asm) (by k_is) (by k_is) (by rfl) (by rfl) (by rfl) ?_; k_whole)) | ((with_reducible show wpAny _ _ (eval (Expr.Call (Expr.Name _ _) [Expr.Name _ _, Expr.Name _ _, Expr.Name _ _, Expr.Name _ _] [] _) _) _ _ _); k_dflt (refine' bigCall4 (by k_asm) (by k_asm) (by k_asm) (by k_is) (by k_is) (by rfl) (by rfl) (by rfl) (by rfl) ?_; k_whole))) | (k_here; (with_reducible show wpAny _ _ (callWith _ (Value.builtin _) [_] _ _) _ _ _); (with_reducible refine' callWith_method1 ?_ (by k_dflt (rfl)) (by k_dflt (rfl)))) | (k_here; (with_reducible show wpAny _ _ (subscriptTail (PySem.Expr.Name ..) _ (Value.ref _) (Value.int _ _)) _ _ _); (with_reducible refine' listItem (by k_dflt (k_asm)) (by k_dflt (k_mem)) (by k_dflt (decide)) (by k_dflt (decide)) (by k_dflt (exact rfl)) ?_)) | (k_here; (with_reducible show wpAny _ _ (compareOp CmpOp.NotEq (Value.ref _) (Value.ref _)) _ _ _); k_dflt (refine ke_ne_ints (listIs (by k_asm) (by k_mem)) (listIs (by k_asm) (by k_mem)) (by l_ints) (by l_ints) (by ktr_units) ?_); ke_norm) | (k_here; (with_reducible show wpAny _ _ (subscriptTail (PySem.Expr.Name ..) _ (Value.ref _) (Value.int _ _)) _ _ _); (with_reducible refine' item_tupleT (by k_dflt (exact heldTup (by k_asm) (by k_asm) (by k_asm) (by ktr_rel))) (by k_dflt (decide)) (by k_dflt (decide)) (by k_dflt (rfl)) (by k_dflt (rfl)) ?_); k_dflt (k_whole)) | walk1 | (dsimp only; walk1) | (dsimp only; with_reducible show wpAny _ _ _ _ _ _) | (leave1; (try dsimp only)) | fail "no step"))
          unfold Halt
          (rename Fr _ _ _ _ => F9)
          (rename News _ _ _ _ => N9)
          k_dflt (refine' useVal (F := F9) (N := N9) (C := law_value_open _ _ _ _ _ _ _ _ _ _ _ _ _ _ _ off2 hb2 hT2 hD hn2) (h := ?_))
          intro h9 tk9 a3 b3 u3 w3 n3 r1 lL vl kl X nn1 F9 N9 hb3 off3 sub3 hlL hV hL
          have hT3 := hT2.mono sub3
          have hn3 := hn2.mono sub3
          clear hT2 hn2 off2 hb2
          (repeat' (first | (k_unfold; (try dsimp only)) | (k_end; wrow_close) | ((with_reducible show wpAny _ _ (PySem.call (Value.ref _) _) _ _ _); first | (k_here; (with_reducible show wpAny _ _ (PySem.call (Value.ref 127) _) _ _ _); k_dflt ((refine' useB (C := (as_text_sp _ _ _ _ _ _ _ _ _ (by ktr_rel) (by with_reducible assumption) (by ktr_rel) (by first | exact .inl ⟨_, rfl⟩ | exact .inr ⟨_, rfl⟩))) (h := ?_); intro _ _ _ _ _; (try k_sweep); (try dsimp only)))) | (k_here; (with_reducible show wpAny _ _ (PySem.call (Value.ref 476) _) _ _ _); k_dflt ((refine' useNN (C := (law_number_sp _ _ _ _ _ _ _ _ (by ktr_rel))) (h := ?_); intro _ _ _ _ _ _ _ _ _; (try k_sweep); (try dsimp only)))) | (k_here; (with_reducible show wpAny _ _ (PySem.call (Value.ref 134) _) _ _ _); k_dflt ((refine' useNN (C := (as_number_sp _ _ _ _ _ _ _ _ _ (by ktr_rel) (by with_reducible assumption) (by ktr_rel))) (h := ?_); intro _ _ _ _ _ _ _ _ _; (try k_sweep); (try dsimp only)))) | (k_here; (with_reducible show wpAny _ _ (PySem.call (Value.ref 483) _) _ _ _); k_dflt ((refine' useA (C := (law_truth_sp _ _ _ _ _ _ _ _ (by ktr_rel))) (h := ?_); intro _ _ _ _; (try k_sweep); (try dsimp only)))) | (k_here; (with_reducible show wpAny _ _ (PySem.call (Value.ref 141) _) _ _ _); k_dflt ((refine' useA (C := (as_truth_sp _ _ _ _ _ _ _ _ _ (by ktr_rel))) (h := ?_); intro _ _ _ _; (try k_sweep); (try dsimp only)))) | (k_here; (with_reducible show wpAny _ _ (PySem.call (Value.ref 502) _) _ _ _); k_dflt ((refine' useC (C := (law_due_sp _ _ _ _ _ _ _ _ _ _ _ _ (by with_reducible assumption) (by ktr_rel) (by ktr_rel))) (h := ?_); intro _ _ _ _ _; (try k_sweep); (try dsimp only)))) | (k_here; (with_reducible show wpAny _ _ (PySem.call (Value.ref 193) _) _ _ _); k_dflt ((refine' useC (C := (compared_due _ _ _ _ _ _ _ _ _ _ _ _ _ (by ktr_rel) (by with_reducible assumption) (by ktr_rel) (by ktr_rel))) (h := ?_); intro _ _ _ _ _; (try k_sweep); (try dsimp only)))) | ((first | (with_reducible show wpAny _ _ (PySem.call (Value.ref 469) _) _ _ _) | (with_reducible show wpAny _ _ (PySem.call (Value.ref 457) _) _ _ _)); refine Halt.go ?_) | ((with_reducible show wpAny _ _ (PySem.call (Value.ref 443) _) _ _ _); refine Halt.go ?_) | ((with_reducible show wpAny _ _ (PySem.call (Value.ref 509) _) _ _ _); refine Halt.go ?_) | fail) | (k_here; (with_reducible show wpAny _ _ (subscriptTail (PySem.Expr.BinOp ..) _ (Value.ref _) (Value.int 0 _)) _ _ _); k_dflt (refine' firstText (by with_reducible assumption) (by k_asm) (by k_mem) ?_ (by with_unfolding_all rfl); intro _)) | (k_here; (with_reducible show wpAny _ _ (subscriptTail (PySem.Expr.Subscript ..) _ (Value.ref _) (Value.int _ _)) _ _ _); k_dflt (refine' item_tupleT (by exact heldTup (by k_asm) (by k_asm) (by k_asm) (.inl (by k_mem))) (by decide) (by decide) (by rfl) (by rfl) ?_; k_whole)) | (k_here; (with_reducible show wpAny _ _ (binaryOp _ (Value.ref _) (Value.ref _)) _ _ _); (with_reducible refine' addL (by k_dflt (k_asm)) (by k_dflt (k_asm)) (by k_dflt (k_mem)) (by k_dflt (k_mem)) (by k_dflt (first | omega | simp)) (by k_dflt (first | omega | simp)) ?_); intro _ _ _ _ _) | ((with_reducible show wpAny _ _ (compareOp _ (Value.str (kindL _) _) _) _ _ _); refine Halt.go ?_) | (k_here; (with_reducible show wpAny _ _ (compareOp CmpOp.NotEq (Value.ref _) (Value.ref _)) _ _ _); k_dflt (refine neNum (by k_asm) (by k_asm) (by k_asm) ⟨_, _, _, rfl, by ktr_rel⟩ ⟨_, _, _, rfl, by ktr_rel⟩ (by ktr_units) ?_)) | (k_here; (with_reducible show wpAny _ _ (call (Value.type _) [Value.int _ _]) _ _ _); k_dflt (refine' range1_rows (by k_asm) (by k_asm) ?_); intro _ _ _ _ _ _ _ _ _) | (k_here; first | ((with_reducible show wpAny _ _ (eval (Expr.Call (Expr.Name _ _) [Expr.Name _ _] [] _) _) _ _ _); k_dflt (refine' bigCall1 (by k_asm) (by k_asm) (by k_asm) (by k_is) (by k_is) (by rfl) ?_; k_whole)) | ((with_reducible show wpAny _ _ (eval (Expr.Call (Expr.Name _ _) [Expr.Name _ _, Expr.Name _ _] [] _) _) _ _ _); k_dflt (refine' bigCall2 (by k_asm) (by k_asm) (by k_asm) (by k_is) (by k_is) (by rfl) (by rfl) ?_; k_whole)) | ((with_reducible show wpAny _ _ (eval (Expr.Call (Expr.Name _ _) [Expr.Name _ _, Expr.Name _ _, Expr.Name _ _] [] _) _) _ _ _); k_dflt (refine' bigCall3 (by k_asm) (by k_asm) (by k_asm) (by k_is) (by k_is) (by rfl) (by rfl) (by rfl) ?_; k_whole)) | ((with_reducible show wpAny _ _ (eval (Expr.Call (Expr.Name _ _) [Expr.Name _ _, Expr.Name _ _, Expr.Name _ _, Expr.Name _ _] [] _) _) _ _ _); k_dflt (refine' bigCall4 (by k_asm) (by k_asm) (by k_asm) (by k_is) (by k_is) (by rfl) (by rfl) (by rfl) (by rfl) ?_; k_whole))) | (k_here; (with_reducible show wpAny _ _ (callWith _ (Value.builtin _) [_] _ _) _ _ _); (with_reducible refine' callWith_method1 ?_ (by k_dflt (rfl)) (by k_dflt (rfl)))) | (k_here; (with_reducible show wpAny _ _ (subscriptTail (PySem.Expr.Name ..) _ (Value.ref _) (Value.int _ _)) _ _ _); (with_reducible refine' listItem (by k_dflt (k_asm)) (by k_dflt (k_mem)) (by k_dflt (decide)) (by k_dflt (decide)) (by k_dflt (exact rfl)) ?_)) | (k_here; (with_reducible show wpAny _ _ (compareOp CmpOp.NotEq (Value.ref _) (Value.ref _)) _ _ _); k_dflt (refine ke_ne_ints (listIs (by k_asm) (by k_mem)) (listIs (by k_asm) (by k_mem)) (by l_ints) (by l_ints) (by ktr_units) ?_); ke_norm) | (k_here; (with_reducible show wpAny _ _ (subscriptTail (PySem.Expr.Name ..) _ (Value.ref _) (Value.int _ _)) _ _ _); (with_reducible refine' item_tupleT (by k_dflt (exact heldTup (by k_asm) (by k_asm) (by k_asm) (by ktr_rel))) (by k_dflt (decide)) (by k_dflt (decide)) (by k_dflt (rfl)) (by k_dflt (rfl)) ?_); k_dflt (k_whole)) | walk1 | (dsimp only; walk1) | (dsimp only; with_reducible show wpAny _ _ _ _ _ _) | (leave1; (try dsimp only)) | fail "no step"))
          unfold Halt
          (rename Fr _ _ _ _ => F9)
          (rename News _ _ _ _ => N9)
          k_dflt (refine' useVal (F := F9) (N := N9) (C := law_value_open _ _ _ _ _ _ _ _ _ _ _ _ _ _ _ off3 hb3 hT3 hD hn3) (h := ?_))
          intro h9 tk9 a4 b4 u4 w4 n4 r2 lR vr kr Y nn2 F9 N9 hb4 off4 sub4 hlR hW hR
          have hT4 := hT3.mono sub4
          have hV4 := hV.mono sub4
          have hL4 := hL.mono sub4
          have hlL4 := sub4 _ hlL
          have sub5 : ∀ p ∈ rest ++ own2, p ∈ r2 := fun p hp => sub4 p (sub3 p (hr0 ▸ hp))
          clear hT3 hn3 off3 hb3 hV hL hlL sub3 sub4
          refine ex3 hL4 fun rL tL uL zz5 => ?_
          refine an4 zz5 fun ee6 hmL hxL hoL => ?_
          clear zz5
          subst ee6
          refine ex3 hR fun rR tR uR zz7 => ?_
          refine an4 zz7 fun ee8 hmR hxR hoR => ?_
          clear zz7
          subst ee8
          (repeat' (first | (k_unfold; (try dsimp only)) | (k_end; wrow_close) | ((with_reducible show wpAny _ _ (PySem.call (Value.ref _) _) _ _ _); first | (k_here; (with_reducible show wpAny _ _ (PySem.call (Value.ref 127) _) _ _ _); k_dflt ((refine' useB (C := (as_text_sp _ _ _ _ _ _ _ _ _ (by ktr_rel) (by with_reducible assumption) (by ktr_rel) (by first | exact .inl ⟨_, rfl⟩ | exact .inr ⟨_, rfl⟩))) (h := ?_); intro _ _ _ _ _; (try k_sweep); (try dsimp only)))) | (k_here; (with_reducible show wpAny _ _ (PySem.call (Value.ref 476) _) _ _ _); k_dflt ((refine' useNN (C := (law_number_sp _ _ _ _ _ _ _ _ (by ktr_rel))) (h := ?_); intro _ _ _ _ _ _ _ _ _; (try k_sweep); (try dsimp only)))) | (k_here; (with_reducible show wpAny _ _ (PySem.call (Value.ref 134) _) _ _ _); k_dflt ((refine' useNN (C := (as_number_sp _ _ _ _ _ _ _ _ _ (by ktr_rel) (by with_reducible assumption) (by ktr_rel))) (h := ?_); intro _ _ _ _ _ _ _ _ _; (try k_sweep); (try dsimp only)))) | (k_here; (with_reducible show wpAny _ _ (PySem.call (Value.ref 483) _) _ _ _); k_dflt ((refine' useA (C := (law_truth_sp _ _ _ _ _ _ _ _ (by ktr_rel))) (h := ?_); intro _ _ _ _; (try k_sweep); (try dsimp only)))) | (k_here; (with_reducible show wpAny _ _ (PySem.call (Value.ref 141) _) _ _ _); k_dflt ((refine' useA (C := (as_truth_sp _ _ _ _ _ _ _ _ _ (by ktr_rel))) (h := ?_); intro _ _ _ _; (try k_sweep); (try dsimp only)))) | (k_here; (with_reducible show wpAny _ _ (PySem.call (Value.ref 502) _) _ _ _); k_dflt ((refine' useC (C := (law_due_sp _ _ _ _ _ _ _ _ _ _ _ _ (by with_reducible assumption) (by ktr_rel) (by ktr_rel))) (h := ?_); intro _ _ _ _ _; (try k_sweep); (try dsimp only)))) | (k_here; (with_reducible show wpAny _ _ (PySem.call (Value.ref 193) _) _ _ _); k_dflt ((refine' useC (C := (compared_due _ _ _ _ _ _ _ _ _ _ _ _ _ (by ktr_rel) (by with_reducible assumption) (by ktr_rel) (by ktr_rel))) (h := ?_); intro _ _ _ _ _; (try k_sweep); (try dsimp only)))) | ((first | (with_reducible show wpAny _ _ (PySem.call (Value.ref 469) _) _ _ _) | (with_reducible show wpAny _ _ (PySem.call (Value.ref 457) _) _ _ _)); refine Halt.go ?_) | ((with_reducible show wpAny _ _ (PySem.call (Value.ref 443) _) _ _ _); refine Halt.go ?_) | ((with_reducible show wpAny _ _ (PySem.call (Value.ref 509) _) _ _ _); refine Halt.go ?_) | fail) | (k_here; (with_reducible show wpAny _ _ (subscriptTail (PySem.Expr.BinOp ..) _ (Value.ref _) (Value.int 0 _)) _ _ _); k_dflt (refine' firstText (by with_reducible assumption) (by k_asm) (by k_mem) ?_ (by with_unfolding_all rfl); intro _)) | (k_here; (with_reducible show wpAny _ _ (subscriptTail (PySem.Expr.Subscript ..) _ (Value.ref _) (Value.int _ _)) _ _ _); k_dflt (refine' item_tupleT (by exact heldTup (by k_asm) (by k_asm) (by k_asm) (.inl (by k_mem))) (by decide) (by decide) (by rfl) (by rfl) ?_; k_whole)) | (k_here; (with_reducible show wpAny _ _ (binaryOp _ (Value.ref _) (Value.ref _)) _ _ _); (with_reducible refine' addL (by k_dflt (k_asm)) (by k_dflt (k_asm)) (by k_dflt (k_mem)) (by k_dflt (k_mem)) (by k_dflt (first | omega | simp)) (by k_dflt (first | omega | simp)) ?_); intro _ _ _ _ _) | ((with_reducible show wpAny _ _ (compareOp _ (Value.str (kindL _) _) _) _ _ _); refine Halt.go ?_) | (k_here; (with_reducible show wpAny _ _ (compareOp CmpOp.NotEq (Value.ref _) (Value.ref _)) _ _ _); k_dflt (refine neNum (by k_asm) (by k_asm) (by k_asm) ⟨_, _, _, rfl, by ktr_rel⟩ ⟨_, _, _, rfl, by ktr_rel⟩ (by ktr_units) ?_)) | (k_here; (with_reducible show wpAny _ _ (call (Value.type _) [Value.int _ _]) _ _ _); k_dflt (refine' range1_rows (by k_asm) (by k_asm) ?_); intro _ _ _ _ _ _ _ _ _) | (k_here; first | ((with_reducible show wpAny _ _ (eval (Expr.Call (Expr.Name _ _) [Expr.Name _ _] [] _) _) _ _ _); k_dflt (refine' bigCall1 (by k_asm) (by k_asm) (by k_asm) (by k_is) (by k_is) (by rfl) ?_; k_whole)) | ((with_reducible show wpAny _ _ (eval (Expr.Call (Expr.Name _ _) [Expr.Name _ _, Expr.Name _ _] [] _) _) _ _ _); k_dflt (refine' bigCall2 (by k_asm) (by k_asm) (by k_asm) (by k_is) (by k_is) (by rfl) (by rfl) ?_; k_whole)) | ((with_reducible show wpAny _ _ (eval (Expr.Call (Expr.Name _ _) [Expr.Name _ _, Expr.Name _ _, Expr.Name _ _] [] _) _) _ _ _); k_dflt (refine' bigCall3 (by k_asm) (by k_asm) (by k_asm) (by k_is) (by k_is) (by rfl) (by rfl) (by rfl) ?_; k_whole)) | ((with_reducible show wpAny _ _ (eval (Expr.Call (Expr.Name _ _) [Expr.Name _ _, Expr.Name _ _, Expr.Name _ _, Expr.Name _ _] [] _) _) _ _ _); k_dflt (refine' bigCall4 (by k_asm) (by k_asm) (by k_asm) (by k_is) (by k_is) (by rfl) (by rfl) (by rfl) (by rfl) ?_; k_whole))) | (k_here; (with_reducible show wpAny _ _ (callWith _ (Value.builtin _) [_] _ _) _ _ _); (with_reducible refine' callWith_method1 ?_ (by k_dflt (rfl)) (by k_dflt (rfl)))) | (k_here; (with_reducible show wpAny _ _ (subscriptTail (PySem.Expr.Name ..) _ (Value.ref _) (Value.int _ _)) _ _ _); (with_reducible refine' listItem (by k_dflt (k_asm)) (by k_dflt (k_mem)) (by k_dflt (decide)) (by k_dflt (decide)) (by k_dflt (exact rfl)) ?_)) | (k_here; (with_reducible show wpAny _ _ (compareOp CmpOp.NotEq (Value.ref _) (Value.ref _)) _ _ _); k_dflt (refine ke_ne_ints (listIs (by k_asm) (by k_mem)) (listIs (by k_asm) (by k_mem)) (by l_ints) (by l_ints) (by ktr_units) ?_); ke_norm) | (k_here; (with_reducible show wpAny _ _ (subscriptTail (PySem.Expr.Name ..) _ (Value.ref _) (Value.int _ _)) _ _ _); (with_reducible refine' item_tupleT (by k_dflt (exact heldTup (by k_asm) (by k_asm) (by k_asm) (by ktr_rel))) (by k_dflt (decide)) (by k_dflt (decide)) (by k_dflt (rfl)) (by k_dflt (rfl)) ?_); k_dflt (k_whole)) | walk1 | (dsimp only; walk1) | (dsimp only; with_reducible show wpAny _ _ _ _ _ _) | (leave1; (try dsimp only)) | fail "no step"))
          unfold Halt
          (rename Fr _ _ _ _ => F9)
          (rename News _ _ _ _ => N9)
          k_dflt (refine' useO (F := F9) (N := N9) (C := one_upd _ _ _ _ _ _ _ _ _ _ _ _ _ _ _ (by k_updF) hb4 (by k_mem) (by k_ne) (by simp) (by simp)) (h := ?_))
          intro v9 h9 tk9 a5 b5 u5 w5 n5 i9 F9 N9 hb5 g9
          refine ex2 (opIn g9) fun op top zz9 => ?_
          refine an2 zz9 fun ee10 hop => ?_
          clear zz9
          subst ee10
          (try dsimp only at N9)
          replace N9 := lessN N9 (fun p hp => List.mem_cons_of_mem _ (List.mem_cons_of_mem _ hp))
          clear g9 hb4
          (repeat' (first | (k_unfold; (try dsimp only)) | (k_end; wrow_close) | ((with_reducible show wpAny _ _ (PySem.call (Value.ref _) _) _ _ _); first | (k_here; (with_reducible show wpAny _ _ (PySem.call (Value.ref 127) _) _ _ _); k_dflt ((refine' useB (C := (as_text_sp _ _ _ _ _ _ _ _ _ (by ktr_rel) (by with_reducible assumption) (by ktr_rel) (by first | exact .inl ⟨_, rfl⟩ | exact .inr ⟨_, rfl⟩))) (h := ?_); intro _ _ _ _ _; (try k_sweep); (try dsimp only)))) | (k_here; (with_reducible show wpAny _ _ (PySem.call (Value.ref 476) _) _ _ _); k_dflt ((refine' useNN (C := (law_number_sp _ _ _ _ _ _ _ _ (by ktr_rel))) (h := ?_); intro _ _ _ _ _ _ _ _ _; (try k_sweep); (try dsimp only)))) | (k_here; (with_reducible show wpAny _ _ (PySem.call (Value.ref 134) _) _ _ _); k_dflt ((refine' useNN (C := (as_number_sp _ _ _ _ _ _ _ _ _ (by ktr_rel) (by with_reducible assumption) (by ktr_rel))) (h := ?_); intro _ _ _ _ _ _ _ _ _; (try k_sweep); (try dsimp only)))) | (k_here; (with_reducible show wpAny _ _ (PySem.call (Value.ref 483) _) _ _ _); k_dflt ((refine' useA (C := (law_truth_sp _ _ _ _ _ _ _ _ (by ktr_rel))) (h := ?_); intro _ _ _ _; (try k_sweep); (try dsimp only)))) | (k_here; (with_reducible show wpAny _ _ (PySem.call (Value.ref 141) _) _ _ _); k_dflt ((refine' useA (C := (as_truth_sp _ _ _ _ _ _ _ _ _ (by ktr_rel))) (h := ?_); intro _ _ _ _; (try k_sweep); (try dsimp only)))) | (k_here; (with_reducible show wpAny _ _ (PySem.call (Value.ref 502) _) _ _ _); k_dflt ((refine' useC (C := (law_due_sp _ _ _ _ _ _ _ _ _ _ _ _ (by with_reducible assumption) (by ktr_rel) (by ktr_rel))) (h := ?_); intro _ _ _ _ _; (try k_sweep); (try dsimp only)))) | (k_here; (with_reducible show wpAny _ _ (PySem.call (Value.ref 193) _) _ _ _); k_dflt ((refine' useC (C := (compared_due _ _ _ _ _ _ _ _ _ _ _ _ _ (by ktr_rel) (by with_reducible assumption) (by ktr_rel) (by ktr_rel))) (h := ?_); intro _ _ _ _ _; (try k_sweep); (try dsimp only)))) | ((first | (with_reducible show wpAny _ _ (PySem.call (Value.ref 469) _) _ _ _) | (with_reducible show wpAny _ _ (PySem.call (Value.ref 457) _) _ _ _)); refine Halt.go ?_) | ((with_reducible show wpAny _ _ (PySem.call (Value.ref 443) _) _ _ _); refine Halt.go ?_) | ((with_reducible show wpAny _ _ (PySem.call (Value.ref 509) _) _ _ _); refine Halt.go ?_) | fail) | (k_here; (with_reducible show wpAny _ _ (subscriptTail (PySem.Expr.BinOp ..) _ (Value.ref _) (Value.int 0 _)) _ _ _); k_dflt (refine' firstText (by with_reducible assumption) (by k_asm) (by k_mem) ?_ (by with_unfolding_all rfl); intro _)) | (k_here; (with_reducible show wpAny _ _ (subscriptTail (PySem.Expr.Subscript ..) _ (Value.ref _) (Value.int _ _)) _ _ _); k_dflt (refine' item_tupleT (by exact heldTup (by k_asm) (by k_asm) (by k_asm) (.inl (by k_mem))) (by decide) (by decide) (by rfl) (by rfl) ?_; k_whole)) | (k_here; (with_reducible show wpAny _ _ (binaryOp _ (Value.ref _) (Value.ref _)) _ _ _); (with_reducible refine' addL (by k_dflt (k_asm)) (by k_dflt (k_asm)) (by k_dflt (k_mem)) (by k_dflt (k_mem)) (by k_dflt (first | omega | simp)) (by k_dflt (first | omega | simp)) ?_); intro _ _ _ _ _) | ((with_reducible show wpAny _ _ (compareOp _ (Value.str (kindL _) _) _) _ _ _); refine Halt.go ?_) | (k_here; (with_reducible show wpAny _ _ (compareOp CmpOp.NotEq (Value.ref _) (Value.ref _)) _ _ _); k_dflt (refine neNum (by k_asm) (by k_asm) (by k_asm) ⟨_, _, _, rfl, by ktr_rel⟩ ⟨_, _, _, rfl, by ktr_rel⟩ (by ktr_units) ?_)) | (k_here; (with_reducible show wpAny _ _ (call (Value.type _) [Value.int _ _]) _ _ _); k_dflt (refine' range1_rows (by k_asm) (by k_asm) ?_); intro _ _ _ _ _ _ _ _ _) | (k_here; first | ((with_reducible show wpAny _ _ (eval (Expr.Call (Expr.Name _ _) [Expr.Name _ _] [] _) _) _ _ _); k_dflt (refine' bigCall1 (by k_asm) (by k_asm) (by k_asm) (by k_is) (by k_is) (by rfl) ?_; k_whole)) | ((with_reducible show wpAny _ _ (eval (Expr.Call (Expr.Name _ _) [Expr.Name _ _, Expr.Name _ _] [] _) _) _ _ _); k_dflt (refine' bigCall2 (by k_asm) (by k_asm) (by k_asm) (by k_is) (by k_is) (by rfl) (by rfl) ?_; k_whole)) | ((with_reducible show wpAny _ _ (eval (Expr.Call (Expr.Name _ _) [Expr.Name _ _, Expr.Name _ _, Expr.Name _ _] [] _) _) _ _ _); k_dflt (refine' bigCall3 (by k_asm) (by k_asm) (by k_asm) (by k_is) (by k_is) (by rfl) (by rfl) (by rfl) ?_; k_whole)) | ((with_reducible show wpAny _ _ (eval (Expr.Call (Expr.Name _ _) [Expr.Name _ _, Expr.Name _ _, Expr.Name _ _, Expr.Name _ _] [] _) _) _ _ _); k_dflt (refine' bigCall4 (by k_asm) (by k_asm) (by k_asm) (by k_is) (by k_is) (by rfl) (by rfl) (by rfl) (by rfl) ?_; k_whole))) | (k_here; (with_reducible show wpAny _ _ (callWith _ (Value.builtin _) [_] _ _) _ _ _); (with_reducible refine' callWith_method1 ?_ (by k_dflt (rfl)) (by k_dflt (rfl)))) | (k_here; (with_reducible show wpAny _ _ (subscriptTail (PySem.Expr.Name ..) _ (Value.ref _) (Value.int _ _)) _ _ _); (with_reducible refine' listItem (by k_dflt (k_asm)) (by k_dflt (k_mem)) (by k_dflt (decide)) (by k_dflt (decide)) (by k_dflt (exact rfl)) ?_)) | (k_here; (with_reducible show wpAny _ _ (compareOp CmpOp.NotEq (Value.ref _) (Value.ref _)) _ _ _); k_dflt (refine ke_ne_ints (listIs (by k_asm) (by k_mem)) (listIs (by k_asm) (by k_mem)) (by l_ints) (by l_ints) (by ktr_units) ?_); ke_norm) | (k_here; (with_reducible show wpAny _ _ (subscriptTail (PySem.Expr.Name ..) _ (Value.ref _) (Value.int _ _)) _ _ _); (with_reducible refine' item_tupleT (by k_dflt (exact heldTup (by k_asm) (by k_asm) (by k_asm) (by ktr_rel))) (by k_dflt (decide)) (by k_dflt (decide)) (by k_dflt (rfl)) (by k_dflt (rfl)) ?_); k_dflt (k_whole)) | walk1 | (dsimp only; walk1) | (dsimp only; with_reducible show wpAny _ _ _ _ _ _) | (leave1; (try dsimp only)) | fail "no step"))
          unfold Halt
          cases X with
          | set ys =>
            refine ex3 hxL fun lT nT vT zz11 => ?_
            refine an4 zz11 fun ee12 hmT hrT hlT => ?_
            clear hxL zz11
            subst ee12
            dsimp only [kindL] at hmL
            dsimp only [kindL]
            (repeat' (first | (k_unfold; (try dsimp only)) | (k_end; wrow_close) | ((with_reducible show wpAny _ _ (PySem.call (Value.ref _) _) _ _ _); first | (k_here; (with_reducible show wpAny _ _ (PySem.call (Value.ref 127) _) _ _ _); k_dflt ((refine' useB (C := (as_text_sp _ _ _ _ _ _ _ _ _ (by ktr_rel) (by with_reducible assumption) (by ktr_rel) (by first | exact .inl ⟨_, rfl⟩ | exact .inr ⟨_, rfl⟩))) (h := ?_); intro _ _ _ _ _; (try k_sweep); (try dsimp only)))) | (k_here; (with_reducible show wpAny _ _ (PySem.call (Value.ref 476) _) _ _ _); k_dflt ((refine' useNN (C := (law_number_sp _ _ _ _ _ _ _ _ (by ktr_rel))) (h := ?_); intro _ _ _ _ _ _ _ _ _; (try k_sweep); (try dsimp only)))) | (k_here; (with_reducible show wpAny _ _ (PySem.call (Value.ref 134) _) _ _ _); k_dflt ((refine' useNN (C := (as_number_sp _ _ _ _ _ _ _ _ _ (by ktr_rel) (by with_reducible assumption) (by ktr_rel))) (h := ?_); intro _ _ _ _ _ _ _ _ _; (try k_sweep); (try dsimp only)))) | (k_here; (with_reducible show wpAny _ _ (PySem.call (Value.ref 483) _) _ _ _); k_dflt ((refine' useA (C := (law_truth_sp _ _ _ _ _ _ _ _ (by ktr_rel))) (h := ?_); intro _ _ _ _; (try k_sweep); (try dsimp only)))) | (k_here; (with_reducible show wpAny _ _ (PySem.call (Value.ref 141) _) _ _ _); k_dflt ((refine' useA (C := (as_truth_sp _ _ _ _ _ _ _ _ _ (by ktr_rel))) (h := ?_); intro _ _ _ _; (try k_sweep); (try dsimp only)))) | (k_here; (with_reducible show wpAny _ _ (PySem.call (Value.ref 502) _) _ _ _); k_dflt ((refine' useC (C := (law_due_sp _ _ _ _ _ _ _ _ _ _ _ _ (by with_reducible assumption) (by ktr_rel) (by ktr_rel))) (h := ?_); intro _ _ _ _ _; (try k_sweep); (try dsimp only)))) | (k_here; (with_reducible show wpAny _ _ (PySem.call (Value.ref 193) _) _ _ _); k_dflt ((refine' useC (C := (compared_due _ _ _ _ _ _ _ _ _ _ _ _ _ (by ktr_rel) (by with_reducible assumption) (by ktr_rel) (by ktr_rel))) (h := ?_); intro _ _ _ _ _; (try k_sweep); (try dsimp only)))) | ((first | (with_reducible show wpAny _ _ (PySem.call (Value.ref 469) _) _ _ _) | (with_reducible show wpAny _ _ (PySem.call (Value.ref 457) _) _ _ _)); refine Halt.go ?_) | ((with_reducible show wpAny _ _ (PySem.call (Value.ref 443) _) _ _ _); refine Halt.go ?_) | ((with_reducible show wpAny _ _ (PySem.call (Value.ref 509) _) _ _ _); refine Halt.go ?_) | fail) | (k_here; (with_reducible show wpAny _ _ (subscriptTail (PySem.Expr.BinOp ..) _ (Value.ref _) (Value.int 0 _)) _ _ _); k_dflt (refine' firstText (by with_reducible assumption) (by k_asm) (by k_mem) ?_ (by with_unfolding_all rfl); intro _)) | (k_here; (with_reducible show wpAny _ _ (subscriptTail (PySem.Expr.Subscript ..) _ (Value.ref _) (Value.int _ _)) _ _ _); k_dflt (refine' item_tupleT (by exact heldTup (by k_asm) (by k_asm) (by k_asm) (.inl (by k_mem))) (by decide) (by decide) (by rfl) (by rfl) ?_; k_whole)) | (k_here; (with_reducible show wpAny _ _ (binaryOp _ (Value.ref _) (Value.ref _)) _ _ _); (with_reducible refine' addL (by k_dflt (k_asm)) (by k_dflt (k_asm)) (by k_dflt (k_mem)) (by k_dflt (k_mem)) (by k_dflt (first | omega | simp)) (by k_dflt (first | omega | simp)) ?_); intro _ _ _ _ _) | ((with_reducible show wpAny _ _ (compareOp _ (Value.str (kindL _) _) _) _ _ _); refine Halt.go ?_) | (k_here; (with_reducible show wpAny _ _ (compareOp CmpOp.NotEq (Value.ref _) (Value.ref _)) _ _ _); k_dflt (refine neNum (by k_asm) (by k_asm) (by k_asm) ⟨_, _, _, rfl, by ktr_rel⟩ ⟨_, _, _, rfl, by ktr_rel⟩ (by ktr_units) ?_)) | (k_here; (with_reducible show wpAny _ _ (call (Value.type _) [Value.int _ _]) _ _ _); k_dflt (refine' range1_rows (by k_asm) (by k_asm) ?_); intro _ _ _ _ _ _ _ _ _) | (k_here; first | ((with_reducible show wpAny _ _ (eval (Expr.Call (Expr.Name _ _) [Expr.Name _ _] [] _) _) _ _ _); k_dflt (refine' bigCall1 (by k_asm) (by k_asm) (by k_asm) (by k_is) (by k_is) (by rfl) ?_; k_whole)) | ((with_reducible show wpAny _ _ (eval (Expr.Call (Expr.Name _ _) [Expr.Name _ _, Expr.Name _ _] [] _) _) _ _ _); k_dflt (refine' bigCall2 (by k_asm) (by k_asm) (by k_asm) (by k_is) (by k_is) (by rfl) (by rfl) ?_; k_whole)) | ((with_reducible show wpAny _ _ (eval (Expr.Call (Expr.Name _ _) [Expr.Name _ _, Expr.Name _ _, Expr.Name _ _] [] _) _) _ _ _); k_dflt (refine' bigCall3 (by k_asm) (by k_asm) (by k_asm) (by k_is) (by k_is) (by rfl) (by rfl) (by rfl) ?_; k_whole)) | ((with_reducible show wpAny _ _ (eval (Expr.Call (Expr.Name _ _) [Expr.Name _ _, Expr.Name _ _, Expr.Name _ _, Expr.Name _ _] [] _) _) _ _ _); k_dflt (refine' bigCall4 (by k_asm) (by k_asm) (by k_asm) (by k_is) (by k_is) (by rfl) (by rfl) (by rfl) (by rfl) ?_; k_whole))) | (k_here; (with_reducible show wpAny _ _ (callWith _ (Value.builtin _) [_] _ _) _ _ _); (with_reducible refine' callWith_method1 ?_ (by k_dflt (rfl)) (by k_dflt (rfl)))) | (k_here; (with_reducible show wpAny _ _ (subscriptTail (PySem.Expr.Name ..) _ (Value.ref _) (Value.int _ _)) _ _ _); (with_reducible refine' listItem (by k_dflt (k_asm)) (by k_dflt (k_mem)) (by k_dflt (decide)) (by k_dflt (decide)) (by k_dflt (exact rfl)) ?_)) | (k_here; (with_reducible show wpAny _ _ (compareOp CmpOp.NotEq (Value.ref _) (Value.ref _)) _ _ _); k_dflt (refine ke_ne_ints (listIs (by k_asm) (by k_mem)) (listIs (by k_asm) (by k_mem)) (by l_ints) (by l_ints) (by ktr_units) ?_); ke_norm) | (k_here; (with_reducible show wpAny _ _ (subscriptTail (PySem.Expr.Name ..) _ (Value.ref _) (Value.int _ _)) _ _ _); (with_reducible refine' item_tupleT (by k_dflt (exact heldTup (by k_asm) (by k_asm) (by k_asm) (by ktr_rel))) (by k_dflt (decide)) (by k_dflt (decide)) (by k_dflt (rfl)) (by k_dflt (rfl)) ?_); k_dflt (k_whole)) | walk1 | (dsimp only; walk1) | (dsimp only; with_reducible show wpAny _ _ _ _ _ _) | (leave1; (try dsimp only)) | fail "no step"))
            unfold Halt
            (rename Fr _ _ _ _ => FE)
            (rename News _ _ _ _ => NE)
            refine turnEnd hto2 FE NE ?_ (by k_mem) hb5 (fun p hp => by have hp5 := sub5 p hp; k_mem)
            repeat (first | exact keepI | refine keepC (by decide +kernel) ?_)
          | num c =>
            dsimp only [kindL] at hmL
            dsimp only [kindL]
            (repeat' (first | (k_unfold; (try dsimp only)) | (k_end; wrow_close) | ((with_reducible show wpAny _ _ (PySem.call (Value.ref _) _) _ _ _); first | (k_here; (with_reducible show wpAny _ _ (PySem.call (Value.ref 127) _) _ _ _); k_dflt ((refine' useB (C := (as_text_sp _ _ _ _ _ _ _ _ _ (by ktr_rel) (by with_reducible assumption) (by ktr_rel) (by first | exact .inl ⟨_, rfl⟩ | exact .inr ⟨_, rfl⟩))) (h := ?_); intro _ _ _ _ _; (try k_sweep); (try dsimp only)))) | (k_here; (with_reducible show wpAny _ _ (PySem.call (Value.ref 476) _) _ _ _); k_dflt ((refine' useNN (C := (law_number_sp _ _ _ _ _ _ _ _ (by ktr_rel))) (h := ?_); intro _ _ _ _ _ _ _ _ _; (try k_sweep); (try dsimp only)))) | (k_here; (with_reducible show wpAny _ _ (PySem.call (Value.ref 134) _) _ _ _); k_dflt ((refine' useNN (C := (as_number_sp _ _ _ _ _ _ _ _ _ (by ktr_rel) (by with_reducible assumption) (by ktr_rel))) (h := ?_); intro _ _ _ _ _ _ _ _ _; (try k_sweep); (try dsimp only)))) | (k_here; (with_reducible show wpAny _ _ (PySem.call (Value.ref 483) _) _ _ _); k_dflt ((refine' useA (C := (law_truth_sp _ _ _ _ _ _ _ _ (by ktr_rel))) (h := ?_); intro _ _ _ _; (try k_sweep); (try dsimp only)))) | (k_here; (with_reducible show wpAny _ _ (PySem.call (Value.ref 141) _) _ _ _); k_dflt ((refine' useA (C := (as_truth_sp _ _ _ _ _ _ _ _ _ (by ktr_rel))) (h := ?_); intro _ _ _ _; (try k_sweep); (try dsimp only)))) | (k_here; (with_reducible show wpAny _ _ (PySem.call (Value.ref 502) _) _ _ _); k_dflt ((refine' useC (C := (law_due_sp _ _ _ _ _ _ _ _ _ _ _ _ (by with_reducible assumption) (by ktr_rel) (by ktr_rel))) (h := ?_); intro _ _ _ _ _; (try k_sweep); (try dsimp only)))) | (k_here; (with_reducible show wpAny _ _ (PySem.call (Value.ref 193) _) _ _ _); k_dflt ((refine' useC (C := (compared_due _ _ _ _ _ _ _ _ _ _ _ _ _ (by ktr_rel) (by with_reducible assumption) (by ktr_rel) (by ktr_rel))) (h := ?_); intro _ _ _ _ _; (try k_sweep); (try dsimp only)))) | ((first | (with_reducible show wpAny _ _ (PySem.call (Value.ref 469) _) _ _ _) | (with_reducible show wpAny _ _ (PySem.call (Value.ref 457) _) _ _ _)); refine Halt.go ?_) | ((with_reducible show wpAny _ _ (PySem.call (Value.ref 443) _) _ _ _); refine Halt.go ?_) | ((with_reducible show wpAny _ _ (PySem.call (Value.ref 509) _) _ _ _); refine Halt.go ?_) | fail) | (k_here; (with_reducible show wpAny _ _ (subscriptTail (PySem.Expr.BinOp ..) _ (Value.ref _) (Value.int 0 _)) _ _ _); k_dflt (refine' firstText (by with_reducible assumption) (by k_asm) (by k_mem) ?_ (by with_unfolding_all rfl); intro _)) | (k_here; (with_reducible show wpAny _ _ (subscriptTail (PySem.Expr.Subscript ..) _ (Value.ref _) (Value.int _ _)) _ _ _); k_dflt (refine' item_tupleT (by exact heldTup (by k_asm) (by k_asm) (by k_asm) (.inl (by k_mem))) (by decide) (by decide) (by rfl) (by rfl) ?_; k_whole)) | (k_here; (with_reducible show wpAny _ _ (binaryOp _ (Value.ref _) (Value.ref _)) _ _ _); (with_reducible refine' addL (by k_dflt (k_asm)) (by k_dflt (k_asm)) (by k_dflt (k_mem)) (by k_dflt (k_mem)) (by k_dflt (first | omega | simp)) (by k_dflt (first | omega | simp)) ?_); intro _ _ _ _ _) | ((with_reducible show wpAny _ _ (compareOp _ (Value.str (kindL _) _) _) _ _ _); refine Halt.go ?_) | (k_here; (with_reducible show wpAny _ _ (compareOp CmpOp.NotEq (Value.ref _) (Value.ref _)) _ _ _); k_dflt (refine neNum (by k_asm) (by k_asm) (by k_asm) ⟨_, _, _, rfl, by ktr_rel⟩ ⟨_, _, _, rfl, by ktr_rel⟩ (by ktr_units) ?_)) | (k_here; (with_reducible show wpAny _ _ (call (Value.type _) [Value.int _ _]) _ _ _); k_dflt (refine' range1_rows (by k_asm) (by k_asm) ?_); intro _ _ _ _ _ _ _ _ _) | (k_here; first | ((with_reducible show wpAny _ _ (eval (Expr.Call (Expr.Name _ _) [Expr.Name _ _] [] _) _) _ _ _); k_dflt (refine' bigCall1 (by k_asm) (by k_asm) (by k_asm) (by k_is) (by k_is) (by rfl) ?_; k_whole)) | ((with_reducible show wpAny _ _ (eval (Expr.Call (Expr.Name _ _) [Expr.Name _ _, Expr.Name _ _] [] _) _) _ _ _); k_dflt (refine' bigCall2 (by k_asm) (by k_asm) (by k_asm) (by k_is) (by k_is) (by rfl) (by rfl) ?_; k_whole)) | ((with_reducible show wpAny _ _ (eval (Expr.Call (Expr.Name _ _) [Expr.Name _ _, Expr.Name _ _, Expr.Name _ _] [] _) _) _ _ _); k_dflt (refine' bigCall3 (by k_asm) (by k_asm) (by k_asm) (by k_is) (by k_is) (by rfl) (by rfl) (by rfl) ?_; k_whole)) | ((with_reducible show wpAny _ _ (eval (Expr.Call (Expr.Name _ _) [Expr.Name _ _, Expr.Name _ _, Expr.Name _ _, Expr.Name _ _] [] _) _) _ _ _); k_dflt (refine' bigCall4 (by k_asm) (by k_asm) (by k_asm) (by k_is) (by k_is) (by rfl) (by rfl) (by rfl) (by rfl) ?_; k_whole))) | (k_here; (with_reducible show wpAny _ _ (callWith _ (Value.builtin _) [_] _ _) _ _ _); (with_reducible refine' callWith_method1 ?_ (by k_dflt (rfl)) (by k_dflt (rfl)))) | (k_here; (with_reducible show wpAny _ _ (subscriptTail (PySem.Expr.Name ..) _ (Value.ref _) (Value.int _ _)) _ _ _); (with_reducible refine' listItem (by k_dflt (k_asm)) (by k_dflt (k_mem)) (by k_dflt (decide)) (by k_dflt (decide)) (by k_dflt (exact rfl)) ?_)) | (k_here; (with_reducible show wpAny _ _ (compareOp CmpOp.NotEq (Value.ref _) (Value.ref _)) _ _ _); k_dflt (refine ke_ne_ints (listIs (by k_asm) (by k_mem)) (listIs (by k_asm) (by k_mem)) (by l_ints) (by l_ints) (by ktr_units) ?_); ke_norm) | (k_here; (with_reducible show wpAny _ _ (subscriptTail (PySem.Expr.Name ..) _ (Value.ref _) (Value.int _ _)) _ _ _); (with_reducible refine' item_tupleT (by k_dflt (exact heldTup (by k_asm) (by k_asm) (by k_asm) (by ktr_rel))) (by k_dflt (decide)) (by k_dflt (decide)) (by k_dflt (rfl)) (by k_dflt (rfl)) ?_); k_dflt (k_whole)) | walk1 | (dsimp only; walk1) | (dsimp only; with_reducible show wpAny _ _ _ _ _ _) | (leave1; (try dsimp only)) | fail "no step"))
            unfold Halt
            (rename Fr _ _ _ _ => FE)
            (rename News _ _ _ _ => NE)
            refine turnEnd hto2 FE NE ?_ (by k_mem) hb5 (fun p hp => by have hp5 := sub5 p hp; k_mem)
            repeat (first | exact keepI | refine keepC (by decide +kernel) ?_)
          | txt x =>
            refine Exists.elim hxL fun tX ee14 => ?_
            clear hxL
            subst ee14
            dsimp only [kindL] at hmL
            dsimp only [kindL]
            (repeat' (first | (k_unfold; (try dsimp only)) | (k_end; wrow_close) | ((with_reducible show wpAny _ _ (PySem.call (Value.ref _) _) _ _ _); first | (k_here; (with_reducible show wpAny _ _ (PySem.call (Value.ref 127) _) _ _ _); k_dflt ((refine' useB (C := (as_text_sp _ _ _ _ _ _ _ _ _ (by ktr_rel) (by with_reducible assumption) (by ktr_rel) (by first | exact .inl ⟨_, rfl⟩ | exact .inr ⟨_, rfl⟩))) (h := ?_); intro _ _ _ _ _; (try k_sweep); (try dsimp only)))) | (k_here; (with_reducible show wpAny _ _ (PySem.call (Value.ref 476) _) _ _ _); k_dflt ((refine' useNN (C := (law_number_sp _ _ _ _ _ _ _ _ (by ktr_rel))) (h := ?_); intro _ _ _ _ _ _ _ _ _; (try k_sweep); (try dsimp only)))) | (k_here; (with_reducible show wpAny _ _ (PySem.call (Value.ref 134) _) _ _ _); k_dflt ((refine' useNN (C := (as_number_sp _ _ _ _ _ _ _ _ _ (by ktr_rel) (by with_reducible assumption) (by ktr_rel))) (h := ?_); intro _ _ _ _ _ _ _ _ _; (try k_sweep); (try dsimp only)))) | (k_here; (with_reducible show wpAny _ _ (PySem.call (Value.ref 483) _) _ _ _); k_dflt ((refine' useA (C := (law_truth_sp _ _ _ _ _ _ _ _ (by ktr_rel))) (h := ?_); intro _ _ _ _; (try k_sweep); (try dsimp only)))) | (k_here; (with_reducible show wpAny _ _ (PySem.call (Value.ref 141) _) _ _ _); k_dflt ((refine' useA (C := (as_truth_sp _ _ _ _ _ _ _ _ _ (by ktr_rel))) (h := ?_); intro _ _ _ _; (try k_sweep); (try dsimp only)))) | (k_here; (with_reducible show wpAny _ _ (PySem.call (Value.ref 502) _) _ _ _); k_dflt ((refine' useC (C := (law_due_sp _ _ _ _ _ _ _ _ _ _ _ _ (by with_reducible assumption) (by ktr_rel) (by ktr_rel))) (h := ?_); intro _ _ _ _ _; (try k_sweep); (try dsimp only)))) | (k_here; (with_reducible show wpAny _ _ (PySem.call (Value.ref 193) _) _ _ _); k_dflt ((refine' useC (C := (compared_due _ _ _ _ _ _ _ _ _ _ _ _ _ (by ktr_rel) (by with_reducible assumption) (by ktr_rel) (by ktr_rel))) (h := ?_); intro _ _ _ _ _; (try k_sweep); (try dsimp only)))) | ((first | (with_reducible show wpAny _ _ (PySem.call (Value.ref 469) _) _ _ _) | (with_reducible show wpAny _ _ (PySem.call (Value.ref 457) _) _ _ _)); refine Halt.go ?_) | ((with_reducible show wpAny _ _ (PySem.call (Value.ref 443) _) _ _ _); refine Halt.go ?_) | ((with_reducible show wpAny _ _ (PySem.call (Value.ref 509) _) _ _ _); refine Halt.go ?_) | fail) | (k_here; (with_reducible show wpAny _ _ (subscriptTail (PySem.Expr.BinOp ..) _ (Value.ref _) (Value.int 0 _)) _ _ _); k_dflt (refine' firstText (by with_reducible assumption) (by k_asm) (by k_mem) ?_ (by with_unfolding_all rfl); intro _)) | (k_here; (with_reducible show wpAny _ _ (subscriptTail (PySem.Expr.Subscript ..) _ (Value.ref _) (Value.int _ _)) _ _ _); k_dflt (refine' item_tupleT (by exact heldTup (by k_asm) (by k_asm) (by k_asm) (.inl (by k_mem))) (by decide) (by decide) (by rfl) (by rfl) ?_; k_whole)) | (k_here; (with_reducible show wpAny _ _ (binaryOp _ (Value.ref _) (Value.ref _)) _ _ _); (with_reducible refine' addL (by k_dflt (k_asm)) (by k_dflt (k_asm)) (by k_dflt (k_mem)) (by k_dflt (k_mem)) (by k_dflt (first | omega | simp)) (by k_dflt (first | omega | simp)) ?_); intro _ _ _ _ _) | ((with_reducible show wpAny _ _ (compareOp _ (Value.str (kindL _) _) _) _ _ _); refine Halt.go ?_) | (k_here; (with_reducible show wpAny _ _ (compareOp CmpOp.NotEq (Value.ref _) (Value.ref _)) _ _ _); k_dflt (refine neNum (by k_asm) (by k_asm) (by k_asm) ⟨_, _, _, rfl, by ktr_rel⟩ ⟨_, _, _, rfl, by ktr_rel⟩ (by ktr_units) ?_)) | (k_here; (with_reducible show wpAny _ _ (call (Value.type _) [Value.int _ _]) _ _ _); k_dflt (refine' range1_rows (by k_asm) (by k_asm) ?_); intro _ _ _ _ _ _ _ _ _) | (k_here; first | ((with_reducible show wpAny _ _ (eval (Expr.Call (Expr.Name _ _) [Expr.Name _ _] [] _) _) _ _ _); k_dflt (refine' bigCall1 (by k_asm) (by k_asm) (by k_asm) (by k_is) (by k_is) (by rfl) ?_; k_whole)) | ((with_reducible show wpAny _ _ (eval (Expr.Call (Expr.Name _ _) [Expr.Name _ _, Expr.Name _ _] [] _) _) _ _ _); k_dflt (refine' bigCall2 (by k_asm) (by k_asm) (by k_asm) (by k_is) (by k_is) (by rfl) (by rfl) ?_; k_whole)) | ((with_reducible show wpAny _ _ (eval (Expr.Call (Expr.Name _ _) [Expr.Name _ _, Expr.Name _ _, Expr.Name _ _] [] _) _) _ _ _); k_dflt (refine' bigCall3 (by k_asm) (by k_asm) (by k_asm) (by k_is) (by k_is) (by rfl) (by rfl) (by rfl) ?_; k_whole)) | ((with_reducible show wpAny _ _ (eval (Expr.Call (Expr.Name _ _) [Expr.Name _ _, Expr.Name _ _, Expr.Name _ _, Expr.Name _ _] [] _) _) _ _ _); k_dflt (refine' bigCall4 (by k_asm) (by k_asm) (by k_asm) (by k_is) (by k_is) (by rfl) (by rfl) (by rfl) (by rfl) ?_; k_whole))) | (k_here; (with_reducible show wpAny _ _ (callWith _ (Value.builtin _) [_] _ _) _ _ _); (with_reducible refine' callWith_method1 ?_ (by k_dflt (rfl)) (by k_dflt (rfl)))) | (k_here; (with_reducible show wpAny _ _ (subscriptTail (PySem.Expr.Name ..) _ (Value.ref _) (Value.int _ _)) _ _ _); (with_reducible refine' listItem (by k_dflt (k_asm)) (by k_dflt (k_mem)) (by k_dflt (decide)) (by k_dflt (decide)) (by k_dflt (exact rfl)) ?_)) | (k_here; (with_reducible show wpAny _ _ (compareOp CmpOp.NotEq (Value.ref _) (Value.ref _)) _ _ _); k_dflt (refine ke_ne_ints (listIs (by k_asm) (by k_mem)) (listIs (by k_asm) (by k_mem)) (by l_ints) (by l_ints) (by ktr_units) ?_); ke_norm) | (k_here; (with_reducible show wpAny _ _ (subscriptTail (PySem.Expr.Name ..) _ (Value.ref _) (Value.int _ _)) _ _ _); (with_reducible refine' item_tupleT (by k_dflt (exact heldTup (by k_asm) (by k_asm) (by k_asm) (by ktr_rel))) (by k_dflt (decide)) (by k_dflt (decide)) (by k_dflt (rfl)) (by k_dflt (rfl)) ?_); k_dflt (k_whole)) | walk1 | (dsimp only; walk1) | (dsimp only; with_reducible show wpAny _ _ _ _ _ _) | (leave1; (try dsimp only)) | fail "no step"))
            unfold Halt
            (rename Fr _ _ _ _ => FE)
            (rename News _ _ _ _ => NE)
            refine turnEnd hto2 FE NE ?_ (by k_mem) hb5 (fun p hp => by have hp5 := sub5 p hp; k_mem)
            repeat (first | exact keepI | refine keepC (by decide +kernel) ?_)
          | tru c =>
            dsimp only [kindL] at hmL
            dsimp only [kindL]
            (repeat' (first | (k_unfold; (try dsimp only)) | (k_end; wrow_close) | ((with_reducible show wpAny _ _ (PySem.call (Value.ref _) _) _ _ _); first | (k_here; (with_reducible show wpAny _ _ (PySem.call (Value.ref 127) _) _ _ _); k_dflt ((refine' useB (C := (as_text_sp _ _ _ _ _ _ _ _ _ (by ktr_rel) (by with_reducible assumption) (by ktr_rel) (by first | exact .inl ⟨_, rfl⟩ | exact .inr ⟨_, rfl⟩))) (h := ?_); intro _ _ _ _ _; (try k_sweep); (try dsimp only)))) | (k_here; (with_reducible show wpAny _ _ (PySem.call (Value.ref 476) _) _ _ _); k_dflt ((refine' useNN (C := (law_number_sp _ _ _ _ _ _ _ _ (by ktr_rel))) (h := ?_); intro _ _ _ _ _ _ _ _ _; (try k_sweep); (try dsimp only)))) | (k_here; (with_reducible show wpAny _ _ (PySem.call (Value.ref 134) _) _ _ _); k_dflt ((refine' useNN (C := (as_number_sp _ _ _ _ _ _ _ _ _ (by ktr_rel) (by with_reducible assumption) (by ktr_rel))) (h := ?_); intro _ _ _ _ _ _ _ _ _; (try k_sweep); (try dsimp only)))) | (k_here; (with_reducible show wpAny _ _ (PySem.call (Value.ref 483) _) _ _ _); k_dflt ((refine' useA (C := (law_truth_sp _ _ _ _ _ _ _ _ (by ktr_rel))) (h := ?_); intro _ _ _ _; (try k_sweep); (try dsimp only)))) | (k_here; (with_reducible show wpAny _ _ (PySem.call (Value.ref 141) _) _ _ _); k_dflt ((refine' useA (C := (as_truth_sp _ _ _ _ _ _ _ _ _ (by ktr_rel))) (h := ?_); intro _ _ _ _; (try k_sweep); (try dsimp only)))) | (k_here; (with_reducible show wpAny _ _ (PySem.call (Value.ref 502) _) _ _ _); k_dflt ((refine' useC (C := (law_due_sp _ _ _ _ _ _ _ _ _ _ _ _ (by with_reducible assumption) (by ktr_rel) (by ktr_rel))) (h := ?_); intro _ _ _ _ _; (try k_sweep); (try dsimp only)))) | (k_here; (with_reducible show wpAny _ _ (PySem.call (Value.ref 193) _) _ _ _); k_dflt ((refine' useC (C := (compared_due _ _ _ _ _ _ _ _ _ _ _ _ _ (by ktr_rel) (by with_reducible assumption) (by ktr_rel) (by ktr_rel))) (h := ?_); intro _ _ _ _ _; (try k_sweep); (try dsimp only)))) | ((first | (with_reducible show wpAny _ _ (PySem.call (Value.ref 469) _) _ _ _) | (with_reducible show wpAny _ _ (PySem.call (Value.ref 457) _) _ _ _)); refine Halt.go ?_) | ((with_reducible show wpAny _ _ (PySem.call (Value.ref 443) _) _ _ _); refine Halt.go ?_) | ((with_reducible show wpAny _ _ (PySem.call (Value.ref 509) _) _ _ _); refine Halt.go ?_) | fail) | (k_here; (with_reducible show wpAny _ _ (subscriptTail (PySem.Expr.BinOp ..) _ (Value.ref _) (Value.int 0 _)) _ _ _); k_dflt (refine' firstText (by with_reducible assumption) (by k_asm) (by k_mem) ?_ (by with_unfolding_all rfl); intro _)) | (k_here; (with_reducible show wpAny _ _ (subscriptTail (PySem.Expr.Subscript ..) _ (Value.ref _) (Value.int _ _)) _ _ _); k_dflt (refine' item_tupleT (by exact heldTup (by k_asm) (by k_asm) (by k_asm) (.inl (by k_mem))) (by decide) (by decide) (by rfl) (by rfl) ?_; k_whole)) | (k_here; (with_reducible show wpAny _ _ (binaryOp _ (Value.ref _) (Value.ref _)) _ _ _); (with_reducible refine' addL (by k_dflt (k_asm)) (by k_dflt (k_asm)) (by k_dflt (k_mem)) (by k_dflt (k_mem)) (by k_dflt (first | omega | simp)) (by k_dflt (first | omega | simp)) ?_); intro _ _ _ _ _) | ((with_reducible show wpAny _ _ (compareOp _ (Value.str (kindL _) _) _) _ _ _); refine Halt.go ?_) | (k_here; (with_reducible show wpAny _ _ (compareOp CmpOp.NotEq (Value.ref _) (Value.ref _)) _ _ _); k_dflt (refine neNum (by k_asm) (by k_asm) (by k_asm) ⟨_, _, _, rfl, by ktr_rel⟩ ⟨_, _, _, rfl, by ktr_rel⟩ (by ktr_units) ?_)) | (k_here; (with_reducible show wpAny _ _ (call (Value.type _) [Value.int _ _]) _ _ _); k_dflt (refine' range1_rows (by k_asm) (by k_asm) ?_); intro _ _ _ _ _ _ _ _ _) | (k_here; first | ((with_reducible show wpAny _ _ (eval (Expr.Call (Expr.Name _ _) [Expr.Name _ _] [] _) _) _ _ _); k_dflt (refine' bigCall1 (by k_asm) (by k_asm) (by k_asm) (by k_is) (by k_is) (by rfl) ?_; k_whole)) | ((with_reducible show wpAny _ _ (eval (Expr.Call (Expr.Name _ _) [Expr.Name _ _, Expr.Name _ _] [] _) _) _ _ _); k_dflt (refine' bigCall2 (by k_asm) (by k_asm) (by k_asm) (by k_is) (by k_is) (by rfl) (by rfl) ?_; k_whole)) | ((with_reducible show wpAny _ _ (eval (Expr.Call (Expr.Name _ _) [Expr.Name _ _, Expr.Name _ _, Expr.Name _ _] [] _) _) _ _ _); k_dflt (refine' bigCall3 (by k_asm) (by k_asm) (by k_asm) (by k_is) (by k_is) (by rfl) (by rfl) (by rfl) ?_; k_whole)) | ((with_reducible show wpAny _ _ (eval (Expr.Call (Expr.Name _ _) [Expr.Name _ _, Expr.Name _ _, Expr.Name _ _, Expr.Name _ _] [] _) _) _ _ _); k_dflt (refine' bigCall4 (by k_asm) (by k_asm) (by k_asm) (by k_is) (by k_is) (by rfl) (by rfl) (by rfl) (by rfl) ?_; k_whole))) | (k_here; (with_reducible show wpAny _ _ (callWith _ (Value.builtin _) [_] _ _) _ _ _); (with_reducible refine' callWith_method1 ?_ (by k_dflt (rfl)) (by k_dflt (rfl)))) | (k_here; (with_reducible show wpAny _ _ (subscriptTail (PySem.Expr.Name ..) _ (Value.ref _) (Value.int _ _)) _ _ _); (with_reducible refine' listItem (by k_dflt (k_asm)) (by k_dflt (k_mem)) (by k_dflt (decide)) (by k_dflt (decide)) (by k_dflt (exact rfl)) ?_)) | (k_here; (with_reducible show wpAny _ _ (compareOp CmpOp.NotEq (Value.ref _) (Value.ref _)) _ _ _); k_dflt (refine ke_ne_ints (listIs (by k_asm) (by k_mem)) (listIs (by k_asm) (by k_mem)) (by l_ints) (by l_ints) (by ktr_units) ?_); ke_norm) | (k_here; (with_reducible show wpAny _ _ (subscriptTail (PySem.Expr.Name ..) _ (Value.ref _) (Value.int _ _)) _ _ _); (with_reducible refine' item_tupleT (by k_dflt (exact heldTup (by k_asm) (by k_asm) (by k_asm) (by ktr_rel))) (by k_dflt (decide)) (by k_dflt (decide)) (by k_dflt (rfl)) (by k_dflt (rfl)) ?_); k_dflt (k_whole)) | walk1 | (dsimp only; walk1) | (dsimp only; with_reducible show wpAny _ _ _ _ _ _) | (leave1; (try dsimp only)) | fail "no step"))
            unfold Halt
            (rename Fr _ _ _ _ => FE)
            (rename News _ _ _ _ => NE)
            refine turnEnd hto2 FE NE ?_ (by k_mem) hb5 (fun p hp => by have hp5 := sub5 p hp; k_mem)
            repeat (first | exact keepI | refine keepC (by decide +kernel) ?_)
end
end Mine
theorem PySem.Challenge.cw_nu0045_01_holds : PySem.Challenge.rw_nu0045_01.Holds :=
  Mine.law_holds
