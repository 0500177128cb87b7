import PyProof.Rows.All
import Wide.All
import OpenK.AllK
import Wide.FinOn
import PySem.Challenge.RW_og0172_01
open PySem PySem.W PyProof.Rows PySem.Calls
set_option Elab.async false
set_option maxRecDepth 100000
set_option maxHeartbeats 8000000
set_option linter.unusedVariables false
local macro_rules | `(tactic| k_of "#h" => $t:tacticSeq) => do
  let t' ← t.raw.replaceM (m := Lean.MacroM) fun x => match x with
    | .ident i r n p => match n.getRoot with
      | .str .anonymous z => if z.endsWith "'" then do let n' ← Lean.MonadQuotation.addMacroScope n; return some (Lean.Syntax.ident i r n' p) else return none
      | _ => return none
    | _ => return none
  `(tactic| ($(⟨t'⟩):tacticSeq))
local macro_rules | `(tactic| walk_at $s:str) => do
  let z := Lean.Syntax.mkStrLit ("@" ++ s.getString)
  `(tactic| k_extra $z:str)
local macro_rules | `(tactic| k_sub) => `(tactic| k_extra "k_sub")
local macro_rules | `(tactic| k_room) => `(tactic| k_extra "k_room")
local macro_rules | `(tactic| k_units) => `(tactic| k_extra "k_units")
local macro_rules | `(tactic| ktr_rel) => `(tactic| k_extra "ktr_rel")
local macro_rules | `(tactic| k_upd) => `(tactic| k_extra "k_upd")
local macro_rules | `(tactic| k_qdec) => `(tactic| decide +kernel)
local macro_rules | `(tactic| walk_at "ite") => `(tactic| (k_closed; k_dflt (first | (refine ite_pos ?hz ?_; (case hz => decide +kernel)) | (refine ite_neg ?hz ?_; (case hz => decide +kernel)))))
section
open PySem PySem.W PyProof.Rows PySem.Calls
namespace Mine.hd
set_option linter.unusedVariables false
/-- a part of the text, by its place -/
noncomputable def nth : List Stmt → Nat → Stmt
  | [], _ => .Pass default
  | s :: _, 0 => s
  | _ :: r, n + 1 => nth r n
noncomputable abbrev pr : Program := PySem.Challenge.pw_og0172_01
noncomputable def stT (i : Nat) : Stmt := nth pr.main.body i
noncomputable def stC (i j : Nat) : Stmt := match stT i with
  | .ClassDef _ _ _ b _ _ _ _ _ _ _ => nth b j
  | s => s
noncomputable def view_39 : Program := { pr with main := { pr.main with body := [stT 0, stT 2, stT 3, stT 5, stT 6, stT 7, stT 8, stT 9, stT 11, stT 12, stT 13, stT 14, stT 15, stT 16, stT 18, stT 19, stT 21, stT 22, stT 23, stT 25, stT 26, stT 27, stT 28, stT 29, stT 30, stT 32, stT 33, stT 34, stT 35, stT 36, stT 37] } }
noncomputable abbrev N (s : String) : PySem.Str := PySem.Str.ofString s
noncomputable abbrev S (s : String) (k : Tok) : Value := .str (PySem.Str.ofString s) k
noncomputable abbrev I (i : Int) (k : Tok) : Value := .int i k
noncomputable abbrev R (a : Addr) : Value := .ref a
noncomputable abbrev T (s : String) : Value := .type s
noncomputable abbrev VN : Value := .none
noncomputable abbrev E (P : Params) (s : String) (k : Tok) (v : Value) : DictEntry := { hash := PyData.keyHash P (PySem.Str.ofString s), key := .str (PySem.Str.ofString s) k, val := v }
noncomputable def fnO (c : Value) (st : Stmt) (q : String) (g : Addr) (dv kd pm cd : Value) : Obj := match st with
  | .FunctionDef name params body _ _ _ scope _ _ _ => { cls := c, data := .func { name := name, qualname := PySem.Str.ofString q, params := params, body := .stmts body, scope := scope, globals := g, closure := [], defaults := dv, kwdefaults := kd, pyModule := pm, code := cd } }
  | _ => default
noncomputable def F__wall : Stmt := stT 0
noncomputable def F_PaperError___init__ : Stmt := stC 2 0
noncomputable def F_PaperError_told : Stmt := stC 2 1
noncomputable def F_Decimal___init__ : Stmt := stC 5 0
noncomputable def F_Decimal_plus : Stmt := stC 5 1
noncomputable def F_Decimal_minus : Stmt := stC 5 2
noncomputable def F_Decimal_times : Stmt := stC 5 3
noncomputable def F_Decimal_negated : Stmt := stC 5 4
noncomputable def F_Decimal_compared : Stmt := stC 5 5
noncomputable def F_Decimal_is_whole : Stmt := stC 5 6
noncomputable def F_Decimal_floor : Stmt := stC 5 7
noncomputable def F_Decimal_rounded : Stmt := stC 5 8
noncomputable def F_Decimal_told : Stmt := stC 5 9
noncomputable def F_Decimal_text : Stmt := stC 5 10
noncomputable def F_Decimal_least_text : Stmt := stC 5 11
noncomputable def F_sign_text : Stmt := stT 6
noncomputable def F_sign_of : Stmt := stT 7
noncomputable def F_decimal_of : Stmt := stT 8
noncomputable def F_at_one_scale : Stmt := stT 9
noncomputable def F_Name___init__ : Stmt := stC 11 0
noncomputable def F_String___init__ : Stmt := stC 12 0
noncomputable def F_Stream___init__ : Stmt := stC 13 0
noncomputable def F_Reference___init__ : Stmt := stC 14 0
noncomputable def F_Reference_pair : Stmt := stC 14 1
noncomputable def F_kind_of : Stmt := stT 15
noncomputable def F_is_number : Stmt := stT 16
noncomputable def F_Matrix___init__ : Stmt := stC 18 0
noncomputable def F_Matrix_times : Stmt := stC 18 1
noncomputable def F_Matrix_applied : Stmt := stC 18 2
noncomputable def F_Matrix_shifted : Stmt := stC 18 3
noncomputable def F_Matrix_parts : Stmt := stC 18 4
noncomputable def F_Matrix_told : Stmt := stC 18 5
noncomputable def F_identity : Stmt := stT 19
noncomputable def F_State___init__ : Stmt := stC 21 0
noncomputable def F_first_colour : Stmt := stT 22
noncomputable def F_first_values : Stmt := stT 23
noncomputable def F_first_state : Stmt := stT 24
noncomputable def F_numbers_of : Stmt := stT 25
noncomputable def F_name_of : Stmt := stT 26
noncomputable def F_colour_parts : Stmt := stT 27
noncomputable def F_device_count : Stmt := stT 28
noncomputable def F_own_colour : Stmt := stT 29
noncomputable def F_set_colour : Stmt := stT 30
noncomputable def F__law_box : Stmt := stT 32
noncomputable def F__law_draw : Stmt := stT 33
noncomputable def F__law_operand : Stmt := stT 34
noncomputable def F__law_told : Stmt := stT 35
noncomputable def F__law_due : Stmt := stT 36
noncomputable def F_law : Stmt := stT 37
noncomputable def o_43 (P : Params) : Obj := { cls := T "tuple", data := Data.seq #[] }
noncomputable def o_44 (P : Params) : Obj := { cls := VN, data := Data.fields #[] }
noncomputable def o_45 (P : Params) : Obj := { cls := T "code", data := Data.fields #[S "<module>" 182, S "<module>" 183, S "/claim/cut.py" 184, I 1 0, I 0 0, I 0 0, I 0 0, I 0 0, R 11, Value.bool false, I 181 0, R 12, VN, VN, VN, VN, I 185 0, I 1 0, S "/claim/cut.py" 186] }
noncomputable def o_46 (P : Params) : Obj := { cls := T "frame", slots := #[some (R 13), some (R 3), some (R 3), none, some (S "__main__" 164), none, some (R 0)] }
noncomputable def o_47 (P : Params) : Obj := { cls := VN, data := Data.dict #[E P "type.__subclasses__.Exception.0" 232 (I 46 0), E P "type.__subclasses__.Exception.n" 233 (I 1 0)] 2 }
noncomputable def o_48 (P : Params) : Obj := { cls := T "dict", data := Data.dict #[E P "__name__" 165 (S "law_og0172_01" 752), E P "__doc__" 166 VN, E P "__package__" 167 VN, E P "__loader__" 168 (Value.builtin "__main__.__loader__#opaque"), E P "__spec__" 169 VN, E P "__annotations__" 170 (R 6), E P "__builtins__" 171 (R 4), E P "__file__" 173 (S "/claim/cut.py" 172), E P "__cached__" 174 VN, E P "_wall" 193 (R 21), E P "PaperError" 235 (R 46), E P "PaintFault" 251 (R 59), E P "Decimal" 370 (R 155), E P "sign_text" 377 (R 166), E P "sign_of" 384 (R 173), E P "decimal_of" 391 (R 180), E P "at_one_scale" 402 (R 187), E P "Name" 433 (R 204), E P "String" 464 (R 226), E P "Stream" 495 (R 247), E P "Reference" 533 (R 275), E P "kind_of" 540 (R 286), E P "is_number" 547 (R 293), E P "Matrix" 627 (R 343), E P "identity" 633 (R 354), E P "State" 672 (R 371), E P "first_colour" 680 (R 382), E P "first_values" 689 (R 389), E P "first_state" 697 (R 397), E P "numbers_of" 703 (R 402), E P "name_of" 710 (R 409), E P "colour_parts" 720 (R 416), E P "device_count" 728 (R 423), E P "own_colour" 737 (R 430), E P "set_colour" 751 (R 437), E P "_law_box" 759 (R 442), E P "_law_draw" 769 (R 449), E P "_law_operand" 777 (R 456), E P "_law_told" 783 (R 461), E P "_law_due" 789 (R 466), E P "law" 795 (R 471)] 41 }
noncomputable def o_49 (P : Params) : Obj := { cls := VN, data := Data.fields #[I 1 0, I 0 0, R 20, I 5 0, I 0 0, R 27, I 14 0, I 0 0, R 55, I 17 0, I 0 0, R 67, I 63 0, I 0 0, R 165, I 65 0, I 0 0, R 172, I 69 0, I 0 0, R 179, I 75 0, I 0 0, R 186, I 81 0, I 0 0, R 193, I 85 0, I 0 0, R 214, I 90 0, I 0 0, R 236, I 95 0, I 0 0, R 257, I 103 0, I 0 0, R 285, I 125 0, I 0 0, R 292, I 128 0, I 0 0, R 299, I 152 0, I 0 0, R 353, I 155 0, I 0 0, R 360, I 163 0, I 0 0, R 381, I 172 0, I 0 0, R 388, I 181 0, I 0 0, R 396, I 184 0, I 0 0, R 401, I 191 0, I 0 0, R 408, I 195 0, I 0 0, R 415, I 205 0, I 0 0, R 422, I 208 0, I 0 0, R 429, I 215 0, I 0 0, R 436, I 231 0, I 0 0, R 441, I 240 0, I 0 0, R 448, I 251 0, I 0 0, R 455, I 258 0, I 0 0, R 460, I 260 0, I 0 0, R 465, I 272 0, I 0 0, R 470] }
noncomputable def o_50 (P : Params) : Obj := { cls := T "tuple", data := Data.seq #[] }
noncomputable def o_51 (P : Params) : Obj := { cls := VN, data := Data.fields #[] }
noncomputable def o_52 (P : Params) : Obj := { cls := T "tuple", data := Data.seq #[S "k" 190] }
noncomputable def o_53 (P : Params) : Obj := { cls := T "tuple", data := Data.seq #[] }
noncomputable def o_54 (P : Params) : Obj := fnO VN F__wall "_wall" 0 VN VN VN VN
noncomputable def o_55 (P : Params) : Obj := { cls := T "code", data := Data.fields #[S "_wall" 187, S "_wall" 188, S "/claim/cut.py" 189, I 1 0, I 1 0, I 0 0, I 0 0, I 3 0, R 15, Value.bool true, I 181 0, R 16, VN, R 17, R 18, R 19, I 191 0, I 1 0, S "/claim/cut.py" 192] }
noncomputable def o_56 (P : Params) : Obj := fnO (T "function") F__wall "_wall" 3 VN VN (S "__main__" 164) (R 20)
noncomputable def o_57 (P : Params) : Obj := { cls := T "tuple", data := Data.seq #[T "Exception"] }
noncomputable def o_58 (P : Params) : Obj := { cls := T "builtin_function_or_method", data := Data.fields #[Value.builtin "type.__prepare__", T "type"] }
noncomputable def o_59 (P : Params) : Obj := { cls := T "dict", data := Data.dict #[E P "__module__" 203 (S "paperhold.errors" 194), E P "__qualname__" 205 (S "PaperError" 204), E P "__firstlineno__" 207 (I 5 206), E P "__init__" 218 (R 36), E P "told" 225 (R 43), E P "__static_attributes__" 228 (R 44)] 6 }
noncomputable def o_60 (P : Params) : Obj := { cls := T "tuple", data := Data.seq #[] }
noncomputable def o_61 (P : Params) : Obj := { cls := VN, data := Data.fields #[I 7 0, I 4 0, R 35, I 12 0, I 4 0, R 42] }
noncomputable def o_62 (P : Params) : Obj := { cls := T "code", data := Data.fields #[S "PaperError" 198, S "PaperError" 199, S "/claim/cut.py" 200, I 5 0, I 0 0, I 0 0, I 0 0, I 0 0, R 25, Value.bool false, I 181 0, R 26, VN, VN, VN, VN, I 201 0, I 5 0, S "/claim/cut.py" 202] }
noncomputable def o_63 (P : Params) : Obj := { cls := T "frame", slots := #[some (R 27), some (R 3), some (R 24), none, some (S "paperhold.errors" 194), none, some (R 0)] }
noncomputable def o_64 (P : Params) : Obj := { cls := T "tuple", data := Data.seq #[I (-1) 209] }
noncomputable def o_65 (P : Params) : Obj := { cls := T "tuple", data := Data.seq #[] }
noncomputable def o_66 (P : Params) : Obj := { cls := VN, data := Data.fields #[] }
noncomputable def o_67 (P : Params) : Obj := { cls := T "tuple", data := Data.seq #[S "self" 213, S "what" 214, S "at" 215] }
noncomputable def o_68 (P : Params) : Obj := { cls := T "tuple", data := Data.seq #[] }
noncomputable def o_69 (P : Params) : Obj := fnO VN F_PaperError___init__ "PaperError.__init__" 0 VN VN VN VN
noncomputable def o_70 (P : Params) : Obj := { cls := T "code", data := Data.fields #[S "__init__" 210, S "PaperError.__init__" 211, S "/claim/cut.py" 212, I 7 0, I 3 0, I 0 0, I 0 0, I 3 0, R 30, Value.bool true, I 181 0, R 31, VN, R 32, R 33, R 34, I 216 0, I 7 0, S "/claim/cut.py" 217] }
noncomputable def o_71 (P : Params) : Obj := fnO (T "function") F_PaperError___init__ "PaperError.__init__" 3 (R 29) VN (S "paperhold.errors" 194) (R 35)
noncomputable def o_72 (P : Params) : Obj := { cls := T "tuple", data := Data.seq #[] }
noncomputable def o_73 (P : Params) : Obj := { cls := VN, data := Data.fields #[] }
noncomputable def o_74 (P : Params) : Obj := { cls := T "tuple", data := Data.seq #[S "self" 222] }
noncomputable def o_75 (P : Params) : Obj := { cls := T "tuple", data := Data.seq #[] }
noncomputable def o_76 (P : Params) : Obj := fnO VN F_PaperError_told "PaperError.told" 0 VN VN VN VN
noncomputable def o_77 (P : Params) : Obj := { cls := T "code", data := Data.fields #[S "told" 219, S "PaperError.told" 220, S "/claim/cut.py" 221, I 12 0, I 1 0, I 0 0, I 0 0, I 3 0, R 37, Value.bool true, I 181 0, R 38, VN, R 39, R 40, R 41, I 223 0, I 12 0, S "/claim/cut.py" 224] }
noncomputable def o_78 (P : Params) : Obj := fnO (T "function") F_PaperError_told "PaperError.told" 3 VN VN (S "paperhold.errors" 194) (R 42)
noncomputable def o_79 (P : Params) : Obj := { cls := T "tuple", data := Data.seq #[S "at" 226, S "what" 227] }
noncomputable def o_80 (P : Params) : Obj := { cls := T "dict", data := Data.dict #[E P "__module__" 203 (S "paperhold.errors" 194), E P "__firstlineno__" 207 (I 5 206), E P "__init__" 218 (R 36), E P "told" 225 (R 43), E P "__static_attributes__" 228 (R 44), E P "__weakref__" 230 (R 47), E P "__doc__" 231 VN] 3 }
noncomputable def o_81 (P : Params) : Obj := { cls := T "type", data := Data.cls { name := N "PaperError", bases := [T "Exception"], mro := [R 46, T "Exception", T "BaseException", T "object"], ns := 45, qualname := N "PaperError", subclasses := [R 59] }, slots := #[some (R 22), none, some (S "PaperError" 196), some (S "PaperError" 204), some (Value.builtin "Exception.__new__"), some (Value.bool true)] }
noncomputable def o_82 (P : Params) : Obj := { cls := T "getset_descriptor", data := Data.fields #[S "__weakref__" 229, R 46, Value.builtin "ExceptionGroup.__weakref__", VN] }
noncomputable def o_83 (P : Params) : Obj := { cls := T "super", data := Data.fields #[R 46, R 46, R 46] }
noncomputable def o_84 (P : Params) : Obj := { cls := T "builtin_function_or_method", data := Data.fields #[Value.builtin "object.__init_subclass__", R 46] }
noncomputable def o_85 (P : Params) : Obj := { cls := T "tuple", data := Data.seq #[R 46] }
noncomputable def o_86 (P : Params) : Obj := { cls := T "builtin_function_or_method", data := Data.fields #[Value.builtin "type.__prepare__", T "type"] }
noncomputable def o_87 (P : Params) : Obj := { cls := T "dict", data := Data.dict #[E P "__module__" 243 (S "paperhold.errors" 194), E P "__qualname__" 245 (S "PaintFault" 244), E P "__firstlineno__" 247 (I 14 246), E P "__static_attributes__" 248 (R 57)] 4 }
noncomputable def o_88 (P : Params) : Obj := { cls := T "tuple", data := Data.seq #[] }
noncomputable def o_89 (P : Params) : Obj := { cls := VN, data := Data.fields #[] }
noncomputable def o_90 (P : Params) : Obj := { cls := T "code", data := Data.fields #[S "PaintFault" 238, S "PaintFault" 239, S "/claim/cut.py" 240, I 14 0, I 0 0, I 0 0, I 0 0, I 0 0, R 53, Value.bool false, I 181 0, R 54, VN, VN, VN, VN, I 241 0, I 14 0, S "/claim/cut.py" 242] }
noncomputable def o_91 (P : Params) : Obj := { cls := T "frame", slots := #[some (R 55), some (R 3), some (R 52), none, some (S "paperhold.errors" 194), none, some (R 0)] }
noncomputable def o_92 (P : Params) : Obj := { cls := T "tuple", data := Data.seq #[] }
noncomputable def o_93 (P : Params) : Obj := { cls := T "dict", data := Data.dict #[E P "__module__" 243 (S "paperhold.errors" 194), E P "__firstlineno__" 247 (I 14 246), E P "__static_attributes__" 248 (R 57), E P "__doc__" 249 VN] 2 }
noncomputable def o_94 (P : Params) : Obj := { cls := T "type", data := Data.cls { name := N "PaintFault", bases := [R 46], mro := [R 59, R 46, T "Exception", T "BaseException", T "object"], ns := 58, qualname := N "PaintFault" }, slots := #[some (R 50), none, some (S "PaintFault" 236), some (S "PaintFault" 244), some (Value.builtin "Exception.__new__"), some (Value.bool true)] }
noncomputable def o_95 (P : Params) : Obj := { cls := T "super", data := Data.fields #[R 59, R 59, R 59] }
noncomputable def o_96 (P : Params) : Obj := { cls := T "builtin_function_or_method", data := Data.fields #[Value.builtin "object.__init_subclass__", R 59] }
noncomputable def o_97 (P : Params) : Obj := { cls := T "tuple", data := Data.seq #[] }
noncomputable def o_98 (P : Params) : Obj := { cls := T "builtin_function_or_method", data := Data.fields #[Value.builtin "type.__prepare__", T "type"] }
noncomputable def o_99 (P : Params) : Obj := { cls := T "dict", data := Data.dict #[E P "__module__" 261 (S "paperhold.decimals" 252), E P "__qualname__" 263 (S "Decimal" 262), E P "__firstlineno__" 265 (I 17 264), E P "__init__" 274 (R 75), E P "plus" 282 (R 82), E P "minus" 290 (R 89), E P "times" 298 (R 96), E P "negated" 305 (R 103), E P "compared" 316 (R 110), E P "is_whole" 323 (R 117), E P "floor" 330 (R 124), E P "rounded" 338 (R 131), E P "told" 345 (R 138), E P "text" 353 (R 145), E P "least_text" 360 (R 152), E P "__static_attributes__" 363 (R 153)] 16 }
noncomputable def o_100 (P : Params) : Obj := { cls := T "tuple", data := Data.seq #[] }
noncomputable def o_101 (P : Params) : Obj := { cls := VN, data := Data.fields #[I 19 0, I 4 0, R 74, I 26 0, I 4 0, R 81, I 29 0, I 4 0, R 88, I 32 0, I 4 0, R 95, I 35 0, I 4 0, R 102, I 38 0, I 4 0, R 109, I 42 0, I 4 0, R 116, I 45 0, I 4 0, R 123, I 48 0, I 4 0, R 130, I 51 0, I 4 0, R 137, I 54 0, I 4 0, R 144, I 61 0, I 4 0, R 151] }
noncomputable def o_102 (P : Params) : Obj := { cls := T "code", data := Data.fields #[S "Decimal" 256, S "Decimal" 257, S "/claim/cut.py" 258, I 17 0, I 0 0, I 0 0, I 0 0, I 0 0, R 65, Value.bool false, I 181 0, R 66, VN, VN, VN, VN, I 259 0, I 17 0, S "/claim/cut.py" 260] }
noncomputable def o_103 (P : Params) : Obj := { cls := T "frame", slots := #[some (R 67), some (R 3), some (R 64), none, some (S "paperhold.decimals" 252), none, some (R 0)] }
noncomputable def o_104 (P : Params) : Obj := { cls := T "tuple", data := Data.seq #[] }
noncomputable def o_105 (P : Params) : Obj := { cls := VN, data := Data.fields #[] }
noncomputable def o_106 (P : Params) : Obj := { cls := T "tuple", data := Data.seq #[S "self" 269, S "top" 270, S "places" 271] }
noncomputable def o_107 (P : Params) : Obj := { cls := T "tuple", data := Data.seq #[] }
noncomputable def o_108 (P : Params) : Obj := fnO VN F_Decimal___init__ "Decimal.__init__" 0 VN VN VN VN
noncomputable def o_109 (P : Params) : Obj := { cls := T "code", data := Data.fields #[S "__init__" 266, S "Decimal.__init__" 267, S "/claim/cut.py" 268, I 19 0, I 3 0, I 0 0, I 0 0, I 3 0, R 69, Value.bool true, I 181 0, R 70, VN, R 71, R 72, R 73, I 272 0, I 19 0, S "/claim/cut.py" 273] }
noncomputable def o_110 (P : Params) : Obj := fnO (T "function") F_Decimal___init__ "Decimal.__init__" 3 VN VN (S "paperhold.decimals" 252) (R 74)
noncomputable def o_111 (P : Params) : Obj := { cls := T "tuple", data := Data.seq #[] }
noncomputable def o_112 (P : Params) : Obj := { cls := VN, data := Data.fields #[] }
noncomputable def o_113 (P : Params) : Obj := { cls := T "tuple", data := Data.seq #[S "self" 278, S "other" 279] }
noncomputable def o_114 (P : Params) : Obj := { cls := T "tuple", data := Data.seq #[] }
noncomputable def o_115 (P : Params) : Obj := fnO VN F_Decimal_plus "Decimal.plus" 0 VN VN VN VN
noncomputable def o_116 (P : Params) : Obj := { cls := T "code", data := Data.fields #[S "plus" 275, S "Decimal.plus" 276, S "/claim/cut.py" 277, I 26 0, I 2 0, I 0 0, I 0 0, I 3 0, R 76, Value.bool true, I 181 0, R 77, VN, R 78, R 79, R 80, I 280 0, I 26 0, S "/claim/cut.py" 281] }
noncomputable def o_117 (P : Params) : Obj := fnO (T "function") F_Decimal_plus "Decimal.plus" 3 VN VN (S "paperhold.decimals" 252) (R 81)
noncomputable def o_118 (P : Params) : Obj := { cls := T "tuple", data := Data.seq #[] }
noncomputable def o_119 (P : Params) : Obj := { cls := VN, data := Data.fields #[] }
noncomputable def o_120 (P : Params) : Obj := { cls := T "tuple", data := Data.seq #[S "self" 286, S "other" 287] }
noncomputable def o_121 (P : Params) : Obj := { cls := T "tuple", data := Data.seq #[] }
noncomputable def o_122 (P : Params) : Obj := fnO VN F_Decimal_minus "Decimal.minus" 0 VN VN VN VN
noncomputable def o_123 (P : Params) : Obj := { cls := T "code", data := Data.fields #[S "minus" 283, S "Decimal.minus" 284, S "/claim/cut.py" 285, I 29 0, I 2 0, I 0 0, I 0 0, I 3 0, R 83, Value.bool true, I 181 0, R 84, VN, R 85, R 86, R 87, I 288 0, I 29 0, S "/claim/cut.py" 289] }
noncomputable def o_124 (P : Params) : Obj := fnO (T "function") F_Decimal_minus "Decimal.minus" 3 VN VN (S "paperhold.decimals" 252) (R 88)
noncomputable def o_125 (P : Params) : Obj := { cls := T "tuple", data := Data.seq #[] }
noncomputable def o_126 (P : Params) : Obj := { cls := VN, data := Data.fields #[] }
noncomputable def o_127 (P : Params) : Obj := { cls := T "tuple", data := Data.seq #[S "self" 294, S "other" 295] }
noncomputable def o_128 (P : Params) : Obj := { cls := T "tuple", data := Data.seq #[] }
noncomputable def o_129 (P : Params) : Obj := fnO VN F_Decimal_times "Decimal.times" 0 VN VN VN VN
noncomputable def o_130 (P : Params) : Obj := { cls := T "code", data := Data.fields #[S "times" 291, S "Decimal.times" 292, S "/claim/cut.py" 293, I 32 0, I 2 0, I 0 0, I 0 0, I 3 0, R 90, Value.bool true, I 181 0, R 91, VN, R 92, R 93, R 94, I 296 0, I 32 0, S "/claim/cut.py" 297] }
noncomputable def o_131 (P : Params) : Obj := fnO (T "function") F_Decimal_times "Decimal.times" 3 VN VN (S "paperhold.decimals" 252) (R 95)
noncomputable def o_132 (P : Params) : Obj := { cls := T "tuple", data := Data.seq #[] }
noncomputable def o_133 (P : Params) : Obj := { cls := VN, data := Data.fields #[] }
noncomputable def o_134 (P : Params) : Obj := { cls := T "tuple", data := Data.seq #[S "self" 302] }
noncomputable def o_135 (P : Params) : Obj := { cls := T "tuple", data := Data.seq #[] }
noncomputable def o_136 (P : Params) : Obj := fnO VN F_Decimal_negated "Decimal.negated" 0 VN VN VN VN
noncomputable def o_137 (P : Params) : Obj := { cls := T "code", data := Data.fields #[S "negated" 299, S "Decimal.negated" 300, S "/claim/cut.py" 301, I 35 0, I 1 0, I 0 0, I 0 0, I 3 0, R 97, Value.bool true, I 181 0, R 98, VN, R 99, R 100, R 101, I 303 0, I 35 0, S "/claim/cut.py" 304] }
noncomputable def o_138 (P : Params) : Obj := fnO (T "function") F_Decimal_negated "Decimal.negated" 3 VN VN (S "paperhold.decimals" 252) (R 102)
noncomputable def o_139 (P : Params) : Obj := { cls := T "tuple", data := Data.seq #[] }
noncomputable def o_140 (P : Params) : Obj := { cls := VN, data := Data.fields #[] }
noncomputable def o_141 (P : Params) : Obj := { cls := T "tuple", data := Data.seq #[S "self" 309, S "other" 310, S "one" 311, S "two" 312, S "places" 313] }
noncomputable def o_142 (P : Params) : Obj := { cls := T "tuple", data := Data.seq #[] }
noncomputable def o_143 (P : Params) : Obj := fnO VN F_Decimal_compared "Decimal.compared" 0 VN VN VN VN
noncomputable def o_144 (P : Params) : Obj := { cls := T "code", data := Data.fields #[S "compared" 306, S "Decimal.compared" 307, S "/claim/cut.py" 308, I 38 0, I 2 0, I 0 0, I 0 0, I 3 0, R 104, Value.bool true, I 181 0, R 105, VN, R 106, R 107, R 108, I 314 0, I 38 0, S "/claim/cut.py" 315] }
noncomputable def o_145 (P : Params) : Obj := fnO (T "function") F_Decimal_compared "Decimal.compared" 3 VN VN (S "paperhold.decimals" 252) (R 109)
noncomputable def o_146 (P : Params) : Obj := { cls := T "tuple", data := Data.seq #[] }
noncomputable def o_147 (P : Params) : Obj := { cls := VN, data := Data.fields #[] }
noncomputable def o_148 (P : Params) : Obj := { cls := T "tuple", data := Data.seq #[S "self" 320] }
noncomputable def o_149 (P : Params) : Obj := { cls := T "tuple", data := Data.seq #[] }
noncomputable def o_150 (P : Params) : Obj := fnO VN F_Decimal_is_whole "Decimal.is_whole" 0 VN VN VN VN
noncomputable def o_151 (P : Params) : Obj := { cls := T "code", data := Data.fields #[S "is_whole" 317, S "Decimal.is_whole" 318, S "/claim/cut.py" 319, I 42 0, I 1 0, I 0 0, I 0 0, I 3 0, R 111, Value.bool true, I 181 0, R 112, VN, R 113, R 114, R 115, I 321 0, I 42 0, S "/claim/cut.py" 322] }
noncomputable def o_152 (P : Params) : Obj := fnO (T "function") F_Decimal_is_whole "Decimal.is_whole" 3 VN VN (S "paperhold.decimals" 252) (R 116)
noncomputable def o_153 (P : Params) : Obj := { cls := T "tuple", data := Data.seq #[] }
noncomputable def o_154 (P : Params) : Obj := { cls := VN, data := Data.fields #[] }
noncomputable def o_155 (P : Params) : Obj := { cls := T "tuple", data := Data.seq #[S "self" 327] }
noncomputable def o_156 (P : Params) : Obj := { cls := T "tuple", data := Data.seq #[] }
noncomputable def o_157 (P : Params) : Obj := fnO VN F_Decimal_floor "Decimal.floor" 0 VN VN VN VN
noncomputable def o_158 (P : Params) : Obj := { cls := T "code", data := Data.fields #[S "floor" 324, S "Decimal.floor" 325, S "/claim/cut.py" 326, I 45 0, I 1 0, I 0 0, I 0 0, I 3 0, R 118, Value.bool true, I 181 0, R 119, VN, R 120, R 121, R 122, I 328 0, I 45 0, S "/claim/cut.py" 329] }
noncomputable def o_159 (P : Params) : Obj := fnO (T "function") F_Decimal_floor "Decimal.floor" 3 VN VN (S "paperhold.decimals" 252) (R 123)
noncomputable def o_160 (P : Params) : Obj := { cls := T "tuple", data := Data.seq #[] }
noncomputable def o_161 (P : Params) : Obj := { cls := VN, data := Data.fields #[] }
noncomputable def o_162 (P : Params) : Obj := { cls := T "tuple", data := Data.seq #[S "self" 334, S "places" 335] }
noncomputable def o_163 (P : Params) : Obj := { cls := T "tuple", data := Data.seq #[] }
noncomputable def o_164 (P : Params) : Obj := fnO VN F_Decimal_rounded "Decimal.rounded" 0 VN VN VN VN
noncomputable def o_165 (P : Params) : Obj := { cls := T "code", data := Data.fields #[S "rounded" 331, S "Decimal.rounded" 332, S "/claim/cut.py" 333, I 48 0, I 2 0, I 0 0, I 0 0, I 3 0, R 125, Value.bool true, I 181 0, R 126, VN, R 127, R 128, R 129, I 336 0, I 48 0, S "/claim/cut.py" 337] }
noncomputable def o_166 (P : Params) : Obj := fnO (T "function") F_Decimal_rounded "Decimal.rounded" 3 VN VN (S "paperhold.decimals" 252) (R 130)
noncomputable def o_167 (P : Params) : Obj := { cls := T "tuple", data := Data.seq #[] }
noncomputable def o_168 (P : Params) : Obj := { cls := VN, data := Data.fields #[] }
noncomputable def o_169 (P : Params) : Obj := { cls := T "tuple", data := Data.seq #[S "self" 342] }
noncomputable def o_170 (P : Params) : Obj := { cls := T "tuple", data := Data.seq #[] }
noncomputable def o_171 (P : Params) : Obj := fnO VN F_Decimal_told "Decimal.told" 0 VN VN VN VN
noncomputable def o_172 (P : Params) : Obj := { cls := T "code", data := Data.fields #[S "told" 339, S "Decimal.told" 340, S "/claim/cut.py" 341, I 51 0, I 1 0, I 0 0, I 0 0, I 3 0, R 132, Value.bool true, I 181 0, R 133, VN, R 134, R 135, R 136, I 343 0, I 51 0, S "/claim/cut.py" 344] }
noncomputable def o_173 (P : Params) : Obj := fnO (T "function") F_Decimal_told "Decimal.told" 3 VN VN (S "paperhold.decimals" 252) (R 137)
noncomputable def o_174 (P : Params) : Obj := { cls := T "tuple", data := Data.seq #[] }
noncomputable def o_175 (P : Params) : Obj := { cls := VN, data := Data.fields #[] }
noncomputable def o_176 (P : Params) : Obj := { cls := T "tuple", data := Data.seq #[S "self" 349, S "numerals" 350] }
noncomputable def o_177 (P : Params) : Obj := { cls := T "tuple", data := Data.seq #[] }
noncomputable def o_178 (P : Params) : Obj := fnO VN F_Decimal_text "Decimal.text" 0 VN VN VN VN
noncomputable def o_179 (P : Params) : Obj := { cls := T "code", data := Data.fields #[S "text" 346, S "Decimal.text" 347, S "/claim/cut.py" 348, I 54 0, I 1 0, I 0 0, I 0 0, I 3 0, R 139, Value.bool true, I 181 0, R 140, VN, R 141, R 142, R 143, I 351 0, I 54 0, S "/claim/cut.py" 352] }
noncomputable def o_180 (P : Params) : Obj := fnO (T "function") F_Decimal_text "Decimal.text" 3 VN VN (S "paperhold.decimals" 252) (R 144)
noncomputable def o_181 (P : Params) : Obj := { cls := T "tuple", data := Data.seq #[] }
noncomputable def o_182 (P : Params) : Obj := { cls := VN, data := Data.fields #[] }
noncomputable def o_183 (P : Params) : Obj := { cls := T "tuple", data := Data.seq #[S "self" 357] }
noncomputable def o_184 (P : Params) : Obj := { cls := T "tuple", data := Data.seq #[] }
noncomputable def o_185 (P : Params) : Obj := fnO VN F_Decimal_least_text "Decimal.least_text" 0 VN VN VN VN
noncomputable def o_186 (P : Params) : Obj := { cls := T "code", data := Data.fields #[S "least_text" 354, S "Decimal.least_text" 355, S "/claim/cut.py" 356, I 61 0, I 1 0, I 0 0, I 0 0, I 3 0, R 146, Value.bool true, I 181 0, R 147, VN, R 148, R 149, R 150, I 358 0, I 61 0, S "/claim/cut.py" 359] }
noncomputable def o_187 (P : Params) : Obj := fnO (T "function") F_Decimal_least_text "Decimal.least_text" 3 VN VN (S "paperhold.decimals" 252) (R 151)
noncomputable def o_188 (P : Params) : Obj := { cls := T "tuple", data := Data.seq #[S "places" 361, S "top" 362] }
noncomputable def o_189 (P : Params) : Obj := { cls := T "dict", data := Data.dict #[E P "__module__" 261 (S "paperhold.decimals" 252), E P "__firstlineno__" 265 (I 17 264), E P "__init__" 274 (R 75), E P "plus" 282 (R 82), E P "minus" 290 (R 89), E P "times" 298 (R 96), E P "negated" 305 (R 103), E P "compared" 316 (R 110), E P "is_whole" 323 (R 117), E P "floor" 330 (R 124), E P "rounded" 338 (R 131), E P "told" 345 (R 138), E P "text" 353 (R 145), E P "least_text" 360 (R 152), E P "__static_attributes__" 363 (R 153), E P "__dict__" 365 (R 156), E P "__weakref__" 367 (R 157), E P "__doc__" 368 VN] 4 }
noncomputable def o_190 (P : Params) : Obj := { cls := T "type", data := Data.cls { name := N "Decimal", bases := [T "object"], mro := [R 155, T "object"], ns := 154, qualname := N "Decimal" }, slots := #[none, none, some (S "Decimal" 254), some (S "Decimal" 262), some (Value.builtin "object.__new__"), some (Value.bool true)] }
noncomputable def o_191 (P : Params) : Obj := { cls := T "getset_descriptor", data := Data.fields #[S "__dict__" 364, R 155, Value.builtin "function.__dict__", Value.builtin "function.__dict__#set"] }
noncomputable def o_192 (P : Params) : Obj := { cls := T "getset_descriptor", data := Data.fields #[S "__weakref__" 366, R 155, Value.builtin "ExceptionGroup.__weakref__", VN] }
noncomputable def o_193 (P : Params) : Obj := { cls := T "super", data := Data.fields #[R 155, R 155, R 155] }
noncomputable def o_194 (P : Params) : Obj := { cls := T "builtin_function_or_method", data := Data.fields #[Value.builtin "object.__init_subclass__", R 155] }
noncomputable def o_195 (P : Params) : Obj := { cls := T "tuple", data := Data.seq #[] }
noncomputable def o_196 (P : Params) : Obj := { cls := VN, data := Data.fields #[] }
noncomputable def o_197 (P : Params) : Obj := { cls := T "tuple", data := Data.seq #[S "number" 374] }
noncomputable def o_198 (P : Params) : Obj := { cls := T "tuple", data := Data.seq #[] }
noncomputable def o_199 (P : Params) : Obj := fnO VN F_sign_text "sign_text" 0 VN VN VN VN
noncomputable def o_200 (P : Params) : Obj := { cls := T "code", data := Data.fields #[S "sign_text" 371, S "sign_text" 372, S "/claim/cut.py" 373, I 63 0, I 1 0, I 0 0, I 0 0, I 3 0, R 160, Value.bool true, I 181 0, R 161, VN, R 162, R 163, R 164, I 375 0, I 63 0, S "/claim/cut.py" 376] }
noncomputable def o_201 (P : Params) : Obj := fnO (T "function") F_sign_text "sign_text" 3 VN VN (S "paperhold.decimals" 252) (R 165)
noncomputable def o_202 (P : Params) : Obj := { cls := T "tuple", data := Data.seq #[] }
noncomputable def o_203 (P : Params) : Obj := { cls := VN, data := Data.fields #[] }
noncomputable def o_204 (P : Params) : Obj := { cls := T "tuple", data := Data.seq #[S "number" 381] }
noncomputable def o_205 (P : Params) : Obj := { cls := T "tuple", data := Data.seq #[] }
noncomputable def o_206 (P : Params) : Obj := fnO VN F_sign_of "sign_of" 0 VN VN VN VN
noncomputable def o_207 (P : Params) : Obj := { cls := T "code", data := Data.fields #[S "sign_of" 378, S "sign_of" 379, S "/claim/cut.py" 380, I 65 0, I 1 0, I 0 0, I 0 0, I 3 0, R 167, Value.bool true, I 181 0, R 168, VN, R 169, R 170, R 171, I 382 0, I 65 0, S "/claim/cut.py" 383] }
noncomputable def o_208 (P : Params) : Obj := fnO (T "function") F_sign_of "sign_of" 3 VN VN (S "paperhold.decimals" 252) (R 172)
noncomputable def o_209 (P : Params) : Obj := { cls := T "tuple", data := Data.seq #[] }
noncomputable def o_210 (P : Params) : Obj := { cls := VN, data := Data.fields #[] }
noncomputable def o_211 (P : Params) : Obj := { cls := T "tuple", data := Data.seq #[S "value" 388] }
noncomputable def o_212 (P : Params) : Obj := { cls := T "tuple", data := Data.seq #[] }
noncomputable def o_213 (P : Params) : Obj := fnO VN F_decimal_of "decimal_of" 0 VN VN VN VN
noncomputable def o_214 (P : Params) : Obj := { cls := T "code", data := Data.fields #[S "decimal_of" 385, S "decimal_of" 386, S "/claim/cut.py" 387, I 69 0, I 1 0, I 0 0, I 0 0, I 3 0, R 174, Value.bool true, I 181 0, R 175, VN, R 176, R 177, R 178, I 389 0, I 69 0, S "/claim/cut.py" 390] }
noncomputable def o_215 (P : Params) : Obj := fnO (T "function") F_decimal_of "decimal_of" 3 VN VN (S "paperhold.decimals" 252) (R 179)
noncomputable def o_216 (P : Params) : Obj := { cls := T "tuple", data := Data.seq #[] }
noncomputable def o_217 (P : Params) : Obj := { cls := VN, data := Data.fields #[] }
noncomputable def o_218 (P : Params) : Obj := { cls := T "tuple", data := Data.seq #[S "one" 395, S "other" 396, S "first" 397, S "second" 398, S "places" 399] }
noncomputable def o_219 (P : Params) : Obj := { cls := T "tuple", data := Data.seq #[] }
noncomputable def o_220 (P : Params) : Obj := fnO VN F_at_one_scale "at_one_scale" 0 VN VN VN VN
noncomputable def o_221 (P : Params) : Obj := { cls := T "code", data := Data.fields #[S "at_one_scale" 392, S "at_one_scale" 393, S "/claim/cut.py" 394, I 75 0, I 2 0, I 0 0, I 0 0, I 3 0, R 181, Value.bool true, I 181 0, R 182, VN, R 183, R 184, R 185, I 400 0, I 75 0, S "/claim/cut.py" 401] }
noncomputable def o_222 (P : Params) : Obj := fnO (T "function") F_at_one_scale "at_one_scale" 3 VN VN (S "paperhold.decimals" 252) (R 186)
noncomputable def o_223 (P : Params) : Obj := { cls := T "tuple", data := Data.seq #[] }
noncomputable def o_224 (P : Params) : Obj := { cls := T "builtin_function_or_method", data := Data.fields #[Value.builtin "type.__prepare__", T "type"] }
noncomputable def o_225 (P : Params) : Obj := { cls := T "dict", data := Data.dict #[E P "__module__" 412 (S "paperhold.objects" 403), E P "__qualname__" 414 (S "Name" 413), E P "__firstlineno__" 416 (I 81 415), E P "__init__" 424 (R 201), E P "__static_attributes__" 426 (R 202)] 5 }
noncomputable def o_226 (P : Params) : Obj := { cls := T "tuple", data := Data.seq #[] }
noncomputable def o_227 (P : Params) : Obj := { cls := VN, data := Data.fields #[I 83 0, I 4 0, R 200] }
noncomputable def o_228 (P : Params) : Obj := { cls := T "code", data := Data.fields #[S "Name" 407, S "Name" 408, S "/claim/cut.py" 409, I 81 0, I 0 0, I 0 0, I 0 0, I 0 0, R 191, Value.bool false, I 181 0, R 192, VN, VN, VN, VN, I 410 0, I 81 0, S "/claim/cut.py" 411] }
noncomputable def o_229 (P : Params) : Obj := { cls := T "frame", slots := #[some (R 193), some (R 3), some (R 190), none, some (S "paperhold.objects" 403), none, some (R 0)] }
noncomputable def o_230 (P : Params) : Obj := { cls := T "tuple", data := Data.seq #[] }
noncomputable def o_231 (P : Params) : Obj := { cls := VN, data := Data.fields #[] }
noncomputable def o_232 (P : Params) : Obj := { cls := T "tuple", data := Data.seq #[S "self" 420, S "text" 421] }
noncomputable def o_233 (P : Params) : Obj := { cls := T "tuple", data := Data.seq #[] }
noncomputable def o_234 (P : Params) : Obj := fnO VN F_Name___init__ "Name.__init__" 0 VN VN VN VN
noncomputable def o_235 (P : Params) : Obj := { cls := T "code", data := Data.fields #[S "__init__" 417, S "Name.__init__" 418, S "/claim/cut.py" 419, I 83 0, I 2 0, I 0 0, I 0 0, I 3 0, R 195, Value.bool true, I 181 0, R 196, VN, R 197, R 198, R 199, I 422 0, I 83 0, S "/claim/cut.py" 423] }
noncomputable def o_236 (P : Params) : Obj := fnO (T "function") F_Name___init__ "Name.__init__" 3 VN VN (S "paperhold.objects" 403) (R 200)
noncomputable def o_237 (P : Params) : Obj := { cls := T "tuple", data := Data.seq #[S "text" 425] }
noncomputable def o_238 (P : Params) : Obj := { cls := T "dict", data := Data.dict #[E P "__module__" 412 (S "paperhold.objects" 403), E P "__firstlineno__" 416 (I 81 415), E P "__init__" 424 (R 201), E P "__static_attributes__" 426 (R 202), E P "__dict__" 428 (R 205), E P "__weakref__" 430 (R 206), E P "__doc__" 431 VN] 4 }
noncomputable def o_239 (P : Params) : Obj := { cls := T "type", data := Data.cls { name := N "Name", bases := [T "object"], mro := [R 204, T "object"], ns := 203, qualname := N "Name" }, slots := #[none, none, some (S "Name" 405), some (S "Name" 413), some (Value.builtin "object.__new__"), some (Value.bool true)] }
noncomputable def o_240 (P : Params) : Obj := { cls := T "getset_descriptor", data := Data.fields #[S "__dict__" 427, R 204, Value.builtin "function.__dict__", Value.builtin "function.__dict__#set"] }
noncomputable def o_241 (P : Params) : Obj := { cls := T "getset_descriptor", data := Data.fields #[S "__weakref__" 429, R 204, Value.builtin "ExceptionGroup.__weakref__", VN] }
noncomputable def o_242 (P : Params) : Obj := { cls := T "super", data := Data.fields #[R 204, R 204, R 204] }
noncomputable def o_243 (P : Params) : Obj := { cls := T "builtin_function_or_method", data := Data.fields #[Value.builtin "object.__init_subclass__", R 204] }
noncomputable def o_244 (P : Params) : Obj := { cls := T "tuple", data := Data.seq #[] }
noncomputable def o_245 (P : Params) : Obj := { cls := T "builtin_function_or_method", data := Data.fields #[Value.builtin "type.__prepare__", T "type"] }
noncomputable def o_246 (P : Params) : Obj := { cls := T "dict", data := Data.dict #[E P "__module__" 441 (S "paperhold.objects" 403), E P "__qualname__" 443 (S "String" 442), E P "__firstlineno__" 445 (I 85 444), E P "__init__" 454 (R 223), E P "__static_attributes__" 457 (R 224)] 5 }
noncomputable def o_247 (P : Params) : Obj := { cls := T "tuple", data := Data.seq #[] }
noncomputable def o_248 (P : Params) : Obj := { cls := VN, data := Data.fields #[I 87 0, I 4 0, R 222] }
noncomputable def o_249 (P : Params) : Obj := { cls := T "code", data := Data.fields #[S "String" 436, S "String" 437, S "/claim/cut.py" 438, I 85 0, I 0 0, I 0 0, I 0 0, I 0 0, R 212, Value.bool false, I 181 0, R 213, VN, VN, VN, VN, I 439 0, I 85 0, S "/claim/cut.py" 440] }
noncomputable def o_250 (P : Params) : Obj := { cls := T "frame", slots := #[some (R 214), some (R 3), some (R 211), none, some (S "paperhold.objects" 403), none, some (R 0)] }
noncomputable def o_251 (P : Params) : Obj := { cls := T "tuple", data := Data.seq #[Value.bool false] }
noncomputable def o_252 (P : Params) : Obj := { cls := T "tuple", data := Data.seq #[] }
noncomputable def o_253 (P : Params) : Obj := { cls := VN, data := Data.fields #[] }
noncomputable def o_254 (P : Params) : Obj := { cls := T "tuple", data := Data.seq #[S "self" 449, S "octets" 450, S "is_hex" 451] }
noncomputable def o_255 (P : Params) : Obj := { cls := T "tuple", data := Data.seq #[] }
noncomputable def o_256 (P : Params) : Obj := fnO VN F_String___init__ "String.__init__" 0 VN VN VN VN
noncomputable def o_257 (P : Params) : Obj := { cls := T "code", data := Data.fields #[S "__init__" 446, S "String.__init__" 447, S "/claim/cut.py" 448, I 87 0, I 3 0, I 0 0, I 0 0, I 3 0, R 217, Value.bool true, I 181 0, R 218, VN, R 219, R 220, R 221, I 452 0, I 87 0, S "/claim/cut.py" 453] }
noncomputable def o_258 (P : Params) : Obj := fnO (T "function") F_String___init__ "String.__init__" 3 (R 216) VN (S "paperhold.objects" 403) (R 222)
noncomputable def o_259 (P : Params) : Obj := { cls := T "tuple", data := Data.seq #[S "is_hex" 455, S "octets" 456] }
noncomputable def o_260 (P : Params) : Obj := { cls := T "dict", data := Data.dict #[E P "__module__" 441 (S "paperhold.objects" 403), E P "__firstlineno__" 445 (I 85 444), E P "__init__" 454 (R 223), E P "__static_attributes__" 457 (R 224), E P "__dict__" 459 (R 227), E P "__weakref__" 461 (R 228), E P "__doc__" 462 VN] 4 }
noncomputable def o_261 (P : Params) : Obj := { cls := T "type", data := Data.cls { name := N "String", bases := [T "object"], mro := [R 226, T "object"], ns := 225, qualname := N "String" }, slots := #[none, none, some (S "String" 434), some (S "String" 442), some (Value.builtin "object.__new__"), some (Value.bool true)] }
noncomputable def o_262 (P : Params) : Obj := { cls := T "getset_descriptor", data := Data.fields #[S "__dict__" 458, R 226, Value.builtin "function.__dict__", Value.builtin "function.__dict__#set"] }
noncomputable def o_263 (P : Params) : Obj := { cls := T "getset_descriptor", data := Data.fields #[S "__weakref__" 460, R 226, Value.builtin "ExceptionGroup.__weakref__", VN] }
noncomputable def o_264 (P : Params) : Obj := { cls := T "super", data := Data.fields #[R 226, R 226, R 226] }
noncomputable def o_265 (P : Params) : Obj := { cls := T "builtin_function_or_method", data := Data.fields #[Value.builtin "object.__init_subclass__", R 226] }
noncomputable def o_266 (P : Params) : Obj := { cls := T "tuple", data := Data.seq #[] }
noncomputable def o_267 (P : Params) : Obj := { cls := T "builtin_function_or_method", data := Data.fields #[Value.builtin "type.__prepare__", T "type"] }
noncomputable def o_268 (P : Params) : Obj := { cls := T "dict", data := Data.dict #[E P "__module__" 472 (S "paperhold.objects" 403), E P "__qualname__" 474 (S "Stream" 473), E P "__firstlineno__" 476 (I 90 475), E P "__init__" 485 (R 244), E P "__static_attributes__" 488 (R 245)] 5 }
noncomputable def o_269 (P : Params) : Obj := { cls := T "tuple", data := Data.seq #[] }
noncomputable def o_270 (P : Params) : Obj := { cls := VN, data := Data.fields #[I 92 0, I 4 0, R 243] }
noncomputable def o_271 (P : Params) : Obj := { cls := T "code", data := Data.fields #[S "Stream" 467, S "Stream" 468, S "/claim/cut.py" 469, I 90 0, I 0 0, I 0 0, I 0 0, I 0 0, R 234, Value.bool false, I 181 0, R 235, VN, VN, VN, VN, I 470 0, I 90 0, S "/claim/cut.py" 471] }
noncomputable def o_272 (P : Params) : Obj := { cls := T "frame", slots := #[some (R 236), some (R 3), some (R 233), none, some (S "paperhold.objects" 403), none, some (R 0)] }
noncomputable def o_273 (P : Params) : Obj := { cls := T "tuple", data := Data.seq #[] }
noncomputable def o_274 (P : Params) : Obj := { cls := VN, data := Data.fields #[] }
noncomputable def o_275 (P : Params) : Obj := { cls := T "tuple", data := Data.seq #[S "self" 480, S "head" 481, S "octets" 482] }
noncomputable def o_276 (P : Params) : Obj := { cls := T "tuple", data := Data.seq #[] }
noncomputable def o_277 (P : Params) : Obj := fnO VN F_Stream___init__ "Stream.__init__" 0 VN VN VN VN
noncomputable def o_278 (P : Params) : Obj := { cls := T "code", data := Data.fields #[S "__init__" 477, S "Stream.__init__" 478, S "/claim/cut.py" 479, I 92 0, I 3 0, I 0 0, I 0 0, I 3 0, R 238, Value.bool true, I 181 0, R 239, VN, R 240, R 241, R 242, I 483 0, I 92 0, S "/claim/cut.py" 484] }
noncomputable def o_279 (P : Params) : Obj := fnO (T "function") F_Stream___init__ "Stream.__init__" 3 VN VN (S "paperhold.objects" 403) (R 243)
noncomputable def o_280 (P : Params) : Obj := { cls := T "tuple", data := Data.seq #[S "head" 486, S "octets" 487] }
noncomputable def o_281 (P : Params) : Obj := { cls := T "dict", data := Data.dict #[E P "__module__" 472 (S "paperhold.objects" 403), E P "__firstlineno__" 476 (I 90 475), E P "__init__" 485 (R 244), E P "__static_attributes__" 488 (R 245), E P "__dict__" 490 (R 248), E P "__weakref__" 492 (R 249), E P "__doc__" 493 VN] 4 }
noncomputable def o_282 (P : Params) : Obj := { cls := T "type", data := Data.cls { name := N "Stream", bases := [T "object"], mro := [R 247, T "object"], ns := 246, qualname := N "Stream" }, slots := #[none, none, some (S "Stream" 465), some (S "Stream" 473), some (Value.builtin "object.__new__"), some (Value.bool true)] }
noncomputable def o_283 (P : Params) : Obj := { cls := T "getset_descriptor", data := Data.fields #[S "__dict__" 489, R 247, Value.builtin "function.__dict__", Value.builtin "function.__dict__#set"] }
noncomputable def o_284 (P : Params) : Obj := { cls := T "getset_descriptor", data := Data.fields #[S "__weakref__" 491, R 247, Value.builtin "ExceptionGroup.__weakref__", VN] }
noncomputable def o_285 (P : Params) : Obj := { cls := T "super", data := Data.fields #[R 247, R 247, R 247] }
noncomputable def o_286 (P : Params) : Obj := { cls := T "builtin_function_or_method", data := Data.fields #[Value.builtin "object.__init_subclass__", R 247] }
noncomputable def o_287 (P : Params) : Obj := { cls := T "tuple", data := Data.seq #[] }
noncomputable def o_288 (P : Params) : Obj := { cls := T "builtin_function_or_method", data := Data.fields #[Value.builtin "type.__prepare__", T "type"] }
noncomputable def o_289 (P : Params) : Obj := { cls := T "dict", data := Data.dict #[E P "__module__" 503 (S "paperhold.objects" 403), E P "__qualname__" 505 (S "Reference" 504), E P "__firstlineno__" 507 (I 95 506), E P "__init__" 516 (R 265), E P "pair" 523 (R 272), E P "__static_attributes__" 526 (R 273)] 6 }
noncomputable def o_290 (P : Params) : Obj := { cls := T "tuple", data := Data.seq #[] }
noncomputable def o_291 (P : Params) : Obj := { cls := VN, data := Data.fields #[I 97 0, I 4 0, R 264, I 101 0, I 4 0, R 271] }
noncomputable def o_292 (P : Params) : Obj := { cls := T "code", data := Data.fields #[S "Reference" 498, S "Reference" 499, S "/claim/cut.py" 500, I 95 0, I 0 0, I 0 0, I 0 0, I 0 0, R 255, Value.bool false, I 181 0, R 256, VN, VN, VN, VN, I 501 0, I 95 0, S "/claim/cut.py" 502] }
noncomputable def o_293 (P : Params) : Obj := { cls := T "frame", slots := #[some (R 257), some (R 3), some (R 254), none, some (S "paperhold.objects" 403), none, some (R 0)] }
noncomputable def o_294 (P : Params) : Obj := { cls := T "tuple", data := Data.seq #[] }
noncomputable def o_295 (P : Params) : Obj := { cls := VN, data := Data.fields #[] }
noncomputable def o_296 (P : Params) : Obj := { cls := T "tuple", data := Data.seq #[S "self" 511, S "number" 512, S "generation" 513] }
noncomputable def o_297 (P : Params) : Obj := { cls := T "tuple", data := Data.seq #[] }
noncomputable def o_298 (P : Params) : Obj := fnO VN F_Reference___init__ "Reference.__init__" 0 VN VN VN VN
noncomputable def o_299 (P : Params) : Obj := { cls := T "code", data := Data.fields #[S "__init__" 508, S "Reference.__init__" 509, S "/claim/cut.py" 510, I 97 0, I 3 0, I 0 0, I 0 0, I 3 0, R 259, Value.bool true, I 181 0, R 260, VN, R 261, R 262, R 263, I 514 0, I 97 0, S "/claim/cut.py" 515] }
noncomputable def o_300 (P : Params) : Obj := fnO (T "function") F_Reference___init__ "Reference.__init__" 3 VN VN (S "paperhold.objects" 403) (R 264)
noncomputable def o_301 (P : Params) : Obj := { cls := T "tuple", data := Data.seq #[] }
noncomputable def o_302 (P : Params) : Obj := { cls := VN, data := Data.fields #[] }
noncomputable def o_303 (P : Params) : Obj := { cls := T "tuple", data := Data.seq #[S "self" 520] }
noncomputable def o_304 (P : Params) : Obj := { cls := T "tuple", data := Data.seq #[] }
noncomputable def o_305 (P : Params) : Obj := fnO VN F_Reference_pair "Reference.pair" 0 VN VN VN VN
noncomputable def o_306 (P : Params) : Obj := { cls := T "code", data := Data.fields #[S "pair" 517, S "Reference.pair" 518, S "/claim/cut.py" 519, I 101 0, I 1 0, I 0 0, I 0 0, I 3 0, R 266, Value.bool true, I 181 0, R 267, VN, R 268, R 269, R 270, I 521 0, I 101 0, S "/claim/cut.py" 522] }
noncomputable def o_307 (P : Params) : Obj := fnO (T "function") F_Reference_pair "Reference.pair" 3 VN VN (S "paperhold.objects" 403) (R 271)
noncomputable def o_308 (P : Params) : Obj := { cls := T "tuple", data := Data.seq #[S "generation" 524, S "number" 525] }
noncomputable def o_309 (P : Params) : Obj := { cls := T "dict", data := Data.dict #[E P "__module__" 503 (S "paperhold.objects" 403), E P "__firstlineno__" 507 (I 95 506), E P "__init__" 516 (R 265), E P "pair" 523 (R 272), E P "__static_attributes__" 526 (R 273), E P "__dict__" 528 (R 276), E P "__weakref__" 530 (R 277), E P "__doc__" 531 VN] 4 }
noncomputable def o_310 (P : Params) : Obj := { cls := T "type", data := Data.cls { name := N "Reference", bases := [T "object"], mro := [R 275, T "object"], ns := 274, qualname := N "Reference" }, slots := #[none, none, some (S "Reference" 496), some (S "Reference" 504), some (Value.builtin "object.__new__"), some (Value.bool true)] }
noncomputable def o_311 (P : Params) : Obj := { cls := T "getset_descriptor", data := Data.fields #[S "__dict__" 527, R 275, Value.builtin "function.__dict__", Value.builtin "function.__dict__#set"] }
noncomputable def o_312 (P : Params) : Obj := { cls := T "getset_descriptor", data := Data.fields #[S "__weakref__" 529, R 275, Value.builtin "ExceptionGroup.__weakref__", VN] }
noncomputable def o_313 (P : Params) : Obj := { cls := T "super", data := Data.fields #[R 275, R 275, R 275] }
noncomputable def o_314 (P : Params) : Obj := { cls := T "builtin_function_or_method", data := Data.fields #[Value.builtin "object.__init_subclass__", R 275] }
noncomputable def o_315 (P : Params) : Obj := { cls := T "tuple", data := Data.seq #[] }
noncomputable def o_316 (P : Params) : Obj := { cls := VN, data := Data.fields #[] }
noncomputable def o_317 (P : Params) : Obj := { cls := T "tuple", data := Data.seq #[S "value" 537] }
noncomputable def o_318 (P : Params) : Obj := { cls := T "tuple", data := Data.seq #[] }
noncomputable def o_319 (P : Params) : Obj := fnO VN F_kind_of "kind_of" 0 VN VN VN VN
noncomputable def o_320 (P : Params) : Obj := { cls := T "code", data := Data.fields #[S "kind_of" 534, S "kind_of" 535, S "/claim/cut.py" 536, I 103 0, I 1 0, I 0 0, I 0 0, I 3 0, R 280, Value.bool true, I 181 0, R 281, VN, R 282, R 283, R 284, I 538 0, I 103 0, S "/claim/cut.py" 539] }
noncomputable def o_321 (P : Params) : Obj := fnO (T "function") F_kind_of "kind_of" 3 VN VN (S "paperhold.objects" 403) (R 285)
noncomputable def o_322 (P : Params) : Obj := { cls := T "tuple", data := Data.seq #[] }
noncomputable def o_323 (P : Params) : Obj := { cls := VN, data := Data.fields #[] }
noncomputable def o_324 (P : Params) : Obj := { cls := T "tuple", data := Data.seq #[S "value" 544] }
noncomputable def o_325 (P : Params) : Obj := { cls := T "tuple", data := Data.seq #[] }
noncomputable def o_326 (P : Params) : Obj := fnO VN F_is_number "is_number" 0 VN VN VN VN
noncomputable def o_327 (P : Params) : Obj := { cls := T "code", data := Data.fields #[S "is_number" 541, S "is_number" 542, S "/claim/cut.py" 543, I 125 0, I 1 0, I 0 0, I 0 0, I 3 0, R 287, Value.bool true, I 181 0, R 288, VN, R 289, R 290, R 291, I 545 0, I 125 0, S "/claim/cut.py" 546] }
noncomputable def o_328 (P : Params) : Obj := fnO (T "function") F_is_number "is_number" 3 VN VN (S "paperhold.objects" 403) (R 292)
noncomputable def o_329 (P : Params) : Obj := { cls := T "tuple", data := Data.seq #[] }
noncomputable def o_330 (P : Params) : Obj := { cls := T "builtin_function_or_method", data := Data.fields #[Value.builtin "type.__prepare__", T "type"] }
noncomputable def o_331 (P : Params) : Obj := { cls := T "dict", data := Data.dict #[E P "__module__" 557 (S "paperhold.matrix" 548), E P "__qualname__" 559 (S "Matrix" 558), E P "__firstlineno__" 561 (I 128 560), E P "__init__" 574 (R 307), E P "times" 582 (R 314), E P "applied" 591 (R 321), E P "shifted" 600 (R 328), E P "parts" 607 (R 335), E P "told" 613 (R 340), E P "__static_attributes__" 620 (R 341)] 10 }
noncomputable def o_332 (P : Params) : Obj := { cls := T "tuple", data := Data.seq #[] }
noncomputable def o_333 (P : Params) : Obj := { cls := VN, data := Data.fields #[I 130 0, I 4 0, R 306, I 138 0, I 4 0, R 313, I 141 0, I 4 0, R 320, I 144 0, I 4 0, R 327, I 147 0, I 4 0, R 334, I 150 0, I 4 0, R 339] }
noncomputable def o_334 (P : Params) : Obj := { cls := T "code", data := Data.fields #[S "Matrix" 552, S "Matrix" 553, S "/claim/cut.py" 554, I 128 0, I 0 0, I 0 0, I 0 0, I 0 0, R 297, Value.bool false, I 181 0, R 298, VN, VN, VN, VN, I 555 0, I 128 0, S "/claim/cut.py" 556] }
noncomputable def o_335 (P : Params) : Obj := { cls := T "frame", slots := #[some (R 299), some (R 3), some (R 296), none, some (S "paperhold.matrix" 548), none, some (R 0)] }
noncomputable def o_336 (P : Params) : Obj := { cls := T "tuple", data := Data.seq #[] }
noncomputable def o_337 (P : Params) : Obj := { cls := VN, data := Data.fields #[] }
noncomputable def o_338 (P : Params) : Obj := { cls := T "tuple", data := Data.seq #[S "self" 565, S "a" 566, S "b" 567, S "c" 568, S "d" 569, S "e" 570, S "f" 571] }
noncomputable def o_339 (P : Params) : Obj := { cls := T "tuple", data := Data.seq #[] }
noncomputable def o_340 (P : Params) : Obj := fnO VN F_Matrix___init__ "Matrix.__init__" 0 VN VN VN VN
noncomputable def o_341 (P : Params) : Obj := { cls := T "code", data := Data.fields #[S "__init__" 562, S "Matrix.__init__" 563, S "/claim/cut.py" 564, I 130 0, I 7 0, I 0 0, I 0 0, I 3 0, R 301, Value.bool true, I 181 0, R 302, VN, R 303, R 304, R 305, I 572 0, I 130 0, S "/claim/cut.py" 573] }
noncomputable def o_342 (P : Params) : Obj := fnO (T "function") F_Matrix___init__ "Matrix.__init__" 3 VN VN (S "paperhold.matrix" 548) (R 306)
noncomputable def o_343 (P : Params) : Obj := { cls := T "tuple", data := Data.seq #[] }
noncomputable def o_344 (P : Params) : Obj := { cls := VN, data := Data.fields #[] }
noncomputable def o_345 (P : Params) : Obj := { cls := T "tuple", data := Data.seq #[S "self" 578, S "other" 579] }
noncomputable def o_346 (P : Params) : Obj := { cls := T "tuple", data := Data.seq #[] }
noncomputable def o_347 (P : Params) : Obj := fnO VN F_Matrix_times "Matrix.times" 0 VN VN VN VN
noncomputable def o_348 (P : Params) : Obj := { cls := T "code", data := Data.fields #[S "times" 575, S "Matrix.times" 576, S "/claim/cut.py" 577, I 138 0, I 2 0, I 0 0, I 0 0, I 3 0, R 308, Value.bool true, I 181 0, R 309, VN, R 310, R 311, R 312, I 580 0, I 138 0, S "/claim/cut.py" 581] }
noncomputable def o_349 (P : Params) : Obj := fnO (T "function") F_Matrix_times "Matrix.times" 3 VN VN (S "paperhold.matrix" 548) (R 313)
noncomputable def o_350 (P : Params) : Obj := { cls := T "tuple", data := Data.seq #[] }
noncomputable def o_351 (P : Params) : Obj := { cls := VN, data := Data.fields #[] }
noncomputable def o_352 (P : Params) : Obj := { cls := T "tuple", data := Data.seq #[S "self" 586, S "x" 587, S "y" 588] }
noncomputable def o_353 (P : Params) : Obj := { cls := T "tuple", data := Data.seq #[] }
noncomputable def o_354 (P : Params) : Obj := fnO VN F_Matrix_applied "Matrix.applied" 0 VN VN VN VN
noncomputable def o_355 (P : Params) : Obj := { cls := T "code", data := Data.fields #[S "applied" 583, S "Matrix.applied" 584, S "/claim/cut.py" 585, I 141 0, I 3 0, I 0 0, I 0 0, I 3 0, R 315, Value.bool true, I 181 0, R 316, VN, R 317, R 318, R 319, I 589 0, I 141 0, S "/claim/cut.py" 590] }
noncomputable def o_356 (P : Params) : Obj := fnO (T "function") F_Matrix_applied "Matrix.applied" 3 VN VN (S "paperhold.matrix" 548) (R 320)
noncomputable def o_357 (P : Params) : Obj := { cls := T "tuple", data := Data.seq #[] }
noncomputable def o_358 (P : Params) : Obj := { cls := VN, data := Data.fields #[] }
noncomputable def o_359 (P : Params) : Obj := { cls := T "tuple", data := Data.seq #[S "self" 595, S "x" 596, S "y" 597] }
noncomputable def o_360 (P : Params) : Obj := { cls := T "tuple", data := Data.seq #[] }
noncomputable def o_361 (P : Params) : Obj := fnO VN F_Matrix_shifted "Matrix.shifted" 0 VN VN VN VN
noncomputable def o_362 (P : Params) : Obj := { cls := T "code", data := Data.fields #[S "shifted" 592, S "Matrix.shifted" 593, S "/claim/cut.py" 594, I 144 0, I 3 0, I 0 0, I 0 0, I 3 0, R 322, Value.bool true, I 181 0, R 323, VN, R 324, R 325, R 326, I 598 0, I 144 0, S "/claim/cut.py" 599] }
noncomputable def o_363 (P : Params) : Obj := fnO (T "function") F_Matrix_shifted "Matrix.shifted" 3 VN VN (S "paperhold.matrix" 548) (R 327)
noncomputable def o_364 (P : Params) : Obj := { cls := T "tuple", data := Data.seq #[] }
noncomputable def o_365 (P : Params) : Obj := { cls := VN, data := Data.fields #[] }
noncomputable def o_366 (P : Params) : Obj := { cls := T "tuple", data := Data.seq #[S "self" 604] }
noncomputable def o_367 (P : Params) : Obj := { cls := T "tuple", data := Data.seq #[] }
noncomputable def o_368 (P : Params) : Obj := fnO VN F_Matrix_parts "Matrix.parts" 0 VN VN VN VN
noncomputable def o_369 (P : Params) : Obj := { cls := T "code", data := Data.fields #[S "parts" 601, S "Matrix.parts" 602, S "/claim/cut.py" 603, I 147 0, I 1 0, I 0 0, I 0 0, I 3 0, R 329, Value.bool true, I 181 0, R 330, VN, R 331, R 332, R 333, I 605 0, I 147 0, S "/claim/cut.py" 606] }
noncomputable def o_370 (P : Params) : Obj := fnO (T "function") F_Matrix_parts "Matrix.parts" 3 VN VN (S "paperhold.matrix" 548) (R 334)
noncomputable def o_371 (P : Params) : Obj := { cls := T "tuple", data := Data.seq #[] }
noncomputable def o_372 (P : Params) : Obj := { cls := VN, data := Data.fields #[] }
noncomputable def o_373 (P : Params) : Obj := fnO VN F_Matrix_told "Matrix.told" 0 VN VN VN VN
noncomputable def o_374 (P : Params) : Obj := { cls := T "code", data := Data.fields #[S "told" 608, S "Matrix.told" 609, S "/claim/cut.py" 610, I 150 0, I 1 0, I 0 0, I 0 0, I 3 0, R 336, Value.bool true, I 181 0, R 337, VN, VN, VN, R 338, I 611 0, I 150 0, S "/claim/cut.py" 612] }
noncomputable def o_375 (P : Params) : Obj := fnO (T "function") F_Matrix_told "Matrix.told" 3 VN VN (S "paperhold.matrix" 548) (R 339)
noncomputable def o_376 (P : Params) : Obj := { cls := T "tuple", data := Data.seq #[S "a" 614, S "b" 615, S "c" 616, S "d" 617, S "e" 618, S "f" 619] }
noncomputable def o_377 (P : Params) : Obj := { cls := T "dict", data := Data.dict #[E P "__module__" 557 (S "paperhold.matrix" 548), E P "__firstlineno__" 561 (I 128 560), E P "__init__" 574 (R 307), E P "times" 582 (R 314), E P "applied" 591 (R 321), E P "shifted" 600 (R 328), E P "parts" 607 (R 335), E P "told" 613 (R 340), E P "__static_attributes__" 620 (R 341), E P "__dict__" 622 (R 344), E P "__weakref__" 624 (R 345), E P "__doc__" 625 VN] 4 }
noncomputable def o_378 (P : Params) : Obj := { cls := T "type", data := Data.cls { name := N "Matrix", bases := [T "object"], mro := [R 343, T "object"], ns := 342, qualname := N "Matrix" }, slots := #[none, none, some (S "Matrix" 550), some (S "Matrix" 558), some (Value.builtin "object.__new__"), some (Value.bool true)] }
noncomputable def o_379 (P : Params) : Obj := { cls := T "getset_descriptor", data := Data.fields #[S "__dict__" 621, R 343, Value.builtin "function.__dict__", Value.builtin "function.__dict__#set"] }
noncomputable def o_380 (P : Params) : Obj := { cls := T "getset_descriptor", data := Data.fields #[S "__weakref__" 623, R 343, Value.builtin "ExceptionGroup.__weakref__", VN] }
noncomputable def o_381 (P : Params) : Obj := { cls := T "super", data := Data.fields #[R 343, R 343, R 343] }
noncomputable def o_382 (P : Params) : Obj := { cls := T "builtin_function_or_method", data := Data.fields #[Value.builtin "object.__init_subclass__", R 343] }
noncomputable def o_383 (P : Params) : Obj := { cls := T "tuple", data := Data.seq #[] }
noncomputable def o_384 (P : Params) : Obj := { cls := VN, data := Data.fields #[] }
noncomputable def o_385 (P : Params) : Obj := { cls := T "tuple", data := Data.seq #[] }
noncomputable def o_386 (P : Params) : Obj := { cls := T "tuple", data := Data.seq #[] }
noncomputable def o_387 (P : Params) : Obj := fnO VN F_identity "identity" 0 VN VN VN VN
noncomputable def o_388 (P : Params) : Obj := { cls := T "code", data := Data.fields #[S "identity" 628, S "identity" 629, S "/claim/cut.py" 630, I 152 0, I 0 0, I 0 0, I 0 0, I 3 0, R 348, Value.bool true, I 181 0, R 349, VN, R 350, R 351, R 352, I 631 0, I 152 0, S "/claim/cut.py" 632] }
noncomputable def o_389 (P : Params) : Obj := fnO (T "function") F_identity "identity" 3 VN VN (S "paperhold.matrix" 548) (R 353)
noncomputable def o_390 (P : Params) : Obj := { cls := T "tuple", data := Data.seq #[] }
noncomputable def o_391 (P : Params) : Obj := { cls := T "builtin_function_or_method", data := Data.fields #[Value.builtin "type.__prepare__", T "type"] }
noncomputable def o_392 (P : Params) : Obj := { cls := T "dict", data := Data.dict #[E P "__module__" 643 (S "paperhold.inks" 634), E P "__qualname__" 645 (S "State" 644), E P "__firstlineno__" 647 (I 155 646), E P "__init__" 659 (R 368), E P "__static_attributes__" 665 (R 369)] 5 }
noncomputable def o_393 (P : Params) : Obj := { cls := T "tuple", data := Data.seq #[] }
noncomputable def o_394 (P : Params) : Obj := { cls := VN, data := Data.fields #[I 157 0, I 4 0, R 367] }
noncomputable def o_395 (P : Params) : Obj := { cls := T "code", data := Data.fields #[S "State" 638, S "State" 639, S "/claim/cut.py" 640, I 155 0, I 0 0, I 0 0, I 0 0, I 0 0, R 358, Value.bool false, I 181 0, R 359, VN, VN, VN, VN, I 641 0, I 155 0, S "/claim/cut.py" 642] }
noncomputable def o_396 (P : Params) : Obj := { cls := T "frame", slots := #[some (R 360), some (R 3), some (R 357), none, some (S "paperhold.inks" 634), none, some (R 0)] }
noncomputable def o_397 (P : Params) : Obj := { cls := T "tuple", data := Data.seq #[] }
noncomputable def o_398 (P : Params) : Obj := { cls := VN, data := Data.fields #[] }
noncomputable def o_399 (P : Params) : Obj := { cls := T "tuple", data := Data.seq #[S "self" 651, S "matrix" 652, S "clips" 653, S "fill" 654, S "stroke" 655, S "values" 656] }
noncomputable def o_400 (P : Params) : Obj := { cls := T "tuple", data := Data.seq #[] }
noncomputable def o_401 (P : Params) : Obj := fnO VN F_State___init__ "State.__init__" 0 VN VN VN VN
noncomputable def o_402 (P : Params) : Obj := { cls := T "code", data := Data.fields #[S "__init__" 648, S "State.__init__" 649, S "/claim/cut.py" 650, I 157 0, I 6 0, I 0 0, I 0 0, I 3 0, R 362, Value.bool true, I 181 0, R 363, VN, R 364, R 365, R 366, I 657 0, I 157 0, S "/claim/cut.py" 658] }
noncomputable def o_403 (P : Params) : Obj := fnO (T "function") F_State___init__ "State.__init__" 3 VN VN (S "paperhold.inks" 634) (R 367)
noncomputable def o_404 (P : Params) : Obj := { cls := T "tuple", data := Data.seq #[S "clips" 660, S "fill" 661, S "matrix" 662, S "stroke" 663, S "values" 664] }
noncomputable def o_405 (P : Params) : Obj := { cls := T "dict", data := Data.dict #[E P "__module__" 643 (S "paperhold.inks" 634), E P "__firstlineno__" 647 (I 155 646), E P "__init__" 659 (R 368), E P "__static_attributes__" 665 (R 369), E P "__dict__" 667 (R 372), E P "__weakref__" 669 (R 373), E P "__doc__" 670 VN] 4 }
noncomputable def o_406 (P : Params) : Obj := { cls := T "type", data := Data.cls { name := N "State", bases := [T "object"], mro := [R 371, T "object"], ns := 370, qualname := N "State" }, slots := #[none, none, some (S "State" 636), some (S "State" 644), some (Value.builtin "object.__new__"), some (Value.bool true)] }
noncomputable def o_407 (P : Params) : Obj := { cls := T "getset_descriptor", data := Data.fields #[S "__dict__" 666, R 371, Value.builtin "function.__dict__", Value.builtin "function.__dict__#set"] }
noncomputable def o_408 (P : Params) : Obj := { cls := T "getset_descriptor", data := Data.fields #[S "__weakref__" 668, R 371, Value.builtin "ExceptionGroup.__weakref__", VN] }
noncomputable def o_409 (P : Params) : Obj := { cls := T "super", data := Data.fields #[R 371, R 371, R 371] }
noncomputable def o_410 (P : Params) : Obj := { cls := T "builtin_function_or_method", data := Data.fields #[Value.builtin "object.__init_subclass__", R 371] }
noncomputable def o_411 (P : Params) : Obj := { cls := T "tuple", data := Data.seq #[] }
noncomputable def o_412 (P : Params) : Obj := { cls := VN, data := Data.fields #[] }
noncomputable def o_413 (P : Params) : Obj := { cls := T "tuple", data := Data.seq #[S "space" 676, S "zero" 677] }
noncomputable def o_414 (P : Params) : Obj := { cls := T "tuple", data := Data.seq #[] }
noncomputable def o_415 (P : Params) : Obj := fnO VN F_first_colour "first_colour" 0 VN VN VN VN
noncomputable def o_416 (P : Params) : Obj := { cls := T "code", data := Data.fields #[S "first_colour" 673, S "first_colour" 674, S "/claim/cut.py" 675, I 163 0, I 1 0, I 0 0, I 0 0, I 3 0, R 376, Value.bool true, I 181 0, R 377, VN, R 378, R 379, R 380, I 678 0, I 163 0, S "/claim/cut.py" 679] }
noncomputable def o_417 (P : Params) : Obj := fnO (T "function") F_first_colour "first_colour" 3 VN VN (S "paperhold.inks" 634) (R 381)
noncomputable def o_418 (P : Params) : Obj := { cls := T "tuple", data := Data.seq #[] }
noncomputable def o_419 (P : Params) : Obj := { cls := VN, data := Data.fields #[] }
noncomputable def o_420 (P : Params) : Obj := { cls := T "tuple", data := Data.seq #[S "zero" 684, S "found" 685, S "word" 686] }
noncomputable def o_421 (P : Params) : Obj := { cls := T "tuple", data := Data.seq #[] }
noncomputable def o_422 (P : Params) : Obj := fnO VN F_first_values "first_values" 0 VN VN VN VN
noncomputable def o_423 (P : Params) : Obj := { cls := T "code", data := Data.fields #[S "first_values" 681, S "first_values" 682, S "/claim/cut.py" 683, I 172 0, I 0 0, I 0 0, I 0 0, I 3 0, R 383, Value.bool true, I 181 0, R 384, VN, R 385, R 386, R 387, I 687 0, I 172 0, S "/claim/cut.py" 688] }
noncomputable def o_424 (P : Params) : Obj := fnO (T "function") F_first_values "first_values" 3 VN VN (S "paperhold.inks" 634) (R 388)
noncomputable def o_425 (P : Params) : Obj := { cls := T "tuple", data := Data.seq #[VN] }
noncomputable def o_426 (P : Params) : Obj := { cls := T "tuple", data := Data.seq #[] }
noncomputable def o_427 (P : Params) : Obj := { cls := VN, data := Data.fields #[] }
noncomputable def o_428 (P : Params) : Obj := { cls := T "tuple", data := Data.seq #[S "matrix" 693, S "start" 694] }
noncomputable def o_429 (P : Params) : Obj := { cls := T "tuple", data := Data.seq #[] }
noncomputable def o_430 (P : Params) : Obj := fnO VN F_first_state "first_state" 0 VN VN VN VN
noncomputable def o_431 (P : Params) : Obj := { cls := T "code", data := Data.fields #[S "first_state" 690, S "first_state" 691, S "/claim/cut.py" 692, I 181 0, I 1 0, I 0 0, I 0 0, I 3 0, R 391, Value.bool true, I 181 0, R 392, VN, R 393, R 394, R 395, I 695 0, I 181 0, S "/claim/cut.py" 696] }
noncomputable def o_432 (P : Params) : Obj := fnO (T "function") F_first_state "first_state" 3 (R 390) VN (S "paperhold.inks" 634) (R 396)
noncomputable def o_433 (P : Params) : Obj := { cls := T "tuple", data := Data.seq #[] }
noncomputable def o_434 (P : Params) : Obj := { cls := VN, data := Data.fields #[] }
noncomputable def o_435 (P : Params) : Obj := fnO VN F_numbers_of "numbers_of" 0 VN VN VN VN
noncomputable def o_436 (P : Params) : Obj := { cls := T "code", data := Data.fields #[S "numbers_of" 698, S "numbers_of" 699, S "/claim/cut.py" 700, I 184 0, I 2 0, I 0 0, I 0 0, I 3 0, R 398, Value.bool true, I 181 0, R 399, VN, VN, VN, R 400, I 701 0, I 184 0, S "/claim/cut.py" 702] }
noncomputable def o_437 (P : Params) : Obj := fnO (T "function") F_numbers_of "numbers_of" 3 VN VN (S "paperhold.inks" 634) (R 401)
noncomputable def o_438 (P : Params) : Obj := { cls := T "tuple", data := Data.seq #[] }
noncomputable def o_439 (P : Params) : Obj := { cls := VN, data := Data.fields #[] }
noncomputable def o_440 (P : Params) : Obj := { cls := T "tuple", data := Data.seq #[S "values" 707] }
noncomputable def o_441 (P : Params) : Obj := { cls := T "tuple", data := Data.seq #[] }
noncomputable def o_442 (P : Params) : Obj := fnO VN F_name_of "name_of" 0 VN VN VN VN
noncomputable def o_443 (P : Params) : Obj := { cls := T "code", data := Data.fields #[S "name_of" 704, S "name_of" 705, S "/claim/cut.py" 706, I 191 0, I 1 0, I 0 0, I 0 0, I 3 0, R 403, Value.bool true, I 181 0, R 404, VN, R 405, R 406, R 407, I 708 0, I 191 0, S "/claim/cut.py" 709] }
noncomputable def o_444 (P : Params) : Obj := fnO (T "function") F_name_of "name_of" 3 VN VN (S "paperhold.inks" 634) (R 408)
noncomputable def o_445 (P : Params) : Obj := { cls := T "tuple", data := Data.seq #[] }
noncomputable def o_446 (P : Params) : Obj := { cls := VN, data := Data.fields #[] }
noncomputable def o_447 (P : Params) : Obj := { cls := T "tuple", data := Data.seq #[S "values" 714, S "count" 715, S "found" 716, S "number" 717] }
noncomputable def o_448 (P : Params) : Obj := { cls := T "tuple", data := Data.seq #[] }
noncomputable def o_449 (P : Params) : Obj := fnO VN F_colour_parts "colour_parts" 0 VN VN VN VN
noncomputable def o_450 (P : Params) : Obj := { cls := T "code", data := Data.fields #[S "colour_parts" 711, S "colour_parts" 712, S "/claim/cut.py" 713, I 195 0, I 2 0, I 0 0, I 0 0, I 3 0, R 410, Value.bool true, I 181 0, R 411, VN, R 412, R 413, R 414, I 718 0, I 195 0, S "/claim/cut.py" 719] }
noncomputable def o_451 (P : Params) : Obj := fnO (T "function") F_colour_parts "colour_parts" 3 VN VN (S "paperhold.inks" 634) (R 415)
noncomputable def o_452 (P : Params) : Obj := { cls := T "tuple", data := Data.seq #[] }
noncomputable def o_453 (P : Params) : Obj := { cls := VN, data := Data.fields #[] }
noncomputable def o_454 (P : Params) : Obj := { cls := T "tuple", data := Data.seq #[S "space" 724, S "counts" 725] }
noncomputable def o_455 (P : Params) : Obj := { cls := T "tuple", data := Data.seq #[] }
noncomputable def o_456 (P : Params) : Obj := fnO VN F_device_count "device_count" 0 VN VN VN VN
noncomputable def o_457 (P : Params) : Obj := { cls := T "code", data := Data.fields #[S "device_count" 721, S "device_count" 722, S "/claim/cut.py" 723, I 205 0, I 1 0, I 0 0, I 0 0, I 3 0, R 417, Value.bool true, I 181 0, R 418, VN, R 419, R 420, R 421, I 726 0, I 205 0, S "/claim/cut.py" 727] }
noncomputable def o_458 (P : Params) : Obj := fnO (T "function") F_device_count "device_count" 3 VN VN (S "paperhold.inks" 634) (R 422)
noncomputable def o_459 (P : Params) : Obj := { cls := T "tuple", data := Data.seq #[] }
noncomputable def o_460 (P : Params) : Obj := { cls := VN, data := Data.fields #[] }
noncomputable def o_461 (P : Params) : Obj := { cls := T "tuple", data := Data.seq #[S "space" 732, S "values" 733, S "count" 734] }
noncomputable def o_462 (P : Params) : Obj := { cls := T "tuple", data := Data.seq #[] }
noncomputable def o_463 (P : Params) : Obj := fnO VN F_own_colour "own_colour" 0 VN VN VN VN
noncomputable def o_464 (P : Params) : Obj := { cls := T "code", data := Data.fields #[S "own_colour" 729, S "own_colour" 730, S "/claim/cut.py" 731, I 208 0, I 2 0, I 0 0, I 0 0, I 3 0, R 424, Value.bool true, I 181 0, R 425, VN, R 426, R 427, R 428, I 735 0, I 208 0, S "/claim/cut.py" 736] }
noncomputable def o_465 (P : Params) : Obj := fnO (T "function") F_own_colour "own_colour" 3 VN VN (S "paperhold.inks" 634) (R 429)
noncomputable def o_466 (P : Params) : Obj := { cls := T "tuple", data := Data.seq #[] }
noncomputable def o_467 (P : Params) : Obj := { cls := VN, data := Data.fields #[] }
noncomputable def o_468 (P : Params) : Obj := { cls := T "tuple", data := Data.seq #[S "state" 741, S "word" 742, S "values" 743, S "is_fill" 744, S "plain" 745, S "before" 746, S "space" 747, S "colour" 748] }
noncomputable def o_469 (P : Params) : Obj := { cls := T "tuple", data := Data.seq #[] }
noncomputable def o_470 (P : Params) : Obj := fnO VN F_set_colour "set_colour" 0 VN VN VN VN
noncomputable def o_471 (P : Params) : Obj := { cls := T "code", data := Data.fields #[S "set_colour" 738, S "set_colour" 739, S "/claim/cut.py" 740, I 215 0, I 3 0, I 0 0, I 0 0, I 3 0, R 431, Value.bool true, I 181 0, R 432, VN, R 433, R 434, R 435, I 749 0, I 215 0, S "/claim/cut.py" 750] }
noncomputable def o_472 (P : Params) : Obj := fnO (T "function") F_set_colour "set_colour" 3 VN VN (S "paperhold.inks" 634) (R 436)
noncomputable def o_473 (P : Params) : Obj := { cls := T "tuple", data := Data.seq #[] }
noncomputable def o_474 (P : Params) : Obj := { cls := VN, data := Data.fields #[] }
noncomputable def o_475 (P : Params) : Obj := fnO VN F__law_box "_law_box" 0 VN VN VN VN
noncomputable def o_476 (P : Params) : Obj := { cls := T "code", data := Data.fields #[S "_law_box" 754, S "_law_box" 755, S "/claim/cut.py" 756, I 231 0, I 1 0, I 0 0, I 0 0, I 3 0, R 438, Value.bool true, I 181 0, R 439, VN, VN, VN, R 440, I 757 0, I 231 0, S "/claim/cut.py" 758] }
noncomputable def o_477 (P : Params) : Obj := fnO (T "function") F__law_box "_law_box" 3 VN VN (S "law_og0172_01" 752) (R 441)
noncomputable def o_478 (P : Params) : Obj := { cls := T "tuple", data := Data.seq #[] }
noncomputable def o_479 (P : Params) : Obj := { cls := VN, data := Data.fields #[] }
noncomputable def o_480 (P : Params) : Obj := { cls := T "tuple", data := Data.seq #[S "pool" 763, S "most" 764, S "place" 765, S "digit" 766] }
noncomputable def o_481 (P : Params) : Obj := { cls := T "tuple", data := Data.seq #[] }
noncomputable def o_482 (P : Params) : Obj := fnO VN F__law_draw "_law_draw" 0 VN VN VN VN
noncomputable def o_483 (P : Params) : Obj := { cls := T "code", data := Data.fields #[S "_law_draw" 760, S "_law_draw" 761, S "/claim/cut.py" 762, I 240 0, I 2 0, I 0 0, I 0 0, I 3 0, R 443, Value.bool true, I 181 0, R 444, VN, R 445, R 446, R 447, I 767 0, I 240 0, S "/claim/cut.py" 768] }
noncomputable def o_484 (P : Params) : Obj := fnO (T "function") F__law_draw "_law_draw" 3 VN VN (S "law_og0172_01" 752) (R 448)
noncomputable def o_485 (P : Params) : Obj := { cls := T "tuple", data := Data.seq #[] }
noncomputable def o_486 (P : Params) : Obj := { cls := VN, data := Data.fields #[] }
noncomputable def o_487 (P : Params) : Obj := { cls := T "tuple", data := Data.seq #[S "pool" 773, S "way" 774] }
noncomputable def o_488 (P : Params) : Obj := { cls := T "tuple", data := Data.seq #[] }
noncomputable def o_489 (P : Params) : Obj := fnO VN F__law_operand "_law_operand" 0 VN VN VN VN
noncomputable def o_490 (P : Params) : Obj := { cls := T "code", data := Data.fields #[S "_law_operand" 770, S "_law_operand" 771, S "/claim/cut.py" 772, I 251 0, I 1 0, I 0 0, I 0 0, I 3 0, R 450, Value.bool true, I 181 0, R 451, VN, R 452, R 453, R 454, I 775 0, I 251 0, S "/claim/cut.py" 776] }
noncomputable def o_491 (P : Params) : Obj := fnO (T "function") F__law_operand "_law_operand" 3 VN VN (S "law_og0172_01" 752) (R 455)
noncomputable def o_492 (P : Params) : Obj := { cls := T "tuple", data := Data.seq #[] }
noncomputable def o_493 (P : Params) : Obj := { cls := VN, data := Data.fields #[] }
noncomputable def o_494 (P : Params) : Obj := fnO VN F__law_told "_law_told" 0 VN VN VN VN
noncomputable def o_495 (P : Params) : Obj := { cls := T "code", data := Data.fields #[S "_law_told" 778, S "_law_told" 779, S "/claim/cut.py" 780, I 258 0, I 1 0, I 0 0, I 0 0, I 3 0, R 457, Value.bool true, I 181 0, R 458, VN, VN, VN, R 459, I 781 0, I 258 0, S "/claim/cut.py" 782] }
noncomputable def o_496 (P : Params) : Obj := fnO (T "function") F__law_told "_law_told" 3 VN VN (S "law_og0172_01" 752) (R 460)
noncomputable def o_497 (P : Params) : Obj := { cls := T "tuple", data := Data.seq #[] }
noncomputable def o_498 (P : Params) : Obj := { cls := VN, data := Data.fields #[] }
noncomputable def o_499 (P : Params) : Obj := fnO VN F__law_due "_law_due" 0 VN VN VN VN
noncomputable def o_500 (P : Params) : Obj := { cls := T "code", data := Data.fields #[S "_law_due" 784, S "_law_due" 785, S "/claim/cut.py" 786, I 260 0, I 2 0, I 0 0, I 0 0, I 3 0, R 462, Value.bool true, I 181 0, R 463, VN, VN, VN, R 464, I 787 0, I 260 0, S "/claim/cut.py" 788] }
noncomputable def o_501 (P : Params) : Obj := fnO (T "function") F__law_due "_law_due" 3 VN VN (S "law_og0172_01" 752) (R 465)
noncomputable def o_502 (P : Params) : Obj := { cls := T "tuple", data := Data.seq #[] }
noncomputable def o_503 (P : Params) : Obj := { cls := VN, data := Data.fields #[] }
noncomputable def o_504 (P : Params) : Obj := fnO VN F_law "law" 0 VN VN VN VN
noncomputable def o_505 (P : Params) : Obj := { cls := T "code", data := Data.fields #[S "law" 790, S "law" 791, S "/claim/cut.py" 792, I 272 0, I 1 0, I 0 0, I 0 0, I 3 0, R 467, Value.bool true, I 181 0, R 468, VN, VN, VN, R 469, I 793 0, I 272 0, S "/claim/cut.py" 794] }
noncomputable def o_506 (P : Params) : Obj := fnO (T "function") F_law "law" 3 VN VN (S "law_og0172_01" 752) (R 470)
noncomputable def heapA (P : Params) : Heap := { objs := Array.mk (boot_o_0 P :: boot_o_1 P :: boot_o_2 P :: boot_o_3 P :: boot_o_4 P :: boot_o_5 P :: boot_o_6 P :: boot_o_7 P :: boot_o_8 P :: boot_o_9 P :: boot_o_10 P :: o_43 P :: o_44 P :: o_45 P :: o_46 P :: []) }
noncomputable def heapF (P : Params) : Heap := { objs := Array.mk (boot_o_0 P :: boot_o_1 P :: o_47 P :: o_48 P :: boot_o_4 P :: boot_o_5 P :: boot_o_6 P :: boot_o_7 P :: boot_o_8 P :: boot_o_9 P :: boot_o_10 P :: o_43 P :: o_49 P :: o_45 P :: o_46 P :: o_50 P :: o_51 P :: o_52 P :: o_53 P :: o_54 P :: o_55 P :: o_56 P :: o_57 P :: o_58 P :: o_59 P :: o_60 P :: o_61 P :: o_62 P :: o_63 P :: o_64 P :: o_65 P :: o_66 P :: o_67 P :: o_68 P :: o_69 P :: o_70 P :: o_71 P :: o_72 P :: o_73 P :: o_74 P :: o_75 P :: o_76 P :: o_77 P :: o_78 P :: o_79 P :: o_80 P :: o_81 P :: o_82 P :: o_83 P :: o_84 P :: o_85 P :: o_86 P :: o_87 P :: o_88 P :: o_89 P :: o_90 P :: o_91 P :: o_92 P :: o_93 P :: o_94 P :: o_95 P :: o_96 P :: o_97 P :: o_98 P :: o_99 P :: o_100 P :: o_101 P :: o_102 P :: o_103 P :: o_104 P :: o_105 P :: o_106 P :: o_107 P :: o_108 P :: o_109 P :: o_110 P :: o_111 P :: o_112 P :: o_113 P :: o_114 P :: o_115 P :: o_116 P :: o_117 P :: o_118 P :: o_119 P :: o_120 P :: o_121 P :: o_122 P :: o_123 P :: o_124 P :: o_125 P :: o_126 P :: o_127 P :: o_128 P :: o_129 P :: o_130 P :: o_131 P :: o_132 P :: o_133 P :: o_134 P :: o_135 P :: o_136 P :: o_137 P :: o_138 P :: o_139 P :: o_140 P :: o_141 P :: o_142 P :: o_143 P :: o_144 P :: o_145 P :: o_146 P :: o_147 P :: o_148 P :: o_149 P :: o_150 P :: o_151 P :: o_152 P :: o_153 P :: o_154 P :: o_155 P :: o_156 P :: o_157 P :: o_158 P :: o_159 P :: o_160 P :: o_161 P :: o_162 P :: o_163 P :: o_164 P :: o_165 P :: o_166 P :: o_167 P :: o_168 P :: o_169 P :: o_170 P :: o_171 P :: o_172 P :: o_173 P :: o_174 P :: o_175 P :: o_176 P :: o_177 P :: o_178 P :: o_179 P :: o_180 P :: o_181 P :: o_182 P :: o_183 P :: o_184 P :: o_185 P :: o_186 P :: o_187 P :: o_188 P :: o_189 P :: o_190 P :: o_191 P :: o_192 P :: o_193 P :: o_194 P :: o_195 P :: o_196 P :: o_197 P :: o_198 P :: o_199 P :: o_200 P :: o_201 P :: o_202 P :: o_203 P :: o_204 P :: o_205 P :: o_206 P :: o_207 P :: o_208 P :: o_209 P :: o_210 P :: o_211 P :: o_212 P :: o_213 P :: o_214 P :: o_215 P :: o_216 P :: o_217 P :: o_218 P :: o_219 P :: o_220 P :: o_221 P :: o_222 P :: o_223 P :: o_224 P :: o_225 P :: o_226 P :: o_227 P :: o_228 P :: o_229 P :: o_230 P :: o_231 P :: o_232 P :: o_233 P :: o_234 P :: o_235 P :: o_236 P :: o_237 P :: o_238 P :: o_239 P :: o_240 P :: o_241 P :: o_242 P :: o_243 P :: o_244 P :: o_245 P :: o_246 P :: o_247 P :: o_248 P :: o_249 P :: o_250 P :: o_251 P :: o_252 P :: o_253 P :: o_254 P :: o_255 P :: o_256 P :: o_257 P :: o_258 P :: o_259 P :: o_260 P :: o_261 P :: o_262 P :: o_263 P :: o_264 P :: o_265 P :: o_266 P :: o_267 P :: o_268 P :: o_269 P :: o_270 P :: o_271 P :: o_272 P :: o_273 P :: o_274 P :: o_275 P :: o_276 P :: o_277 P :: o_278 P :: o_279 P :: o_280 P :: o_281 P :: o_282 P :: o_283 P :: o_284 P :: o_285 P :: o_286 P :: o_287 P :: o_288 P :: o_289 P :: o_290 P :: o_291 P :: o_292 P :: o_293 P :: o_294 P :: o_295 P :: o_296 P :: o_297 P :: o_298 P :: o_299 P :: o_300 P :: o_301 P :: o_302 P :: o_303 P :: o_304 P :: o_305 P :: o_306 P :: o_307 P :: o_308 P :: o_309 P :: o_310 P :: o_311 P :: o_312 P :: o_313 P :: o_314 P :: o_315 P :: o_316 P :: o_317 P :: o_318 P :: o_319 P :: o_320 P :: o_321 P :: o_322 P :: o_323 P :: o_324 P :: o_325 P :: o_326 P :: o_327 P :: o_328 P :: o_329 P :: o_330 P :: o_331 P :: o_332 P :: o_333 P :: o_334 P :: o_335 P :: o_336 P :: o_337 P :: o_338 P :: o_339 P :: o_340 P :: o_341 P :: o_342 P :: o_343 P :: o_344 P :: o_345 P :: o_346 P :: o_347 P :: o_348 P :: o_349 P :: o_350 P :: o_351 P :: o_352 P :: o_353 P :: o_354 P :: o_355 P :: o_356 P :: o_357 P :: o_358 P :: o_359 P :: o_360 P :: o_361 P :: o_362 P :: o_363 P :: o_364 P :: o_365 P :: o_366 P :: o_367 P :: o_368 P :: o_369 P :: o_370 P :: o_371 P :: o_372 P :: o_373 P :: o_374 P :: o_375 P :: o_376 P :: o_377 P :: o_378 P :: o_379 P :: o_380 P :: o_381 P :: o_382 P :: o_383 P :: o_384 P :: o_385 P :: o_386 P :: o_387 P :: o_388 P :: o_389 P :: o_390 P :: o_391 P :: o_392 P :: o_393 P :: o_394 P :: o_395 P :: o_396 P :: o_397 P :: o_398 P :: o_399 P :: o_400 P :: o_401 P :: o_402 P :: o_403 P :: o_404 P :: o_405 P :: o_406 P :: o_407 P :: o_408 P :: o_409 P :: o_410 P :: o_411 P :: o_412 P :: o_413 P :: o_414 P :: o_415 P :: o_416 P :: o_417 P :: o_418 P :: o_419 P :: o_420 P :: o_421 P :: o_422 P :: o_423 P :: o_424 P :: o_425 P :: o_426 P :: o_427 P :: o_428 P :: o_429 P :: o_430 P :: o_431 P :: o_432 P :: o_433 P :: o_434 P :: o_435 P :: o_436 P :: o_437 P :: o_438 P :: o_439 P :: o_440 P :: o_441 P :: o_442 P :: o_443 P :: o_444 P :: o_445 P :: o_446 P :: o_447 P :: o_448 P :: o_449 P :: o_450 P :: o_451 P :: o_452 P :: o_453 P :: o_454 P :: o_455 P :: o_456 P :: o_457 P :: o_458 P :: o_459 P :: o_460 P :: o_461 P :: o_462 P :: o_463 P :: o_464 P :: o_465 P :: o_466 P :: o_467 P :: o_468 P :: o_469 P :: o_470 P :: o_471 P :: o_472 P :: o_473 P :: o_474 P :: o_475 P :: o_476 P :: o_477 P :: o_478 P :: o_479 P :: o_480 P :: o_481 P :: o_482 P :: o_483 P :: o_484 P :: o_485 P :: o_486 P :: o_487 P :: o_488 P :: o_489 P :: o_490 P :: o_491 P :: o_492 P :: o_493 P :: o_494 P :: o_495 P :: o_496 P :: o_497 P :: o_498 P :: o_499 P :: o_500 P :: o_501 P :: o_502 P :: o_503 P :: o_504 P :: o_505 P :: o_506 P :: []) }
noncomputable def treeA (P : Params) : BT := .node (boot_o_0 P) (.node (boot_o_1 P) (.node (boot_o_3 P) (.node (boot_o_7 P) .nil .nil) (.node (o_43 P) .nil .nil)) (.node (boot_o_5 P) (.node (boot_o_9 P) .nil .nil) (.node (o_45 P) .nil .nil))) (.node (boot_o_2 P) (.node (boot_o_4 P) (.node (boot_o_8 P) .nil .nil) (.node (o_44 P) .nil .nil)) (.node (boot_o_6 P) (.node (boot_o_10 P) .nil .nil) (.node (o_46 P) .nil .nil)))
noncomputable def treeF (P : Params) : BT := .node (boot_o_0 P) (.node (boot_o_1 P) (.node (o_48 P) (.node (boot_o_7 P) (.node (o_50 P) (.node (o_66 P) (.node (o_98 P) (.node (o_162 P) (.node (o_290 P) .nil .nil) (.node (o_418 P) .nil .nil)) (.node (o_226 P) (.node (o_354 P) .nil .nil) (.node (o_482 P) .nil .nil))) (.node (o_130 P) (.node (o_194 P) (.node (o_322 P) .nil .nil) (.node (o_450 P) .nil .nil)) (.node (o_258 P) (.node (o_386 P) .nil .nil) .nil))) (.node (o_82 P) (.node (o_114 P) (.node (o_178 P) (.node (o_306 P) .nil .nil) (.node (o_434 P) .nil .nil)) (.node (o_242 P) (.node (o_370 P) .nil .nil) (.node (o_498 P) .nil .nil))) (.node (o_146 P) (.node (o_210 P) (.node (o_338 P) .nil .nil) (.node (o_466 P) .nil .nil)) (.node (o_274 P) (.node (o_402 P) .nil .nil) .nil)))) (.node (o_58 P) (.node (o_74 P) (.node (o_106 P) (.node (o_170 P) (.node (o_298 P) .nil .nil) (.node (o_426 P) .nil .nil)) (.node (o_234 P) (.node (o_362 P) .nil .nil) (.node (o_490 P) .nil .nil))) (.node (o_138 P) (.node (o_202 P) (.node (o_330 P) .nil .nil) (.node (o_458 P) .nil .nil)) (.node (o_266 P) (.node (o_394 P) .nil .nil) .nil))) (.node (o_90 P) (.node (o_122 P) (.node (o_186 P) (.node (o_314 P) .nil .nil) (.node (o_442 P) .nil .nil)) (.node (o_250 P) (.node (o_378 P) .nil .nil) (.node (o_506 P) .nil .nil))) (.node (o_154 P) (.node (o_218 P) (.node (o_346 P) .nil .nil) (.node (o_474 P) .nil .nil)) (.node (o_282 P) (.node (o_410 P) .nil .nil) .nil))))) (.node (o_43 P) (.node (o_54 P) (.node (o_70 P) (.node (o_102 P) (.node (o_166 P) (.node (o_294 P) .nil .nil) (.node (o_422 P) .nil .nil)) (.node (o_230 P) (.node (o_358 P) .nil .nil) (.node (o_486 P) .nil .nil))) (.node (o_134 P) (.node (o_198 P) (.node (o_326 P) .nil .nil) (.node (o_454 P) .nil .nil)) (.node (o_262 P) (.node (o_390 P) .nil .nil) .nil))) (.node (o_86 P) (.node (o_118 P) (.node (o_182 P) (.node (o_310 P) .nil .nil) (.node (o_438 P) .nil .nil)) (.node (o_246 P) (.node (o_374 P) .nil .nil) (.node (o_502 P) .nil .nil))) (.node (o_150 P) (.node (o_214 P) (.node (o_342 P) .nil .nil) (.node (o_470 P) .nil .nil)) (.node (o_278 P) (.node (o_406 P) .nil .nil) .nil)))) (.node (o_62 P) (.node (o_78 P) (.node (o_110 P) (.node (o_174 P) (.node (o_302 P) .nil .nil) (.node (o_430 P) .nil .nil)) (.node (o_238 P) (.node (o_366 P) .nil .nil) (.node (o_494 P) .nil .nil))) (.node (o_142 P) (.node (o_206 P) (.node (o_334 P) .nil .nil) (.node (o_462 P) .nil .nil)) (.node (o_270 P) (.node (o_398 P) .nil .nil) .nil))) (.node (o_94 P) (.node (o_126 P) (.node (o_190 P) (.node (o_318 P) .nil .nil) (.node (o_446 P) .nil .nil)) (.node (o_254 P) (.node (o_382 P) .nil .nil) .nil)) (.node (o_158 P) (.node (o_222 P) (.node (o_350 P) .nil .nil) (.node (o_478 P) .nil .nil)) (.node (o_286 P) (.node (o_414 P) .nil .nil) .nil)))))) (.node (boot_o_5 P) (.node (boot_o_9 P) (.node (o_52 P) (.node (o_68 P) (.node (o_100 P) (.node (o_164 P) (.node (o_292 P) .nil .nil) (.node (o_420 P) .nil .nil)) (.node (o_228 P) (.node (o_356 P) .nil .nil) (.node (o_484 P) .nil .nil))) (.node (o_132 P) (.node (o_196 P) (.node (o_324 P) .nil .nil) (.node (o_452 P) .nil .nil)) (.node (o_260 P) (.node (o_388 P) .nil .nil) .nil))) (.node (o_84 P) (.node (o_116 P) (.node (o_180 P) (.node (o_308 P) .nil .nil) (.node (o_436 P) .nil .nil)) (.node (o_244 P) (.node (o_372 P) .nil .nil) (.node (o_500 P) .nil .nil))) (.node (o_148 P) (.node (o_212 P) (.node (o_340 P) .nil .nil) (.node (o_468 P) .nil .nil)) (.node (o_276 P) (.node (o_404 P) .nil .nil) .nil)))) (.node (o_60 P) (.node (o_76 P) (.node (o_108 P) (.node (o_172 P) (.node (o_300 P) .nil .nil) (.node (o_428 P) .nil .nil)) (.node (o_236 P) (.node (o_364 P) .nil .nil) (.node (o_492 P) .nil .nil))) (.node (o_140 P) (.node (o_204 P) (.node (o_332 P) .nil .nil) (.node (o_460 P) .nil .nil)) (.node (o_268 P) (.node (o_396 P) .nil .nil) .nil))) (.node (o_92 P) (.node (o_124 P) (.node (o_188 P) (.node (o_316 P) .nil .nil) (.node (o_444 P) .nil .nil)) (.node (o_252 P) (.node (o_380 P) .nil .nil) .nil)) (.node (o_156 P) (.node (o_220 P) (.node (o_348 P) .nil .nil) (.node (o_476 P) .nil .nil)) (.node (o_284 P) (.node (o_412 P) .nil .nil) .nil))))) (.node (o_45 P) (.node (o_56 P) (.node (o_72 P) (.node (o_104 P) (.node (o_168 P) (.node (o_296 P) .nil .nil) (.node (o_424 P) .nil .nil)) (.node (o_232 P) (.node (o_360 P) .nil .nil) (.node (o_488 P) .nil .nil))) (.node (o_136 P) (.node (o_200 P) (.node (o_328 P) .nil .nil) (.node (o_456 P) .nil .nil)) (.node (o_264 P) (.node (o_392 P) .nil .nil) .nil))) (.node (o_88 P) (.node (o_120 P) (.node (o_184 P) (.node (o_312 P) .nil .nil) (.node (o_440 P) .nil .nil)) (.node (o_248 P) (.node (o_376 P) .nil .nil) (.node (o_504 P) .nil .nil))) (.node (o_152 P) (.node (o_216 P) (.node (o_344 P) .nil .nil) (.node (o_472 P) .nil .nil)) (.node (o_280 P) (.node (o_408 P) .nil .nil) .nil)))) (.node (o_64 P) (.node (o_80 P) (.node (o_112 P) (.node (o_176 P) (.node (o_304 P) .nil .nil) (.node (o_432 P) .nil .nil)) (.node (o_240 P) (.node (o_368 P) .nil .nil) (.node (o_496 P) .nil .nil))) (.node (o_144 P) (.node (o_208 P) (.node (o_336 P) .nil .nil) (.node (o_464 P) .nil .nil)) (.node (o_272 P) (.node (o_400 P) .nil .nil) .nil))) (.node (o_96 P) (.node (o_128 P) (.node (o_192 P) (.node (o_320 P) .nil .nil) (.node (o_448 P) .nil .nil)) (.node (o_256 P) (.node (o_384 P) .nil .nil) .nil)) (.node (o_160 P) (.node (o_224 P) (.node (o_352 P) .nil .nil) (.node (o_480 P) .nil .nil)) (.node (o_288 P) (.node (o_416 P) .nil .nil) .nil))))))) (.node (o_47 P) (.node (boot_o_4 P) (.node (boot_o_8 P) (.node (o_51 P) (.node (o_67 P) (.node (o_99 P) (.node (o_163 P) (.node (o_291 P) .nil .nil) (.node (o_419 P) .nil .nil)) (.node (o_227 P) (.node (o_355 P) .nil .nil) (.node (o_483 P) .nil .nil))) (.node (o_131 P) (.node (o_195 P) (.node (o_323 P) .nil .nil) (.node (o_451 P) .nil .nil)) (.node (o_259 P) (.node (o_387 P) .nil .nil) .nil))) (.node (o_83 P) (.node (o_115 P) (.node (o_179 P) (.node (o_307 P) .nil .nil) (.node (o_435 P) .nil .nil)) (.node (o_243 P) (.node (o_371 P) .nil .nil) (.node (o_499 P) .nil .nil))) (.node (o_147 P) (.node (o_211 P) (.node (o_339 P) .nil .nil) (.node (o_467 P) .nil .nil)) (.node (o_275 P) (.node (o_403 P) .nil .nil) .nil)))) (.node (o_59 P) (.node (o_75 P) (.node (o_107 P) (.node (o_171 P) (.node (o_299 P) .nil .nil) (.node (o_427 P) .nil .nil)) (.node (o_235 P) (.node (o_363 P) .nil .nil) (.node (o_491 P) .nil .nil))) (.node (o_139 P) (.node (o_203 P) (.node (o_331 P) .nil .nil) (.node (o_459 P) .nil .nil)) (.node (o_267 P) (.node (o_395 P) .nil .nil) .nil))) (.node (o_91 P) (.node (o_123 P) (.node (o_187 P) (.node (o_315 P) .nil .nil) (.node (o_443 P) .nil .nil)) (.node (o_251 P) (.node (o_379 P) .nil .nil) .nil)) (.node (o_155 P) (.node (o_219 P) (.node (o_347 P) .nil .nil) (.node (o_475 P) .nil .nil)) (.node (o_283 P) (.node (o_411 P) .nil .nil) .nil))))) (.node (o_49 P) (.node (o_55 P) (.node (o_71 P) (.node (o_103 P) (.node (o_167 P) (.node (o_295 P) .nil .nil) (.node (o_423 P) .nil .nil)) (.node (o_231 P) (.node (o_359 P) .nil .nil) (.node (o_487 P) .nil .nil))) (.node (o_135 P) (.node (o_199 P) (.node (o_327 P) .nil .nil) (.node (o_455 P) .nil .nil)) (.node (o_263 P) (.node (o_391 P) .nil .nil) .nil))) (.node (o_87 P) (.node (o_119 P) (.node (o_183 P) (.node (o_311 P) .nil .nil) (.node (o_439 P) .nil .nil)) (.node (o_247 P) (.node (o_375 P) .nil .nil) (.node (o_503 P) .nil .nil))) (.node (o_151 P) (.node (o_215 P) (.node (o_343 P) .nil .nil) (.node (o_471 P) .nil .nil)) (.node (o_279 P) (.node (o_407 P) .nil .nil) .nil)))) (.node (o_63 P) (.node (o_79 P) (.node (o_111 P) (.node (o_175 P) (.node (o_303 P) .nil .nil) (.node (o_431 P) .nil .nil)) (.node (o_239 P) (.node (o_367 P) .nil .nil) (.node (o_495 P) .nil .nil))) (.node (o_143 P) (.node (o_207 P) (.node (o_335 P) .nil .nil) (.node (o_463 P) .nil .nil)) (.node (o_271 P) (.node (o_399 P) .nil .nil) .nil))) (.node (o_95 P) (.node (o_127 P) (.node (o_191 P) (.node (o_319 P) .nil .nil) (.node (o_447 P) .nil .nil)) (.node (o_255 P) (.node (o_383 P) .nil .nil) .nil)) (.node (o_159 P) (.node (o_223 P) (.node (o_351 P) .nil .nil) (.node (o_479 P) .nil .nil)) (.node (o_287 P) (.node (o_415 P) .nil .nil) .nil)))))) (.node (boot_o_6 P) (.node (boot_o_10 P) (.node (o_53 P) (.node (o_69 P) (.node (o_101 P) (.node (o_165 P) (.node (o_293 P) .nil .nil) (.node (o_421 P) .nil .nil)) (.node (o_229 P) (.node (o_357 P) .nil .nil) (.node (o_485 P) .nil .nil))) (.node (o_133 P) (.node (o_197 P) (.node (o_325 P) .nil .nil) (.node (o_453 P) .nil .nil)) (.node (o_261 P) (.node (o_389 P) .nil .nil) .nil))) (.node (o_85 P) (.node (o_117 P) (.node (o_181 P) (.node (o_309 P) .nil .nil) (.node (o_437 P) .nil .nil)) (.node (o_245 P) (.node (o_373 P) .nil .nil) (.node (o_501 P) .nil .nil))) (.node (o_149 P) (.node (o_213 P) (.node (o_341 P) .nil .nil) (.node (o_469 P) .nil .nil)) (.node (o_277 P) (.node (o_405 P) .nil .nil) .nil)))) (.node (o_61 P) (.node (o_77 P) (.node (o_109 P) (.node (o_173 P) (.node (o_301 P) .nil .nil) (.node (o_429 P) .nil .nil)) (.node (o_237 P) (.node (o_365 P) .nil .nil) (.node (o_493 P) .nil .nil))) (.node (o_141 P) (.node (o_205 P) (.node (o_333 P) .nil .nil) (.node (o_461 P) .nil .nil)) (.node (o_269 P) (.node (o_397 P) .nil .nil) .nil))) (.node (o_93 P) (.node (o_125 P) (.node (o_189 P) (.node (o_317 P) .nil .nil) (.node (o_445 P) .nil .nil)) (.node (o_253 P) (.node (o_381 P) .nil .nil) .nil)) (.node (o_157 P) (.node (o_221 P) (.node (o_349 P) .nil .nil) (.node (o_477 P) .nil .nil)) (.node (o_285 P) (.node (o_413 P) .nil .nil) .nil))))) (.node (o_46 P) (.node (o_57 P) (.node (o_73 P) (.node (o_105 P) (.node (o_169 P) (.node (o_297 P) .nil .nil) (.node (o_425 P) .nil .nil)) (.node (o_233 P) (.node (o_361 P) .nil .nil) (.node (o_489 P) .nil .nil))) (.node (o_137 P) (.node (o_201 P) (.node (o_329 P) .nil .nil) (.node (o_457 P) .nil .nil)) (.node (o_265 P) (.node (o_393 P) .nil .nil) .nil))) (.node (o_89 P) (.node (o_121 P) (.node (o_185 P) (.node (o_313 P) .nil .nil) (.node (o_441 P) .nil .nil)) (.node (o_249 P) (.node (o_377 P) .nil .nil) (.node (o_505 P) .nil .nil))) (.node (o_153 P) (.node (o_217 P) (.node (o_345 P) .nil .nil) (.node (o_473 P) .nil .nil)) (.node (o_281 P) (.node (o_409 P) .nil .nil) .nil)))) (.node (o_65 P) (.node (o_81 P) (.node (o_113 P) (.node (o_177 P) (.node (o_305 P) .nil .nil) (.node (o_433 P) .nil .nil)) (.node (o_241 P) (.node (o_369 P) .nil .nil) (.node (o_497 P) .nil .nil))) (.node (o_145 P) (.node (o_209 P) (.node (o_337 P) .nil .nil) (.node (o_465 P) .nil .nil)) (.node (o_273 P) (.node (o_401 P) .nil .nil) .nil))) (.node (o_97 P) (.node (o_129 P) (.node (o_193 P) (.node (o_321 P) .nil .nil) (.node (o_449 P) .nil .nil)) (.node (o_257 P) (.node (o_385 P) .nil .nil) .nil)) (.node (o_161 P) (.node (o_225 P) (.node (o_353 P) .nil .nil) (.node (o_481 P) .nil .nil)) (.node (o_289 P) (.node (o_417 P) .nil .nil) .nil)))))))
noncomputable def heap_39 : Params → Frag := fun P => (nat_lit 2, o_47 P) :: (nat_lit 3, o_48 P) :: (nat_lit 15, o_50 P) :: (nat_lit 17, o_52 P) :: (nat_lit 18, o_53 P) :: (nat_lit 20, o_55 P) :: (nat_lit 21, o_56 P) :: (nat_lit 22, o_57 P) :: (nat_lit 29, o_64 P) :: (nat_lit 30, o_65 P) :: (nat_lit 32, o_67 P) :: (nat_lit 33, o_68 P) :: (nat_lit 35, o_70 P) :: (nat_lit 36, o_71 P) :: (nat_lit 37, o_72 P) :: (nat_lit 39, o_74 P) :: (nat_lit 40, o_75 P) :: (nat_lit 42, o_77 P) :: (nat_lit 43, o_78 P) :: (nat_lit 44, o_79 P) :: (nat_lit 45, o_80 P) :: (nat_lit 46, o_81 P) :: (nat_lit 47, o_82 P) :: (nat_lit 50, o_85 P) :: (nat_lit 57, o_92 P) :: (nat_lit 58, o_93 P) :: (nat_lit 59, o_94 P) :: (nat_lit 69, o_104 P) :: (nat_lit 71, o_106 P) :: (nat_lit 72, o_107 P) :: (nat_lit 74, o_109 P) :: (nat_lit 75, o_110 P) :: (nat_lit 76, o_111 P) :: (nat_lit 78, o_113 P) :: (nat_lit 79, o_114 P) :: (nat_lit 81, o_116 P) :: (nat_lit 82, o_117 P) :: (nat_lit 83, o_118 P) :: (nat_lit 85, o_120 P) :: (nat_lit 86, o_121 P) :: (nat_lit 88, o_123 P) :: (nat_lit 89, o_124 P) :: (nat_lit 90, o_125 P) :: (nat_lit 92, o_127 P) :: (nat_lit 93, o_128 P) :: (nat_lit 95, o_130 P) :: (nat_lit 96, o_131 P) :: (nat_lit 97, o_132 P) :: (nat_lit 99, o_134 P) :: (nat_lit 100, o_135 P) :: (nat_lit 102, o_137 P) :: (nat_lit 103, o_138 P) :: (nat_lit 104, o_139 P) :: (nat_lit 106, o_141 P) :: (nat_lit 107, o_142 P) :: (nat_lit 109, o_144 P) :: (nat_lit 110, o_145 P) :: (nat_lit 111, o_146 P) :: (nat_lit 113, o_148 P) :: (nat_lit 114, o_149 P) :: (nat_lit 116, o_151 P) :: (nat_lit 117, o_152 P) :: (nat_lit 118, o_153 P) :: (nat_lit 120, o_155 P) :: (nat_lit 121, o_156 P) :: (nat_lit 123, o_158 P) :: (nat_lit 124, o_159 P) :: (nat_lit 125, o_160 P) :: (nat_lit 127, o_162 P) :: (nat_lit 128, o_163 P) :: (nat_lit 130, o_165 P) :: (nat_lit 131, o_166 P) :: (nat_lit 132, o_167 P) :: (nat_lit 134, o_169 P) :: (nat_lit 135, o_170 P) :: (nat_lit 137, o_172 P) :: (nat_lit 138, o_173 P) :: (nat_lit 139, o_174 P) :: (nat_lit 141, o_176 P) :: (nat_lit 142, o_177 P) :: (nat_lit 144, o_179 P) :: (nat_lit 145, o_180 P) :: (nat_lit 146, o_181 P) :: (nat_lit 148, o_183 P) :: (nat_lit 149, o_184 P) :: (nat_lit 151, o_186 P) :: (nat_lit 152, o_187 P) :: (nat_lit 153, o_188 P) :: (nat_lit 154, o_189 P) :: (nat_lit 155, o_190 P) :: (nat_lit 156, o_191 P) :: (nat_lit 157, o_192 P) :: (nat_lit 160, o_195 P) :: (nat_lit 162, o_197 P) :: (nat_lit 163, o_198 P) :: (nat_lit 165, o_200 P) :: (nat_lit 166, o_201 P) :: (nat_lit 167, o_202 P) :: (nat_lit 169, o_204 P) :: (nat_lit 170, o_205 P) :: (nat_lit 172, o_207 P) :: (nat_lit 173, o_208 P) :: (nat_lit 174, o_209 P) :: (nat_lit 176, o_211 P) :: (nat_lit 177, o_212 P) :: (nat_lit 179, o_214 P) :: (nat_lit 180, o_215 P) :: (nat_lit 181, o_216 P) :: (nat_lit 183, o_218 P) :: (nat_lit 184, o_219 P) :: (nat_lit 186, o_221 P) :: (nat_lit 187, o_222 P) :: (nat_lit 195, o_230 P) :: (nat_lit 197, o_232 P) :: (nat_lit 198, o_233 P) :: (nat_lit 200, o_235 P) :: (nat_lit 201, o_236 P) :: (nat_lit 202, o_237 P) :: (nat_lit 203, o_238 P) :: (nat_lit 204, o_239 P) :: (nat_lit 205, o_240 P) :: (nat_lit 206, o_241 P) :: (nat_lit 216, o_251 P) :: (nat_lit 217, o_252 P) :: (nat_lit 219, o_254 P) :: (nat_lit 220, o_255 P) :: (nat_lit 222, o_257 P) :: (nat_lit 223, o_258 P) :: (nat_lit 224, o_259 P) :: (nat_lit 225, o_260 P) :: (nat_lit 226, o_261 P) :: (nat_lit 227, o_262 P) :: (nat_lit 228, o_263 P) :: (nat_lit 238, o_273 P) :: (nat_lit 240, o_275 P) :: (nat_lit 241, o_276 P) :: (nat_lit 243, o_278 P) :: (nat_lit 244, o_279 P) :: (nat_lit 245, o_280 P) :: (nat_lit 246, o_281 P) :: (nat_lit 247, o_282 P) :: (nat_lit 248, o_283 P) :: (nat_lit 249, o_284 P) :: (nat_lit 259, o_294 P) :: (nat_lit 261, o_296 P) :: (nat_lit 262, o_297 P) :: (nat_lit 264, o_299 P) :: (nat_lit 265, o_300 P) :: (nat_lit 266, o_301 P) :: (nat_lit 268, o_303 P) :: (nat_lit 269, o_304 P) :: (nat_lit 271, o_306 P) :: (nat_lit 272, o_307 P) :: (nat_lit 273, o_308 P) :: (nat_lit 274, o_309 P) :: (nat_lit 275, o_310 P) :: (nat_lit 276, o_311 P) :: (nat_lit 277, o_312 P) :: (nat_lit 280, o_315 P) :: (nat_lit 282, o_317 P) :: (nat_lit 283, o_318 P) :: (nat_lit 285, o_320 P) :: (nat_lit 286, o_321 P) :: (nat_lit 287, o_322 P) :: (nat_lit 289, o_324 P) :: (nat_lit 290, o_325 P) :: (nat_lit 292, o_327 P) :: (nat_lit 293, o_328 P) :: (nat_lit 301, o_336 P) :: (nat_lit 303, o_338 P) :: (nat_lit 304, o_339 P) :: (nat_lit 306, o_341 P) :: (nat_lit 307, o_342 P) :: (nat_lit 308, o_343 P) :: (nat_lit 310, o_345 P) :: (nat_lit 311, o_346 P) :: (nat_lit 313, o_348 P) :: (nat_lit 314, o_349 P) :: (nat_lit 315, o_350 P) :: (nat_lit 317, o_352 P) :: (nat_lit 318, o_353 P) :: (nat_lit 320, o_355 P) :: (nat_lit 321, o_356 P) :: (nat_lit 322, o_357 P) :: (nat_lit 324, o_359 P) :: (nat_lit 325, o_360 P) :: (nat_lit 327, o_362 P) :: (nat_lit 328, o_363 P) :: (nat_lit 329, o_364 P) :: (nat_lit 331, o_366 P) :: (nat_lit 332, o_367 P) :: (nat_lit 334, o_369 P) :: (nat_lit 335, o_370 P) :: (nat_lit 336, o_371 P) :: (nat_lit 339, o_374 P) :: (nat_lit 340, o_375 P) :: (nat_lit 341, o_376 P) :: (nat_lit 342, o_377 P) :: (nat_lit 343, o_378 P) :: (nat_lit 344, o_379 P) :: (nat_lit 345, o_380 P) :: (nat_lit 348, o_383 P) :: (nat_lit 350, o_385 P) :: (nat_lit 351, o_386 P) :: (nat_lit 353, o_388 P) :: (nat_lit 354, o_389 P) :: (nat_lit 362, o_397 P) :: (nat_lit 364, o_399 P) :: (nat_lit 365, o_400 P) :: (nat_lit 367, o_402 P) :: (nat_lit 368, o_403 P) :: (nat_lit 369, o_404 P) :: (nat_lit 370, o_405 P) :: (nat_lit 371, o_406 P) :: (nat_lit 372, o_407 P) :: (nat_lit 373, o_408 P) :: (nat_lit 376, o_411 P) :: (nat_lit 378, o_413 P) :: (nat_lit 379, o_414 P) :: (nat_lit 381, o_416 P) :: (nat_lit 382, o_417 P) :: (nat_lit 383, o_418 P) :: (nat_lit 385, o_420 P) :: (nat_lit 386, o_421 P) :: (nat_lit 388, o_423 P) :: (nat_lit 389, o_424 P) :: (nat_lit 390, o_425 P) :: (nat_lit 391, o_426 P) :: (nat_lit 393, o_428 P) :: (nat_lit 394, o_429 P) :: (nat_lit 396, o_431 P) :: (nat_lit 397, o_432 P) :: (nat_lit 398, o_433 P) :: (nat_lit 401, o_436 P) :: (nat_lit 402, o_437 P) :: (nat_lit 403, o_438 P) :: (nat_lit 405, o_440 P) :: (nat_lit 406, o_441 P) :: (nat_lit 408, o_443 P) :: (nat_lit 409, o_444 P) :: (nat_lit 410, o_445 P) :: (nat_lit 412, o_447 P) :: (nat_lit 413, o_448 P) :: (nat_lit 415, o_450 P) :: (nat_lit 416, o_451 P) :: (nat_lit 417, o_452 P) :: (nat_lit 419, o_454 P) :: (nat_lit 420, o_455 P) :: (nat_lit 422, o_457 P) :: (nat_lit 423, o_458 P) :: (nat_lit 424, o_459 P) :: (nat_lit 426, o_461 P) :: (nat_lit 427, o_462 P) :: (nat_lit 429, o_464 P) :: (nat_lit 430, o_465 P) :: (nat_lit 431, o_466 P) :: (nat_lit 433, o_468 P) :: (nat_lit 434, o_469 P) :: (nat_lit 436, o_471 P) :: (nat_lit 437, o_472 P) :: (nat_lit 438, o_473 P) :: (nat_lit 441, o_476 P) :: (nat_lit 442, o_477 P) :: (nat_lit 443, o_478 P) :: (nat_lit 445, o_480 P) :: (nat_lit 446, o_481 P) :: (nat_lit 448, o_483 P) :: (nat_lit 449, o_484 P) :: (nat_lit 450, o_485 P) :: (nat_lit 452, o_487 P) :: (nat_lit 453, o_488 P) :: (nat_lit 455, o_490 P) :: (nat_lit 456, o_491 P) :: (nat_lit 457, o_492 P) :: (nat_lit 460, o_495 P) :: (nat_lit 461, o_496 P) :: (nat_lit 462, o_497 P) :: (nat_lit 465, o_500 P) :: (nat_lit 466, o_501 P) :: (nat_lit 467, o_502 P) :: (nat_lit 470, o_505 P) :: (nat_lit 471, o_506 P) :: []
noncomputable abbrev adrs : List Addr := nat_lit 2 :: nat_lit 3 :: nat_lit 15 :: nat_lit 17 :: nat_lit 18 :: nat_lit 20 :: nat_lit 21 :: nat_lit 22 :: nat_lit 29 :: nat_lit 30 :: nat_lit 32 :: nat_lit 33 :: nat_lit 35 :: nat_lit 36 :: nat_lit 37 :: nat_lit 39 :: nat_lit 40 :: nat_lit 42 :: nat_lit 43 :: nat_lit 44 :: nat_lit 45 :: nat_lit 46 :: nat_lit 47 :: nat_lit 50 :: nat_lit 57 :: nat_lit 58 :: nat_lit 59 :: nat_lit 69 :: nat_lit 71 :: nat_lit 72 :: nat_lit 74 :: nat_lit 75 :: nat_lit 76 :: nat_lit 78 :: nat_lit 79 :: nat_lit 81 :: nat_lit 82 :: nat_lit 83 :: nat_lit 85 :: nat_lit 86 :: nat_lit 88 :: nat_lit 89 :: nat_lit 90 :: nat_lit 92 :: nat_lit 93 :: nat_lit 95 :: nat_lit 96 :: nat_lit 97 :: nat_lit 99 :: nat_lit 100 :: nat_lit 102 :: nat_lit 103 :: nat_lit 104 :: nat_lit 106 :: nat_lit 107 :: nat_lit 109 :: nat_lit 110 :: nat_lit 111 :: nat_lit 113 :: nat_lit 114 :: nat_lit 116 :: nat_lit 117 :: nat_lit 118 :: nat_lit 120 :: nat_lit 121 :: nat_lit 123 :: nat_lit 124 :: nat_lit 125 :: nat_lit 127 :: nat_lit 128 :: nat_lit 130 :: nat_lit 131 :: nat_lit 132 :: nat_lit 134 :: nat_lit 135 :: nat_lit 137 :: nat_lit 138 :: nat_lit 139 :: nat_lit 141 :: nat_lit 142 :: nat_lit 144 :: nat_lit 145 :: nat_lit 146 :: nat_lit 148 :: nat_lit 149 :: nat_lit 151 :: nat_lit 152 :: nat_lit 153 :: nat_lit 154 :: nat_lit 155 :: nat_lit 156 :: nat_lit 157 :: nat_lit 160 :: nat_lit 162 :: nat_lit 163 :: nat_lit 165 :: nat_lit 166 :: nat_lit 167 :: nat_lit 169 :: nat_lit 170 :: nat_lit 172 :: nat_lit 173 :: nat_lit 174 :: nat_lit 176 :: nat_lit 177 :: nat_lit 179 :: nat_lit 180 :: nat_lit 181 :: nat_lit 183 :: nat_lit 184 :: nat_lit 186 :: nat_lit 187 :: nat_lit 195 :: nat_lit 197 :: nat_lit 198 :: nat_lit 200 :: nat_lit 201 :: nat_lit 202 :: nat_lit 203 :: nat_lit 204 :: nat_lit 205 :: nat_lit 206 :: nat_lit 216 :: nat_lit 217 :: nat_lit 219 :: nat_lit 220 :: nat_lit 222 :: nat_lit 223 :: nat_lit 224 :: nat_lit 225 :: nat_lit 226 :: nat_lit 227 :: nat_lit 228 :: nat_lit 238 :: nat_lit 240 :: nat_lit 241 :: nat_lit 243 :: nat_lit 244 :: nat_lit 245 :: nat_lit 246 :: nat_lit 247 :: nat_lit 248 :: nat_lit 249 :: nat_lit 259 :: nat_lit 261 :: nat_lit 262 :: nat_lit 264 :: nat_lit 265 :: nat_lit 266 :: nat_lit 268 :: nat_lit 269 :: nat_lit 271 :: nat_lit 272 :: nat_lit 273 :: nat_lit 274 :: nat_lit 275 :: nat_lit 276 :: nat_lit 277 :: nat_lit 280 :: nat_lit 282 :: nat_lit 283 :: nat_lit 285 :: nat_lit 286 :: nat_lit 287 :: nat_lit 289 :: nat_lit 290 :: nat_lit 292 :: nat_lit 293 :: nat_lit 301 :: nat_lit 303 :: nat_lit 304 :: nat_lit 306 :: nat_lit 307 :: nat_lit 308 :: nat_lit 310 :: nat_lit 311 :: nat_lit 313 :: nat_lit 314 :: nat_lit 315 :: nat_lit 317 :: nat_lit 318 :: nat_lit 320 :: nat_lit 321 :: nat_lit 322 :: nat_lit 324 :: nat_lit 325 :: nat_lit 327 :: nat_lit 328 :: nat_lit 329 :: nat_lit 331 :: nat_lit 332 :: nat_lit 334 :: nat_lit 335 :: nat_lit 336 :: nat_lit 339 :: nat_lit 340 :: nat_lit 341 :: nat_lit 342 :: nat_lit 343 :: nat_lit 344 :: nat_lit 345 :: nat_lit 348 :: nat_lit 350 :: nat_lit 351 :: nat_lit 353 :: nat_lit 354 :: nat_lit 362 :: nat_lit 364 :: nat_lit 365 :: nat_lit 367 :: nat_lit 368 :: nat_lit 369 :: nat_lit 370 :: nat_lit 371 :: nat_lit 372 :: nat_lit 373 :: nat_lit 376 :: nat_lit 378 :: nat_lit 379 :: nat_lit 381 :: nat_lit 382 :: nat_lit 383 :: nat_lit 385 :: nat_lit 386 :: nat_lit 388 :: nat_lit 389 :: nat_lit 390 :: nat_lit 391 :: nat_lit 393 :: nat_lit 394 :: nat_lit 396 :: nat_lit 397 :: nat_lit 398 :: nat_lit 401 :: nat_lit 402 :: nat_lit 403 :: nat_lit 405 :: nat_lit 406 :: nat_lit 408 :: nat_lit 409 :: nat_lit 410 :: nat_lit 412 :: nat_lit 413 :: nat_lit 415 :: nat_lit 416 :: nat_lit 417 :: nat_lit 419 :: nat_lit 420 :: nat_lit 422 :: nat_lit 423 :: nat_lit 424 :: nat_lit 426 :: nat_lit 427 :: nat_lit 429 :: nat_lit 430 :: nat_lit 431 :: nat_lit 433 :: nat_lit 434 :: nat_lit 436 :: nat_lit 437 :: nat_lit 438 :: nat_lit 441 :: nat_lit 442 :: nat_lit 443 :: nat_lit 445 :: nat_lit 446 :: nat_lit 448 :: nat_lit 449 :: nat_lit 450 :: nat_lit 452 :: nat_lit 453 :: nat_lit 455 :: nat_lit 456 :: nat_lit 457 :: nat_lit 460 :: nat_lit 461 :: nat_lit 462 :: nat_lit 465 :: nat_lit 466 :: nat_lit 467 :: nat_lit 470 :: nat_lit 471 :: []
end Mine.hd
end
section
open PySem PySem.W PyProof.Rows PySem.Calls
namespace Mine.hd
noncomputable abbrev bE : List Stmt := behindTheImports pr
noncomputable def env0 : Env := { scope := pr.main.scope, locals := mainNs, globals := mainNs, cells := [], code := .ref 13, frame := some 14 }
noncomputable abbrev cE : Code := .body bE env0
noncomputable abbrev z4 : Pos := ⟨0, 0, 0, 0⟩
noncomputable abbrev pL : Pos := ⟨272, 0, 295, 68⟩
noncomputable abbrev ann : Option Value := some (.ref 6)
noncomputable abbrev d0 : Drawn := ⟨0, 0, 0, 0⟩
noncomputable abbrev sA (w : World) (os : OsState) : SharedT := ⟨treeA w.params, 15, {}, #[], d0, 187, os⟩
noncomputable abbrev sF (w : World) (os : OsState) : SharedT := ⟨treeF w.params, 472, {}, #[], d0, 796, os⟩

noncomputable def q_0 (P : Params) : Obj := { cls := T "dict", data := Data.dict #[E P "__name__" 165 (S "paperhold.errors" 194), E P "__doc__" 166 VN, E P "__package__" 167 VN, E P "__loader__" 168 (Value.builtin "__main__.__loader__#opaque"), E P "__spec__" 169 VN, E P "__annotations__" 170 (R 6), E P "__builtins__" 171 (R 4), E P "__file__" 173 (S "/claim/cut.py" 172), E P "__cached__" 174 VN, E P "_wall" 193 (R 21), E P "PaperError" 235 (R 46)] 11 }
noncomputable def q_1 (P : Params) : Obj := { cls := VN, data := Data.fields #[I 1 0, I 0 0, R 20, I 5 0, I 0 0, R 27] }
noncomputable def q_2 (P : Params) : Obj := { cls := T "type", data := Data.cls { name := N "PaperError", bases := [T "Exception"], mro := [R 46, T "Exception", T "BaseException", T "object"], ns := 45, qualname := N "PaperError" }, slots := #[some (R 22), none, some (S "PaperError" 196), some (S "PaperError" 204), some (Value.builtin "Exception.__new__"), some (Value.bool true)] }
noncomputable def q_3 (P : Params) : Obj := { cls := T "dict", data := Data.dict #[E P "__name__" 165 (S "paperhold.decimals" 252), E P "__doc__" 166 VN, E P "__package__" 167 VN, E P "__loader__" 168 (Value.builtin "__main__.__loader__#opaque"), E P "__spec__" 169 VN, E P "__annotations__" 170 (R 6), E P "__builtins__" 171 (R 4), E P "__file__" 173 (S "/claim/cut.py" 172), E P "__cached__" 174 VN, E P "_wall" 193 (R 21), E P "PaperError" 235 (R 46), E P "PaintFault" 251 (R 59)] 12 }
noncomputable def q_4 (P : Params) : Obj := { cls := VN, data := Data.fields #[I 1 0, I 0 0, R 20, I 5 0, I 0 0, R 27, I 14 0, I 0 0, R 55] }
noncomputable def q_5 (P : Params) : Obj := { cls := T "dict", data := Data.dict #[E P "__name__" 165 (S "paperhold.decimals" 252), E P "__doc__" 166 VN, E P "__package__" 167 VN, E P "__loader__" 168 (Value.builtin "__main__.__loader__#opaque"), E P "__spec__" 169 VN, E P "__annotations__" 170 (R 6), E P "__builtins__" 171 (R 4), E P "__file__" 173 (S "/claim/cut.py" 172), E P "__cached__" 174 VN, E P "_wall" 193 (R 21), E P "PaperError" 235 (R 46), E P "PaintFault" 251 (R 59), E P "Decimal" 370 (R 155)] 13 }
noncomputable def q_6 (P : Params) : Obj := { cls := VN, data := Data.fields #[I 1 0, I 0 0, R 20, I 5 0, I 0 0, R 27, I 14 0, I 0 0, R 55, I 17 0, I 0 0, R 67] }
noncomputable def q_7 (P : Params) : Obj := { cls := T "dict", data := Data.dict #[E P "__name__" 165 (S "paperhold.objects" 403), E P "__doc__" 166 VN, E P "__package__" 167 VN, E P "__loader__" 168 (Value.builtin "__main__.__loader__#opaque"), E P "__spec__" 169 VN, E P "__annotations__" 170 (R 6), E P "__builtins__" 171 (R 4), E P "__file__" 173 (S "/claim/cut.py" 172), E P "__cached__" 174 VN, E P "_wall" 193 (R 21), E P "PaperError" 235 (R 46), E P "PaintFault" 251 (R 59), E P "Decimal" 370 (R 155), E P "sign_text" 377 (R 166), E P "sign_of" 384 (R 173), E P "decimal_of" 391 (R 180), E P "at_one_scale" 402 (R 187), E P "Name" 433 (R 204)] 18 }
noncomputable def q_8 (P : Params) : Obj := { cls := VN, data := Data.fields #[I 1 0, I 0 0, R 20, I 5 0, I 0 0, R 27, I 14 0, I 0 0, R 55, I 17 0, I 0 0, R 67, I 63 0, I 0 0, R 165, I 65 0, I 0 0, R 172, I 69 0, I 0 0, R 179, I 75 0, I 0 0, R 186, I 81 0, I 0 0, R 193] }
noncomputable def q_9 (P : Params) : Obj := { cls := T "dict", data := Data.dict #[E P "__name__" 165 (S "paperhold.objects" 403), E P "__doc__" 166 VN, E P "__package__" 167 VN, E P "__loader__" 168 (Value.builtin "__main__.__loader__#opaque"), E P "__spec__" 169 VN, E P "__annotations__" 170 (R 6), E P "__builtins__" 171 (R 4), E P "__file__" 173 (S "/claim/cut.py" 172), E P "__cached__" 174 VN, E P "_wall" 193 (R 21), E P "PaperError" 235 (R 46), E P "PaintFault" 251 (R 59), E P "Decimal" 370 (R 155), E P "sign_text" 377 (R 166), E P "sign_of" 384 (R 173), E P "decimal_of" 391 (R 180), E P "at_one_scale" 402 (R 187), E P "Name" 433 (R 204), E P "String" 464 (R 226)] 19 }
noncomputable def q_10 (P : Params) : Obj := { cls := VN, data := Data.fields #[I 1 0, I 0 0, R 20, I 5 0, I 0 0, R 27, I 14 0, I 0 0, R 55, I 17 0, I 0 0, R 67, I 63 0, I 0 0, R 165, I 65 0, I 0 0, R 172, I 69 0, I 0 0, R 179, I 75 0, I 0 0, R 186, I 81 0, I 0 0, R 193, I 85 0, I 0 0, R 214] }
noncomputable def q_11 (P : Params) : Obj := { cls := T "dict", data := Data.dict #[E P "__name__" 165 (S "paperhold.objects" 403), E P "__doc__" 166 VN, E P "__package__" 167 VN, E P "__loader__" 168 (Value.builtin "__main__.__loader__#opaque"), E P "__spec__" 169 VN, E P "__annotations__" 170 (R 6), E P "__builtins__" 171 (R 4), E P "__file__" 173 (S "/claim/cut.py" 172), E P "__cached__" 174 VN, E P "_wall" 193 (R 21), E P "PaperError" 235 (R 46), E P "PaintFault" 251 (R 59), E P "Decimal" 370 (R 155), E P "sign_text" 377 (R 166), E P "sign_of" 384 (R 173), E P "decimal_of" 391 (R 180), E P "at_one_scale" 402 (R 187), E P "Name" 433 (R 204), E P "String" 464 (R 226), E P "Stream" 495 (R 247)] 20 }
noncomputable def q_12 (P : Params) : Obj := { cls := VN, data := Data.fields #[I 1 0, I 0 0, R 20, I 5 0, I 0 0, R 27, I 14 0, I 0 0, R 55, I 17 0, I 0 0, R 67, I 63 0, I 0 0, R 165, I 65 0, I 0 0, R 172, I 69 0, I 0 0, R 179, I 75 0, I 0 0, R 186, I 81 0, I 0 0, R 193, I 85 0, I 0 0, R 214, I 90 0, I 0 0, R 236] }
noncomputable def q_13 (P : Params) : Obj := { cls := T "dict", data := Data.dict #[E P "__name__" 165 (S "paperhold.matrix" 548), E P "__doc__" 166 VN, E P "__package__" 167 VN, E P "__loader__" 168 (Value.builtin "__main__.__loader__#opaque"), E P "__spec__" 169 VN, E P "__annotations__" 170 (R 6), E P "__builtins__" 171 (R 4), E P "__file__" 173 (S "/claim/cut.py" 172), E P "__cached__" 174 VN, E P "_wall" 193 (R 21), E P "PaperError" 235 (R 46), E P "PaintFault" 251 (R 59), E P "Decimal" 370 (R 155), E P "sign_text" 377 (R 166), E P "sign_of" 384 (R 173), E P "decimal_of" 391 (R 180), E P "at_one_scale" 402 (R 187), E P "Name" 433 (R 204), E P "String" 464 (R 226), E P "Stream" 495 (R 247), E P "Reference" 533 (R 275), E P "kind_of" 540 (R 286), E P "is_number" 547 (R 293)] 23 }
noncomputable def q_14 (P : Params) : Obj := { cls := VN, data := Data.fields #[I 1 0, I 0 0, R 20, I 5 0, I 0 0, R 27, I 14 0, I 0 0, R 55, I 17 0, I 0 0, R 67, I 63 0, I 0 0, R 165, I 65 0, I 0 0, R 172, I 69 0, I 0 0, R 179, I 75 0, I 0 0, R 186, I 81 0, I 0 0, R 193, I 85 0, I 0 0, R 214, I 90 0, I 0 0, R 236, I 95 0, I 0 0, R 257, I 103 0, I 0 0, R 285, I 125 0, I 0 0, R 292] }
noncomputable def q_15 (P : Params) : Obj := { cls := T "dict", data := Data.dict #[E P "__name__" 165 (S "paperhold.matrix" 548), E P "__doc__" 166 VN, E P "__package__" 167 VN, E P "__loader__" 168 (Value.builtin "__main__.__loader__#opaque"), E P "__spec__" 169 VN, E P "__annotations__" 170 (R 6), E P "__builtins__" 171 (R 4), E P "__file__" 173 (S "/claim/cut.py" 172), E P "__cached__" 174 VN, E P "_wall" 193 (R 21), E P "PaperError" 235 (R 46), E P "PaintFault" 251 (R 59), E P "Decimal" 370 (R 155), E P "sign_text" 377 (R 166), E P "sign_of" 384 (R 173), E P "decimal_of" 391 (R 180), E P "at_one_scale" 402 (R 187), E P "Name" 433 (R 204), E P "String" 464 (R 226), E P "Stream" 495 (R 247), E P "Reference" 533 (R 275), E P "kind_of" 540 (R 286), E P "is_number" 547 (R 293), E P "Matrix" 627 (R 343)] 24 }
noncomputable def q_16 (P : Params) : Obj := { cls := VN, data := Data.fields #[I 1 0, I 0 0, R 20, I 5 0, I 0 0, R 27, I 14 0, I 0 0, R 55, I 17 0, I 0 0, R 67, I 63 0, I 0 0, R 165, I 65 0, I 0 0, R 172, I 69 0, I 0 0, R 179, I 75 0, I 0 0, R 186, I 81 0, I 0 0, R 193, I 85 0, I 0 0, R 214, I 90 0, I 0 0, R 236, I 95 0, I 0 0, R 257, I 103 0, I 0 0, R 285, I 125 0, I 0 0, R 292, I 128 0, I 0 0, R 299] }
noncomputable def q_17 (P : Params) : Obj := { cls := T "dict", data := Data.dict #[E P "__name__" 165 (S "paperhold.inks" 634), E P "__doc__" 166 VN, E P "__package__" 167 VN, E P "__loader__" 168 (Value.builtin "__main__.__loader__#opaque"), E P "__spec__" 169 VN, E P "__annotations__" 170 (R 6), E P "__builtins__" 171 (R 4), E P "__file__" 173 (S "/claim/cut.py" 172), E P "__cached__" 174 VN, E P "_wall" 193 (R 21), E P "PaperError" 235 (R 46), E P "PaintFault" 251 (R 59), E P "Decimal" 370 (R 155), E P "sign_text" 377 (R 166), E P "sign_of" 384 (R 173), E P "decimal_of" 391 (R 180), E P "at_one_scale" 402 (R 187), E P "Name" 433 (R 204), E P "String" 464 (R 226), E P "Stream" 495 (R 247), E P "Reference" 533 (R 275), E P "kind_of" 540 (R 286), E P "is_number" 547 (R 293), E P "Matrix" 627 (R 343), E P "identity" 633 (R 354), E P "State" 672 (R 371), E P "first_colour" 680 (R 382), E P "first_values" 689 (R 389), E P "first_state" 697 (R 397), E P "numbers_of" 703 (R 402)] 30 }
noncomputable def q_18 (P : Params) : Obj := { cls := VN, data := Data.fields #[I 1 0, I 0 0, R 20, I 5 0, I 0 0, R 27, I 14 0, I 0 0, R 55, I 17 0, I 0 0, R 67, I 63 0, I 0 0, R 165, I 65 0, I 0 0, R 172, I 69 0, I 0 0, R 179, I 75 0, I 0 0, R 186, I 81 0, I 0 0, R 193, I 85 0, I 0 0, R 214, I 90 0, I 0 0, R 236, I 95 0, I 0 0, R 257, I 103 0, I 0 0, R 285, I 125 0, I 0 0, R 292, I 128 0, I 0 0, R 299, I 152 0, I 0 0, R 353, I 155 0, I 0 0, R 360, I 163 0, I 0 0, R 381, I 172 0, I 0 0, R 388, I 181 0, I 0 0, R 396, I 184 0, I 0 0, R 401] }
noncomputable def tree1 (P : Params) : BT := .node (boot_o_0 P) (.node (boot_o_1 P) (.node (q_0 P) (.node (boot_o_7 P) (.node (o_502 P) (.node (o_503 P) .nil .nil) (.node (o_82 P) .nil .nil)) (.node (o_391 P) (.node (o_74 P) .nil .nil) .nil)) (.node (o_502 P) (.node (o_54 P) (.node (o_70 P) .nil .nil) .nil) (.node (o_62 P) (.node (o_78 P) .nil .nil) .nil))) (.node (boot_o_5 P) (.node (boot_o_9 P) (.node (o_52 P) (.node (o_502 P) .nil .nil) (.node (o_84 P) .nil .nil)) (.node (o_502 P) (.node (o_76 P) .nil .nil) .nil)) (.node (o_45 P) (.node (o_56 P) (.node (o_502 P) .nil .nil) .nil) (.node (o_64 P) (.node (o_80 P) .nil .nil) .nil)))) (.node (o_47 P) (.node (boot_o_4 P) (.node (boot_o_8 P) (.node (o_503 P) (.node (o_67 P) .nil .nil) (.node (o_83 P) .nil .nil)) (.node (o_59 P) (.node (o_502 P) .nil .nil) .nil)) (.node (q_1 P) (.node (o_55 P) (.node (o_71 P) .nil .nil) .nil) (.node (o_63 P) (.node (o_79 P) .nil .nil) .nil))) (.node (boot_o_6 P) (.node (boot_o_10 P) (.node (o_502 P) (.node (o_69 P) .nil .nil) .nil) (.node (o_61 P) (.node (o_77 P) .nil .nil) .nil)) (.node (o_46 P) (.node (o_57 P) (.node (o_503 P) .nil .nil) .nil) (.node (o_502 P) (.node (q_2 P) .nil .nil) .nil))))
noncomputable def tree2 (P : Params) : BT := .node (boot_o_0 P) (.node (boot_o_1 P) (.node (q_3 P) (.node (boot_o_7 P) (.node (o_502 P) (.node (o_503 P) .nil .nil) (.node (o_82 P) .nil .nil)) (.node (o_391 P) (.node (o_74 P) .nil .nil) (.node (o_90 P) .nil .nil))) (.node (o_502 P) (.node (o_54 P) (.node (o_70 P) .nil .nil) (.node (o_391 P) .nil .nil)) (.node (o_62 P) (.node (o_78 P) .nil .nil) (.node (o_94 P) .nil .nil)))) (.node (boot_o_5 P) (.node (boot_o_9 P) (.node (o_52 P) (.node (o_502 P) .nil .nil) (.node (o_84 P) .nil .nil)) (.node (o_502 P) (.node (o_76 P) .nil .nil) (.node (o_502 P) .nil .nil))) (.node (o_45 P) (.node (o_56 P) (.node (o_502 P) .nil .nil) (.node (o_502 P) .nil .nil)) (.node (o_64 P) (.node (o_80 P) .nil .nil) (.node (o_96 P) .nil .nil))))) (.node (o_47 P) (.node (boot_o_4 P) (.node (boot_o_8 P) (.node (o_503 P) (.node (o_67 P) .nil .nil) (.node (o_83 P) .nil .nil)) (.node (o_59 P) (.node (o_502 P) .nil .nil) (.node (o_91 P) .nil .nil))) (.node (q_4 P) (.node (o_55 P) (.node (o_71 P) .nil .nil) (.node (o_87 P) .nil .nil)) (.node (o_63 P) (.node (o_79 P) .nil .nil) (.node (o_95 P) .nil .nil)))) (.node (boot_o_6 P) (.node (boot_o_10 P) (.node (o_502 P) (.node (o_69 P) .nil .nil) (.node (o_85 P) .nil .nil)) (.node (o_61 P) (.node (o_77 P) .nil .nil) (.node (o_93 P) .nil .nil))) (.node (o_46 P) (.node (o_57 P) (.node (o_503 P) .nil .nil) (.node (o_503 P) .nil .nil)) (.node (o_502 P) (.node (o_81 P) .nil .nil) .nil))))
noncomputable def tree3 (P : Params) : BT := .node (boot_o_0 P) (.node (boot_o_1 P) (.node (q_5 P) (.node (boot_o_7 P) (.node (o_502 P) (.node (o_503 P) (.node (o_391 P) (.node (o_162 P) .nil .nil) .nil) (.node (o_130 P) (.node (o_194 P) .nil .nil) .nil)) (.node (o_82 P) (.node (o_502 P) (.node (o_178 P) .nil .nil) .nil) (.node (o_502 P) .nil .nil))) (.node (o_391 P) (.node (o_74 P) (.node (o_106 P) (.node (o_502 P) .nil .nil) .nil) (.node (o_138 P) .nil .nil)) (.node (o_90 P) (.node (o_122 P) (.node (o_186 P) .nil .nil) .nil) (.node (o_503 P) .nil .nil)))) (.node (o_502 P) (.node (o_54 P) (.node (o_70 P) (.node (o_102 P) (.node (o_166 P) .nil .nil) .nil) (.node (o_134 P) .nil .nil)) (.node (o_391 P) (.node (o_502 P) (.node (o_503 P) .nil .nil) .nil) (.node (o_150 P) .nil .nil))) (.node (o_62 P) (.node (o_78 P) (.node (o_110 P) (.node (o_502 P) .nil .nil) .nil) (.node (o_502 P) .nil .nil)) (.node (o_94 P) (.node (o_503 P) (.node (o_190 P) .nil .nil) .nil) (.node (o_158 P) .nil .nil))))) (.node (boot_o_5 P) (.node (boot_o_9 P) (.node (o_52 P) (.node (o_502 P) (.node (o_502 P) (.node (o_164 P) .nil .nil) .nil) (.node (o_502 P) .nil .nil)) (.node (o_84 P) (.node (o_116 P) (.node (o_180 P) .nil .nil) .nil) (.node (o_148 P) .nil .nil))) (.node (o_502 P) (.node (o_76 P) (.node (o_108 P) (.node (o_172 P) .nil .nil) .nil) (.node (o_503 P) .nil .nil)) (.node (o_502 P) (.node (o_124 P) (.node (o_188 P) .nil .nil) .nil) (.node (o_502 P) .nil .nil)))) (.node (o_45 P) (.node (o_56 P) (.node (o_502 P) (.node (o_502 P) (.node (o_503 P) .nil .nil) .nil) (.node (o_136 P) .nil .nil)) (.node (o_502 P) (.node (o_120 P) (.node (o_502 P) .nil .nil) .nil) (.node (o_152 P) .nil .nil))) (.node (o_64 P) (.node (o_80 P) (.node (o_503 P) (.node (o_176 P) .nil .nil) .nil) (.node (o_144 P) .nil .nil)) (.node (o_96 P) (.node (o_502 P) (.node (o_192 P) .nil .nil) .nil) (.node (o_502 P) .nil .nil)))))) (.node (o_47 P) (.node (boot_o_4 P) (.node (boot_o_8 P) (.node (o_503 P) (.node (o_67 P) (.node (o_99 P) (.node (o_502 P) .nil .nil) .nil) (.node (o_131 P) .nil .nil)) (.node (o_83 P) (.node (o_115 P) (.node (o_179 P) .nil .nil) .nil) (.node (o_503 P) .nil .nil))) (.node (o_59 P) (.node (o_502 P) (.node (o_502 P) (.node (o_171 P) .nil .nil) .nil) (.node (o_502 P) .nil .nil)) (.node (o_91 P) (.node (o_123 P) (.node (o_187 P) .nil .nil) .nil) (.node (o_155 P) .nil .nil)))) (.node (q_6 P) (.node (o_55 P) (.node (o_71 P) (.node (o_103 P) (.node (o_502 P) .nil .nil) .nil) (.node (o_502 P) .nil .nil)) (.node (o_87 P) (.node (o_503 P) (.node (o_183 P) .nil .nil) .nil) (.node (o_151 P) .nil .nil))) (.node (o_63 P) (.node (o_79 P) (.node (o_502 P) (.node (o_503 P) .nil .nil) .nil) (.node (o_143 P) .nil .nil)) (.node (o_95 P) (.node (o_127 P) (.node (o_191 P) .nil .nil) .nil) (.node (o_159 P) .nil .nil))))) (.node (boot_o_6 P) (.node (boot_o_10 P) (.node (o_502 P) (.node (o_69 P) (.node (o_101 P) (.node (o_165 P) .nil .nil) .nil) (.node (o_503 P) .nil .nil)) (.node (o_85 P) (.node (o_117 P) (.node (o_502 P) .nil .nil) .nil) (.node (o_502 P) .nil .nil))) (.node (o_61 P) (.node (o_77 P) (.node (o_109 P) (.node (o_173 P) .nil .nil) .nil) (.node (o_141 P) .nil .nil)) (.node (o_93 P) (.node (o_502 P) (.node (o_189 P) .nil .nil) .nil) (.node (o_157 P) .nil .nil)))) (.node (o_46 P) (.node (o_57 P) (.node (o_503 P) (.node (o_503 P) (.node (o_169 P) .nil .nil) .nil) (.node (o_137 P) .nil .nil)) (.node (o_503 P) (.node (o_502 P) (.node (o_185 P) .nil .nil) .nil) (.node (o_502 P) .nil .nil))) (.node (o_502 P) (.node (o_81 P) (.node (o_113 P) (.node (o_502 P) .nil .nil) .nil) (.node (o_145 P) .nil .nil)) (.node (o_502 P) (.node (o_129 P) (.node (o_193 P) .nil .nil) .nil) (.node (o_503 P) .nil .nil))))))
noncomputable def tree4 (P : Params) : BT := .node (boot_o_0 P) (.node (boot_o_1 P) (.node (q_7 P) (.node (boot_o_7 P) (.node (o_502 P) (.node (o_503 P) (.node (o_391 P) (.node (o_162 P) .nil .nil) (.node (o_502 P) .nil .nil)) (.node (o_130 P) (.node (o_194 P) .nil .nil) .nil)) (.node (o_82 P) (.node (o_502 P) (.node (o_178 P) .nil .nil) (.node (o_242 P) .nil .nil)) (.node (o_502 P) (.node (o_503 P) .nil .nil) .nil))) (.node (o_391 P) (.node (o_74 P) (.node (o_106 P) (.node (o_502 P) .nil .nil) (.node (o_234 P) .nil .nil)) (.node (o_138 P) (.node (o_502 P) .nil .nil) .nil)) (.node (o_90 P) (.node (o_122 P) (.node (o_186 P) .nil .nil) .nil) (.node (o_503 P) (.node (o_218 P) .nil .nil) .nil)))) (.node (o_502 P) (.node (o_54 P) (.node (o_70 P) (.node (o_102 P) (.node (o_166 P) .nil .nil) (.node (o_502 P) .nil .nil)) (.node (o_134 P) (.node (o_502 P) .nil .nil) .nil)) (.node (o_391 P) (.node (o_502 P) (.node (o_503 P) .nil .nil) .nil) (.node (o_150 P) (.node (o_214 P) .nil .nil) .nil))) (.node (o_62 P) (.node (o_78 P) (.node (o_110 P) (.node (o_502 P) .nil .nil) (.node (o_238 P) .nil .nil)) (.node (o_502 P) (.node (o_206 P) .nil .nil) .nil)) (.node (o_94 P) (.node (o_503 P) (.node (o_190 P) .nil .nil) .nil) (.node (o_158 P) (.node (o_222 P) .nil .nil) .nil))))) (.node (boot_o_5 P) (.node (boot_o_9 P) (.node (o_52 P) (.node (o_502 P) (.node (o_502 P) (.node (o_164 P) .nil .nil) (.node (o_228 P) .nil .nil)) (.node (o_502 P) (.node (o_503 P) .nil .nil) .nil)) (.node (o_84 P) (.node (o_116 P) (.node (o_180 P) .nil .nil) .nil) (.node (o_148 P) (.node (o_502 P) .nil .nil) .nil))) (.node (o_502 P) (.node (o_76 P) (.node (o_108 P) (.node (o_172 P) .nil .nil) (.node (o_236 P) .nil .nil)) (.node (o_503 P) (.node (o_204 P) .nil .nil) .nil)) (.node (o_502 P) (.node (o_124 P) (.node (o_188 P) .nil .nil) .nil) (.node (o_502 P) (.node (o_220 P) .nil .nil) .nil)))) (.node (o_45 P) (.node (o_56 P) (.node (o_502 P) (.node (o_502 P) (.node (o_503 P) .nil .nil) (.node (o_232 P) .nil .nil)) (.node (o_136 P) (.node (o_200 P) .nil .nil) .nil)) (.node (o_502 P) (.node (o_120 P) (.node (o_502 P) .nil .nil) .nil) (.node (o_152 P) (.node (o_502 P) .nil .nil) .nil))) (.node (o_64 P) (.node (o_80 P) (.node (o_503 P) (.node (o_176 P) .nil .nil) (.node (o_240 P) .nil .nil)) (.node (o_144 P) (.node (o_208 P) .nil .nil) .nil)) (.node (o_96 P) (.node (o_502 P) (.node (o_192 P) .nil .nil) .nil) (.node (o_502 P) (.node (o_391 P) .nil .nil) .nil)))))) (.node (o_47 P) (.node (boot_o_4 P) (.node (boot_o_8 P) (.node (o_503 P) (.node (o_67 P) (.node (o_99 P) (.node (o_502 P) .nil .nil) (.node (o_227 P) .nil .nil)) (.node (o_131 P) (.node (o_502 P) .nil .nil) .nil)) (.node (o_83 P) (.node (o_115 P) (.node (o_179 P) .nil .nil) (.node (o_243 P) .nil .nil)) (.node (o_503 P) (.node (o_211 P) .nil .nil) .nil))) (.node (o_59 P) (.node (o_502 P) (.node (o_502 P) (.node (o_171 P) .nil .nil) (.node (o_235 P) .nil .nil)) (.node (o_502 P) (.node (o_503 P) .nil .nil) .nil)) (.node (o_91 P) (.node (o_123 P) (.node (o_187 P) .nil .nil) .nil) (.node (o_155 P) (.node (o_502 P) .nil .nil) .nil)))) (.node (q_8 P) (.node (o_55 P) (.node (o_71 P) (.node (o_103 P) (.node (o_502 P) .nil .nil) (.node (o_503 P) .nil .nil)) (.node (o_502 P) (.node (o_199 P) .nil .nil) .nil)) (.node (o_87 P) (.node (o_503 P) (.node (o_183 P) .nil .nil) .nil) (.node (o_151 P) (.node (o_215 P) .nil .nil) .nil))) (.node (o_63 P) (.node (o_79 P) (.node (o_502 P) (.node (o_503 P) .nil .nil) (.node (o_239 P) .nil .nil)) (.node (o_143 P) (.node (o_207 P) .nil .nil) .nil)) (.node (o_95 P) (.node (o_127 P) (.node (o_191 P) .nil .nil) .nil) (.node (o_159 P) (.node (o_502 P) .nil .nil) .nil))))) (.node (boot_o_6 P) (.node (boot_o_10 P) (.node (o_502 P) (.node (o_69 P) (.node (o_101 P) (.node (o_165 P) .nil .nil) (.node (o_229 P) .nil .nil)) (.node (o_503 P) (.node (o_197 P) .nil .nil) .nil)) (.node (o_85 P) (.node (o_117 P) (.node (o_502 P) .nil .nil) .nil) (.node (o_502 P) (.node (o_213 P) .nil .nil) .nil))) (.node (o_61 P) (.node (o_77 P) (.node (o_109 P) (.node (o_173 P) .nil .nil) (.node (o_237 P) .nil .nil)) (.node (o_141 P) (.node (o_502 P) .nil .nil) .nil)) (.node (o_93 P) (.node (o_502 P) (.node (o_189 P) .nil .nil) .nil) (.node (o_157 P) (.node (o_221 P) .nil .nil) .nil)))) (.node (o_46 P) (.node (o_57 P) (.node (o_503 P) (.node (o_503 P) (.node (o_169 P) .nil .nil) (.node (o_502 P) .nil .nil)) (.node (o_137 P) (.node (o_201 P) .nil .nil) .nil)) (.node (o_503 P) (.node (o_502 P) (.node (o_185 P) .nil .nil) .nil) (.node (o_502 P) (.node (o_503 P) .nil .nil) .nil))) (.node (o_502 P) (.node (o_81 P) (.node (o_113 P) (.node (o_502 P) .nil .nil) (.node (o_241 P) .nil .nil)) (.node (o_145 P) (.node (o_502 P) .nil .nil) .nil)) (.node (o_502 P) (.node (o_129 P) (.node (o_193 P) .nil .nil) .nil) (.node (o_503 P) (.node (o_225 P) .nil .nil) .nil))))))
noncomputable def tree5 (P : Params) : BT := .node (boot_o_0 P) (.node (boot_o_1 P) (.node (q_9 P) (.node (boot_o_7 P) (.node (o_502 P) (.node (o_503 P) (.node (o_391 P) (.node (o_162 P) .nil .nil) (.node (o_502 P) .nil .nil)) (.node (o_130 P) (.node (o_194 P) .nil .nil) (.node (o_258 P) .nil .nil))) (.node (o_82 P) (.node (o_502 P) (.node (o_178 P) .nil .nil) (.node (o_242 P) .nil .nil)) (.node (o_502 P) (.node (o_503 P) .nil .nil) .nil))) (.node (o_391 P) (.node (o_74 P) (.node (o_106 P) (.node (o_502 P) .nil .nil) (.node (o_234 P) .nil .nil)) (.node (o_138 P) (.node (o_502 P) .nil .nil) .nil)) (.node (o_90 P) (.node (o_122 P) (.node (o_186 P) .nil .nil) (.node (o_250 P) .nil .nil)) (.node (o_503 P) (.node (o_218 P) .nil .nil) .nil)))) (.node (o_502 P) (.node (o_54 P) (.node (o_70 P) (.node (o_102 P) (.node (o_166 P) .nil .nil) (.node (o_502 P) .nil .nil)) (.node (o_134 P) (.node (o_502 P) .nil .nil) (.node (o_262 P) .nil .nil))) (.node (o_391 P) (.node (o_502 P) (.node (o_503 P) .nil .nil) (.node (o_246 P) .nil .nil)) (.node (o_150 P) (.node (o_214 P) .nil .nil) .nil))) (.node (o_62 P) (.node (o_78 P) (.node (o_110 P) (.node (o_502 P) .nil .nil) (.node (o_238 P) .nil .nil)) (.node (o_502 P) (.node (o_206 P) .nil .nil) .nil)) (.node (o_94 P) (.node (o_503 P) (.node (o_190 P) .nil .nil) (.node (o_254 P) .nil .nil)) (.node (o_158 P) (.node (o_222 P) .nil .nil) .nil))))) (.node (boot_o_5 P) (.node (boot_o_9 P) (.node (o_52 P) (.node (o_502 P) (.node (o_502 P) (.node (o_164 P) .nil .nil) (.node (o_228 P) .nil .nil)) (.node (o_502 P) (.node (o_503 P) .nil .nil) (.node (o_260 P) .nil .nil))) (.node (o_84 P) (.node (o_116 P) (.node (o_180 P) .nil .nil) (.node (o_502 P) .nil .nil)) (.node (o_148 P) (.node (o_502 P) .nil .nil) .nil))) (.node (o_502 P) (.node (o_76 P) (.node (o_108 P) (.node (o_172 P) .nil .nil) (.node (o_236 P) .nil .nil)) (.node (o_503 P) (.node (o_204 P) .nil .nil) .nil)) (.node (o_502 P) (.node (o_124 P) (.node (o_188 P) .nil .nil) (.node (o_502 P) .nil .nil)) (.node (o_502 P) (.node (o_220 P) .nil .nil) .nil)))) (.node (o_45 P) (.node (o_56 P) (.node (o_502 P) (.node (o_502 P) (.node (o_503 P) .nil .nil) (.node (o_232 P) .nil .nil)) (.node (o_136 P) (.node (o_200 P) .nil .nil) (.node (o_264 P) .nil .nil))) (.node (o_502 P) (.node (o_120 P) (.node (o_502 P) .nil .nil) (.node (o_248 P) .nil .nil)) (.node (o_152 P) (.node (o_502 P) .nil .nil) .nil))) (.node (o_64 P) (.node (o_80 P) (.node (o_503 P) (.node (o_176 P) .nil .nil) (.node (o_240 P) .nil .nil)) (.node (o_144 P) (.node (o_208 P) .nil .nil) .nil)) (.node (o_96 P) (.node (o_502 P) (.node (o_192 P) .nil .nil) (.node (o_256 P) .nil .nil)) (.node (o_502 P) (.node (o_391 P) .nil .nil) .nil)))))) (.node (o_47 P) (.node (boot_o_4 P) (.node (boot_o_8 P) (.node (o_503 P) (.node (o_67 P) (.node (o_99 P) (.node (o_502 P) .nil .nil) (.node (o_227 P) .nil .nil)) (.node (o_131 P) (.node (o_502 P) .nil .nil) (.node (o_259 P) .nil .nil))) (.node (o_83 P) (.node (o_115 P) (.node (o_179 P) .nil .nil) (.node (o_243 P) .nil .nil)) (.node (o_503 P) (.node (o_211 P) .nil .nil) .nil))) (.node (o_59 P) (.node (o_502 P) (.node (o_502 P) (.node (o_171 P) .nil .nil) (.node (o_235 P) .nil .nil)) (.node (o_502 P) (.node (o_503 P) .nil .nil) .nil)) (.node (o_91 P) (.node (o_123 P) (.node (o_187 P) .nil .nil) (.node (o_251 P) .nil .nil)) (.node (o_155 P) (.node (o_502 P) .nil .nil) .nil)))) (.node (q_10 P) (.node (o_55 P) (.node (o_71 P) (.node (o_103 P) (.node (o_502 P) .nil .nil) (.node (o_503 P) .nil .nil)) (.node (o_502 P) (.node (o_199 P) .nil .nil) (.node (o_263 P) .nil .nil))) (.node (o_87 P) (.node (o_503 P) (.node (o_183 P) .nil .nil) (.node (o_502 P) .nil .nil)) (.node (o_151 P) (.node (o_215 P) .nil .nil) .nil))) (.node (o_63 P) (.node (o_79 P) (.node (o_502 P) (.node (o_503 P) .nil .nil) (.node (o_239 P) .nil .nil)) (.node (o_143 P) (.node (o_207 P) .nil .nil) .nil)) (.node (o_95 P) (.node (o_127 P) (.node (o_191 P) .nil .nil) (.node (o_502 P) .nil .nil)) (.node (o_159 P) (.node (o_502 P) .nil .nil) .nil))))) (.node (boot_o_6 P) (.node (boot_o_10 P) (.node (o_502 P) (.node (o_69 P) (.node (o_101 P) (.node (o_165 P) .nil .nil) (.node (o_229 P) .nil .nil)) (.node (o_503 P) (.node (o_197 P) .nil .nil) (.node (o_261 P) .nil .nil))) (.node (o_85 P) (.node (o_117 P) (.node (o_502 P) .nil .nil) (.node (o_391 P) .nil .nil)) (.node (o_502 P) (.node (o_213 P) .nil .nil) .nil))) (.node (o_61 P) (.node (o_77 P) (.node (o_109 P) (.node (o_173 P) .nil .nil) (.node (o_237 P) .nil .nil)) (.node (o_141 P) (.node (o_502 P) .nil .nil) .nil)) (.node (o_93 P) (.node (o_502 P) (.node (o_189 P) .nil .nil) (.node (o_503 P) .nil .nil)) (.node (o_157 P) (.node (o_221 P) .nil .nil) .nil)))) (.node (o_46 P) (.node (o_57 P) (.node (o_503 P) (.node (o_503 P) (.node (o_169 P) .nil .nil) (.node (o_502 P) .nil .nil)) (.node (o_137 P) (.node (o_201 P) .nil .nil) (.node (o_265 P) .nil .nil))) (.node (o_503 P) (.node (o_502 P) (.node (o_185 P) .nil .nil) (.node (o_249 P) .nil .nil)) (.node (o_502 P) (.node (o_503 P) .nil .nil) .nil))) (.node (o_502 P) (.node (o_81 P) (.node (o_113 P) (.node (o_502 P) .nil .nil) (.node (o_241 P) .nil .nil)) (.node (o_145 P) (.node (o_502 P) .nil .nil) .nil)) (.node (o_502 P) (.node (o_129 P) (.node (o_193 P) .nil .nil) (.node (o_257 P) .nil .nil)) (.node (o_503 P) (.node (o_225 P) .nil .nil) .nil))))))
noncomputable def tree6 (P : Params) : BT := .node (boot_o_0 P) (.node (boot_o_1 P) (.node (q_11 P) (.node (boot_o_7 P) (.node (o_502 P) (.node (o_503 P) (.node (o_391 P) (.node (o_162 P) .nil .nil) (.node (o_502 P) .nil .nil)) (.node (o_130 P) (.node (o_194 P) .nil .nil) (.node (o_258 P) .nil .nil))) (.node (o_82 P) (.node (o_502 P) (.node (o_178 P) .nil .nil) (.node (o_242 P) .nil .nil)) (.node (o_502 P) (.node (o_503 P) .nil .nil) (.node (o_503 P) .nil .nil)))) (.node (o_391 P) (.node (o_74 P) (.node (o_106 P) (.node (o_502 P) .nil .nil) (.node (o_234 P) .nil .nil)) (.node (o_138 P) (.node (o_502 P) .nil .nil) (.node (o_502 P) .nil .nil))) (.node (o_90 P) (.node (o_122 P) (.node (o_186 P) .nil .nil) (.node (o_250 P) .nil .nil)) (.node (o_503 P) (.node (o_218 P) .nil .nil) (.node (o_282 P) .nil .nil))))) (.node (o_502 P) (.node (o_54 P) (.node (o_70 P) (.node (o_102 P) (.node (o_166 P) .nil .nil) (.node (o_502 P) .nil .nil)) (.node (o_134 P) (.node (o_502 P) .nil .nil) (.node (o_262 P) .nil .nil))) (.node (o_391 P) (.node (o_502 P) (.node (o_503 P) .nil .nil) (.node (o_246 P) .nil .nil)) (.node (o_150 P) (.node (o_214 P) .nil .nil) (.node (o_278 P) .nil .nil)))) (.node (o_62 P) (.node (o_78 P) (.node (o_110 P) (.node (o_502 P) .nil .nil) (.node (o_238 P) .nil .nil)) (.node (o_502 P) (.node (o_206 P) .nil .nil) (.node (o_270 P) .nil .nil))) (.node (o_94 P) (.node (o_503 P) (.node (o_190 P) .nil .nil) (.node (o_254 P) .nil .nil)) (.node (o_158 P) (.node (o_222 P) .nil .nil) (.node (o_286 P) .nil .nil)))))) (.node (boot_o_5 P) (.node (boot_o_9 P) (.node (o_52 P) (.node (o_502 P) (.node (o_502 P) (.node (o_164 P) .nil .nil) (.node (o_228 P) .nil .nil)) (.node (o_502 P) (.node (o_503 P) .nil .nil) (.node (o_260 P) .nil .nil))) (.node (o_84 P) (.node (o_116 P) (.node (o_180 P) .nil .nil) (.node (o_502 P) .nil .nil)) (.node (o_148 P) (.node (o_502 P) .nil .nil) (.node (o_502 P) .nil .nil)))) (.node (o_502 P) (.node (o_76 P) (.node (o_108 P) (.node (o_172 P) .nil .nil) (.node (o_236 P) .nil .nil)) (.node (o_503 P) (.node (o_204 P) .nil .nil) (.node (o_268 P) .nil .nil))) (.node (o_502 P) (.node (o_124 P) (.node (o_188 P) .nil .nil) (.node (o_502 P) .nil .nil)) (.node (o_502 P) (.node (o_220 P) .nil .nil) (.node (o_284 P) .nil .nil))))) (.node (o_45 P) (.node (o_56 P) (.node (o_502 P) (.node (o_502 P) (.node (o_503 P) .nil .nil) (.node (o_232 P) .nil .nil)) (.node (o_136 P) (.node (o_200 P) .nil .nil) (.node (o_264 P) .nil .nil))) (.node (o_502 P) (.node (o_120 P) (.node (o_502 P) .nil .nil) (.node (o_248 P) .nil .nil)) (.node (o_152 P) (.node (o_502 P) .nil .nil) (.node (o_280 P) .nil .nil)))) (.node (o_64 P) (.node (o_80 P) (.node (o_503 P) (.node (o_176 P) .nil .nil) (.node (o_240 P) .nil .nil)) (.node (o_144 P) (.node (o_208 P) .nil .nil) (.node (o_272 P) .nil .nil))) (.node (o_96 P) (.node (o_502 P) (.node (o_192 P) .nil .nil) (.node (o_256 P) .nil .nil)) (.node (o_502 P) (.node (o_391 P) .nil .nil) .nil)))))) (.node (o_47 P) (.node (boot_o_4 P) (.node (boot_o_8 P) (.node (o_503 P) (.node (o_67 P) (.node (o_99 P) (.node (o_502 P) .nil .nil) (.node (o_227 P) .nil .nil)) (.node (o_131 P) (.node (o_502 P) .nil .nil) (.node (o_259 P) .nil .nil))) (.node (o_83 P) (.node (o_115 P) (.node (o_179 P) .nil .nil) (.node (o_243 P) .nil .nil)) (.node (o_503 P) (.node (o_211 P) .nil .nil) (.node (o_275 P) .nil .nil)))) (.node (o_59 P) (.node (o_502 P) (.node (o_502 P) (.node (o_171 P) .nil .nil) (.node (o_235 P) .nil .nil)) (.node (o_502 P) (.node (o_503 P) .nil .nil) (.node (o_391 P) .nil .nil))) (.node (o_91 P) (.node (o_123 P) (.node (o_187 P) .nil .nil) (.node (o_251 P) .nil .nil)) (.node (o_155 P) (.node (o_502 P) .nil .nil) (.node (o_283 P) .nil .nil))))) (.node (q_12 P) (.node (o_55 P) (.node (o_71 P) (.node (o_103 P) (.node (o_502 P) .nil .nil) (.node (o_503 P) .nil .nil)) (.node (o_502 P) (.node (o_199 P) .nil .nil) (.node (o_263 P) .nil .nil))) (.node (o_87 P) (.node (o_503 P) (.node (o_183 P) .nil .nil) (.node (o_502 P) .nil .nil)) (.node (o_151 P) (.node (o_215 P) .nil .nil) (.node (o_279 P) .nil .nil)))) (.node (o_63 P) (.node (o_79 P) (.node (o_502 P) (.node (o_503 P) .nil .nil) (.node (o_239 P) .nil .nil)) (.node (o_143 P) (.node (o_207 P) .nil .nil) (.node (o_271 P) .nil .nil))) (.node (o_95 P) (.node (o_127 P) (.node (o_191 P) .nil .nil) (.node (o_502 P) .nil .nil)) (.node (o_159 P) (.node (o_502 P) .nil .nil) .nil))))) (.node (boot_o_6 P) (.node (boot_o_10 P) (.node (o_502 P) (.node (o_69 P) (.node (o_101 P) (.node (o_165 P) .nil .nil) (.node (o_229 P) .nil .nil)) (.node (o_503 P) (.node (o_197 P) .nil .nil) (.node (o_261 P) .nil .nil))) (.node (o_85 P) (.node (o_117 P) (.node (o_502 P) .nil .nil) (.node (o_391 P) .nil .nil)) (.node (o_502 P) (.node (o_213 P) .nil .nil) (.node (o_277 P) .nil .nil)))) (.node (o_61 P) (.node (o_77 P) (.node (o_109 P) (.node (o_173 P) .nil .nil) (.node (o_237 P) .nil .nil)) (.node (o_141 P) (.node (o_502 P) .nil .nil) (.node (o_502 P) .nil .nil))) (.node (o_93 P) (.node (o_502 P) (.node (o_189 P) .nil .nil) (.node (o_503 P) .nil .nil)) (.node (o_157 P) (.node (o_221 P) .nil .nil) (.node (o_285 P) .nil .nil))))) (.node (o_46 P) (.node (o_57 P) (.node (o_503 P) (.node (o_503 P) (.node (o_169 P) .nil .nil) (.node (o_502 P) .nil .nil)) (.node (o_137 P) (.node (o_201 P) .nil .nil) (.node (o_265 P) .nil .nil))) (.node (o_503 P) (.node (o_502 P) (.node (o_185 P) .nil .nil) (.node (o_249 P) .nil .nil)) (.node (o_502 P) (.node (o_503 P) .nil .nil) (.node (o_281 P) .nil .nil)))) (.node (o_502 P) (.node (o_81 P) (.node (o_113 P) (.node (o_502 P) .nil .nil) (.node (o_241 P) .nil .nil)) (.node (o_145 P) (.node (o_502 P) .nil .nil) (.node (o_502 P) .nil .nil))) (.node (o_502 P) (.node (o_129 P) (.node (o_193 P) .nil .nil) (.node (o_257 P) .nil .nil)) (.node (o_503 P) (.node (o_225 P) .nil .nil) .nil))))))
noncomputable def tree7 (P : Params) : BT := .node (boot_o_0 P) (.node (boot_o_1 P) (.node (q_13 P) (.node (boot_o_7 P) (.node (o_502 P) (.node (o_503 P) (.node (o_391 P) (.node (o_162 P) (.node (o_502 P) .nil .nil) .nil) (.node (o_502 P) .nil .nil)) (.node (o_130 P) (.node (o_194 P) (.node (o_502 P) .nil .nil) .nil) (.node (o_258 P) .nil .nil))) (.node (o_82 P) (.node (o_502 P) (.node (o_178 P) (.node (o_306 P) .nil .nil) .nil) (.node (o_242 P) .nil .nil)) (.node (o_502 P) (.node (o_503 P) .nil .nil) (.node (o_503 P) .nil .nil)))) (.node (o_391 P) (.node (o_74 P) (.node (o_106 P) (.node (o_502 P) (.node (o_298 P) .nil .nil) .nil) (.node (o_234 P) .nil .nil)) (.node (o_138 P) (.node (o_502 P) .nil .nil) (.node (o_502 P) .nil .nil))) (.node (o_90 P) (.node (o_122 P) (.node (o_186 P) (.node (o_314 P) .nil .nil) .nil) (.node (o_250 P) .nil .nil)) (.node (o_503 P) (.node (o_218 P) .nil .nil) (.node (o_282 P) .nil .nil))))) (.node (o_502 P) (.node (o_54 P) (.node (o_70 P) (.node (o_102 P) (.node (o_166 P) (.node (o_502 P) .nil .nil) .nil) (.node (o_502 P) .nil .nil)) (.node (o_134 P) (.node (o_502 P) (.node (o_326 P) .nil .nil) .nil) (.node (o_262 P) .nil .nil))) (.node (o_391 P) (.node (o_502 P) (.node (o_503 P) (.node (o_310 P) .nil .nil) .nil) (.node (o_246 P) .nil .nil)) (.node (o_150 P) (.node (o_214 P) .nil .nil) (.node (o_278 P) .nil .nil)))) (.node (o_62 P) (.node (o_78 P) (.node (o_110 P) (.node (o_502 P) (.node (o_503 P) .nil .nil) .nil) (.node (o_238 P) .nil .nil)) (.node (o_502 P) (.node (o_206 P) .nil .nil) (.node (o_270 P) .nil .nil))) (.node (o_94 P) (.node (o_503 P) (.node (o_190 P) (.node (o_502 P) .nil .nil) .nil) (.node (o_254 P) .nil .nil)) (.node (o_158 P) (.node (o_222 P) .nil .nil) (.node (o_286 P) .nil .nil)))))) (.node (boot_o_5 P) (.node (boot_o_9 P) (.node (o_52 P) (.node (o_502 P) (.node (o_502 P) (.node (o_164 P) (.node (o_292 P) .nil .nil) .nil) (.node (o_228 P) .nil .nil)) (.node (o_502 P) (.node (o_503 P) (.node (o_324 P) .nil .nil) .nil) (.node (o_260 P) .nil .nil))) (.node (o_84 P) (.node (o_116 P) (.node (o_180 P) (.node (o_308 P) .nil .nil) .nil) (.node (o_502 P) .nil .nil)) (.node (o_148 P) (.node (o_502 P) .nil .nil) (.node (o_502 P) .nil .nil)))) (.node (o_502 P) (.node (o_76 P) (.node (o_108 P) (.node (o_172 P) (.node (o_300 P) .nil .nil) .nil) (.node (o_236 P) .nil .nil)) (.node (o_503 P) (.node (o_204 P) .nil .nil) (.node (o_268 P) .nil .nil))) (.node (o_502 P) (.node (o_124 P) (.node (o_188 P) (.node (o_503 P) .nil .nil) .nil) (.node (o_502 P) .nil .nil)) (.node (o_502 P) (.node (o_220 P) .nil .nil) (.node (o_284 P) .nil .nil))))) (.node (o_45 P) (.node (o_56 P) (.node (o_502 P) (.node (o_502 P) (.node (o_503 P) (.node (o_296 P) .nil .nil) .nil) (.node (o_232 P) .nil .nil)) (.node (o_136 P) (.node (o_200 P) (.node (o_328 P) .nil .nil) .nil) (.node (o_264 P) .nil .nil))) (.node (o_502 P) (.node (o_120 P) (.node (o_502 P) (.node (o_312 P) .nil .nil) .nil) (.node (o_248 P) .nil .nil)) (.node (o_152 P) (.node (o_502 P) .nil .nil) (.node (o_280 P) .nil .nil)))) (.node (o_64 P) (.node (o_80 P) (.node (o_503 P) (.node (o_176 P) (.node (o_502 P) .nil .nil) .nil) (.node (o_240 P) .nil .nil)) (.node (o_144 P) (.node (o_208 P) .nil .nil) (.node (o_272 P) .nil .nil))) (.node (o_96 P) (.node (o_502 P) (.node (o_192 P) (.node (o_320 P) .nil .nil) .nil) (.node (o_256 P) .nil .nil)) (.node (o_502 P) (.node (o_391 P) .nil .nil) (.node (o_391 P) .nil .nil))))))) (.node (o_47 P) (.node (boot_o_4 P) (.node (boot_o_8 P) (.node (o_503 P) (.node (o_67 P) (.node (o_99 P) (.node (o_502 P) (.node (o_291 P) .nil .nil) .nil) (.node (o_227 P) .nil .nil)) (.node (o_131 P) (.node (o_502 P) (.node (o_503 P) .nil .nil) .nil) (.node (o_259 P) .nil .nil))) (.node (o_83 P) (.node (o_115 P) (.node (o_179 P) (.node (o_307 P) .nil .nil) .nil) (.node (o_243 P) .nil .nil)) (.node (o_503 P) (.node (o_211 P) .nil .nil) (.node (o_275 P) .nil .nil)))) (.node (o_59 P) (.node (o_502 P) (.node (o_502 P) (.node (o_171 P) (.node (o_299 P) .nil .nil) .nil) (.node (o_235 P) .nil .nil)) (.node (o_502 P) (.node (o_503 P) .nil .nil) (.node (o_391 P) .nil .nil))) (.node (o_91 P) (.node (o_123 P) (.node (o_187 P) (.node (o_502 P) .nil .nil) .nil) (.node (o_251 P) .nil .nil)) (.node (o_155 P) (.node (o_502 P) .nil .nil) (.node (o_283 P) .nil .nil))))) (.node (q_14 P) (.node (o_55 P) (.node (o_71 P) (.node (o_103 P) (.node (o_502 P) (.node (o_503 P) .nil .nil) .nil) (.node (o_503 P) .nil .nil)) (.node (o_502 P) (.node (o_199 P) (.node (o_327 P) .nil .nil) .nil) (.node (o_263 P) .nil .nil))) (.node (o_87 P) (.node (o_503 P) (.node (o_183 P) (.node (o_311 P) .nil .nil) .nil) (.node (o_502 P) .nil .nil)) (.node (o_151 P) (.node (o_215 P) .nil .nil) (.node (o_279 P) .nil .nil)))) (.node (o_63 P) (.node (o_79 P) (.node (o_502 P) (.node (o_503 P) (.node (o_303 P) .nil .nil) .nil) (.node (o_239 P) .nil .nil)) (.node (o_143 P) (.node (o_207 P) .nil .nil) (.node (o_271 P) .nil .nil))) (.node (o_95 P) (.node (o_127 P) (.node (o_191 P) (.node (o_319 P) .nil .nil) .nil) (.node (o_502 P) .nil .nil)) (.node (o_159 P) (.node (o_502 P) .nil .nil) (.node (o_502 P) .nil .nil)))))) (.node (boot_o_6 P) (.node (boot_o_10 P) (.node (o_502 P) (.node (o_69 P) (.node (o_101 P) (.node (o_165 P) (.node (o_293 P) .nil .nil) .nil) (.node (o_229 P) .nil .nil)) (.node (o_503 P) (.node (o_197 P) (.node (o_502 P) .nil .nil) .nil) (.node (o_261 P) .nil .nil))) (.node (o_85 P) (.node (o_117 P) (.node (o_502 P) (.node (o_309 P) .nil .nil) .nil) (.node (o_391 P) .nil .nil)) (.node (o_502 P) (.node (o_213 P) .nil .nil) (.node (o_277 P) .nil .nil)))) (.node (o_61 P) (.node (o_77 P) (.node (o_109 P) (.node (o_173 P) (.node (o_502 P) .nil .nil) .nil) (.node (o_237 P) .nil .nil)) (.node (o_141 P) (.node (o_502 P) .nil .nil) (.node (o_502 P) .nil .nil))) (.node (o_93 P) (.node (o_502 P) (.node (o_189 P) (.node (o_317 P) .nil .nil) .nil) (.node (o_503 P) .nil .nil)) (.node (o_157 P) (.node (o_221 P) .nil .nil) (.node (o_285 P) .nil .nil))))) (.node (o_46 P) (.node (o_57 P) (.node (o_503 P) (.node (o_503 P) (.node (o_169 P) (.node (o_502 P) .nil .nil) .nil) (.node (o_502 P) .nil .nil)) (.node (o_137 P) (.node (o_201 P) .nil .nil) (.node (o_265 P) .nil .nil))) (.node (o_503 P) (.node (o_502 P) (.node (o_185 P) (.node (o_313 P) .nil .nil) .nil) (.node (o_249 P) .nil .nil)) (.node (o_502 P) (.node (o_503 P) .nil .nil) (.node (o_281 P) .nil .nil)))) (.node (o_502 P) (.node (o_81 P) (.node (o_113 P) (.node (o_502 P) (.node (o_305 P) .nil .nil) .nil) (.node (o_241 P) .nil .nil)) (.node (o_145 P) (.node (o_502 P) .nil .nil) (.node (o_502 P) .nil .nil))) (.node (o_502 P) (.node (o_129 P) (.node (o_193 P) (.node (o_321 P) .nil .nil) .nil) (.node (o_257 P) .nil .nil)) (.node (o_503 P) (.node (o_225 P) .nil .nil) (.node (o_289 P) .nil .nil)))))))
noncomputable def tree8 (P : Params) : BT := .node (boot_o_0 P) (.node (boot_o_1 P) (.node (q_15 P) (.node (boot_o_7 P) (.node (o_502 P) (.node (o_503 P) (.node (o_391 P) (.node (o_162 P) (.node (o_502 P) .nil .nil) .nil) (.node (o_502 P) (.node (o_354 P) .nil .nil) .nil)) (.node (o_130 P) (.node (o_194 P) (.node (o_502 P) .nil .nil) .nil) (.node (o_258 P) .nil .nil))) (.node (o_82 P) (.node (o_502 P) (.node (o_178 P) (.node (o_306 P) .nil .nil) .nil) (.node (o_242 P) (.node (o_370 P) .nil .nil) .nil)) (.node (o_502 P) (.node (o_503 P) (.node (o_338 P) .nil .nil) .nil) (.node (o_503 P) .nil .nil)))) (.node (o_391 P) (.node (o_74 P) (.node (o_106 P) (.node (o_502 P) (.node (o_298 P) .nil .nil) .nil) (.node (o_234 P) (.node (o_362 P) .nil .nil) .nil)) (.node (o_138 P) (.node (o_502 P) (.node (o_391 P) .nil .nil) .nil) (.node (o_502 P) .nil .nil))) (.node (o_90 P) (.node (o_122 P) (.node (o_186 P) (.node (o_314 P) .nil .nil) .nil) (.node (o_250 P) (.node (o_378 P) .nil .nil) .nil)) (.node (o_503 P) (.node (o_218 P) (.node (o_502 P) .nil .nil) .nil) (.node (o_282 P) .nil .nil))))) (.node (o_502 P) (.node (o_54 P) (.node (o_70 P) (.node (o_102 P) (.node (o_166 P) (.node (o_502 P) .nil .nil) .nil) (.node (o_502 P) (.node (o_503 P) .nil .nil) .nil)) (.node (o_134 P) (.node (o_502 P) (.node (o_326 P) .nil .nil) .nil) (.node (o_262 P) .nil .nil))) (.node (o_391 P) (.node (o_502 P) (.node (o_503 P) (.node (o_310 P) .nil .nil) .nil) (.node (o_246 P) (.node (o_374 P) .nil .nil) .nil)) (.node (o_150 P) (.node (o_214 P) (.node (o_342 P) .nil .nil) .nil) (.node (o_278 P) .nil .nil)))) (.node (o_62 P) (.node (o_78 P) (.node (o_110 P) (.node (o_502 P) (.node (o_503 P) .nil .nil) .nil) (.node (o_238 P) (.node (o_366 P) .nil .nil) .nil)) (.node (o_502 P) (.node (o_206 P) (.node (o_334 P) .nil .nil) .nil) (.node (o_270 P) .nil .nil))) (.node (o_94 P) (.node (o_503 P) (.node (o_190 P) (.node (o_502 P) .nil .nil) .nil) (.node (o_254 P) (.node (o_382 P) .nil .nil) .nil)) (.node (o_158 P) (.node (o_222 P) (.node (o_502 P) .nil .nil) .nil) (.node (o_286 P) .nil .nil)))))) (.node (boot_o_5 P) (.node (boot_o_9 P) (.node (o_52 P) (.node (o_502 P) (.node (o_502 P) (.node (o_164 P) (.node (o_292 P) .nil .nil) .nil) (.node (o_228 P) (.node (o_356 P) .nil .nil) .nil)) (.node (o_502 P) (.node (o_503 P) (.node (o_324 P) .nil .nil) .nil) (.node (o_260 P) .nil .nil))) (.node (o_84 P) (.node (o_116 P) (.node (o_180 P) (.node (o_308 P) .nil .nil) .nil) (.node (o_502 P) (.node (o_503 P) .nil .nil) .nil)) (.node (o_148 P) (.node (o_502 P) (.node (o_340 P) .nil .nil) .nil) (.node (o_502 P) .nil .nil)))) (.node (o_502 P) (.node (o_76 P) (.node (o_108 P) (.node (o_172 P) (.node (o_300 P) .nil .nil) .nil) (.node (o_236 P) (.node (o_502 P) .nil .nil) .nil)) (.node (o_503 P) (.node (o_204 P) (.node (o_502 P) .nil .nil) .nil) (.node (o_268 P) .nil .nil))) (.node (o_502 P) (.node (o_124 P) (.node (o_188 P) (.node (o_503 P) .nil .nil) .nil) (.node (o_502 P) (.node (o_380 P) .nil .nil) .nil)) (.node (o_502 P) (.node (o_220 P) (.node (o_348 P) .nil .nil) .nil) (.node (o_284 P) .nil .nil))))) (.node (o_45 P) (.node (o_56 P) (.node (o_502 P) (.node (o_502 P) (.node (o_503 P) (.node (o_296 P) .nil .nil) .nil) (.node (o_232 P) (.node (o_502 P) .nil .nil) .nil)) (.node (o_136 P) (.node (o_200 P) (.node (o_328 P) .nil .nil) .nil) (.node (o_264 P) .nil .nil))) (.node (o_502 P) (.node (o_120 P) (.node (o_502 P) (.node (o_312 P) .nil .nil) .nil) (.node (o_248 P) (.node (o_376 P) .nil .nil) .nil)) (.node (o_152 P) (.node (o_502 P) (.node (o_503 P) .nil .nil) .nil) (.node (o_280 P) .nil .nil)))) (.node (o_64 P) (.node (o_80 P) (.node (o_503 P) (.node (o_176 P) (.node (o_502 P) .nil .nil) .nil) (.node (o_240 P) (.node (o_368 P) .nil .nil) .nil)) (.node (o_144 P) (.node (o_208 P) (.node (o_502 P) .nil .nil) .nil) (.node (o_272 P) .nil .nil))) (.node (o_96 P) (.node (o_502 P) (.node (o_192 P) (.node (o_320 P) .nil .nil) .nil) (.node (o_256 P) .nil .nil)) (.node (o_502 P) (.node (o_391 P) (.node (o_352 P) .nil .nil) .nil) (.node (o_391 P) .nil .nil))))))) (.node (o_47 P) (.node (boot_o_4 P) (.node (boot_o_8 P) (.node (o_503 P) (.node (o_67 P) (.node (o_99 P) (.node (o_502 P) (.node (o_291 P) .nil .nil) .nil) (.node (o_227 P) (.node (o_355 P) .nil .nil) .nil)) (.node (o_131 P) (.node (o_502 P) (.node (o_503 P) .nil .nil) .nil) (.node (o_259 P) .nil .nil))) (.node (o_83 P) (.node (o_115 P) (.node (o_179 P) (.node (o_307 P) .nil .nil) .nil) (.node (o_243 P) (.node (o_502 P) .nil .nil) .nil)) (.node (o_503 P) (.node (o_211 P) (.node (o_502 P) .nil .nil) .nil) (.node (o_275 P) .nil .nil)))) (.node (o_59 P) (.node (o_502 P) (.node (o_502 P) (.node (o_171 P) (.node (o_299 P) .nil .nil) .nil) (.node (o_235 P) (.node (o_363 P) .nil .nil) .nil)) (.node (o_502 P) (.node (o_503 P) (.node (o_331 P) .nil .nil) .nil) (.node (o_391 P) .nil .nil))) (.node (o_91 P) (.node (o_123 P) (.node (o_187 P) (.node (o_502 P) .nil .nil) .nil) (.node (o_251 P) (.node (o_379 P) .nil .nil) .nil)) (.node (o_155 P) (.node (o_502 P) (.node (o_347 P) .nil .nil) .nil) (.node (o_283 P) .nil .nil))))) (.node (q_16 P) (.node (o_55 P) (.node (o_71 P) (.node (o_103 P) (.node (o_502 P) (.node (o_503 P) .nil .nil) .nil) (.node (o_503 P) (.node (o_359 P) .nil .nil) .nil)) (.node (o_502 P) (.node (o_199 P) (.node (o_327 P) .nil .nil) .nil) (.node (o_263 P) .nil .nil))) (.node (o_87 P) (.node (o_503 P) (.node (o_183 P) (.node (o_311 P) .nil .nil) .nil) (.node (o_502 P) (.node (o_375 P) .nil .nil) .nil)) (.node (o_151 P) (.node (o_215 P) (.node (o_502 P) .nil .nil) .nil) (.node (o_279 P) .nil .nil)))) (.node (o_63 P) (.node (o_79 P) (.node (o_502 P) (.node (o_503 P) (.node (o_303 P) .nil .nil) .nil) (.node (o_239 P) (.node (o_502 P) .nil .nil) .nil)) (.node (o_143 P) (.node (o_207 P) (.node (o_335 P) .nil .nil) .nil) (.node (o_271 P) .nil .nil))) (.node (o_95 P) (.node (o_127 P) (.node (o_191 P) (.node (o_319 P) .nil .nil) .nil) (.node (o_502 P) .nil .nil)) (.node (o_159 P) (.node (o_502 P) (.node (o_503 P) .nil .nil) .nil) (.node (o_502 P) .nil .nil)))))) (.node (boot_o_6 P) (.node (boot_o_10 P) (.node (o_502 P) (.node (o_69 P) (.node (o_101 P) (.node (o_165 P) (.node (o_293 P) .nil .nil) .nil) (.node (o_229 P) (.node (o_502 P) .nil .nil) .nil)) (.node (o_503 P) (.node (o_197 P) (.node (o_502 P) .nil .nil) .nil) (.node (o_261 P) .nil .nil))) (.node (o_85 P) (.node (o_117 P) (.node (o_502 P) (.node (o_309 P) .nil .nil) .nil) (.node (o_391 P) (.node (o_373 P) .nil .nil) .nil)) (.node (o_502 P) (.node (o_213 P) (.node (o_341 P) .nil .nil) .nil) (.node (o_277 P) .nil .nil)))) (.node (o_61 P) (.node (o_77 P) (.node (o_109 P) (.node (o_173 P) (.node (o_502 P) .nil .nil) .nil) (.node (o_237 P) (.node (o_503 P) .nil .nil) .nil)) (.node (o_141 P) (.node (o_502 P) (.node (o_333 P) .nil .nil) .nil) (.node (o_502 P) .nil .nil))) (.node (o_93 P) (.node (o_502 P) (.node (o_189 P) (.node (o_317 P) .nil .nil) .nil) (.node (o_503 P) (.node (o_381 P) .nil .nil) .nil)) (.node (o_157 P) (.node (o_221 P) (.node (o_349 P) .nil .nil) .nil) (.node (o_285 P) .nil .nil))))) (.node (o_46 P) (.node (o_57 P) (.node (o_503 P) (.node (o_503 P) (.node (o_169 P) (.node (o_502 P) .nil .nil) .nil) (.node (o_502 P) (.node (o_361 P) .nil .nil) .nil)) (.node (o_137 P) (.node (o_201 P) (.node (o_502 P) .nil .nil) .nil) (.node (o_265 P) .nil .nil))) (.node (o_503 P) (.node (o_502 P) (.node (o_185 P) (.node (o_313 P) .nil .nil) .nil) (.node (o_249 P) (.node (o_377 P) .nil .nil) .nil)) (.node (o_502 P) (.node (o_503 P) (.node (o_345 P) .nil .nil) .nil) (.node (o_281 P) .nil .nil)))) (.node (o_502 P) (.node (o_81 P) (.node (o_113 P) (.node (o_502 P) (.node (o_305 P) .nil .nil) .nil) (.node (o_241 P) (.node (o_369 P) .nil .nil) .nil)) (.node (o_145 P) (.node (o_502 P) (.node (o_503 P) .nil .nil) .nil) (.node (o_502 P) .nil .nil))) (.node (o_502 P) (.node (o_129 P) (.node (o_193 P) (.node (o_321 P) .nil .nil) .nil) (.node (o_257 P) .nil .nil)) (.node (o_503 P) (.node (o_225 P) (.node (o_502 P) .nil .nil) .nil) (.node (o_289 P) .nil .nil)))))))
noncomputable def tree9 (P : Params) : BT := .node (boot_o_0 P) (.node (boot_o_1 P) (.node (q_17 P) (.node (boot_o_7 P) (.node (o_502 P) (.node (o_503 P) (.node (o_391 P) (.node (o_162 P) (.node (o_502 P) .nil .nil) (.node (o_502 P) .nil .nil)) (.node (o_502 P) (.node (o_354 P) .nil .nil) .nil)) (.node (o_130 P) (.node (o_194 P) (.node (o_502 P) .nil .nil) .nil) (.node (o_258 P) (.node (o_502 P) .nil .nil) .nil))) (.node (o_82 P) (.node (o_502 P) (.node (o_178 P) (.node (o_306 P) .nil .nil) (.node (o_503 P) .nil .nil)) (.node (o_242 P) (.node (o_370 P) .nil .nil) .nil)) (.node (o_502 P) (.node (o_503 P) (.node (o_338 P) .nil .nil) .nil) (.node (o_503 P) (.node (o_402 P) .nil .nil) .nil)))) (.node (o_391 P) (.node (o_74 P) (.node (o_106 P) (.node (o_502 P) (.node (o_298 P) .nil .nil) (.node (o_502 P) .nil .nil)) (.node (o_234 P) (.node (o_362 P) .nil .nil) .nil)) (.node (o_138 P) (.node (o_502 P) (.node (o_391 P) .nil .nil) .nil) (.node (o_502 P) (.node (o_394 P) .nil .nil) .nil))) (.node (o_90 P) (.node (o_122 P) (.node (o_186 P) (.node (o_314 P) .nil .nil) .nil) (.node (o_250 P) (.node (o_378 P) .nil .nil) .nil)) (.node (o_503 P) (.node (o_218 P) (.node (o_502 P) .nil .nil) .nil) (.node (o_282 P) (.node (o_410 P) .nil .nil) .nil))))) (.node (o_502 P) (.node (o_54 P) (.node (o_70 P) (.node (o_102 P) (.node (o_166 P) (.node (o_502 P) .nil .nil) (.node (o_422 P) .nil .nil)) (.node (o_502 P) (.node (o_503 P) .nil .nil) .nil)) (.node (o_134 P) (.node (o_502 P) (.node (o_326 P) .nil .nil) .nil) (.node (o_262 P) (.node (o_502 P) .nil .nil) .nil))) (.node (o_391 P) (.node (o_502 P) (.node (o_503 P) (.node (o_310 P) .nil .nil) .nil) (.node (o_246 P) (.node (o_374 P) .nil .nil) .nil)) (.node (o_150 P) (.node (o_214 P) (.node (o_342 P) .nil .nil) .nil) (.node (o_278 P) (.node (o_406 P) .nil .nil) .nil)))) (.node (o_62 P) (.node (o_78 P) (.node (o_110 P) (.node (o_502 P) (.node (o_503 P) .nil .nil) (.node (o_430 P) .nil .nil)) (.node (o_238 P) (.node (o_366 P) .nil .nil) .nil)) (.node (o_502 P) (.node (o_206 P) (.node (o_334 P) .nil .nil) .nil) (.node (o_270 P) (.node (o_503 P) .nil .nil) .nil))) (.node (o_94 P) (.node (o_503 P) (.node (o_190 P) (.node (o_502 P) .nil .nil) .nil) (.node (o_254 P) (.node (o_382 P) .nil .nil) .nil)) (.node (o_158 P) (.node (o_222 P) (.node (o_502 P) .nil .nil) .nil) (.node (o_286 P) (.node (o_502 P) .nil .nil) .nil)))))) (.node (boot_o_5 P) (.node (boot_o_9 P) (.node (o_52 P) (.node (o_502 P) (.node (o_502 P) (.node (o_164 P) (.node (o_292 P) .nil .nil) (.node (o_420 P) .nil .nil)) (.node (o_228 P) (.node (o_356 P) .nil .nil) .nil)) (.node (o_502 P) (.node (o_503 P) (.node (o_324 P) .nil .nil) .nil) (.node (o_260 P) (.node (o_388 P) .nil .nil) .nil))) (.node (o_84 P) (.node (o_116 P) (.node (o_180 P) (.node (o_308 P) .nil .nil) (.node (o_436 P) .nil .nil)) (.node (o_502 P) (.node (o_503 P) .nil .nil) .nil)) (.node (o_148 P) (.node (o_502 P) (.node (o_340 P) .nil .nil) .nil) (.node (o_502 P) (.node (o_404 P) .nil .nil) .nil)))) (.node (o_502 P) (.node (o_76 P) (.node (o_108 P) (.node (o_172 P) (.node (o_300 P) .nil .nil) (.node (o_428 P) .nil .nil)) (.node (o_236 P) (.node (o_502 P) .nil .nil) .nil)) (.node (o_503 P) (.node (o_204 P) (.node (o_502 P) .nil .nil) .nil) (.node (o_268 P) (.node (o_396 P) .nil .nil) .nil))) (.node (o_502 P) (.node (o_124 P) (.node (o_188 P) (.node (o_503 P) .nil .nil) .nil) (.node (o_502 P) (.node (o_380 P) .nil .nil) .nil)) (.node (o_502 P) (.node (o_220 P) (.node (o_348 P) .nil .nil) .nil) (.node (o_284 P) (.node (o_503 P) .nil .nil) .nil))))) (.node (o_45 P) (.node (o_56 P) (.node (o_502 P) (.node (o_502 P) (.node (o_503 P) (.node (o_296 P) .nil .nil) (.node (o_424 P) .nil .nil)) (.node (o_232 P) (.node (o_502 P) .nil .nil) .nil)) (.node (o_136 P) (.node (o_200 P) (.node (o_328 P) .nil .nil) .nil) (.node (o_264 P) (.node (o_392 P) .nil .nil) .nil))) (.node (o_502 P) (.node (o_120 P) (.node (o_502 P) (.node (o_312 P) .nil .nil) .nil) (.node (o_248 P) (.node (o_376 P) .nil .nil) .nil)) (.node (o_152 P) (.node (o_502 P) (.node (o_503 P) .nil .nil) .nil) (.node (o_280 P) (.node (o_408 P) .nil .nil) .nil)))) (.node (o_64 P) (.node (o_80 P) (.node (o_503 P) (.node (o_176 P) (.node (o_502 P) .nil .nil) (.node (o_432 P) .nil .nil)) (.node (o_240 P) (.node (o_368 P) .nil .nil) .nil)) (.node (o_144 P) (.node (o_208 P) (.node (o_502 P) .nil .nil) .nil) (.node (o_272 P) (.node (o_502 P) .nil .nil) .nil))) (.node (o_96 P) (.node (o_502 P) (.node (o_192 P) (.node (o_320 P) .nil .nil) .nil) (.node (o_256 P) (.node (o_503 P) .nil .nil) .nil)) (.node (o_502 P) (.node (o_391 P) (.node (o_352 P) .nil .nil) .nil) (.node (o_391 P) (.node (o_416 P) .nil .nil) .nil))))))) (.node (o_47 P) (.node (boot_o_4 P) (.node (boot_o_8 P) (.node (o_503 P) (.node (o_67 P) (.node (o_99 P) (.node (o_502 P) (.node (o_291 P) .nil .nil) (.node (o_503 P) .nil .nil)) (.node (o_227 P) (.node (o_355 P) .nil .nil) .nil)) (.node (o_131 P) (.node (o_502 P) (.node (o_503 P) .nil .nil) .nil) (.node (o_259 P) (.node (o_387 P) .nil .nil) .nil))) (.node (o_83 P) (.node (o_115 P) (.node (o_179 P) (.node (o_307 P) .nil .nil) (.node (o_435 P) .nil .nil)) (.node (o_243 P) (.node (o_502 P) .nil .nil) .nil)) (.node (o_503 P) (.node (o_211 P) (.node (o_502 P) .nil .nil) .nil) (.node (o_275 P) (.node (o_403 P) .nil .nil) .nil)))) (.node (o_59 P) (.node (o_502 P) (.node (o_502 P) (.node (o_171 P) (.node (o_299 P) .nil .nil) (.node (o_503 P) .nil .nil)) (.node (o_235 P) (.node (o_363 P) .nil .nil) .nil)) (.node (o_502 P) (.node (o_503 P) (.node (o_331 P) .nil .nil) .nil) (.node (o_391 P) (.node (o_395 P) .nil .nil) .nil))) (.node (o_91 P) (.node (o_123 P) (.node (o_187 P) (.node (o_502 P) .nil .nil) .nil) (.node (o_251 P) (.node (o_379 P) .nil .nil) .nil)) (.node (o_155 P) (.node (o_502 P) (.node (o_347 P) .nil .nil) .nil) (.node (o_283 P) (.node (o_502 P) .nil .nil) .nil))))) (.node (q_18 P) (.node (o_55 P) (.node (o_71 P) (.node (o_103 P) (.node (o_502 P) (.node (o_503 P) .nil .nil) (.node (o_423 P) .nil .nil)) (.node (o_503 P) (.node (o_359 P) .nil .nil) .nil)) (.node (o_502 P) (.node (o_199 P) (.node (o_327 P) .nil .nil) .nil) (.node (o_263 P) (.node (o_391 P) .nil .nil) .nil))) (.node (o_87 P) (.node (o_503 P) (.node (o_183 P) (.node (o_311 P) .nil .nil) .nil) (.node (o_502 P) (.node (o_375 P) .nil .nil) .nil)) (.node (o_151 P) (.node (o_215 P) (.node (o_502 P) .nil .nil) .nil) (.node (o_279 P) (.node (o_407 P) .nil .nil) .nil)))) (.node (o_63 P) (.node (o_79 P) (.node (o_502 P) (.node (o_503 P) (.node (o_303 P) .nil .nil) (.node (o_431 P) .nil .nil)) (.node (o_239 P) (.node (o_502 P) .nil .nil) .nil)) (.node (o_143 P) (.node (o_207 P) (.node (o_335 P) .nil .nil) .nil) (.node (o_271 P) (.node (o_399 P) .nil .nil) .nil))) (.node (o_95 P) (.node (o_127 P) (.node (o_191 P) (.node (o_319 P) .nil .nil) .nil) (.node (o_502 P) (.node (o_502 P) .nil .nil) .nil)) (.node (o_159 P) (.node (o_502 P) (.node (o_503 P) .nil .nil) .nil) (.node (o_502 P) (.node (o_415 P) .nil .nil) .nil)))))) (.node (boot_o_6 P) (.node (boot_o_10 P) (.node (o_502 P) (.node (o_69 P) (.node (o_101 P) (.node (o_165 P) (.node (o_293 P) .nil .nil) (.node (o_502 P) .nil .nil)) (.node (o_229 P) (.node (o_502 P) .nil .nil) .nil)) (.node (o_503 P) (.node (o_197 P) (.node (o_502 P) .nil .nil) .nil) (.node (o_261 P) (.node (o_389 P) .nil .nil) .nil))) (.node (o_85 P) (.node (o_117 P) (.node (o_502 P) (.node (o_309 P) .nil .nil) (.node (o_437 P) .nil .nil)) (.node (o_391 P) (.node (o_373 P) .nil .nil) .nil)) (.node (o_502 P) (.node (o_213 P) (.node (o_341 P) .nil .nil) .nil) (.node (o_277 P) (.node (o_405 P) .nil .nil) .nil)))) (.node (o_61 P) (.node (o_77 P) (.node (o_109 P) (.node (o_173 P) (.node (o_502 P) .nil .nil) (.node (o_502 P) .nil .nil)) (.node (o_237 P) (.node (o_503 P) .nil .nil) .nil)) (.node (o_141 P) (.node (o_502 P) (.node (o_333 P) .nil .nil) .nil) (.node (o_502 P) (.node (o_502 P) .nil .nil) .nil))) (.node (o_93 P) (.node (o_502 P) (.node (o_189 P) (.node (o_317 P) .nil .nil) .nil) (.node (o_503 P) (.node (o_381 P) .nil .nil) .nil)) (.node (o_157 P) (.node (o_221 P) (.node (o_349 P) .nil .nil) .nil) (.node (o_285 P) (.node (o_413 P) .nil .nil) .nil))))) (.node (o_46 P) (.node (o_57 P) (.node (o_503 P) (.node (o_503 P) (.node (o_169 P) (.node (o_502 P) .nil .nil) (.node (o_425 P) .nil .nil)) (.node (o_502 P) (.node (o_361 P) .nil .nil) .nil)) (.node (o_137 P) (.node (o_201 P) (.node (o_502 P) .nil .nil) .nil) (.node (o_265 P) (.node (o_502 P) .nil .nil) .nil))) (.node (o_503 P) (.node (o_502 P) (.node (o_185 P) (.node (o_313 P) .nil .nil) .nil) (.node (o_249 P) (.node (o_377 P) .nil .nil) .nil)) (.node (o_502 P) (.node (o_503 P) (.node (o_345 P) .nil .nil) .nil) (.node (o_281 P) (.node (o_409 P) .nil .nil) .nil)))) (.node (o_502 P) (.node (o_81 P) (.node (o_113 P) (.node (o_502 P) (.node (o_305 P) .nil .nil) (.node (o_502 P) .nil .nil)) (.node (o_241 P) (.node (o_369 P) .nil .nil) .nil)) (.node (o_145 P) (.node (o_502 P) (.node (o_503 P) .nil .nil) .nil) (.node (o_502 P) (.node (o_401 P) .nil .nil) .nil))) (.node (o_502 P) (.node (o_129 P) (.node (o_193 P) (.node (o_321 P) .nil .nil) .nil) (.node (o_257 P) (.node (o_502 P) .nil .nil) .nil)) (.node (o_503 P) (.node (o_225 P) (.node (o_502 P) .nil .nil) .nil) (.node (o_289 P) (.node (o_417 P) .nil .nil) .nil)))))))
noncomputable abbrev b1 : List Stmt := (bE.drop 0).take 3
noncomputable abbrev b2 : List Stmt := (bE.drop 3).take 2
noncomputable abbrev b3 : List Stmt := (bE.drop 5).take 1
noncomputable abbrev b4 : List Stmt := (bE.drop 6).take 6
noncomputable abbrev b5 : List Stmt := (bE.drop 12).take 1
noncomputable abbrev b6 : List Stmt := (bE.drop 13).take 1
noncomputable abbrev b7 : List Stmt := (bE.drop 14).take 4
noncomputable abbrev b8 : List Stmt := (bE.drop 18).take 1
noncomputable abbrev b9 : List Stmt := (bE.drop 19).take 7
noncomputable abbrev b10 : List Stmt := (bE.drop 26).take 12
noncomputable abbrev x0 : Pos := ⟨0, 0, 0, 0⟩
noncomputable abbrev s1 (w : World) (os : OsState) : SharedT := ⟨tree1 w.params, 50, {}, #[], d0, 236, os⟩
noncomputable abbrev x1 : Pos := ⟨5, 0, 13, 35⟩
noncomputable abbrev s2 (w : World) (os : OsState) : SharedT := ⟨tree2 w.params, 62, {}, #[], d0, 254, os⟩
noncomputable abbrev x2 : Pos := ⟨16, 0, 16, 8⟩
noncomputable abbrev s3 (w : World) (os : OsState) : SharedT := ⟨tree3 w.params, 160, {}, #[], d0, 371, os⟩
noncomputable abbrev x3 : Pos := ⟨17, 0, 62, 16⟩
noncomputable abbrev s4 (w : World) (os : OsState) : SharedT := ⟨tree4 w.params, 209, {}, #[], d0, 434, os⟩
noncomputable abbrev x4 : Pos := ⟨81, 0, 84, 24⟩
noncomputable abbrev s5 (w : World) (os : OsState) : SharedT := ⟨tree5 w.params, 231, {}, #[], d0, 465, os⟩
noncomputable abbrev x5 : Pos := ⟨85, 0, 89, 28⟩
noncomputable abbrev s6 (w : World) (os : OsState) : SharedT := ⟨tree6 w.params, 252, {}, #[], d0, 496, os⟩
noncomputable abbrev x6 : Pos := ⟨90, 0, 94, 28⟩
noncomputable abbrev s7 (w : World) (os : OsState) : SharedT := ⟨tree7 w.params, 294, {}, #[], d0, 550, os⟩
noncomputable abbrev x7 : Pos := ⟨127, 0, 127, 8⟩
noncomputable abbrev s8 (w : World) (os : OsState) : SharedT := ⟨tree8 w.params, 348, {}, #[], d0, 628, os⟩
noncomputable abbrev x8 : Pos := ⟨128, 0, 151, 64⟩
noncomputable abbrev s9 (w : World) (os : OsState) : SharedT := ⟨tree9 w.params, 403, {}, #[], d0, 704, os⟩
noncomputable abbrev x9 : Pos := ⟨184, 0, 190, 50⟩
noncomputable abbrev x10 : Pos := ⟨272, 0, 295, 68⟩
theorem b_all : b1 ++ (b2 ++ (b3 ++ (b4 ++ (b5 ++ (b6 ++ (b7 ++ (b8 ++ (b9 ++ (b10 ++ []))))))))) = bE := by kernel_rfl
theorem p_pre (w : World) : (fun os => topGo treeTable pr w 11 ann 12 ⟨boot_heap w.params, #[], boot_drawn, boot_toks, os⟩ (topStub pr)) =
    fun os => some (⟨heapA w.params, #[], d0, 187, os⟩, ⟨denote treeTable cE, cE, z4, [topFrame z4]⟩) := by kernel_rfl
theorem p_block (w : World) : (fun os => segRun treeTable pr w 11 ann 1 1 ⟨heapA w.params, #[], d0, 187, os⟩ (blockOf bE env0 cE z4 [topFrame z4])) =
    fun os => some (Flow.next, (sA w os).abs, cE, z4) := by kernel_rfl
theorem p_run1 (w : World) : (fun os => segRunT treeTable pr w 11 ann 1 307 (sA w os) (piecesOf b1 env0 cE x0 [topFrame z4])) =
    fun os => some (Flow.next, s1 w os, cE, x1) := by
  rw [PySem.W.Fast.te10110043849684766642, PySem.W.Fast.te14364793385576792824]
  kernel_rfl
theorem p_run2 (w : World) : (fun os => segRunT treeTable pr w 11 ann 1 223 (s1 w os) (piecesOf b2 env0 cE x1 [topFrame z4])) =
    fun os => some (Flow.next, s2 w os, cE, x2) := by
  rw [PySem.W.Fast.te10110043849684766642, PySem.W.Fast.te14364793385576792824]
  kernel_rfl
theorem p_run3 (w : World) : (fun os => segRunT treeTable pr w 11 ann 1 575 (s2 w os) (piecesOf b3 env0 cE x2 [topFrame z4])) =
    fun os => some (Flow.next, s3 w os, cE, x3) := by
  rw [PySem.W.Fast.te10110043849684766642, PySem.W.Fast.te14364793385576792824]
  kernel_rfl
theorem p_run4 (w : World) : (fun os => segRunT treeTable pr w 11 ann 1 352 (s3 w os) (piecesOf b4 env0 cE x3 [topFrame z4])) =
    fun os => some (Flow.next, s4 w os, cE, x4) := by
  rw [PySem.W.Fast.te10110043849684766642, PySem.W.Fast.te14364793385576792824]
  kernel_rfl
theorem p_run5 (w : World) : (fun os => segRunT treeTable pr w 11 ann 1 226 (s4 w os) (piecesOf b5 env0 cE x4 [topFrame z4])) =
    fun os => some (Flow.next, s5 w os, cE, x5) := by
  rw [PySem.W.Fast.te10110043849684766642, PySem.W.Fast.te14364793385576792824]
  kernel_rfl
theorem p_run6 (w : World) : (fun os => segRunT treeTable pr w 11 ann 1 225 (s5 w os) (piecesOf b6 env0 cE x5 [topFrame z4])) =
    fun os => some (Flow.next, s6 w os, cE, x6) := by
  rw [PySem.W.Fast.te10110043849684766642, PySem.W.Fast.te14364793385576792824]
  kernel_rfl
theorem p_run7 (w : World) : (fun os => segRunT treeTable pr w 11 ann 1 323 (s6 w os) (piecesOf b7 env0 cE x6 [topFrame z4])) =
    fun os => some (Flow.next, s7 w os, cE, x7) := by
  rw [PySem.W.Fast.te10110043849684766642, PySem.W.Fast.te14364793385576792824]
  kernel_rfl
theorem p_run8 (w : World) : (fun os => segRunT treeTable pr w 11 ann 1 390 (s7 w os) (piecesOf b8 env0 cE x7 [topFrame z4])) =
    fun os => some (Flow.next, s8 w os, cE, x8) := by
  rw [PySem.W.Fast.te10110043849684766642, PySem.W.Fast.te14364793385576792824]
  kernel_rfl
theorem p_run9 (w : World) : (fun os => segRunT treeTable pr w 11 ann 1 386 (s8 w os) (piecesOf b9 env0 cE x8 [topFrame z4])) =
    fun os => some (Flow.next, s9 w os, cE, x9) := by
  rw [PySem.W.Fast.te10110043849684766642, PySem.W.Fast.te14364793385576792824]
  kernel_rfl
theorem p_run10 (w : World) : (fun os => segRunT treeTable pr w 11 ann 1 334 (s9 w os) (piecesOf b10 env0 cE x9 [topFrame z4])) =
    fun os => some (Flow.next, sF w os, cE, x10) := by
  rw [PySem.W.Fast.te10110043849684766642, PySem.W.Fast.te14364793385576792824]
  kernel_rfl
theorem p_fin (w : World) : (fun os => topRun treeTable pr w 11 ann 2 (sF w os).abs ⟨doneF .next, cE, pL, [topFrame z4]⟩) =
    fun os => some ⟨heapF w.params, #[], d0, 796, os⟩ := by kernel_rfl
theorem p_all (w : World) (os : OsState) : topRun treeTable pr w 11 ann (12 + (1 + (307 + (223 + (575 + (352 + (226 + (225 + (323 + (390 + (386 + (334 + 2)))))))))))) ⟨boot_heap w.params, #[], boot_drawn, boot_toks, os⟩ (topStub pr) = some ⟨heapF w.params, #[], d0, 796, os⟩ := by
  have k := piece_nil (env := env0) (congrFun (p_fin w) os)
  replace k := piece_app (segRun_of (congrFun (p_run10 w) os)) k
  replace k := piece_app (segRun_of (congrFun (p_run9 w) os)) k
  replace k := piece_app (segRun_of (congrFun (p_run8 w) os)) k
  replace k := piece_app (segRun_of (congrFun (p_run7 w) os)) k
  replace k := piece_app (segRun_of (congrFun (p_run6 w) os)) k
  replace k := piece_app (segRun_of (congrFun (p_run5 w) os)) k
  replace k := piece_app (segRun_of (congrFun (p_run4 w) os)) k
  replace k := piece_app (segRun_of (congrFun (p_run3 w) os)) k
  replace k := piece_app (segRun_of (congrFun (p_run2 w) os)) k
  replace k := piece_app (segRun_of (congrFun (p_run1 w) os)) k
  rw [b_all] at k
  exact go_top (congrFun (p_pre w) os) (piece_block (congrFun (p_block w) os) k)
end Mine.hd
end
section
open PySem PySem.W PyProof.Rows PySem.Calls
namespace Mine.hd
theorem p_keys (P : Params) : adrs = (heap_39 P).map (·.1) := by kernel_rfl
noncomputable abbrev hook : Hook := kHook heap_39 adrs p_keys
abbrev lo : List PySem.Str := [PySem.Str.ofString "PaperError", PySem.Str.ofString "first_state"]
noncomputable abbrev xt (s : Shared) : Bool := xlAt view_39 [] s && recOk (RowW.records (OpenRow.toRowW (OpenLaw.row PySem.Challenge.rw_og0172_01))) s
theorem p_open (w : World) : (fencedOpening treeTable pr w 6788).map (fun s => (s.heap, s.gens, s.drawn, s.toks)) = some (boot_heap w.params, Array.mk [], boot_drawn, boot_toks) :=
  boot_open (by kernel_rfl) (by kernel_rfl) (fun s => by kernel_rfl) w
theorem p_size (w : World) : ((boot_heap w.params).isNs mainGlobals && (#[] : Array GenState).size == 0, (boot_heap w.params).objs.size, (boot_heap w.params).nsMap mainGlobals "__annotations__") = (true, 11, ann) := by kernel_rfl
theorem p_looks1 (w : World) : (fun os => ((staticsOk (importedModules pr.main.body) (boot_heap w.params) (heapF w.params) && namesBound pr (heapF w.params) && gensDone ⟨heapF w.params, #[], d0, 796, os⟩ && laidKept (boot_heap w.params) (heapF w.params)))) = fun _ => true := by kernel_rfl
theorem p_looks2 (w : World) : (fun os => openSeen view_39 lo (importedModules pr.main.body) xt true ⟨heapF w.params, #[], d0, 796, os⟩) = fun _ => openGood view_39 lo := by kernel_rfl
theorem p_looks3 (w : World) : (fun os => hook.obs ⟨heapF w.params, #[], d0, 796, os⟩) = fun _ => hook.val w := by kernel_rfl
theorem p_left : LeftO pr view_39 lo xt hook.obs hook.val 6788 :=
  LeftO.of_pieces p_open p_size p_all (by kernel_rfl) fun w => by
    funext os
    exact looks_pair (congrFun (p_looks1 w) os) (looks_pair (congrFun (p_looks2 w) os) (congrFun (p_looks3 w) os))
end Mine.hd
end
section
open PySem PySem.W PyProof.Rows PySem.Calls
namespace Mine
theorem rowsHdS : True := by
  k_with_none
  trivial

theorem h_said : PySem.Challenge.rw_og0172_01.wellSaid = true := by
  rw [PySem.W.Fast.te9446332074065402090]
  kernel_rfl
theorem h_ok : (chainsOk hd.view_39 && opensWell PySem.Challenge.rw_og0172_01.row.prog && (frees PySem.Challenge.rw_og0172_01.row.toRowW && PySem.Challenge.rw_og0172_01.row.within.isEmpty)) = true := by kernel_rfl
end Mine
end
section
open PySem PySem.W PyProof.Rows
namespace Mine
theorem rowsBase : True := by
  k_with_none
  trivial


/-- what a call of the def at f on vs gives, from every frame: Out of what it made and of its answer, or PaintFault where Exc -/
def Says (w : World) (D : Nat) (f : Addr) (vs : List Value) (news : List (Addr × Obj)) (Out : List (Addr × Obj) → Value → Prop) (Exc : Prop) : Prop :=
  ∀ (mean : ExcName → Option Value) (mg mb : Str → Option Value) (dp un : Nat) (gd : Option (List Code)) (cn : Str) (cs : Scope) (a : Addr) (ccd : Value) (cl : List (Str × Addr)) (outer : List Env) (A₀ : Around) (base h₀ : Heap) (L : Addr) (m : Str → Option Value) (s : Shared) (Q E : Value → Shared → Prop),
    Below A₀ base outer h₀ → Fr h₀ L s.heap m → (hd.heap_39 w.params).In h₀ → News h₀ L s.heap news → Top hd.view_39 (looseW hd.view_39 [Str.ofString "PaperError", Str.ofString "first_state"]) mean mg mb h₀ → cs.kind = .function →
    dp + D ≤ 500 → un + 10 * D ≤ 2000 →
    (∀ r tl h' tk', Fr h₀ L h' m → News h₀ L h' (news ++ tl) → (∀ q ∈ news, ∀ p ∈ tl, q.1 ≠ p.1) → Out tl r → Q r { s with heap := h', toks := tk' }) →
    (∀ e g₂ h' tk', Exc → Fr h₀ L g₂ m → RaisedN base (envX cn cs L a ccd cl :: outer) e (.ref 59) news h' → g₂.UpToSlots h' → E (.ref e) { s with heap := h', toks := tk' }) →
    wpAny (model PySem.Challenge.rw_og0172_01.row.prog w) (ktrTop dp un gd cn cs L a ccd cl outer) (call (.ref f) vs) Q E s

theorem says_use {w : World} {D : Nat} {f : Addr} {vs : List Value} {news : List (Addr × Obj)} {Out : List (Addr × Obj) → Value → Prop} {Exc : Prop}
    {mean : ExcName → Option Value} {mg mb : Str → Option Value} {dp un : Nat} {gd : Option (List Code)} {cn : Str} {cs : Scope} {a : Addr} {ccd : Value} {cl : List (Str × Addr)} {outer : List Env} {A₀ : Around} {base h₀ : Heap} {L : Addr} {m : Str → Option Value} {s : Shared} {Q E : Value → Shared → Prop}
    (C : Says w D f vs news Out Exc) (B : Below A₀ base outer h₀) (F : Fr h₀ L s.heap m) (X : (hd.heap_39 w.params).In h₀) (N : News h₀ L s.heap news) (T : Top hd.view_39 (looseW hd.view_39 [Str.ofString "PaperError", Str.ofString "first_state"]) mean mg mb h₀) (hk : cs.kind = .function)
    (hdp : dp + D ≤ 500) (hun : un + 10 * D ≤ 2000)
    (ret : ∀ r tl h' tk', Fr h₀ L h' m → News h₀ L h' (news ++ tl) → (∀ q ∈ news, ∀ p ∈ tl, q.1 ≠ p.1) → Out tl r → Q r { s with heap := h', toks := tk' })
    (exc : ∀ e g₂ h' tk', Exc → Fr h₀ L g₂ m → RaisedN base (envX cn cs L a ccd cl :: outer) e (.ref 59) news h' → g₂.UpToSlots h' → E (.ref e) { s with heap := h', toks := tk' }) :
    wpAny (model PySem.Challenge.rw_og0172_01.row.prog w) (ktrTop dp un gd cn cs L a ccd cl outer) (call (.ref f) vs) Q E s :=
  C _ _ _ _ _ _ _ _ _ _ _ _ _ _ _ _ _ _ _ _ B F X N T hk hdp hun ret exc

abbrev ent (w : World) (n : String) (k : Tok) (v : Value) : DictEntry := { hash := PyData.keyHash w.params (Str.ofString n), key := .str (Str.ofString n) k, val := v }

inductive Op where
  | int (t : Int)
  | dec (t p : Int)
  | name (x : Str)
  | str
  | text (x : Str)

inductive OpAt (w : World) (news : List (Addr × Obj)) : Value → Op → Prop
  | int {t : Int} {k : Tok} : OpAt w news (.int t k) (.int t)
  | dec {a d : Addr} {t p : Int} {k1 k2 k3 k4 : Tok} : (a, instObj 155 d) ∈ news → (d, dictOf [ent w "top" k1 (.int t k2), ent w "places" k3 (.int p k4)] 2) ∈ news → OpAt w news (.ref a) (.dec t p)
  | name {a d : Addr} {x : Str} {k1 k2 : Tok} : (a, instObj 204 d) ∈ news → (d, dictOf [ent w "text" k1 (.str x k2)] 1) ∈ news → OpAt w news (.ref a) (.name x)
  | str {a d : Addr} {v1 v2 : Value} {k1 k2 : Tok} : (a, instObj 226 d) ∈ news → (d, dictOf [ent w "octets" k1 v1, ent w "is_hex" k2 v2] 2) ∈ news → OpAt w news (.ref a) .str
  | text {x : Str} {k : Tok} : OpAt w news (.str x k) (.text x)

theorem OpAt.mono {w : World} {news news' : List (Addr × Obj)} {v : Value} {o : Op} (h : OpAt w news v o) (hs : ∀ p ∈ news, p ∈ news') : OpAt w news' v o := by
  cases h with
  | int => exact .int
  | dec h1 h2 => exact .dec (hs _ h1) (hs _ h2)
  | name h1 h2 => exact .name (hs _ h1) (hs _ h2)
  | str h1 h2 => exact .str (hs _ h1) (hs _ h2)
  | text => exact .text

inductive AllOp (w : World) (news : List (Addr × Obj)) : List Value → List Op → Prop
  | nil : AllOp w news [] []
  | cons {v : Value} {o : Op} {vs : List Value} {os : List Op} : OpAt w news v o → AllOp w news vs os → AllOp w news (v :: vs) (o :: os)

theorem AllOp.mono {w : World} {news news' : List (Addr × Obj)} {vs : List Value} {os : List Op} (h : AllOp w news vs os) (hs : ∀ p ∈ news, p ∈ news') : AllOp w news' vs os := by
  induction h with
  | nil => exact .nil
  | cons h _ ih => exact .cons (h.mono hs) ih
theorem AllOp.length {w : World} {news : List (Addr × Obj)} {vs : List Value} {os : List Op} (h : AllOp w news vs os) : vs.length = os.length := by
  induction h with
  | nil => rfl
  | cons _ _ ih => simp [ih]
theorem AllOp.snoc {w : World} {news : List (Addr × Obj)} {vs : List Value} {os : List Op} {v : Value} {o : Op} (h : AllOp w news vs os) (k : OpAt w news v o) : AllOp w news (vs ++ [v]) (os ++ [o]) := by
  induction h with
  | nil => exact .cons k .nil
  | cons h _ ih => exact .cons h ih
theorem AllOp.get {w : World} {news : List (Addr × Obj)} {vs : List Value} {os : List Op} (h : AllOp w news vs os) : ∀ {i : Nat} {v : Value}, vs[i]? = some v → ∃ o, os[i]? = some o ∧ OpAt w news v o := by
  induction h with
  | nil => intro i v e; simp at e
  | cons h _ ih =>
    intro i v e
    cases i with
    | zero => simp at e; subst e; exact ⟨_, rfl, h⟩
    | succ i => simp at e ⊢; exact ih e

def Op.isNum : Op → Bool
  | .int _ => true
  | .dec _ _ => true
  | _ => false
def Op.top : Op → Int
  | .int t => t
  | .dec t _ => t
  | _ => 0
def Op.places : Op → Int
  | .dec _ p => p
  | _ => 0
/-- the operand as a Decimal -/
def Op.asDec (o : Op) : Op := .dec o.top o.places

theorem led {h₀ h : Heap} {L : Addr} {news pre : List (Addr × Obj)} (N : News h₀ L h (pre ++ news)) : News h₀ L h (news ++ pre) :=
  fun p hp => N p (List.mem_append.mpr ((List.mem_append.mp hp).symm))
theorem addN {h₀ h : Heap} {L : Addr} {q : Addr × Obj} {news : List (Addr × Obj)} (hq : q ∈ news) (N : News h₀ L h news) : News h₀ L h (q :: news) :=
  fun p hp => (List.mem_cons.mp hp).elim (fun e => e ▸ N q hq) (N p)
theorem mem_of_sub {q : Addr × Obj} {A B : List (Addr × Obj)} (h : q ∈ A) (s : ∀ p ∈ A, p ∈ B) : q ∈ B := s q h
theorem led0 {h₀ h : Heap} {L : Addr} {news : List (Addr × Obj)} (N : News h₀ L h news) : News h₀ L h (news ++ []) := by rw [List.append_nil]; exact N
theorem ord0 {news : List (Addr × Obj)} : ∀ q ∈ news, ∀ p ∈ ([] : List (Addr × Obj)), q.1 ≠ p.1 := fun _ _ _ h => nomatch h
theorem ord2 {a b : Addr} {oa ob : Obj} {news : List (Addr × Obj)} (h1 : ∀ p ∈ news, p.1 < b) (h2 : b < a) : ∀ q ∈ news, ∀ p ∈ [(a, oa), (b, ob)], q.1 ≠ p.1 := by
  intro q hq p hp
  have h := h1 q hq
  rcases List.mem_cons.mp hp with rfl | hp
  · exact Nat.ne_of_lt (Nat.lt_trans h h2)
  · rw [List.mem_singleton.mp hp]; exact Nat.ne_of_lt h
theorem subl {news tl : List (Addr × Obj)} : ∀ p ∈ news, p ∈ news ++ tl := fun _ h => List.mem_append.mpr (.inl h)
theorem new0 {q : Addr × Obj} {news tl : List (Addr × Obj)} : q ∈ news ++ (q :: tl) := List.mem_append.mpr (.inr (.head _))
theorem new1 {q r : Addr × Obj} {news tl : List (Addr × Obj)} : q ∈ news ++ (r :: q :: tl) := List.mem_append.mpr (.inr (.tail _ (.head _)))

end Mine
end
section
open PySem PySem.W PyProof.Rows PySem.Calls PySem.Spec
namespace Mine
theorem rowsExc : True := by
  k_with_none
  trivial


abbrev pfTail : List Value := [.ref 46, .type "Exception", .type "BaseException", .type "object"]
theorem pf_cls {w : World} {h : Heap} (X : (hd.heap_39 w.params).In h) : ∃ nm q N bs sn sub ab col dd k0 k1 k2 k3 k5,
    h.get? 59 = some (excClassObj nm q 59 N bs pfTail true sn sub ab col dd k0 k1 k2 k3 k5 "Exception.__new__") :=
  ⟨_, _, _, _, _, _, _, _, _, _, _, _, _, _, X 59 _ rfl⟩
abbrev tupObj (vs : List Value) : Obj := { cls := .type "tuple", data := .seq vs.toArray }
abbrev pfObj (dd : Option Addr) (t : Addr) : Obj := { cls := .ref 59, dict := dd, data := .fields #[.ref t, .none, .none, .none, .bool false, .none] }

section
variable {prog : Program} {w : World} {A : Around} {h : Heap} {g : Array GenState} {d : Drawn} {t : Nat} {os : OsState}

theorem pf_check_new {M : Model} {E : Value → Shared → Prop} (X : (hd.heap_39 w.params).In h) {rest : List Value} {Q : Unit → Shared → Prop} (hq : Q () ⟨h, g, d, t, os⟩) :
    wpAny M A (checkBuiltinCall "Exception.__new__" ⟨.ref 59 :: rest, []⟩) Q E ⟨h, g, d, t, os⟩ := by
  obtain ⟨nm, q, N, bs, sn, sub, ab, col, dd, k0, k1, k2, k3, k5, hC⟩ := pf_cls X
  have F := PySem.F.excBase_Exception
  have hcont : (Value.ref 59 :: pfTail).contains (.type "Exception") = true := by decide
  have hstar := F.noStar
  simp only [checkBuiltinCall, F.newKind, F.newSplit, F.newRow]
  repeat (first | refine wpAny_loadPart_at hC ?_ | (refine wpAny_isSubtype_exc hC ?_; rw [hcont]) | refine wpAny_staticBase_exc hC ?_ | refine wpAny_madeBy_exc hC ?_ | simp only [bne_self_eq_false, Bool.false_eq_true, if_false] | wp_step)
  exact hq

theorem pf_new {R : Result → Shared → Prop} (X : (hd.heap_39 w.params).In h) {rest : List Value}
    (hq : R (.ok (.ret (.ref (h.objs.size + 1)))) ⟨(h.push (tupObj rest)).push (pfObj none h.objs.size), g, d, t, os⟩) (hrest : rest.length ≤ sizeLine := by size_fits) :
    codeAny (model prog w) A (.builtin "Exception.__new__" ⟨.ref 59 :: rest, []⟩) R ⟨h, g, d, t, os⟩ := by
  obtain ⟨nm, q, N, bs, sn, sub, ab, col, dd, k0, k1, k2, k3, k5, hC⟩ := pf_cls X
  have F := PySem.F.excBase_Exception
  have hends := F.ends
  have hcB : (Value.ref 59 :: pfTail).contains (.type "Exception") = true := by decide
  have hcA : (Value.ref 59 :: pfTail).contains (.type "AttributeError") = false := by decide
  have hcN : (Value.ref 59 :: pfTail).contains (.type "NameError") = false := by decide
  refine codeAny_builtinAt F.entry ?_
  unfold Builtin.«BaseException.__new__»
  refine PySem.wpAt_bind ?_
  show PySem.wpAt _ _ _ (stack >>= _) _ _ _
  refine PySem.wpAt_bind (PySem.wpAt_stack fun p below => PySem.wpAt_of_wpAny ?_)
  wp_walk
  refine PySem.wpAt_of_wpAny ?_
  rw [F.owner]
  repeat (first | with_reducible refine wpAny_madeHere_exc F.canon hC ?_ | with_reducible refine wpAny_loadPart_at hC ?_ | (with_reducible refine wpAny_isSubtype_exc hC ?_; first | rw [hcB] | rw [hcA] | rw [hcN]) | wp_step)
  show R _ _
  rw [Heap.size_push]
  exact hq

theorem pf_type_call {E : Value → Shared → Prop} (X : (hd.heap_39 w.params).In h) {rest : List Value} {Q : Fin → Shared → Prop}
    (hq : wpAny (model prog w) A (call (.ref 36) (.ref (h.objs.size + 1) :: rest)) (fun r s' => r = .none ∧ Q (.done (.ret (.ref (h.objs.size + 1)))) s') E ⟨(h.push (tupObj rest)).push (pfObj none h.objs.size), g, d, t, os⟩) (hrest : rest.length ≤ sizeLine := by size_fits) :
    wpAny (model prog w) A (Builtin.«type.__call__» ⟨.ref 59 :: rest, []⟩) Q E ⟨h, g, d, t, os⟩ := by
  obtain ⟨nm, q, N, bs, sn, sub, ab, col, dd, k0, k1, k2, k3, k5, hC⟩ := pf_cls X
  have F := PySem.F.excBase_Exception
  repeat (first | with_reducible refine wpAny_loadPart_at hC ?_ | with_reducible refine wpAny_madeBy_exc hC ?_ | wp_step)
  refine codeAny_call_builtin_code (Code.quiet_builtin _ F.quiet) (pf_check_new X ?_)
  refine pf_new X ?_ hrest
  show wpAny _ _ _ _ _ _
  have up : ∀ b o, h.get? b = some o → ((h.push (tupObj rest)).push (pfObj none h.objs.size)).get? b = some o := fun b o e => Heap.get?_push_of_some _ (Heap.get?_push_of_some _ e)
  have hC₁ := up _ _ hC
  have X₁ : (hd.heap_39 w.params).In ((h.push (tupObj rest)).push (pfObj none h.objs.size)) := fun a o e => up _ _ (X a o e)
  have hget : ((h.push (tupObj rest)).push (pfObj none h.objs.size)).get? (h.objs.size + 1) = some (pfObj none h.objs.size) := by heap_get
  have hcC : (Value.ref 59 :: pfTail).contains (.ref 59) = true := by decide
  unfold isInstance
  repeat (first | with_reducible refine wpAny_loadPart_at hget ?_ | (with_reducible refine wpAny_isSubtype_exc hC₁ ?_; rw [hcC]) | wp_step)
  show wpAny _ _ (typeLookup (.ref 59) _) _ _ _
  have hi : findIn (hd.heap_39 w.params) (.ref 59) "__init__" = some (some (.ref 36)) := by kernel_rfl
  have hf : typeIn (hd.heap_39 w.params) (.ref 36) = some (.type "function") := by kernel_rfl
  refine (looks_findIn X₁ hi).here ?_
  refine wpAny_holding (wpAny_bind ((bind_fn X₁ _ hf).here ?_))
  refine wpAny_bind (wpAny_mono hq (fun r s' hr => ?_) fun _ _ x => x)
  obtain ⟨rfl, hQ⟩ := hr
  wp_walk
  exact hQ

theorem pf_call {E : Value → Shared → Prop} (X : (hd.heap_39 w.params).In h) {rest : List Value} {Q : Value → Shared → Prop}
    (hq : wpAny (model prog w) (A.under (.builtin "type.__call__" ⟨.ref 59 :: rest, []⟩)) (call (.ref 36) (.ref (h.objs.size + 1) :: rest)) (fun r s' => r = .none ∧ Q (.ref (h.objs.size + 1)) s') E ⟨(h.push (tupObj rest)).push (pfObj none h.objs.size), g, d, t, os⟩) (hrest : rest.length ≤ sizeLine := by size_fits) :
    wpAny (model prog w) A (call (.ref 59) rest) Q E ⟨h, g, d, t, os⟩ := by
  obtain ⟨nm, q, N, bs, sn, sub, ab, col, dd, k0, k1, k2, k3, k5, hC⟩ := pf_cls X
  have f1 := tc_lookup
  have f2 := tc_bind (.ref 59)
  have hT : (⟨h, g, d, t, os⟩ : Shared).TypeIs (.ref 59) "type" := ⟨_, hC, rfl⟩
  refine wpAny_call (codeAny_of_tree ?_)
  show wpAny _ _ (callAny (.ref 59) _) _ _ _
  repeat (any_goals (first | assumption | with_reducible refine wpAny_loadPart_at hC ?_ | wp_step))
  refine ⟨rfl, ?_⟩
  exact codeAny_call_builtin_at (Code.quiet_builtin _ (by decide +kernel)) entry_typeCall (wpAny_check_type_call_sub hC (pf_type_call (hrest := hrest) X hq))
end
end Mine
end
section
open PySem PySem.W PyProof.Rows PySem.Calls PySem.Spec
namespace Mine
theorem rowsExc2 : True := by
  k_with_none
  trivial

section
variable {prog : Program} {w : World} {A : Around} {h : Heap} {g : Array GenState} {d : Drawn} {t : Nat} {os : OsState}

theorem pf_check_init {M : Model} {E : Value → Shared → Prop} {e : Addr} {dd : Option Addr} {t0 : Addr} {rest : List Value} {Q : Unit → Shared → Prop} (X : (hd.heap_39 w.params).In h) (he : h.get? e = some (pfObj dd t0)) (hq : Q () ⟨h, g, d, t, os⟩) :
    wpAny M A (checkBuiltinCall "Exception.__init__" ⟨.ref e :: rest, []⟩) Q E ⟨h, g, d, t, os⟩ := by
  obtain ⟨nm, q, N, bs, sn, sub, ab, col, dd, k0, k1, k2, k3, k5, hC⟩ := pf_cls X
  have F := PySem.F.excBase_Exception
  have hcB : (Value.ref 59 :: pfTail).contains (.type "Exception") = true := by decide
  have hshort := F.noStar
  simp only [checkBuiltinCall, F.initKind, F.initSplit, F.initRow]
  repeat (first | (with_reducible refine wpAny_loadPart_at he ?_) | with_reducible refine wpAny_loadPart_at hC ?_ | (with_reducible refine wpAny_isSubtype_exc hC ?_; rw [hcB]) | wp_step)
  refine wpAny_onRaise ?_
  rw [show ∀ (a b : String) (n : Nat), Bind.check ⟨.positional, "*", "Exception", .self, [⟨"args", .varPos, false⟩]⟩ a b n (List.map (fun x => x.fst) ({ pos := Value.ref e :: rest } : Args).kw) = pure () from
    fun a b n => check_star_args _ _ _ _ _ _]
  exact wpAny_pure hq

theorem pf_base_init {E : Value → Shared → Prop} {e : Addr} {dd : Option Addr} {t0 : Addr} {rest : List Value} {Q : Value → Shared → Prop} (X : (hd.heap_39 w.params).In h) (he : h.get? e = some (pfObj dd t0))
    (hq : Q .none ⟨(h.push (tupObj rest)).update e (Obj.mapFields (·.setIfInBounds 0 (.ref h.objs.size))), g, d, t, os⟩) (hrest : rest.length ≤ sizeLine := by size_fits) :
    wpAny (model prog w) A (call (.builtin "Exception.__init__") (.ref e :: rest)) Q E ⟨h, g, d, t, os⟩ := by
  have F := PySem.F.excBase_Exception
  refine wpAny_call (codeAny_call_builtin F.init.plain F.initEntry (pf_check_init X he ?_))
  wp_walk
  exact hq
end
end Mine
end
section
open PySem PySem.W PyProof.Rows PySem.Calls PySem.Spec Builtin Builtin.ObjectAttr Builtin.Getset_descriptor
namespace Mine
theorem rowsExc3 : True := by
  k_with_none
  trivial

theorem pf_refuse (self : Value) : refuseLoop self "__setattr__" (.ref 59 :: pfTail) = pure () := by
  rw [refuseLoop_ref, refuseLoop_ref]
  kernel_rfl

section
variable {prog : Program} {w : World} {A : Around} {s : Shared}

theorem pf_osa_open {R : Result → Shared → Prop} {e : Addr} {ox : Obj} {od : Option Obj} {name : Str} {tk : Tok} {v : Value} (X : (hd.heap_39 w.params).In s.heap) (I : InstAt s.heap e ox 59 od) (ha : findIn (hd.heap_39 w.params) (.ref 59) name = some none)
    (h : wpAny (model prog w) A.in1 (storeInOwnDict (.ref e) (.ref 59) (.str name tk) name v false)
      (fun fin s' => match fin with | Fin.done f => R (.ok f) s' | .again c' => c'.quiet = true ∧ codeAny (model prog w) A c' R s') (fun e s' => R (.error e) s') s) :
    codeAny (model prog w) A (.call (.builtin "object.__setattr__") ⟨[.ref e, .str name tk, v], []⟩) R s := by
  have SF := PySem.F.store_object
  obtain ⟨nm, q, N, bs, sn, sub, ab, col, dd', k0, k1, k2, k3, k5, hC⟩ := pf_cls X
  have hm : Looks (model prog w) s.heap (mroOf (.ref 59)) (.ref 59 :: pfTail) := ((Looks.ld (part := none) hC).andThen .now).andThen .now
  have sub : Looks (model prog w) s.heap (isInstance (.ref e) (.type "object")) true := I.type.andThen (looks_subIn X (by kernel_rfl : subIn (hd.heap_39 w.params) (.ref 59) (.type "object") = some true))
  refine codeAny_call_builtin SF.slot.plain SF.entry (@check_slot (model prog w) _ _ s "object.__setattr__" "object" "__setattr__" (.ref e) [.str name tk, v] [] _ SF.kind SF.split sub (SF.args (.ref e) (.str name tk) v) ?_)
  have L3 : Looks (model prog w) s.heap (storeTaker? none) none := .now
  rw [osa_eq, refuse_eq]
  refine wpAny_bind (wpAny_bind (I.type.here (wpAny_bind (hm.here ?_))))
  rw [pf_refuse]
  refine wpAny_pure (wpAny_bind (I.type.here (wpAny_bind ((looks_findIn X ha).here (wpAny_bind (L3.here ?_))))))
  exact h

theorem pf_nsSet {E : Value → Shared → Prop} {Q : PySem.Fin → Shared → Prop} {dx : Addr} {name : Str} {tk : Tok} {v : Value} {es : List DictEntry} {n : Nat} {es' : List DictEntry} {n' : Nat} (hD : s.heap.get? dx = some (dictOf es n)) (hl : (getL name es).isSome = true)
    (e : (putL name (PyData.keyHash w.params name) (.str name s.toks) v es, putN name es n) = (es', n')) (hz : es'.length ≤ 1000)
    (h : Q (.done (.ret .none)) { s with heap := s.heap.update dx (Obj.putName name (PyData.keyHash w.params name) (.str name s.toks) v), toks := s.toks + 1 }) :
    wpAny (model prog w) A (storeInDict dx (.str name tk) name v) Q E s := by
  unfold storeInDict
  refine wpAny_bind (wpAny_pure (wpAny_bind ?_))
  unfold nsSet
  refine wpAny_bind (wpAny_bind (wpAny_askSetting (wpAny_pure (wpAny_bind (wpAny_mkText (wpAny_bind (wpAny_loadPart hD ?_)))))))
  have hl' : (lookIn name (dictOf es n)).isSome = true := hl
  have c : (!es.toArray.any (·.key.isStr name) && es.toArray.any (·.refKey)) = false := by
    unfold getL at hl
    rw [← Array.any_toList, ← Array.any_toList]
    split at hl
    · rename_i en he
      rw [List.any_eq_true.mpr ⟨en, List.mem_of_find?_eq_some he, List.find?_some he⟩]; rfl
    · split at hl
      · cases hl
      · rename_i z; rw [Bool.not_eq_true] at z; rw [z, Bool.and_false]
  dsimp only
  rw [aRefKeyMayBeTheName_at, c]
  refine wpAny_updatePart hD ?_
  have hput := putName_dict name (PyData.keyHash w.params name) (.str name s.toks) v es n
  have e1 := congrArg Prod.fst e
  have e2 := congrArg Prod.snd e
  dsimp only at e1 e2
  rw [e1, e2] at hput
  have D' : (s.heap.update dx (Obj.putName name (PyData.keyHash w.params name) (.str name s.toks) v)).get? dx = some (dictOf es' n') := by
    rw [Heap.get?_update_self _ hD (by rw [hput]; rfl), hput]
  refine wpAny_bind (wpAny_lookBehind D' (by exact pastItsLine_dict (by rw [List.size_toArray, sizeLine_eq]; omega)) ?_)
  exact wpAny_pure h
end
end Mine
end
section
open PySem PySem.W PyProof.Rows PySem.Calls PySem.Spec Builtin Builtin.ObjectAttr Builtin.Getset_descriptor
namespace Mine
theorem rowsExc4 : True := by
  k_with_none
  trivial

section
variable {prog : Program} {w : World} {A : Around} {E : Value → Shared → Prop} {s : Shared} {h₀ : Heap} {L e : Addr} {m : Str → Option Value} {news : List (Addr × Obj)}

/-- Exception.__init__(self, ..) on the ledger -/
theorem pfK_init {dd : Option Addr} {t0 : Addr} {rest : List Value} {Q : Value → Shared → Prop} (F : Fr h₀ L s.heap m) (X₀ : (hd.heap_39 w.params).In h₀) (N : News h₀ L s.heap ((e, pfObj dd t0) :: news)) (hne : ∀ p ∈ news, p.1 ≠ e)
    (h : ∀ t' h', Fr h₀ L h' m → News h₀ L h' ((e, pfObj dd t') :: news) → Q .none { s with heap := h' }) (hrest : rest.length ≤ sizeLine := by size_fits) :
    wpAny (model prog w) A (call (.builtin "Exception.__init__") (.ref e :: rest)) Q E s := by
  obtain ⟨hp, g, d, t, os⟩ := s
  have X := X₀.keeps F.keep
  refine pf_base_init X (N.get (.head _)) ?_ hrest
  have F1 := F.push (tupObj rest)
  have N1 := N.push F (tupObj rest)
  have N2 : News h₀ L (hp.push (tupObj rest)) ([] ++ (e, pfObj dd t0) :: news) := fun p hp => N1 p (.tail _ hp)
  obtain ⟨U1, U2⟩ := news_upd (f := Obj.mapFields (·.setIfInBounds 0 (.ref hp.objs.size))) (o' := pfObj dd hp.objs.size) F1 N2 (fun _ h => nomatch h) hne rfl rfl
  exact h _ _ U1 U2

/-- self.name = v where self has no dict yet -/
theorem pfK_set1 {t0 : Addr} {name : Str} {v : Value} {Q : Unit → Shared → Prop} (F : Fr h₀ L s.heap m) (X₀ : (hd.heap_39 w.params).In h₀) (N : News h₀ L s.heap ((e, pfObj none t0) :: news)) (hne : ∀ p ∈ news, p.1 ≠ e)
    (ha : findIn (hd.heap_39 w.params) (.ref 59) name = some none)
    (h : ∀ dx k h', Fr h₀ L h' m → News h₀ L h' ((e, pfObj (some dx) t0) :: (dx, dictOf [⟨PyData.keyHash w.params name, .str name k, v⟩] 1) :: news) → (∀ p ∈ news, p.1 ≠ dx) → Q () { s with heap := h', toks := s.toks + 2 }) :
    wpAny (model prog w) A (setAttr (.ref e) name v) Q E s := by
  obtain ⟨hp, g, d, t, os⟩ := s
  dsimp only at F N h
  have X := X₀.keeps F.keep
  have he := N.get (.head _)
  have I : InstAt hp e (pfObj none t0) 59 none := ⟨he, rfl, rfl, trivial⟩
  refine set_plain X I (by kernel_rfl) (pf_osa_open (s := ⟨hp, g, d, t + 1, os⟩) X I ha ?_)
  obtain ⟨cd, hc, hd'⟩ := any_some (by kernel_rfl : hasDictIn (hd.heap_39 w.params) 59 = true)
  refine wpAny_bind (wpAny_pure (wpAny_bind (wpAny_bind (wpAny_loadPart he (wpAny_bind ((looks_clsIn X hc).here ?_))))))
  rw [hd']
  refine wpAny_bind (wpAny_alloc (wpAny_bind (wpAny_update (Heap.get?_push_of_some _ he) (wpAny_pure ?_))))
  have F1 := F.push emptyDict
  have N1 := N.push F emptyDict
  have hlt : ∀ p ∈ (e, pfObj none t0) :: news, p.1 < hp.objs.size := fun p hp => Heap.lt_size (N p hp).1
  have hde : hp.objs.size ≠ e := Nat.ne_of_gt (hlt _ (.head _))
  have hdn : ∀ p ∈ news, p.1 ≠ hp.objs.size := fun p hp => Nat.ne_of_lt (hlt p (.tail _ hp))
  obtain ⟨F2, N2⟩ := news_upd (pre := [(hp.objs.size, emptyDict)]) (f := fun o => { o with dict := some hp.objs.size }) (o' := pfObj (some hp.objs.size) t0) F1 N1 (by intro p hp; rw [List.mem_singleton.mp hp]; exact hde) hne rfl rfl
  have hD := N2 (hp.objs.size, emptyDict) (.head _)
  refine pf_nsSet (es := []) (n := 0) hD.1 rfl rfl (Nat.le_of_ble_eq_true rfl) ?_
  have N3 : News h₀ L _ ([] ++ (hp.objs.size, dictOf [] 0) :: ((e, pfObj (some hp.objs.size) t0) :: news)) := N2
  obtain ⟨F4, N4⟩ := news_upd (f := Obj.putName name (PyData.keyHash w.params name) (.str name (t + 1)) v) F2 N3 (fun _ h => nomatch h) (by
    intro p hp
    rcases List.mem_cons.mp hp with rfl | hp
    · exact hde.symm
    · exact hdn p hp) (putName_dict _ _ _ _ _ _) rfl
  exact h hp.objs.size (t + 1) _ F4 (fun p hp => N4 p (by
    rcases List.mem_cons.mp hp with rfl | hp
    · exact .tail _ (.head _)
    · rcases List.mem_cons.mp hp with rfl | hp
      · exact .head _
      · exact .tail _ (.tail _ hp))) hdn

/-- self.name = v where self has its dict -/
theorem pfK_set2 {t0 dx : Addr} {name : Str} {v : Value} {Q : Unit → Shared → Prop} {es : List DictEntry} {n : Nat} {es' : List DictEntry} {n' : Nat} (F : Fr h₀ L s.heap m) (X₀ : (hd.heap_39 w.params).In h₀) (N : News h₀ L s.heap ((e, pfObj (some dx) t0) :: (dx, dictOf es n) :: news)) (hne : ∀ p ∈ news, p.1 ≠ dx)
    (ha : findIn (hd.heap_39 w.params) (.ref 59) name = some none) (hl : (getL name es).isSome = true)
    (e' : (putL name (PyData.keyHash w.params name) (.str name (s.toks + 1)) v es, putN name es n) = (es', n')) (hz : es'.length ≤ 1000)
    (h : ∀ h', Fr h₀ L h' m → News h₀ L h' ((e, pfObj (some dx) t0) :: (dx, dictOf es' n') :: news) → Q () { s with heap := h', toks := s.toks + 2 }) :
    wpAny (model prog w) A (setAttr (.ref e) name v) Q E s := by
  obtain ⟨hp, g, d, t, os⟩ := s
  dsimp only at F N h e'
  have X := X₀.keeps F.keep
  have he := N.get (.head _)
  have hD := N.get (.tail _ (.head _))
  have hed : e ≠ dx := fun q => by rw [q, hD] at he; cases he
  have I : InstAt hp e (pfObj (some dx) t0) 59 (some (dictOf es n)) := ⟨he, rfl, rfl, hD⟩
  refine set_plain X I (by kernel_rfl) (pf_osa_open (s := ⟨hp, g, d, t + 1, os⟩) X I ha ?_)
  obtain ⟨cd, hc, hd'⟩ := any_some (by kernel_rfl : hasDictIn (hd.heap_39 w.params) 59 = true)
  refine wpAny_bind (wpAny_pure (wpAny_bind (wpAny_bind (wpAny_loadPart he (wpAny_bind ((looks_clsIn X hc).here ?_))))))
  rw [hd']
  refine wpAny_pure ?_
  refine pf_nsSet (es := es) (n := n) hD hl e' hz ?_
  have e1 := congrArg Prod.fst e'
  have e2 := congrArg Prod.snd e'
  dsimp only at e1 e2
  have hput := putName_dict name (PyData.keyHash w.params name) (.str name (t + 1)) v es n
  rw [e1, e2] at hput
  have N3 : News h₀ L hp ([(e, pfObj (some dx) t0)] ++ (dx, dictOf es n) :: news) := N
  obtain ⟨F4, N4⟩ := news_upd (f := Obj.putName name (PyData.keyHash w.params name) (.str name (t + 1)) v) F N3 (by intro p hp; rw [List.mem_singleton.mp hp]; exact hed) hne hput rfl
  exact h _ F4 N4

theorem pf_raiseStmt {env : Env} {x : Sem Value} {Q : Flow → Shared → Prop} (hh : A.handled = none)
    (h : wpAny (model prog w) A x (fun v s₁ => ∃ e dd t, v = .ref e ∧ (hd.heap_39 w.params).In s₁.heap ∧ s₁.heap.get? e = some (pfObj dd t) ∧ E (.ref e) s₁) E s) :
    wpAny (model prog w) A (raiseStmt env (some x) none) Q E s := by
  have hcB : (Value.ref 59 :: pfTail).contains (.type "BaseException") = true := by decide
  unfold raiseStmt
  refine wpAny_bind (wpAny_mono h (fun v s₁ h₁ => ?_) fun _ _ x => x)
  obtain ⟨e, dd, t, rfl, X, he, hE⟩ := h₁
  obtain ⟨nm, q, N, bs, sn, sub, ab, col, dd', k0, k1, k2, k3, k5, hC⟩ := pf_cls X
  obtain ⟨hp, g, d, tk, os⟩ := s₁
  repeat (first | with_reducible refine wpAny_loadPart_at he ?_ | with_reducible refine wpAny_loadPart_at hC ?_ | (with_reducible refine wpAny_isSubtype_exc hC ?_; rw [hcB]) | wp_step)
  exact wpAny_raiseNew_none hh hE

theorem pf_leave {M : Model} {A : Around} {base g : Heap} {outer : List Env} {L a e t0 : Addr} {dd : Option Addr} {m : Str → Option Value} {name : Str} {scope : Scope} {cd : Value} {s' : Shared} {Q : Unit → Shared → Prop} {news : List (Addr × Obj)}
    (K : Below A base outer g) (F : Fr g L s'.heap m) (N : News g L s'.heap ((e, pfObj dd t0) :: news)) (hne : ∀ p ∈ news, p.1 ≠ e)
    (hQ : ∀ h', RaisedN base outer e (.ref 59) news h' → g.UpToSlots h' → Q () { s' with heap := h' }) (hk : scope.kind = .function := by rfl) :
    wpAny M (A.deeper (envOf name scope L a cd)) (leaving (envOf name scope L a cd) (.ref e)) Q E s' := by
  have K' := K.push (name := name) (a := a) (cd := cd) F hk
  have hin : ∀ env ∈ (envOf name scope L a cd :: outer), ∀ b, env.frame = some b → b ∈ e :: (envOf name scope L a cd :: outer).filterMap (·.frame) := fun env he b hb => .tail _ (List.mem_filterMap.mpr ⟨env, he, hb⟩)
  have eg := N (e, pfObj dd t0) (.head _)
  have st : base.StaysIn (hideAll s'.heap (e :: (envOf name scope L a cd :: outer).filterMap (·.frame))) := fun b o q => hideAll_get _ (K'.stays b o q) fun hm => by
    rcases List.mem_cons.mp hm with rfl | hm
    · rw [fresh_of_stays K.stays eg.2.2] at q; cases q
    · rw [(K'.frames.mem hm).1] at q; cases q
  have hl : ∀ q ∈ news, (hideAll s'.heap (e :: (envOf name scope L a cd :: outer).filterMap (·.frame))).get? q.1 = some q.2 ∧ base.get? q.1 = none := fun q hq => by
    have Nq := N q (.tail _ hq)
    refine ⟨hideAll_get _ Nq.1 fun hm => ?_, fresh_of_stays K.stays Nq.2.2⟩
    rcases List.mem_cons.mp hm with hm | hm
    · exact hne q hq hm
    obtain ⟨env, he, hf⟩ := List.mem_filterMap.mp hm
    rcases List.mem_cons.mp he with rfl | he
    · exact Nq.2.1 (Option.some.inj hf).symm
    · obtain ⟨o, ho, _⟩ := (K.frames.mem (List.mem_filterMap.mpr ⟨env, he, hf⟩)).2
      rw [Nq.2.2] at ho; cases ho
  have hen : (hideAll s'.heap (e :: (envOf name scope L a cd :: outer).filterMap (·.frame))).get? e = none := hideAll_none _ (.head _)
  refine wpAny_leaving_firstW (a0 := .ref t0) K'.stack (funFrames_hide K'.frames hin) rfl eg.1 (fun b o hb => of_hideAll _ hb) hen rfl rfl rfl fun h' hL => ?_
  obtain ⟨k1, ⟨_, _, k2⟩, k3, k4⟩ := hL
  exact hQ h' ⟨_, .ref t0, st, hl, k1, hen, k2, k3⟩ ((Heap.UpToSlots.of_keeps F.keep).trans k4)
end
end Mine
end
section
open PySem PySem.W PyProof.Rows
namespace Mine
theorem rowsExc5a : True := by
  k_with_none
  k_with "k_room" => k_of "#h" => ((try simp only [depth_mark, depth_under_make, depth_under_kw, depth_in1, depth_deeper, depth_caller, recursionLimit]); (try dsimp only [ktrTop]); omega)
  k_with "k_units" => k_of "#h" => ((have hcL9' := cLine_is); (try simp only [units_in1, units_deeper, Around.mark_units, units_caller]); (try dsimp only [ktrTop]); omega)
  k_with "@getMethod type:Exception" => k_of "#h" => (k_here; refine' method_type ?F' ?X' ?m' (by decide +kernel) ?e' ?h' ?_; (case F' => k_asm); (case X' => k_asm); (case m' => kernel_rfl); (case e' => k_dflt k_is); (case h' => k_handed))
  k_with "@call builtin:Exception.__init__" => k_of "#h" => (k_here; k_dflt (refine' pfK_init ?F' ?X' ?N' ?n' ?_; (case F' => k_asm); (case X' => k_asm); (case N' => k_asm); (case n' => assumption)); intro t' h' F' N'; (try k_sweep))
  k_with "@setAttr ref" => k_of "#h" => (k_here; k_dflt (refine' pfK_set1 ?F' ?X' ?N' ?n' ?a' ?_; (case F' => k_asm); (case X' => k_asm); (case N' => k_asm); (case n' => assumption); (case a' => kernel_rfl)); intro dx' k' h' F' N' n'; (try k_sweep))
  k_with "@setAttr ref" => k_of "#h" => (k_here; k_dflt (refine' pfK_set2 ?F' ?X' ?N' ?n' ?a' ?l' ?e' ?z' ?_; (case F' => k_asm); (case X' => k_asm); (case N' => k_asm); (case n' => assumption); (case a' => kernel_rfl); (case l' => k_get); (case e' => k_put); (case z' => exact Nat.le_of_ble_eq_true rfl)); intro h' F' N'; (try k_sweep))
  trivial

theorem drop2 {h₀ h : Heap} {L : Addr} {p q : Addr × Obj} {news : List (Addr × Obj)} (N : News h₀ L h (p :: q :: news)) : News h₀ L h (p :: news) :=
  fun r hr => N r ((List.mem_cons.mp hr).elim (fun e => e ▸ .head _) fun e => .tail _ (.tail _ e))

theorem fillK5 (w : World) (K : Frag) : K = hd.heap_39 w.params → PySem.Challenge.rw_og0172_01 = PySem.Challenge.rw_og0172_01 := by
  k_fill
  intro _
  rfl

theorem pf_init {w : World} {mean : ExcName → Option Value} {mg mb : Str → Option Value} {dp un : Nat} {gd : Option (List Code)} {cn : Str} {cs : Scope} {a : Addr} {ccd : Value} {cl : List (Str × Addr)} {outer : List Env} {A₀ : Around} {base h₀ : Heap} {L : Addr} {m : Str → Option Value} {s : Shared} {Q E : Value → Shared → Prop} {news : List (Addr × Obj)} {e t0 : Addr} {x : Str} {k : Tok}
    (B : Below A₀ base outer h₀) (F : Fr h₀ L s.heap m) (X : (hd.heap_39 w.params).In h₀) (N : News h₀ L s.heap ((e, pfObj none t0) :: news)) (T : Top hd.view_39 (looseW hd.view_39 [Str.ofString "PaperError", Str.ofString "first_state"]) mean mg mb h₀) (hk : cs.kind = .function)
    (hdp : dp ≤ 510) (hun : un ≤ 2100) (hne : ∀ p ∈ news, p.1 ≠ e)
    (hret : ∀ dx t h' tk', Fr h₀ L h' m → News h₀ L h' ((e, pfObj (some dx) t) :: news) → Q .none { s with heap := h', toks := tk' }) :
    wpAny (model PySem.Challenge.rw_og0172_01.row.prog w) ((ktrTop dp un gd cn cs L a ccd cl outer).under (.builtin "type.__call__" ⟨.ref 59 :: [.str x k], []⟩)) (call (.ref 36) [.ref e, .str x k]) Q E s := by
  refine wpAny_call ?_
  k_dflt (refine' code_def ?k1 ?k2 ?k3 ?k4 ?k5 ?kA ?kF ?kK ?k6 ?k7 ?k8 ?k9 ?kB ?_ ?c2 ?c3 ?c4 ?c5; (case kA => exact rfl); (case kF => exact rfl); (case kK => assumption); (case k1 => k_asm); (case k2 => k_asm); (case k3 => k_asm); (case k4 => k_asm); (case k5 => k_asm); (case k6 => k_is); (case k7 => k_is); (case k8 => k_room); (case k9 => first | exact BindsTo.of_eq rfl | exact binds_K (by k_in) rfl (by k_is) rfl rfl rfl); (case c5 => decide); (case kB => exact locs rfl); (case c2 => exact rfl); (case c3 => exact rfl); (case c4 => exact rfl); k_whole; intro g' L' h' FG' F' N' B' X' T'; (try dsimp only); (try k_fold))
  k_steps
  exact hret _ _ _ _ (by k_asm) (drop2 (by k_asm))

theorem pf_made {w : World} {mean : ExcName → Option Value} {mg mb : Str → Option Value} {dp un : Nat} {gd : Option (List Code)} {cn : Str} {cs : Scope} {a : Addr} {ccd : Value} {cl : List (Str × Addr)} {outer : List Env} {A₀ : Around} {base h₀ : Heap} {L : Addr} {m : Str → Option Value} {s : Shared} {Q E : Value → Shared → Prop} {news : List (Addr × Obj)} {x : Str} {k : Tok}
    (B : Below A₀ base outer h₀) (F : Fr h₀ L s.heap m) (X : (hd.heap_39 w.params).In h₀) (N : News h₀ L s.heap news) (T : Top hd.view_39 (looseW hd.view_39 [Str.ofString "PaperError", Str.ofString "first_state"]) mean mg mb h₀) (hk : cs.kind = .function)
    (hdp : dp ≤ 510) (hun : un ≤ 2100)
    (hret : ∀ e dx t h' tk', Fr h₀ L h' m → News h₀ L h' ((e, pfObj (some dx) t) :: news) → (∀ p ∈ news, p.1 ≠ e) → Q (.ref e) { s with heap := h', toks := tk' }) :
    wpAny (model PySem.Challenge.rw_og0172_01.row.prog w) (ktrTop dp un gd cn cs L a ccd cl outer) (call (.ref 59) [.str x k]) Q E s := by
  obtain ⟨hp, g, d, t, os⟩ := s
  dsimp only at F N hret
  refine pf_call (X.keeps F.keep) ?_
  have F1 := F.push (tupObj [.str x k])
  have N1 := N.push F (tupObj [.str x k])
  have F2 := F1.push (pfObj none hp.objs.size)
  have N2 := drop2 (N1.push F1 (pfObj none hp.objs.size))
  have hne : ∀ p ∈ news, p.1 ≠ hp.objs.size + 1 := fun p hp => Nat.ne_of_lt (Nat.lt_succ_of_lt (Heap.lt_size (N p hp).1))
  have hs : (hp.push (tupObj [.str x k])).objs.size = hp.objs.size + 1 := Heap.size_push ..
  rw [hs] at N2
  exact pf_init (s := ⟨_, g, d, t, os⟩) B F2 X N2 T hk hdp hun hne fun dx t' h' tk' F' N' => ⟨rfl, hret _ _ _ _ _ F' N' hne⟩
end Mine
end
section
open PySem PySem.W PyProof.Rows
namespace Mine
theorem rowsT1a : True := by
  k_with_none
  k_with "k_room" => k_of "#h" => ((try simp only [depth_mark, depth_under_make, depth_under_kw, depth_in1, depth_deeper, depth_caller, recursionLimit]); (try dsimp only [ktrTop]); omega)
  k_with "k_units" => k_of "#h" => ((have hcL9' := cLine_is); (try simp only [units_in1, units_deeper, Around.mark_units, units_caller]); (try dsimp only [ktrTop]); omega)
  k_with "@exec While BoolOp" => k_of "#h" => (k_here; k_dflt (refine whl_start 100 ?_))
  trivial

theorem s_decimal_of (w : World) (news : List (Addr × Obj)) (v : Value) (o : Op) (hv : OpAt w news v o) (hn : o.isNum = true) : Says w 10 180 [v] news (fun tl r => OpAt w tl r o.asDec ∨ (tl = [] ∧ r = v ∧ o = o.asDec)) False := by
  unfold Says
  k_fill
  intro mean mg mb dp un gd cn cs a ccd cl outer A₀ base h₀ L m s Q E B F X N T hk hdp hun hret hexc
  cases hv
  case int =>
    refine wpAny_call ?_
    k_dflt ktr_enter
    k_steps
    exact hret _ [_, _] _ _ (by k_asm) (led (pre := [_, _]) (by k_asm)) (ord2 (by assumption) (by assumption)) (.inl (.dec (.head _) (.tail _ (.head _))))
  case dec h1 h2 =>
    refine wpAny_call ?_
    k_dflt ktr_enter
    k_steps
    exact hret _ [] _ _ (by k_asm) (led0 (by k_asm)) ord0 (.inr ⟨rfl, rfl, rfl⟩)
  all_goals cases hn

theorem s_is_number (w : World) (news : List (Addr × Obj)) (v : Value) (o : Op) (hv : OpAt w news v o) (hn : ∀ x, o ≠ .text x) : Says w 10 293 [v] news (fun tl r => tl = [] ∧ r = .bool o.isNum) False := by
  unfold Says
  intro mean mg mb dp un gd cn cs a ccd cl outer A₀ base h₀ L m s Q E B F X N T hk hdp hun hret hexc
  cases hv
  case text x _ => exact absurd rfl (hn x)
  all_goals (
    refine wpAny_call ?_
    k_dflt ktr_enter
    k_steps
    exact hret _ [] _ _ (by k_asm) (led0 (cb_drop (by k_asm) (by k_sub))) ord0 ⟨rfl, rfl⟩)
end Mine
end
section
open PySem PySem.W PyProof.Rows PySem.Calls
namespace Mine
theorem rowsLoop : True := by
  k_with_none
  trivial

section
variable {prog : Program} {w : World} {A : Around} {E : Value → Shared → Prop} {s : Shared} {env : Env} {h₀ : Heap} {x : Str} {body : List Stmt} {Q : Flow → Shared → Prop}

theorem isList_of {h : Heap} {L l : Addr} {news : List (Addr × Obj)} {its : Array Value} {n : Nat} (N : News h₀ L h news) (hm : (l, listOf its n) ∈ news) : h.IsList l its := ⟨_, (N _ hm).1, rfl, n, rfl⟩

/-- the end of a turn of a loop over a list of the ledger: the frame but for the loop's name, and what holds of the ledger -/
def TurnEnd' (h₀ : Heap) (L : Addr) (x : Str) (m₀ : Str → Option Value) (J : List (Addr × Obj) → Prop) (own : List (Addr × Obj)) (s₁ s₂ : Shared) : Prop :=
  ∃ h' tk m' news' nx, s₂ = { s₁ with heap := h', toks := tk } ∧ Fr h₀ L h' m' ∧ (∀ y, y ≠ x → m' y = m₀ y) ∧ News h₀ L h' news' ∧ (∀ p ∈ nx, p ∈ news') ∧ (∀ p ∈ own, p ∈ news') ∧ OwnOff own (nx.map (·.1)) ∧ J nx
def TurnPost' (h₀ : Heap) (L : Addr) (x : Str) (m₀ : Str → Option Value) (J : List (Addr × Obj) → Prop) (own : List (Addr × Obj)) (s₁ : Shared) (Q : Flow → Shared → Prop) (f : Flow) (s₂ : Shared) : Prop :=
  match f with
  | .ret v => Q (.ret v) s₂
  | .brk => Q .next s₂
  | _ => TurnEnd' h₀ L x m₀ J own s₁ s₂
theorem TurnEnd'.intro {L : Addr} {m₀ : Str → Option Value} {J : List (Addr × Obj) → Prop} {m' : Str → Option Value} {own news' : List (Addr × Obj)} {s₁ : Shared} {h' : Heap} {tk : Nat} (nx : List (Addr × Obj)) (F : Fr h₀ L h' m') (hm : ∀ y, y ≠ x → m' y = m₀ y) (N : News h₀ L h' news')
    (hn : ∀ p ∈ nx, p ∈ news') (ho : ∀ p ∈ own, p ∈ news') (ha : OwnOff own (nx.map (·.1))) (hj : J nx) : TurnEnd' h₀ L x m₀ J own s₁ { s₁ with heap := h', toks := tk } := ⟨h', tk, m', news', nx, rfl, F, hm, N, hn, ho, ha, hj⟩

theorem loopL {l : Addr} {vs : List Value} {nn : Nat} {m₀ : Str → Option Value} {news : List (Addr × Obj)} (J : Nat → List (Addr × Obj) → Prop)
    (hh : A.handled = none) (hl : (l, listOf vs.toArray nn) ∈ news) (F : Fr h₀ env.locals s.heap m₀) (N : News h₀ env.locals s.heap news) (hj : J 0 news)
    (turn : ∀ i v news₁ h tk own, vs[i]? = some v → OwnOff own (news₁.map (·.1)) → (l, listOf vs.toArray nn) ∈ news₁ → J i news₁ → Fr h₀ env.locals h (fun y => if y = x then some v else m₀ y) → News h₀ env.locals h (news₁ ++ own) →
      wpAny (model prog w) A (execs body env) (TurnPost' h₀ env.locals x m₀ (fun nx => (l, listOf vs.toArray nn) ∈ nx ∧ J (i + 1) nx) own { s with heap := h, toks := tk } Q) E { s with heap := h, toks := tk })
    (done : ∀ (u : Str → Option Value) news₁ h tk, J vs.length news₁ → Fr h₀ env.locals h (fun y => if y = x then u y else m₀ y) → News h₀ env.locals h news₁ → Q .next { s with heap := h, toks := tk }) :
    wpAny (model prog w) A (pyIter (.ref l)) (fun it s₂ => LoopAtV prog w A h₀ env x body Q E it s₂) E s := by
  refine kdl_iter (fun i m nx => (∀ y, y ≠ x → m y = m₀ y) ∧ J i nx) hh hl F N ⟨fun _ _ => rfl, hj⟩ ?_ ?_
  · rintro i v m₁ news₁ h tk own hv hoff hm ⟨hm₁, hJ⟩ F₁ N₁
    have e : (fun y => if y = x then some v else m₁ y) = fun y => if y = x then some v else m₀ y := by
      funext y
      by_cases h1 : y = x
      · simp [h1]
      · simp only [if_neg h1]; exact hm₁ y h1
    rw [e] at F₁
    refine wpAny_mono (turn i v news₁ h tk own hv hoff hm hJ F₁ N₁) (fun f s₂ p => ?_) fun _ _ e => e
    have fin : TurnEnd' h₀ env.locals x m₀ (fun nx => (l, listOf vs.toArray nn) ∈ nx ∧ J (i + 1) nx) own { s with heap := h, toks := tk } s₂ → InvEndG h₀ env.locals (fun m' nx => (l, listOf vs.toArray nn) ∈ nx ∧ (∀ y, y ≠ x → m' y = m₀ y) ∧ J (i + 1) nx) own { s with heap := h, toks := tk } s₂ := by
      rintro ⟨h', tk', m', news', nx, e, F', hm', N', hn, ho, ha, hl', hj'⟩
      exact ⟨h', tk', m', news', nx, e, F', N', hn, ho, ha, hl', hm', hj'⟩
    cases f with
    | ret v => exact p
    | brk => exact p
    | next => exact fin p
    | cont => exact fin p
  · rintro m₁ news₁ h tk ⟨hm₁, hJ⟩ F₁ N₁
    refine done m₁ news₁ h tk hJ ?_ N₁
    have e : (fun y => if y = x then m₁ y else m₀ y) = m₁ := by
      funext y
      by_cases h1 : y = x
      · simp [h1]
      · simp only [if_neg h1]; exact (hm₁ y h1).symm
    rw [e]; exact F₁
end
theorem raised_sub {base h : Heap} {l : List Env} {e : Addr} {cls : Value} {news news' : List (Addr × Obj)} (R : RaisedN base l e cls news' h) (hs : ∀ p ∈ news, p ∈ news') : RaisedN base l e cls news h :=
  let ⟨B, a0, h1, h2, h3⟩ := R; ⟨B, a0, h1, fun q hq => h2 q (hs q hq), h3⟩
open LCg in
theorem off1_ord {D : Addr} {oD : Obj} {news tl : List (Addr × Obj)} (o : Off1 D (news ++ tl)) (k : ∀ q ∈ news, ∀ p ∈ tl, q.1 ≠ p.1) : ∀ q ∈ news, ∀ p ∈ (D, oD) :: tl, q.1 ≠ p.1 := by
  have all : ∀ {l : List (Addr × Obj)}, Off1 D l → ∀ p ∈ l, p.1 ≠ D := by
    intro l
    induction l with
    | nil => intro _ p hp; cases hp
    | cons x r ih =>
      intro h p hp
      rcases List.mem_cons.mp hp with rfl | hp
      · exact h.1
      · exact ih h.2 p hp
  intro q hq p hp
  rcases List.mem_cons.mp hp with rfl | hp
  · exact all o q (subl q hq)
  · exact k q hq p hp
theorem led1 {h₀ h : Heap} {L : Addr} {q : Addr × Obj} {news tl : List (Addr × Obj)} (N : News h₀ L h (q :: (news ++ tl))) : News h₀ L h (news ++ (q :: tl)) := fun p hp => N p (by
  rcases List.mem_append.mp hp with hp | hp
  · exact .tail _ (subl p hp)
  · rcases List.mem_cons.mp hp with rfl | hp
    · exact .head _
    · exact .tail _ (List.mem_append.mpr (.inr hp)))
open LCg in
theorem off3_app {I C D : Addr} {oI oC oD : Obj} {nx tl : List (Addr × Obj)} (o : Off3 I C D nx) (k : ∀ q ∈ (I, oI) :: (C, oC) :: (D, oD) :: nx, ∀ p ∈ tl, q.1 ≠ p.1) : Off3 I C D (nx ++ tl) :=
  Off3.of fun p hp => by
    rcases List.mem_append.mp hp with hp | hp
    · exact o.mem p hp
    · exact ⟨Ne.symm (k _ (.head _) p hp), Ne.symm (k _ (.tail _ (.head _)) p hp), Ne.symm (k _ (.tail _ (.tail _ (.head _))) p hp)⟩
theorem sub3_app {a b c : Addr × Obj} {nx tl : List (Addr × Obj)} : ∀ p ∈ a :: b :: c :: (nx ++ tl), p ∈ (a :: b :: c :: nx) ++ tl := fun _ h => h
theorem ord_app {news tl tl' : List (Addr × Obj)} (h : ∀ q ∈ news, ∀ p ∈ tl, q.1 ≠ p.1) (k : ∀ q ∈ news ++ tl, ∀ p ∈ tl', q.1 ≠ p.1) : ∀ q ∈ news, ∀ p ∈ tl ++ tl', q.1 ≠ p.1 := by
  intro q hq p hp
  rcases List.mem_append.mp hp with hp | hp
  · exact h q hq p hp
  · exact k q (List.mem_append.mpr (.inl hq)) p hp
theorem ord_sub {news news' tl : List (Addr × Obj)} (h : ∀ q ∈ news', ∀ p ∈ tl, q.1 ≠ p.1) (k : ∀ p ∈ news, p ∈ news') : ∀ q ∈ news, ∀ p ∈ tl, q.1 ≠ p.1 := fun q hq => h q (k q hq)
theorem off_app {own news tl : List (Addr × Obj)} (h : OwnOff own (news.map (·.1))) (k : ∀ q ∈ own, ∀ p ∈ tl, q.1 ≠ p.1) : OwnOff own ((news ++ tl).map (·.1)) := by
  intro p hp b hb
  rw [List.map_append] at hb
  rcases List.mem_append.mp hb with hb | hb
  · exact h p hp b hb
  · obtain ⟨q, hq, rfl⟩ := List.mem_map.mp hb
    exact k p hp q hq
open LCg in
theorem compEnd_mono {h₀ : Heap} {L : Addr} {m : Str → Option Value} {s₁ : Shared} {I : Addr} {oI : Obj} {C : Addr} {oC : Obj} {D : Addr} {oD : Obj} {S : List (Addr × Obj) → Prop} {rest rest' : Value → List (Addr × Obj) → Prop} {y : Value} {s₂ : Shared}
    (h : CompEnd h₀ L m s₁ I oI C oC D oD S rest y s₂) (k : ∀ n, rest y n → rest' y n) : CompEnd h₀ L m s₁ I oI C oC D oD S rest' y s₂ := by
  obtain ⟨h', tk, news', e, F, N, o, hS, r⟩ := h
  exact ⟨h', tk, news', e, F, N, o, hS, k _ r⟩
open LCg in
/-- a comprehension by an invariant over what is taken, what is made and the ledger -/
theorem comp_rest {prog : Program} {w : World} {A : Around} {s : Shared} {h₀ : Heap} {L : Addr} {m : Str → Option Value} {env : Env} {elt : Expr} {x : Str} {scope : Scope} {cl : List (Str × Addr)} {S : List (Addr × Obj) → Prop} {P : Nat → Value → Prop} {Fin : List Value → List (Addr × Obj) → Prop} {n : Nat} {news : List (Addr × Obj)}
    (R : Nat → List Value → List (Addr × Obj) → Prop) (h0 : R 0 [] news)
    (step : ∀ i ys news v I oI C oC D m₂ h tk (E' : Value → Shared → Prop), i < n → R i ys news → P i v → NsObj oC m₂ → m₂ x = some v → Fr h₀ L h m → News h₀ L h ((I, oI) :: (C, oC) :: (D, lst ys) :: news) → Off3 I C D news → ((@Ne Nat I C) ∧ (@Ne Nat I D) ∧ (@Ne Nat C D)) →
      wpAny (model prog w) A (eval elt (compEnvC scope cl C env)) (CompEnd h₀ L m { s with heap := h, toks := tk } I oI C oC D (lst ys) S (fun y news' => R (i + 1) (ys ++ [y]) news')) E' { s with heap := h, toks := tk })
    (fin : ∀ ys news, R n ys news → Fin ys news) : CompRest prog w A h₀ L m env elt x scope cl s S P Fin n 0 [] news := by
  have all : ∀ k i ys news, i + k = n → R i ys news → CompRest prog w A h₀ L m env elt x scope cl s S P Fin k i ys news := by
    intro k
    induction k with
    | zero => intro i ys news e r; exact fin ys news (by rw [← e]; exact r)
    | succ k ih =>
      intro i ys news e r
      refine CompRest.succ fun v I oI C oC D m₂ h tk E' hP hN hx F N off ne => ?_
      refine wpAny_mono (step i ys news v I oI C oC D m₂ h tk E' (by omega) r hP hN hx F N off ne) (fun y s₂ hc => compEnd_mono hc fun news' r' => ih _ _ _ (by omega) r') fun _ _ e => e
  exact all n 0 [] news (by omega) h0
end Mine
end
section
open PySem PySem.W PyProof.Rows PySem.Calls
namespace Mine
def PfPost (w : World) (E : Value → Shared → Prop) (v : Value) (s₁ : Shared) : Prop := ∃ e dd t, v = .ref e ∧ (hd.heap_39 w.params).In s₁.heap ∧ s₁.heap.get? e = some (pfObj dd t) ∧ E (.ref e) s₁
theorem PfPost.intro {w : World} {E : Value → Shared → Prop} {s₁ : Shared} {h₀ : Heap} {L e t : Addr} {dd : Option Addr} {news : List (Addr × Obj)} (X : (hd.heap_39 w.params).In s₁.heap) (N : News h₀ L s₁.heap ((e, pfObj dd t) :: news)) (h : E (.ref e) s₁) : PfPost w E (.ref e) s₁ :=
  ⟨e, dd, t, rfl, X, N.get (.head _), h⟩
theorem pf_Raise {prog : Program} {w : World} {A : Around} {E : Value → Shared → Prop} {s : Shared} {env : Env} {x : Str} {np cpos pos : Pos} {args : List Expr} {Q : Flow → Shared → Prop} (hh : A.handled = none)
    (h : wpAny (model prog w) A (eval (.Call (.Name x np) args [] cpos) env) (PfPost w E) E s) :
    wpAny (model prog w) A (exec (.Raise (some (.Call (.Name x np) args [] cpos)) none pos) env) Q E s := by
  rw [arm_exec_Raise]
  refine wpAny_bind (wpAny_standAt (pf_raiseStmt hh (wpAny_bind (wpAny_mono h (fun v s₁ h₁ => wpAny_bind (wpAny_standAt (wpAny_pure h₁))) fun _ _ x => x))))


theorem rowsN1a : True := by
  k_with_none
  k_with "k_sub" => k_of "#h" => (intro p' hp'; first | exact hp' | exact List.Mem.tail _ hp' | ((simp only [List.cons_append, List.nil_append, List.append_nil, List.mem_cons, List.mem_append] at hp' ⊢); revert hp'; ((repeat' (refine or_imp.mpr (And.intro ?_ ?_))) <;> (intro hp'; simp only [hp', true_or, or_true]))))
  k_with "k_room" => k_of "#h" => ((try simp only [depth_mark, depth_under_make, depth_under_kw, depth_in1, depth_deeper, depth_caller, recursionLimit]); (try dsimp only [ktrTop]); omega)
  k_with "k_units" => k_of "#h" => ((have hcL9' := cLine_is); (try simp only [units_in1, units_deeper, Around.mark_units, units_caller]); (try dsimp only [ktrTop]); omega)
  k_with "@exec While BoolOp" => k_of "#h" => (k_here; k_dflt (refine whl_start 100 ?_))
  k_with "@exec Raise some none" => k_of "#h" => (k_here; k_dflt (refine' pf_Raise ?hh' ?_; (case hh' => rfl)))
  k_with "@call ref" => k_of "#h" => (k_here; k_dflt (refine' pf_made ?B' ?F' ?X' ?N' ?T' ?hk' ?hd' ?hu' ?_; (case B' => k_asm); (case F' => k_asm); (case X' => k_asm); (case N' => k_asm); (case T' => k_asm); (case hk' => first | exact rfl | assumption); (case hd' => first | ((try dsimp only [Around.deeper]); omega) | decide); (case hu' => first | ((try dsimp only [Around.deeper]); omega) | decide)); intro e' dx' t' h' tk' F' N' n'; (try k_sweep))
  k_with "@PfPost" => k_of "#h" => (k_dflt (refine' PfPost.intro ?x1' ?x2' ?_; (case x1' => k_in); (case x2' => k_asm)))
  k_with "@leaving ref" => k_of "#h" => (k_here; k_dflt (refine' pf_leave ?K' ?F' ?N' ?n' ?_; (case K' => assumption); (case F' => assumption); (case N' => assumption); (case n' => assumption)); intro h' R' U'; (try dsimp only at R' U' ⊢))
  k_with "@call builtin:len" => k_of "#h" => (k_here; k_dflt (refine' PyProof.Rows.len_list (isList_of ?N' ?m') ?f' ?_; (case N' => k_asm); (case m' => first | ktr_rel | k_mem); (case f' => (simp only [List.size_toArray]; omega))))
  k_with "@exec For Name Name cons nil" => k_of "#h" => (k_here; (rename Fr _ _ _ _ => lF'); (with_unfolding_all refine' For_invVF lF' ?k1' ?k2' ?_; (case k1' => exact rfl); (case k2' => exact rfl); k_whole))
  k_with "@eval ListComp" => k_of "#h" => (k_here; k_dflt (refine LCg.ListComp_U (F₀ := by k_asm) (by with_unfolding_all rfl) (by decide) (by rfl) (by decide) (by rfl) ?_))
  k_with "@CompSrc" => k_of "#h" => (k_dflt (refine' LCg.CompSrc.ledger ?hh' ?F' ?N' ?m' ?z' ?_; (case hh' => rfl); (case F' => k_asm); (case N' => k_asm); (case m' => k_mem); (case z' => (simp only [List.size_toArray, sizeLine_eq]; omega)); k_whole); intro g')
  k_with "ktr_rel" => k_of "#h" => first | assumption | exact OpAt.int | exact OpAt.mono (by assumption) (by k_sub) | exact AllOp.mono (by assumption) (by k_sub) | exact List.Mem.tail _ (by assumption) | exact List.Mem.tail _ (List.Mem.tail _ (by assumption)) | exact subl _ (by assumption) | exact List.Mem.tail _ (subl _ (by assumption)) | exact mem_of_sub (by assumption) (by k_sub) | k_mem
  k_with "@call ref" => k_of "#h" => (k_here; k_dflt (refine' says_use (f := 293) (s_is_number _ _ _ _ ?hv' ?hn') ?B' ?F' ?X' ?N' ?T' ?hk' ?hd' ?hu' ?_ ?_; (case B' => k_asm); (case F' => k_asm); (case X' => k_asm); (case N' => k_asm); (case T' => k_asm); (case hk' => first | exact rfl | assumption); (case hd' => first | ((try dsimp only [Around.deeper]); omega) | decide); (case hu' => first | ((try dsimp only [Around.deeper]); omega) | decide); (case hv' => ktr_rel); (case hn' => assumption)); rotate_left; (intro _ _ _ _ hx'; exact hx'.elim); (intro r' tl' h' tk' F' N' o' ho'; obtain ⟨e1', e2'⟩ := ho'; subst e1'; subst e2'; (try simp only [List.append_nil] at N'); (try k_sweep); clear o'))
  k_with "@call ref" => k_of "#h" => (k_here; k_dflt (refine' says_use (f := 180) (s_decimal_of _ _ _ _ ?hv' ?hn') ?B' ?F' ?X' ?N' ?T' ?hk' ?hd' ?hu' ?_ ?_; (case B' => k_asm); (case F' => k_asm); (case X' => k_asm); (case N' => k_asm); (case T' => k_asm); (case hk' => first | exact rfl | assumption); (case hd' => first | ((try dsimp only [Around.deeper]); omega) | decide); (case hu' => first | ((try dsimp only [Around.deeper]); omega) | decide); (case hv' => ktr_rel); (case hn' => first | assumption | rfl)); rotate_left; (intro _ _ _ _ hx'; exact hx'.elim); (intro r' tl' h' tk' F' N' o' ho'; (try k_sweep)))
  trivial

theorem s_numbers_of (w : World) (news : List (Addr × Obj)) (l : Addr) (vs : List Value) (n : Nat) (ops : List Op) (c : Int) (ct : Tok) (hl : (l, listOf vs.toArray n) ∈ news) (n₀ : List (Addr × Obj)) (hsub : ∀ p ∈ n₀, p ∈ news) (hops : AllOp w n₀ vs ops) (hlen : ops.length ≤ 100) (hc0 : 0 ≤ c) (hc1 : c ≤ 100) (hnt : ∀ o ∈ ops, ∀ x, o ≠ .text x) :
    Says w 20 402 [.ref l, .int c ct] news (fun tl r => c = (ops.length : Int) ∧ ops.all Op.isNum = true ∧ ∃ l' rs, r = .ref l' ∧ (l', listOf rs.toArray rs.length) ∈ tl ∧ AllOp w (n₀ ++ tl) rs (ops.map Op.asDec)) (¬ (c = (ops.length : Int) ∧ ops.all Op.isNum = true)) := by
  unfold Says
  intro mean mg mb dp un gd cn cs a ccd cl outer A₀ base h₀ L m s Q E B F X N T hk hdp hun hret hexc
  have hvl : vs.length ≤ 100 := by rw [hops.length]; exact hlen
  refine wpAny_call ?_
  k_dflt ktr_enter
  k_steps
  · refine hexc _ _ _ _ ?_ (by k_asm) (by assumption) (by assumption)
    intro hc
    rename (_ ≠ c) => hif
    exact hif (by rw [List.size_toArray, hops.length]; exact hc.1.symm)
  · rename ((_ : Int) = c) => hif
    refine loopL (vs := vs) (nn := n) (fun i nx => nx = news ∧ ∀ o ∈ ops.take i, o.isNum = true) (by rfl) hl (by k_asm) (by k_asm) ⟨rfl, by simp⟩ ?_ ?_
    · rintro i v nx h tk own hv hoff hm ⟨hnx, hJ⟩ F' N'
      subst nx
      obtain ⟨o, ho, hov⟩ := hops.get hv
      have hnt' := hnt o (List.mem_of_getElem? ho)
      replace hov := hov.mono hsub
      dsimp only [envOf] at F' N'
      k_steps
      · rename (o.isNum = true) => hon
        dsimp only [TurnPost']
        refine TurnEnd'.intro news (by k_asm) (fun y hy => if_neg hy) (by k_asm) subl (fun _ h => List.mem_append.mpr (.inr h)) hoff ⟨hm, rfl, ?_⟩
        intro o' ho'
        rw [List.take_add_one, ho] at ho'
        rcases List.mem_append.mp ho' with ho' | ho'
        · exact hJ o' ho'
        · simp at ho'; subst ho'; exact hon
      · refine hexc _ _ _ _ ?_ (by k_asm) (raised_sub (by assumption) subl) (by assumption)
        intro hc
        rename (o.isNum = false) => hon
        rw [List.all_eq_true.mp hc.2 o (List.mem_of_getElem? ho)] at hon
        cases hon
    · rintro u nx h tk ⟨hnx, hJ⟩ F' N'
      subst nx
      dsimp only [envOf] at F' N'
      rw [hops.length, List.take_length] at hJ
      dsimp only
      k_steps
      refine comp_rest (fun i ys nx => ∃ tl, nx = news ++ tl ∧ (∀ q ∈ news, ∀ p ∈ tl, q.1 ≠ p.1) ∧ AllOp w (n₀ ++ tl) ys ((ops.take i).map Op.asDec)) ⟨[], by simp, ord0, .nil⟩ ?_ ?_
      · rintro i ys nx v I oI C oC D m₂ h tk E' hi ⟨tl, hnx, hord, hys⟩ hv hNs hx F' N' off ne
        subst nx
        have hv' : vs[i]? = some v := by simpa using hv
        obtain ⟨o, ho, hov⟩ := hops.get hv'
        have hov' : OpAt w ((I, oI) :: (C, oC) :: (D, LCg.lst ys) :: (news ++ tl)) v o := hov.mono fun p hp => .tail _ (.tail _ (.tail _ (subl p (hsub p hp))))
        have hon : o.isNum = true := hJ o (List.mem_of_getElem? ho)
        k_steps
        rename_i r' tl' h' tk' F'' N'' o' ho'
        refine LCg.CompEnd.intro (by k_asm) N'' (news ++ tl ++ tl') sub3_app (off3_app off o') (.inr ⟨_, subl _ (subl _ hl), rfl, n, rfl⟩) ⟨tl ++ tl', by simp, ord_app hord (ord_sub o' fun p hp => .tail _ (.tail _ (.tail _ hp))), ?_⟩
        have e : (ops.take (i + 1)).map Op.asDec = (ops.take i).map Op.asDec ++ [o.asDec] := by rw [List.take_add_one, ho]; simp
        rw [e]
        refine AllOp.snoc (hys.mono fun p hp => by rw [← List.append_assoc]; exact subl p hp) ?_
        rcases ho' with ho' | ⟨_, ho', ho''⟩
        · exact ho'.mono fun p hp => List.mem_append.mpr (.inr (List.mem_append.mpr (.inr hp)))
        · rw [ho', ← ho'']; exact hov.mono subl
      · rintro ys nx ⟨tl, hnx, hord, hys⟩
        subst nx
        intro D h' tk' F'' N'' o1
        have hlen' : vs.toArray.size = ops.length := by rw [List.size_toArray, hops.length]
        rw [hlen', List.take_length] at hys
        k_steps
        exact hret _ ((D, LCg.lst ys) :: tl) _ _ (by k_asm) (led1 (by k_asm)) (off1_ord o1 hord) ⟨by rw [← hif, List.size_toArray, hops.length], List.all_eq_true.mpr hJ, D, ys, rfl, .head _, hys.mono fun p hp => by
          rcases List.mem_append.mp hp with hp | hp
          · exact subl p hp
          · exact List.mem_append.mpr (.inr (.tail _ hp))⟩
end Mine
end
section
open PySem PySem.W PyProof.Rows PySem.Calls
namespace Mine


/-- small enough: what the law's operands are -/
def Op.fine : Op → Prop
  | .int t => -1000 ≤ t ∧ t ≤ 1000
  | .dec t p => -1000 ≤ t ∧ t ≤ 1000 ∧ (p = 0 ∨ p = 1 ∨ p = 2 ∨ p = 3)
  | _ => True
/-- what a Decimal (t, p) compared with 1 gives -/
def cmp1 (t p : Int) : Int := if t - 10 ^ p.toNat = 0 then 0 else if t - 10 ^ p.toNat > 0 then 1 else -1
theorem int_eq {a b : Int} {k : Tok} (h : a = b) : Value.int a k = Value.int b k := h ▸ rfl
theorem e_is {t p : Int} (h : 0 ≤ p) : t * 10 ^ ((if 0 > p then 0 else p) - p).toNat - 1 * 10 ^ ((if 0 > p then 0 else p) - 0).toNat = t - 10 ^ p.toNat := by
  rw [if_neg (by omega), Int.sub_self, Int.sub_zero]
  show t * 10 ^ 0 - 1 * _ = _
  rw [Int.pow_zero, Int.mul_one, Int.one_mul]
theorem cmp_a {t p e : Int} (h : e = 0) (he : e = t - 10 ^ p.toNat) : (0 : Int) = cmp1 t p := by
  unfold cmp1; rw [← he, if_pos h]
theorem cmp_b {t p e : Int} (h0 : e ≠ 0) (h : 0 < e) (he : e = t - 10 ^ p.toNat) : (1 : Int) = cmp1 t p := by
  unfold cmp1; rw [← he, if_neg h0, if_pos h]
theorem cmp_c {t p e : Int} (h0 : e ≠ 0) (h : ¬ 0 < e) (he : e = t - 10 ^ p.toNat) : (-1 : Int) = cmp1 t p := by
  unfold cmp1; rw [← he, if_neg h0, if_neg h]
theorem rowsC1a : True := by
  k_with_none
  k_with "k_sub" => k_of "#h" => (intro p' hp'; first | exact hp' | exact List.Mem.tail _ hp' | ((simp only [List.cons_append, List.nil_append, List.append_nil, List.mem_cons, List.mem_append] at hp' ⊢); revert hp'; ((repeat' (refine or_imp.mpr (And.intro ?_ ?_))) <;> (intro hp'; simp only [hp', true_or, or_true]))))
  k_with "k_room" => k_of "#h" => ((try simp only [depth_mark, depth_under_make, depth_under_kw, depth_in1, depth_deeper, depth_caller, recursionLimit]); (try dsimp only [ktrTop]); omega)
  k_with "k_units" => k_of "#h" => ((have hcL9' := cLine_is); (try simp only [units_in1, units_deeper, Around.mark_units, units_caller]); (try dsimp only [ktrTop]); omega)
  k_with "@exec While BoolOp" => k_of "#h" => (k_here; k_dflt (refine whl_start 100 ?_))
  k_with "@binaryOp Pow int int" => k_of "#h" => (k_here; k_dflt (refine' pow_int_small ?kb1' ?kb2' ?kb3' ?_; (case kb1' => first | decide | omega); (case kb2' => first | decide | omega); (case kb3' => decide)))
  trivial

theorem s_compared (w : World) (news : List (Addr × Obj)) (v : Value) (t p : Int) (k : Tok) (hv : OpAt w news v (.dec t p)) (hf : (Op.dec t p).fine) :
    Says w 20 110 [v, .int 1 k] news (fun tl r => tl = [] ∧ ∃ k', r = .int (cmp1 t p) k') False := by
  unfold Says
  intro mean mg mb dp un gd cn cs a ccd cl outer A₀ base h₀ L m s Q E B F X N T hk hdp hun hret hexc
  obtain ⟨hf1, hf2, hf3⟩ := hf
  have hp0 : 0 ≤ p := by omega
  have hp3 : p ≤ 3 := by omega
  clear hf3
  cases hv
  rename_i h1 h2
  replace N := addN (.tail _ h1) (addN h2 N)
  refine wpAny_call ?_
  k_dflt ktr_enter
  k_steps
  · exact hret _ [] _ _ (by k_asm) (led0 (cb_drop (by k_asm) (by k_sub))) ord0 ⟨rfl, _, int_eq (cmp_a (by assumption) (e_is hp0))⟩
  · exact hret _ [] _ _ (by k_asm) (led0 (cb_drop (by k_asm) (by k_sub))) ord0 ⟨rfl, _, int_eq (cmp_b (by assumption) (by assumption) (e_is hp0))⟩
  · exact hret _ [] _ _ (by k_asm) (led0 (cb_drop (by k_asm) (by k_sub))) ord0 ⟨rfl, _, int_eq (cmp_c (by assumption) (by assumption) (e_is hp0))⟩
end Mine
end
section
open PySem PySem.W PyProof.Rows PySem.Calls
namespace Mine


/-- a number cut to 0 to 1 -/
def Op.cut : Op → Op
  | .dec t p => if t < 0 then .dec 0 0 else if cmp1 t p > 0 then .dec 1 0 else .dec t p
  | o => o
abbrev tupOf (vs : List Value) : Obj := { cls := .type "tuple", data := .seq vs.toArray }
theorem my_append {prog : Program} {w : World} {A : Around} {E : Value → Shared → Prop} {s : Shared} {h₀ : Heap} {L D : Addr} {m : Str → Option Value} {rest : List (Addr × Obj)} {xs : List Value} {n : Nat} {x : Value} {Q : Value → Shared → Prop} (F : Fr h₀ L s.heap m) (N : News h₀ L s.heap ((D, listOf xs.toArray n) :: rest)) (hne : ∀ p ∈ rest, p.1 ≠ D) (hsz : xs.length ≤ 1000)
    (h : ∀ h', Fr h₀ L h' m → News h₀ L h' ((D, listOf (xs ++ [x]).toArray (n + 1)) :: rest) → Q .none { s with heap := h' }) : wpAny (model prog w) A (call (.builtin "list.append") [.ref D, x]) Q E s :=
  append_K F N (.head hne) (fun h' F' N' => h h' F' (by rw [List.push_toArray] at N'; exact N')) (by rw [List.size_toArray, sizeLine_eq]; omega)
theorem hne_app {D : Addr} {o : Obj} {rest tl : List (Addr × Obj)} (h : ∀ p ∈ rest, p.1 ≠ D) (k : ∀ q ∈ (D, o) :: rest, ∀ p ∈ tl, q.1 ≠ p.1) : ∀ p ∈ rest ++ tl, p.1 ≠ D := by
  intro p hp
  rcases List.mem_append.mp hp with hp | hp
  · exact h p hp
  · exact Ne.symm (k _ (.head _) p hp)
theorem my_append2 {prog : Program} {w : World} {A : Around} {E : Value → Shared → Prop} {s : Shared} {h₀ : Heap} {L D : Addr} {m : Str → Option Value} {rest tl : List (Addr × Obj)} {xs : List Value} {n : Nat} {x : Value} {Q : Value → Shared → Prop} (F : Fr h₀ L s.heap m) (N : News h₀ L s.heap (((D, listOf xs.toArray n) :: rest) ++ tl)) (hne : ∀ p ∈ rest, p.1 ≠ D) (k : ∀ q ∈ (D, listOf xs.toArray n) :: rest, ∀ p ∈ tl, q.1 ≠ p.1) (hsz : xs.length ≤ 1000)
    (h : ∀ h', Fr h₀ L h' m → News h₀ L h' ((D, listOf (xs ++ [x]).toArray (n + 1)) :: (rest ++ tl)) → Q .none { s with heap := h' }) : wpAny (model prog w) A (call (.builtin "list.append") [.ref D, x]) Q E s :=
  my_append (rest := rest ++ tl) F N (hne_app hne k) hsz h
theorem off_next {own A B : List (Addr × Obj)} {x x' : Addr × Obj} (h : OwnOff own ((x :: A).map (·.1))) (e : x'.1 = x.1) (k : ∀ q ∈ own, ∀ p ∈ B, q.1 ≠ p.1) : OwnOff own ((x' :: (A ++ B)).map (·.1)) := by
  intro p hp b hb
  rw [List.map_cons] at hb
  rcases List.mem_cons.mp hb with rfl | hb
  · rw [e]; exact h p hp _ (.head _)
  · rw [List.map_append] at hb
    rcases List.mem_append.mp hb with hb | hb
    · exact h p hp b (.tail _ hb)
    · obtain ⟨q, hq, rfl⟩ := List.mem_map.mp hb
      exact k p hp q hq
theorem off_next0 {own A : List (Addr × Obj)} {x x' : Addr × Obj} (h : OwnOff own ((x :: A).map (·.1))) (e : x'.1 = x.1) : OwnOff own ((x' :: A).map (·.1)) := by
  have z := off_next (B := []) h e (fun _ _ _ h => nomatch h)
  rwa [List.append_nil] at z
theorem dup2 {h₀ h : Heap} {L : Addr} {x a b : Addr × Obj} {A own : List (Addr × Obj)} (N : News h₀ L h ((x :: A) ++ own)) (ha : a ∈ A) (hb : b ∈ A) : News h₀ L h (x :: a :: b :: (A ++ own)) := fun p hp => N p (by
  rcases List.mem_cons.mp hp with rfl | hp
  · exact .head _
  rcases List.mem_cons.mp hp with rfl | hp
  · exact .tail _ (List.mem_append.mpr (.inl ha))
  rcases List.mem_cons.mp hp with rfl | hp
  · exact .tail _ (List.mem_append.mpr (.inl hb))
  · exact .tail _ hp)
theorem dup2_ne {D : Addr} {o : Obj} {a b : Addr × Obj} {A own : List (Addr × Obj)} (hne : ∀ p ∈ A, p.1 ≠ D) (hoff : OwnOff own (((D, o) :: A).map (·.1))) (ha : a ∈ A) (hb : b ∈ A) : ∀ p ∈ a :: b :: (A ++ own), p.1 ≠ D := by
  intro p hp
  rcases List.mem_cons.mp hp with rfl | hp
  · exact hne _ ha
  rcases List.mem_cons.mp hp with rfl | hp
  · exact hne _ hb
  rcases List.mem_append.mp hp with hp | hp
  · exact hne _ hp
  · exact hoff p hp D (.head _)
theorem sub_nx {x a b : Addr × Obj} {A B C own : List (Addr × Obj)} : ∀ p ∈ x :: (A ++ (B ++ C)), p ∈ x :: ((a :: b :: (A ++ B ++ own)) ++ C) := by
  intro p hp
  simp only [List.mem_cons, List.mem_append, List.cons_append] at hp ⊢
  rcases hp with hp | hp | hp | hp <;> simp [hp]
theorem sub_own {x a b : Addr × Obj} {A C own : List (Addr × Obj)} : ∀ p ∈ own, p ∈ x :: ((a :: b :: (A ++ own)) ++ C) := by
  intro p hp
  simp only [List.mem_cons, List.mem_append, List.cons_append]
  simp [hp]
theorem sub_nx0 {x a b : Addr × Obj} {A own : List (Addr × Obj)} : ∀ p ∈ x :: A, p ∈ x :: a :: b :: (A ++ own) := by
  intro p hp
  simp only [List.mem_cons, List.mem_append] at hp ⊢
  rcases hp with hp | hp <;> simp [hp]
theorem sub_own0 {x a b : Addr × Obj} {A own : List (Addr × Obj)} : ∀ p ∈ own, p ∈ x :: a :: b :: (A ++ own) := by
  intro p hp
  simp only [List.mem_cons, List.mem_append]
  simp [hp]
theorem ord_lt {D : Addr} {o : Obj} {news tl : List (Addr × Obj)} (h1 : ∀ q ∈ news, q.1 < D) (h : ∀ q ∈ news, ∀ p ∈ tl, q.1 ≠ p.1) : ∀ q ∈ news, ∀ p ∈ (D, o) :: tl, q.1 ≠ p.1 := by
  intro q hq p hp
  rcases List.mem_cons.mp hp with rfl | hp
  · exact Nat.ne_of_lt (h1 q hq)
  · exact h q hq p hp
theorem cut_neg {o : Op} (h : o.top < 0) : (Op.int 0).asDec = o.asDec.cut := by unfold Op.asDec Op.cut; dsimp only; rw [if_pos h]; rfl
theorem cut_big {o : Op} (h : ¬ o.top < 0) (h2 : 0 < cmp1 o.top o.places) : (Op.int 1).asDec = o.asDec.cut := by
  unfold Op.asDec Op.cut
  dsimp only
  rw [if_neg h, if_pos h2]
  rfl
theorem cut_in {o : Op} (h : ¬ o.top < 0) (h2 : ¬ 0 < cmp1 o.top o.places) : o.asDec = o.asDec.cut := by
  unfold Op.asDec Op.cut
  dsimp only
  rw [if_neg h, if_neg h2]
theorem map_asDec_get {ops : List Op} {i : Nat} {o' : Op} (h : (ops.map Op.asDec)[i]? = some o') : ∃ o, ops[i]? = some o ∧ o' = o.asDec := by
  rw [List.getElem?_map] at h
  cases e : ops[i]? with
  | none => rw [e] at h; cases h
  | some o => rw [e] at h; exact ⟨o, rfl, (Option.some.inj h).symm⟩
theorem take_map_succ {f : Op → Op} {ops : List Op} {i : Nat} {o : Op} (h : ops[i]? = some o) : (ops.take (i + 1)).map f = (ops.take i).map f ++ [f o] := by
  rw [List.take_add_one, h]; simp
theorem asDec_fine {o : Op} (h : o.fine) : o.asDec.fine := by
  cases o with
  | int t => exact ⟨h.1, h.2, .inl rfl⟩
  | dec t p => exact h
  | name x => exact ⟨(by decide : (-1000 : Int) ≤ 0), (by decide : (0 : Int) ≤ 1000), .inl rfl⟩
  | str => exact ⟨by decide, by decide, .inl rfl⟩
  | text x => exact ⟨(by decide : (-1000 : Int) ≤ 0), (by decide : (0 : Int) ≤ 1000), .inl rfl⟩
theorem rowsC2a : True := by
  k_with_none
  k_with "k_sub" => k_of "#h" => (intro p' hp'; first | exact hp' | exact List.Mem.tail _ hp' | ((simp only [List.cons_append, List.nil_append, List.append_nil, List.mem_cons, List.mem_append] at hp' ⊢); revert hp'; ((repeat' (refine or_imp.mpr (And.intro ?_ ?_))) <;> (intro hp'; simp only [hp', true_or, or_true]))))
  k_with "k_room" => k_of "#h" => ((try simp only [depth_mark, depth_under_make, depth_under_kw, depth_in1, depth_deeper, depth_caller, recursionLimit]); (try dsimp only [ktrTop]); omega)
  k_with "k_units" => k_of "#h" => ((have hcL9' := cLine_is); (try simp only [units_in1, units_deeper, Around.mark_units, units_caller]); (try dsimp only [ktrTop]); omega)
  k_with "@exec While BoolOp" => k_of "#h" => (k_here; k_dflt (refine whl_start 100 ?_))
  k_with "ktr_rel" => k_of "#h" => first | assumption | exact OpAt.int | exact OpAt.mono (by assumption) (by k_sub) | exact AllOp.mono (by assumption) (by k_sub) | exact List.Mem.tail _ (by assumption) | exact List.Mem.tail _ (List.Mem.tail _ (by assumption)) | exact subl _ (by assumption) | exact List.Mem.tail _ (subl _ (by assumption)) | exact mem_of_sub (by assumption) (by k_sub) | k_mem
  k_with "@call builtin:len" => k_of "#h" => (k_here; k_dflt (refine' PyProof.Rows.len_list (isList_of ?N' ?m') ?f' ?_; (case N' => k_asm); (case m' => first | ktr_rel | k_mem); (case f' => (simp only [List.size_toArray]; omega))))
  k_with "@exec For Name Name cons nil" => k_of "#h" => (k_here; (rename Fr _ _ _ _ => lF'); (with_unfolding_all refine' For_invVF lF' ?k1' ?k2' ?_; (case k1' => exact rfl); (case k2' => exact rfl); k_whole))
  k_with "@call ref" => k_of "#h" => (k_here; k_dflt (refine' says_use (f := 402) (s_numbers_of _ _ _ _ _ _ _ _ ?hl' _ ?hsub' ?hops' ?hlen' ?hc0' ?hc1' ?hnt') ?B' ?F' ?X' ?N' ?T' ?hk' ?hd' ?hu' ?_ ?_; (case B' => k_asm); (case F' => k_asm); (case X' => k_asm); (case N' => k_asm); (case T' => k_asm); (case hk' => first | exact rfl | assumption); (case hd' => first | ((try dsimp only [Around.deeper]); omega) | decide); (case hu' => first | ((try dsimp only [Around.deeper]); omega) | decide); (case hl' => ktr_rel); (case hops' => assumption); (case hsub' => first | assumption | exact fun _ h => h | (intro p' hp'; exact .tail _ (by first | assumption | (apply_assumption; assumption))) | k_sub); (case hlen' => omega); (case hc0' => omega); (case hc1' => omega); (case hnt' => assumption)); (intro r' tl' h' tk' F' N' o' ho'; (obtain ⟨c', a', l', rs', e', m', p'⟩ := ho'); subst e'; (have z' := AllOp.length p'); (simp only [List.length_map, List.length_nil] at z'); (try k_sweep)); rotate_left; (intro e' g' h' tk' x' F' R' U'))
  k_with "@call ref" => k_of "#h" => (k_here; k_dflt (refine' says_use (f := 110) (s_compared _ _ _ _ _ _ ?hv' ?hf') ?B' ?F' ?X' ?N' ?T' ?hk' ?hd' ?hu' ?_ ?_; (case B' => k_asm); (case F' => k_asm); (case X' => k_asm); (case N' => k_asm); (case T' => k_asm); (case hk' => first | exact rfl | assumption); (case hd' => first | ((try dsimp only [Around.deeper]); omega) | decide); (case hu' => first | ((try dsimp only [Around.deeper]); omega) | decide); (case hv' => ktr_rel); (case hf' => assumption)); rotate_left; (intro _ _ _ _ hx'; exact hx'.elim); (intro r' tl' h' tk' F' N' o' ho'; (obtain ⟨e1', k', e2'⟩ := ho'); subst e1'; subst e2'; (try simp only [List.append_nil] at N'); (try k_sweep); clear o'))
  k_with "@call ref" => k_of "#h" => (k_here; k_dflt (refine' says_use (f := 180) (s_decimal_of _ _ _ _ ?hv' ?hn') ?B' ?F' ?X' ?N' ?T' ?hk' ?hd' ?hu' ?_ ?_; (case B' => k_asm); (case F' => k_asm); (case X' => k_asm); (case N' => k_asm); (case T' => k_asm); (case hk' => first | exact rfl | assumption); (case hd' => first | ((try dsimp only [Around.deeper]); omega) | decide); (case hu' => first | ((try dsimp only [Around.deeper]); omega) | decide); (case hv' => ktr_rel); (case hn' => first | assumption | rfl)); rotate_left; (intro _ _ _ _ hx'; exact hx'.elim); (intro r' tl' h' tk' F' N' o' ho'; (try k_sweep)))
  k_with "@call builtin:list.append" => k_of "#h" => (k_here; k_dflt (first | (refine' my_append2 ?F' ?N' ?n' ?k' ?z' ?_; (case F' => k_asm); (case N' => k_asm); (case n' => assumption); (case k' => assumption); (case z' => omega)) | (refine' my_append ?F' ?N' ?n' ?z' ?_; (case F' => k_asm); (case N' => k_asm); (case n' => assumption); (case z' => omega))); intro h' F' N'; (try k_sweep))
  k_with "@call type:tuple" => k_of "#h" => (k_here; (with_reducible show wpAny _ _ (call (Value.type _) [Value.ref _]) _ _ _); k_dflt (refine' kde_tupleOf ?k1' ?k2' ?k3' ?k4' ?k5' ?_; (case k1' => k_asm); (case k2' => k_asm); (case k3' => exact isList_of (by k_asm) (by ktr_rel)); (case k4' => (simp only [List.size_toArray]; omega)); (case k5' => exact List.toList_toArray)); intro D' h' F' N' l1'; (try k_sweep))
  trivial

theorem s_colour_parts (w : World) (news : List (Addr × Obj)) (l : Addr) (vs : List Value) (n : Nat) (ops : List Op) (c : Int) (ct : Tok) (hl : (l, listOf vs.toArray n) ∈ news) (n₀ : List (Addr × Obj)) (hsub : ∀ p ∈ n₀, p ∈ news) (hops : AllOp w n₀ vs ops) (hlen : ops.length ≤ 100) (hc0 : 0 ≤ c) (hc1 : c ≤ 100) (hnt : ∀ o ∈ ops, ∀ x, o ≠ .text x) (hfine : ∀ o ∈ ops, o.fine) :
    Says w 40 416 [.ref l, .int c ct] news (fun tl r => c = (ops.length : Int) ∧ ops.all Op.isNum = true ∧ ∃ l' rs, r = .ref l' ∧ (l', tupOf rs) ∈ tl ∧ AllOp w (n₀ ++ tl) rs (ops.map fun o => o.asDec.cut)) (¬ (c = (ops.length : Int) ∧ ops.all Op.isNum = true)) := by
  unfold Says
  intro mean mg mb dp un gd cn cs a ccd cl outer A₀ base h₀ L m s Q E B F X N T hk hdp hun hret hexc
  refine wpAny_call ?_
  k_dflt ktr_enter
  k_steps
  · exact hexc _ _ _ _ (by assumption) (by k_asm) (raised_sub (by assumption) (by k_sub)) (by assumption)
  · rename_i fnd h1 l1 h2 tl h3 tk3 F' N' o' c' a' l' rs m' p' z'
    have hfnd : ∀ p ∈ news ++ tl, p.1 ≠ fnd := fun p hp => by
      rcases List.mem_append.mp hp with hp | hp
      · exact Nat.ne_of_lt (l1 p hp)
      · exact Ne.symm (o' _ (.head _) p hp)
    refine loopL (vs := rs) (nn := rs.length) (fun i nx => ∃ xs k tl2, nx = (fnd, listOf xs.toArray k) :: (news ++ tl2) ∧ xs.length = i ∧ (∀ p ∈ tl, p ∈ tl2) ∧ (∀ p ∈ news ++ tl2, p.1 ≠ fnd) ∧ (∀ q ∈ news, ∀ p ∈ tl2, q.1 ≠ p.1) ∧ AllOp w (n₀ ++ tl2) xs ((ops.take i).map fun o => o.asDec.cut)) (by rfl) (List.mem_append.mpr (.inr m')) (by k_asm) (by k_asm)
      ⟨[], 0, tl, rfl, rfl, fun _ h => h, hfnd, fun q hq => o' q (.tail _ hq), .nil⟩ ?_ ?_
    · rintro i v nx h tk' own hv hoff hm ⟨xs, k, tl2, hnx, hxs, ht, hne, hord, hys⟩ F'' N''
      subst nx
      obtain ⟨o2, ho2, hov⟩ := p'.get hv
      obtain ⟨o, ho, rfl⟩ := map_asDec_get ho2
      have hfo := asDec_fine (hfine o (List.mem_of_getElem? ho))
      have hi : i ≤ 100 := by
        have z := (List.getElem?_eq_some_iff.mp hv).1
        have z2 := p'.length
        rw [List.length_map] at z2
        omega
      have sb : ∀ p ∈ n₀ ++ tl, p ∈ news ++ tl2 := fun p hp => (List.mem_append.mp hp).elim (fun h => subl p (hsub p h)) fun h => List.mem_append.mpr (.inr (ht p h))
      have hov0 := hov
      unfold Op.asDec at hov
      cases hov
      rename_i ai di k1 k2 k3 k4 hm1 hm2
      have N3 : News _ _ h ((fnd, listOf xs.toArray k) :: (ai, instObj 155 di) :: (di, dictOf [ent w "top" k1 (.int o.top k2), ent w "places" k3 (.int o.places k4)] 2) :: (news ++ tl2 ++ own)) := dup2 N'' (sb _ hm1) (sb _ hm2)
      have hovL : OpAt w ((fnd, listOf xs.toArray k) :: (ai, instObj 155 di) :: (di, dictOf [ent w "top" k1 (.int o.top k2), ent w "places" k3 (.int o.places k4)] 2) :: (news ++ tl2 ++ own)) (.ref ai) (.dec o.top o.places) := .dec (.tail _ (.head _)) (.tail _ (.tail _ (.head _)))
      have hneL : ∀ p ∈ (ai, instObj 155 di) :: (di, dictOf [ent w "top" k1 (.int o.top k2), ent w "places" k3 (.int o.places k4)] 2) :: (news ++ tl2 ++ own), p.1 ≠ fnd := dup2_ne hne hoff (sb _ hm1) (sb _ hm2)
      clear N''
      dsimp only [envOf] at F'' N3
      k_steps
      · rename_i hneg tk1 r1 tl1 h1' tk2 o1 ho1 h2' F1 N1
        have ho1 : OpAt w tl1 r1 o.asDec.cut := by
          rw [← cut_neg hneg]
          rcases ho1 with ho1 | ⟨_, _, ho1⟩
          · exact ho1
          · cases ho1
        dsimp only [TurnPost']
        refine TurnEnd'.intro ((fnd, listOf (xs ++ [r1]).toArray (k + 1)) :: (news ++ (tl2 ++ tl1))) (by k_asm) (fun y hy => if_neg hy) N1 sub_nx sub_own ?_ ⟨.tail _ (List.mem_append.mpr (.inr (subl _ (ht _ m')))), xs ++ [r1], k + 1, tl2 ++ tl1, rfl, by simp [hxs], fun p hp => subl p (ht p hp), ?_, ?_, ?_⟩
        · rw [← List.append_assoc]
          exact off_next hoff rfl fun q hq => o1 q (.tail _ (.tail _ (.tail _ (List.mem_append.mpr (.inr hq)))))
        · rw [← List.append_assoc]
          exact hne_app hne (o := listOf xs.toArray k) fun q hq => o1 q (by
            rcases List.mem_cons.mp hq with rfl | hq
            · exact .head _
            · exact .tail _ (.tail _ (.tail _ (subl _ hq))))
        · exact ord_app hord fun q hq => o1 q (.tail _ (.tail _ (.tail _ (subl _ hq))))
        · rw [take_map_succ ho]
          exact AllOp.snoc (hys.mono fun p hp => by rw [← List.append_assoc]; exact subl p hp) (ho1.mono fun p hp => List.mem_append.mpr (.inr (List.mem_append.mpr (.inr hp))))
      · rename_i hnn tk0 h0 tk00 k0 hc tk1 r1 tl1 h1' tk2 o1 ho1 h2' F1 N1
        have ho1 : OpAt w tl1 r1 o.asDec.cut := by
          rw [← cut_big hnn hc]
          rcases ho1 with ho1 | ⟨_, _, ho1⟩
          · exact ho1
          · cases ho1
        dsimp only [TurnPost']
        refine TurnEnd'.intro ((fnd, listOf (xs ++ [r1]).toArray (k + 1)) :: (news ++ (tl2 ++ tl1))) (by k_asm) (fun y hy => if_neg hy) N1 sub_nx sub_own ?_ ⟨.tail _ (List.mem_append.mpr (.inr (subl _ (ht _ m')))), xs ++ [r1], k + 1, tl2 ++ tl1, rfl, by simp [hxs], fun p hp => subl p (ht p hp), ?_, ?_, ?_⟩
        · rw [← List.append_assoc]
          exact off_next hoff rfl fun q hq => o1 q (.tail _ (.tail _ (.tail _ (List.mem_append.mpr (.inr hq)))))
        · rw [← List.append_assoc]
          exact hne_app hne (o := listOf xs.toArray k) fun q hq => o1 q (by
            rcases List.mem_cons.mp hq with rfl | hq
            · exact .head _
            · exact .tail _ (.tail _ (.tail _ (subl _ hq))))
        · exact ord_app hord fun q hq => o1 q (.tail _ (.tail _ (.tail _ (subl _ hq))))
        · rw [take_map_succ ho]
          exact AllOp.snoc (hys.mono fun p hp => by rw [← List.append_assoc]; exact subl p hp) (ho1.mono fun p hp => List.mem_append.mpr (.inr (List.mem_append.mpr (.inr hp))))
      · rename_i hnn tk0 h0 tk00 k0 hc tk1 h2' F1 N1
        dsimp only [TurnPost']
        refine TurnEnd'.intro ((fnd, listOf (xs ++ [Value.ref ai]).toArray (k + 1)) :: (news ++ tl2)) (by k_asm) (fun y hy => if_neg hy) N1 sub_nx0 sub_own0 (off_next0 hoff rfl) ⟨.tail _ (List.mem_append.mpr (.inr (ht _ m'))), xs ++ [Value.ref ai], k + 1, tl2, rfl, by simp [hxs], ht, hne, hord, ?_⟩
        rw [take_map_succ ho]
        refine AllOp.snoc hys ?_
        rw [← cut_in hnn hc]
        exact hov0.mono fun p hp => (List.mem_append.mp hp).elim (fun h => subl p h) fun h => List.mem_append.mpr (.inr (ht p h))
    · rintro u nx h tk' ⟨xs, k, tl2, hnx, hxs, ht, hne, hord, hys⟩ F'' N''
      subst nx
      have hrl := p'.length
      rw [List.length_map] at hrl
      rw [hrl] at hxs hys
      rw [List.take_length] at hys
      dsimp only [envOf] at F'' N''
      dsimp only
      k_steps
      rename_i D1 h1' F1 N1 l1' kF kN Tc kX
      exact hret _ ((D1, tupOf xs) :: tl2) _ _ kF (led1 (drop2 kN)) (ord_lt (fun q hq => l1' q (.tail _ (subl _ hq))) hord) ⟨c', a', D1, xs, rfl, .head _, hys.mono fun p hp => (List.mem_append.mp hp).elim (fun h => subl p h) fun h => List.mem_append.mpr (.inr (.tail _ h))⟩
end Mine
end
section
open PySem PySem.W PyProof.Rows PySem.Calls
namespace Mine


inductive Sp where
  | gray | rgb | pat | cmyk | own
def Sp.str : Sp → Str
  | .gray => Str.ofString "DeviceGray"
  | .rgb => Str.ofString "DeviceRGB"
  | .pat => Str.ofString "Pattern"
  | .cmyk => Str.ofString "DeviceCMYK"
  | .own => Str.ofString "Own"
def Sp.count : Sp → Int
  | .gray => 1
  | .rgb => 3
  | .pat => -1
  | .cmyk => 4
  | .own => -1
theorem rowsC3a : True := by
  k_with_none
  k_with "k_sub" => k_of "#h" => (intro p' hp'; first | exact hp' | exact List.Mem.tail _ hp' | ((simp only [List.cons_append, List.nil_append, List.append_nil, List.mem_cons, List.mem_append] at hp' ⊢); revert hp'; ((repeat' (refine or_imp.mpr (And.intro ?_ ?_))) <;> (intro hp'; simp only [hp', true_or, or_true]))))
  k_with "k_room" => k_of "#h" => ((try simp only [depth_mark, depth_under_make, depth_under_kw, depth_in1, depth_deeper, depth_caller, recursionLimit]); (try dsimp only [ktrTop]); omega)
  k_with "k_units" => k_of "#h" => ((have hcL9' := cLine_is); (try simp only [units_in1, units_deeper, Around.mark_units, units_caller]); (try dsimp only [ktrTop]); omega)
  k_with "@exec While BoolOp" => k_of "#h" => (k_here; k_dflt (refine whl_start 100 ?_))
  trivial

theorem s_device_count (w : World) (news : List (Addr × Obj)) (sp : Sp) (k : Tok) :
    Says w 10 423 [.str sp.str k] news (fun tl r => tl = [] ∧ ∃ k', r = .int sp.count k') False := by
  unfold Says
  intro mean mg mb dp un gd cn cs a ccd cl outer A₀ base h₀ L m s Q E B F X N T hk hdp hun hret hexc
  cases sp
  all_goals (
    dsimp only [Sp.str]

    refine wpAny_call ?_
    k_dflt ktr_enter
    k_steps
    exact hret _ [] _ _ (by k_asm) (led0 (cb_drop (by k_asm) (by k_sub))) ord0 ⟨rfl, _, rfl⟩)
end Mine
end
section
open PySem PySem.W PyProof.Rows PySem.Calls
namespace Mine


def ownSpec (sp : Sp) (ops : List Op) : Option (List Op) :=
  if 0 ≤ sp.count then (if sp.count = (ops.length : Int) ∧ ops.all Op.isNum = true then some (ops.map fun o => o.asDec.cut) else none)
  else match ops.getLast? with
    | some (.name x) => if ops.dropLast.all Op.isNum = true then some (ops.dropLast.map Op.asDec ++ [.text x]) else none
    | _ => if ops.all Op.isNum = true then some (ops.map Op.asDec) else none
/-- a colour: a space's name and its parts -/
def ColAt (w : World) (n₀ tl : List (Addr × Obj)) (r : Value) (sp : Sp) (parts : List Op) : Prop :=
  ∃ a b rs k, r = .ref a ∧ (a, tupOf [.str sp.str k, .ref b]) ∈ tl ∧ (b, tupOf rs) ∈ tl ∧ AllOp w (n₀ ++ tl) rs parts
theorem AllOp.snoc_inv {w : World} {n₀ : List (Addr × Obj)} {vs : List Value} {os : List Op} {o : Op} (h : AllOp w n₀ vs (os ++ [o])) : ∃ us v, vs = us ++ [v] ∧ AllOp w n₀ us os ∧ OpAt w n₀ v o := by
  induction os generalizing vs with
  | nil =>
    cases h with
    | cons h1 h2 => cases h2; exact ⟨[], _, rfl, .nil, h1⟩
  | cons p os ih =>
    cases h with
    | cons h1 h2 =>
      obtain ⟨us, v, rfl, h3, h4⟩ := ih h2
      exact ⟨_ :: us, v, rfl, .cons h1 h3, h4⟩
theorem Sp.count_le (sp : Sp) : sp.count ≤ 4 := by cases sp <;> decide
theorem pick_init (us : List Value) (v : Value) : kms_pick (us ++ [v]).toArray.toList none (some (-1)) = us := by
  unfold kms_pick kms_lo kms_hi
  simp
theorem seq_last (us : List Value) (v : Value) : seqIndex? (-1) (us ++ [v]).length = some us.length := by
  unfold seqIndex?
  simp only [List.length_append, List.length_cons, List.length_nil]
  rw [if_pos (show (-1 : Int) < 0 by decide)]
  have e : (-1 : Int) + ((us.length + (0 + 1) : Nat) : Int) = (us.length : Int) := by omega
  rw [e]
  simp
  omega
theorem get_last (us : List Value) (v : Value) : (us ++ [v])[us.length]? = some v := by simp
theorem led2 {h₀ h : Heap} {L : Addr} {p q : Addr × Obj} {news tl : List (Addr × Obj)} (N : News h₀ L h (p :: q :: (news ++ tl))) : News h₀ L h (news ++ (p :: q :: tl)) := fun r hr => N r (by
  simp only [List.mem_append, List.mem_cons] at hr ⊢
  rcases hr with hr | hr | hr | hr <;> simp [hr])
theorem allOp_in {w : World} {n₀ tl : List (Addr × Obj)} {p q : Addr × Obj} {rs : List Value} {os : List Op} (h : AllOp w (n₀ ++ tl) rs os) : AllOp w (n₀ ++ (p :: q :: tl)) rs os := h.mono fun r hr => by
  simp only [List.mem_append, List.mem_cons] at hr ⊢
  rcases hr with hr | hr <;> simp [hr]
theorem spec_nil {sp : Sp} (hd : ¬ 0 ≤ sp.count) : ownSpec sp [] = some [] := by
  unfold ownSpec; rw [if_neg hd]; rfl
theorem spec_num {sp : Sp} {os : List Op} {o : Op} (hd : ¬ 0 ≤ sp.count) (hnn : ∀ x, o ≠ .name x) : ownSpec sp (os ++ [o]) = if (os ++ [o]).all Op.isNum = true then some ((os ++ [o]).map Op.asDec) else none := by
  unfold ownSpec
  rw [if_neg hd, List.getLast?_concat]
  cases o with
  | name x => exact absurd rfl (hnn x)
  | _ => rfl
theorem spec_name {sp : Sp} {os : List Op} {x : Str} (hd : ¬ 0 ≤ sp.count) : ownSpec sp (os ++ [.name x]) = if os.all Op.isNum = true then some (os.map Op.asDec ++ [.text x]) else none := by
  unfold ownSpec
  rw [if_neg hd, List.getLast?_concat, List.dropLast_concat]
theorem ltq2 {D : Addr} {l news : List (Addr × Obj)} (h : ∀ p ∈ l, p.1 < D) (s : ∀ p ∈ news, p ∈ l) : ∀ q ∈ news, q.1 < D := fun q hq => h q (s q hq)
theorem ltq {D : Addr} {l news : List (Addr × Obj)} (h : AllLt D l) (s : ∀ p ∈ news, p ∈ l) : ∀ q ∈ news, q.1 < D := fun q hq => ktn_ltOf h q (s q hq)
theorem rs_nil {w : World} {n₀ : List (Addr × Obj)} {rs : List Value} {f : Op → Op} (h : AllOp w n₀ rs (([] : List Op).map f)) : rs.toArray.toList = [] := by
  cases h; rfl
theorem rs_ne {w : World} {n₀ : List (Addr × Obj)} {rs : List Value} {f : Op → Op} {o : Op} {os : List Op} (h : AllOp w n₀ rs ((o :: os).map f)) : rs.toArray.toList ≠ [] := by
  cases h; exact List.cons_ne_nil _ _
theorem rowsC4a : True := by
  k_with_none
  k_with "k_sub" => k_of "#h" => (intro p' hp'; first | exact hp' | exact List.Mem.tail _ hp' | ((simp only [List.cons_append, List.nil_append, List.append_nil, List.mem_cons, List.mem_append] at hp' ⊢); revert hp'; ((repeat' (refine or_imp.mpr (And.intro ?_ ?_))) <;> (intro hp'; simp only [hp', true_or, or_true]))))
  k_with "k_room" => k_of "#h" => ((try simp only [depth_mark, depth_under_make, depth_under_kw, depth_in1, depth_deeper, depth_caller, recursionLimit]); (try dsimp only [ktrTop]); omega)
  k_with "k_units" => k_of "#h" => ((have hcL9' := cLine_is); (try simp only [units_in1, units_deeper, Around.mark_units, units_caller]); (try dsimp only [ktrTop]); omega)
  k_with "@exec While BoolOp" => k_of "#h" => (k_here; k_dflt (refine whl_start 100 ?_))
  k_with "ktr_rel" => k_of "#h" => first | assumption | exact OpAt.int | exact OpAt.mono (by assumption) (by k_sub) | exact AllOp.mono (by assumption) (by k_sub) | exact List.Mem.tail _ (by assumption) | exact List.Mem.tail _ (List.Mem.tail _ (by assumption)) | exact subl _ (by assumption) | exact List.Mem.tail _ (subl _ (by assumption)) | exact mem_of_sub (by assumption) (by k_sub) | k_mem
  k_with "@call builtin:len" => k_of "#h" => (k_here; k_dflt (refine' PyProof.Rows.len_list (isList_of ?N' ?m') ?f' ?_; (case N' => k_asm); (case m' => first | ktr_rel | k_mem); (case f' => (simp only [List.size_toArray]; omega))))
  k_with "@call ref" => k_of "#h" => (k_here; k_dflt (refine' says_use (f := 402) (s_numbers_of _ _ _ _ _ _ _ _ ?hl' _ ?hsub' ?hops' ?hlen' ?hc0' ?hc1' ?hnt') ?B' ?F' ?X' ?N' ?T' ?hk' ?hd' ?hu' ?_ ?_; (case B' => k_asm); (case F' => k_asm); (case X' => k_asm); (case N' => k_asm); (case T' => k_asm); (case hk' => first | exact rfl | assumption); (case hd' => first | ((try dsimp only [Around.deeper]); omega) | decide); (case hu' => first | ((try dsimp only [Around.deeper]); omega) | decide); (case hl' => ktr_rel); (case hops' => assumption); (case hsub' => first | assumption | exact fun _ h => h | (intro p' hp'; exact .tail _ (by first | assumption | (apply_assumption; assumption))) | k_sub); (case hlen' => omega); (case hc0' => omega); (case hc1' => omega); (case hnt' => assumption)); (intro r' tl' h' tk' F' N' o' ho'; (obtain ⟨c', a', l', rs', e', m', p'⟩ := ho'); subst e'; (have z' := AllOp.length p'); (simp only [List.length_map, List.length_nil] at z'); (try k_sweep)); rotate_left; (intro e' g' h' tk' x' F' R' U'))
  k_with "@call ref" => k_of "#h" => (k_here; k_dflt (refine' says_use (f := 416) (s_colour_parts _ _ _ _ _ _ _ _ ?hl' _ ?hsub' ?hops' ?hlen' ?hc0' ?hc1' ?hnt' ?hfine') ?B' ?F' ?X' ?N' ?T' ?hk' ?hd' ?hu' ?_ ?_; (case B' => k_asm); (case F' => k_asm); (case X' => k_asm); (case N' => k_asm); (case T' => k_asm); (case hk' => first | exact rfl | assumption); (case hd' => first | ((try dsimp only [Around.deeper]); omega) | decide); (case hu' => first | ((try dsimp only [Around.deeper]); omega) | decide); (case hl' => ktr_rel); (case hops' => assumption); (case hsub' => first | assumption | exact fun _ h => h | k_sub); (case hlen' => omega); (case hc0' => omega); (case hc1' => omega); (case hnt' => assumption); (case hfine' => assumption)); (intro r' tl' h' tk' F' N' o' ho'; (obtain ⟨c', a', l', rs', e', m', p'⟩ := ho'); subst e'; (try k_sweep)); rotate_left; (intro e' g' h' tk' x' F' R' U'))
  k_with "@call ref" => k_of "#h" => (k_here; k_dflt (refine' says_use (f := 423) (s_device_count _ _ _ _) ?B' ?F' ?X' ?N' ?T' ?hk' ?hd' ?hu' ?_ ?_; (case B' => k_asm); (case F' => k_asm); (case X' => k_asm); (case N' => k_asm); (case T' => k_asm); (case hk' => first | exact rfl | assumption); (case hd' => first | ((try dsimp only [Around.deeper]); omega) | decide); (case hu' => first | ((try dsimp only [Around.deeper]); omega) | decide); skip); rotate_left; (intro _ _ _ _ hx'; exact hx'.elim); (intro r' tl' h' tk' F' N' o' ho'; (obtain ⟨e1', k', e2'⟩ := ho'); subst e1'; subst e2'; (try simp only [List.append_nil] at N'); (try k_sweep); clear o'))
  k_with "@call type:tuple" => k_of "#h" => (k_here; (with_reducible show wpAny _ _ (call (Value.type _) [Value.ref _]) _ _ _); k_dflt (refine' kde_tupleOf ?k1' ?k2' ?k3' ?k4' ?k5' ?_; (case k1' => k_asm); (case k2' => k_asm); (case k3' => exact isList_of (by k_asm) (by ktr_rel)); (case k4' => (simp only [List.size_toArray]; omega)); (case k5' => exact List.toList_toArray)); intro D' h' F' N' l1'; (try k_sweep))
  k_with "@subscriptTail Name Slice ref ref" => k_of "#h" => (k_here; (with_reducible show wpAny _ _ (subscriptTail _ (PySem.Expr.Slice _ _ none _) (Value.ref _) (Value.ref _)) _ _ _); k_dflt (refine' kms_slice_lit ?F' ?N' ?l' ?p' ?q' ?e' ?_ ?s' ?t' ?z'; (case F' => k_asm); (case N' => k_asm); (case l' => exact isList_of (by k_asm) (by ktr_rel)); (case p' => kmk_part); (case q' => kmk_part); (case e' => exact pick_init _ _); (case s' => with_unfolding_all rfl); (case t' => kmk_pure); (case z' => (simp only [List.size_toArray, sizeLine_eq]; omega))); intro D' h' F' N' l1'; (try k_sweep))
  k_with "@subscriptTail" => k_of "#h" => (k_here; (with_reducible show wpAny _ _ (subscriptTail _ _ (Value.ref _) (Value.int _ _)) _ _ _); (with_unfolding_all refine' kde_neg ?k1' ?k2' ?k3' ?k4' ?k5' ?_ ?k6'; (case k2' => decide); (case k3' => decide); (case k1' => exact isList_of (by k_asm) (by ktr_rel)); (case k4' => exact seq_last _ _); (case k5' => exact get_last _ _); (case k6' => with_unfolding_all rfl); k_whole))
  k_with "@binaryOp Add ref ref" => k_of "#h" => (k_here; k_dflt (refine' kde_addT0 ?k1' ?k2' ?k3' ?k4' ?k5' ?k7' ?_; (case k1' => k_asm); (case k2' => k_asm); (case k3' => kun_tup); (case k4' => kun_tup); (case k5' => exact rs_nil (by assumption)); (case k7' => (simp only [List.length_cons, List.length_nil, List.toList_toArray]; omega)); k_whole))
  k_with "@binaryOp Add ref ref" => k_of "#h" => (k_here; k_dflt (refine' kde_addT ?k1' ?k2' ?k3' ?k4' ?k5' ?k6' ?k7' ?k8' ?_; (case k1' => k_asm); (case k2' => k_asm); (case k3' => kun_tup); (case k4' => kun_tup); (case k5' => exact rs_ne (by assumption)); (case k6' => exact List.cons_ne_nil _ _); (case k7' => (simp only [List.length_cons, List.length_nil, List.toList_toArray]; omega)); (case k8' => exact rfl); k_whole); intro D' h' F' N' l1'; (try k_sweep))
  trivial

theorem s_own_dev (w : World) (news : List (Addr × Obj)) (sp : Sp) (k : Tok) (l : Addr) (vs : List Value) (n : Nat) (ops : List Op) (hl : (l, listOf vs.toArray n) ∈ news) (n₀ : List (Addr × Obj)) (hsub : ∀ p ∈ n₀, p ∈ news) (hops : AllOp w n₀ vs ops) (hlen : ops.length ≤ 100) (hnt : ∀ o ∈ ops, ∀ x, o ≠ .text x) (hfine : ∀ o ∈ ops, o.fine) (hd : 0 ≤ sp.count) :
    Says w 60 430 [.str sp.str k, .ref l] news (fun tl r => ∃ parts, ownSpec sp ops = some parts ∧ ColAt w n₀ tl r sp parts) (ownSpec sp ops = none) := by
  unfold Says
  intro mean mg mb dp un gd cn cs a ccd cl outer A₀ base h₀ L m s Q E B F X N T hk hdp hun hret hexc
  have hsc := sp.count_le

  refine wpAny_call ?_
  k_dflt ktr_enter
  k_steps
  · exact hexc _ _ _ _ (by unfold ownSpec; rw [if_pos hd, if_neg (by assumption)]) (by k_asm) (raised_sub (by assumption) (by k_sub)) (by assumption)
  · rename_i tl h1 tk1 o1 c1 a1 l1 rs m1 p1 D1 h2 F1 N1 lt kF kN Tc kX
    exact hret _ ((D1, tupOf [.str sp.str k, .ref l1]) :: tl) _ _ kF (led1 kN) (ord_lt (fun q hq => lt q (subl q hq)) o1) ⟨_, by unfold ownSpec; rw [if_pos hd, if_pos ⟨c1, a1⟩], D1, l1, rs, k, rfl, .head _, .tail _ m1, p1.mono fun p hp => (List.mem_append.mp hp).elim (fun h => subl p h) fun h => List.mem_append.mpr (.inr (.tail _ h))⟩

theorem s_own_nil (w : World) (news : List (Addr × Obj)) (sp : Sp) (k : Tok) (l : Addr) (vs : List Value) (n : Nat)  (hl : (l, listOf vs.toArray n) ∈ news) (n₀ : List (Addr × Obj)) (hsub : ∀ p ∈ n₀, p ∈ news) (hops : AllOp w n₀ vs [])  (hd : ¬ 0 ≤ sp.count) :
    Says w 60 430 [.str sp.str k, .ref l] news (fun tl r => ∃ parts, ownSpec sp [] = some parts ∧ ColAt w n₀ tl r sp parts) (ownSpec sp [] = none) := by
  unfold Says
  intro mean mg mb dp un gd cn cs a ccd cl outer A₀ base h₀ L m s Q E B F X N T hk hdp hun hret hexc
  have hsc := sp.count_le

  have hvl : vs.length = 0 := hops.length
  have hsz : vs.toArray.size = 0 := by rw [List.size_toArray]; exact hvl
  have hlen : ([] : List Op).length ≤ 100 := by simp
  have hnt : ∀ o ∈ ([] : List Op), ∀ x, o ≠ .text x := fun _ h => nomatch h
  refine wpAny_call ?_
  k_dflt ktr_enter
  k_steps
  · exact hexc _ _ _ _ (by rename (¬ _) => hx; exact (hx ⟨by rw [hsz]; rfl, rfl⟩).elim) (by k_asm) (raised_sub (by assumption) (by k_sub)) (by assumption)
  · rename_i tl h2 tk2 o1 c1 a1 l1 rs m1 p1 z1 D1 h3 lt1 D2 h4 F1 N1 lt2 kF kN Tc kX
    exact hret _ ((D2, tupOf [.str sp.str k, .ref D1]) :: (D1, tupOf rs) :: tl) _ _ kF (led2 kN) (ord_lt (fun q hq => ktn_ltOf lt2.2 q (subl q hq)) (ord_lt (fun q hq => lt1 q (subl q hq)) o1)) ⟨_, spec_nil hd, D2, D1, rs, k, rfl, .head _, .tail _ (.head _), allOp_in p1⟩

theorem s_own_num (w : World) (news : List (Addr × Obj)) (sp : Sp) (k : Tok) (l : Addr) (vs : List Value) (n : Nat) (os : List Op) (o : Op) (hl : (l, listOf vs.toArray n) ∈ news) (n₀ : List (Addr × Obj)) (hsub : ∀ p ∈ n₀, p ∈ news) (hops : AllOp w n₀ vs (os ++ [o])) (hlen : (os ++ [o]).length ≤ 100) (hnt : ∀ o' ∈ os ++ [o], ∀ x, o' ≠ .text x) (hnn : ∀ x, o ≠ .name x) (hd : ¬ 0 ≤ sp.count) :
    Says w 60 430 [.str sp.str k, .ref l] news (fun tl r => ∃ parts, ownSpec sp (os ++ [o]) = some parts ∧ ColAt w n₀ tl r sp parts) (ownSpec sp (os ++ [o]) = none) := by
  unfold Says
  intro mean mg mb dp un gd cn cs a ccd cl outer A₀ base h₀ L m s Q E B F X N T hk hdp hun hret hexc
  have hsc := sp.count_le

  have hlo : os.length ≤ 99 := by simp at hlen; omega
  obtain ⟨us, v, rfl, hus, hov⟩ := hops.snoc_inv
  have hul : us.length ≤ 99 := by rw [hus.length]; exact hlo
  have hvl : (us ++ [v]).length = us.length + 1 := by simp
  have hsz : (us ++ [v]).toArray.size = us.length + 1 := by simp
  have hov' := hov.mono hsub
  cases hov'
  case name x _ _ _ _ _ _ => exact absurd rfl (hnn _)
  case text x _ => exact (hnt (.text x) (by simp) x rfl).elim
  all_goals (
    refine wpAny_call ?_
    k_dflt ktr_enter
    k_steps
    · exact hexc _ _ _ _ (by rename (¬ _) => hx; rw [spec_num hd hnn, if_neg]; intro ha; exact hx ⟨by rw [hsz]; simp [hus.length], ha⟩) (by k_asm) (raised_sub (by assumption) (by k_sub)) (by assumption)
    · rename_i tl h2 tk2 o1 c1 a1 l1 rs m1 p1 z1 D1 h3 lt1 D2 h4 F1 N1 lt2 kF kN Tc kX
      exact hret _ ((D2, tupOf [.str sp.str k, .ref D1]) :: (D1, tupOf rs) :: tl) _ _ kF (led2 kN) (ord_lt (fun q hq => ktn_ltOf lt2.2 q (subl q hq)) (ord_lt (fun q hq => lt1 q (subl q hq)) o1)) ⟨_, by rw [spec_num hd hnn, if_pos a1], D2, D1, rs, k, rfl, .head _, .tail _ (.head _), allOp_in p1⟩
    )

theorem s_own_name (w : World) (news : List (Addr × Obj)) (sp : Sp) (k : Tok) (l : Addr) (vs : List Value) (n : Nat) (os : List Op) (x : Str) (hl : (l, listOf vs.toArray n) ∈ news) (n₀ : List (Addr × Obj)) (hsub : ∀ p ∈ n₀, p ∈ news) (hops : AllOp w n₀ vs (os ++ [.name x])) (hlen : (os ++ [Op.name x]).length ≤ 100) (hnt : ∀ o' ∈ os ++ [Op.name x], ∀ x, o' ≠ .text x) (hd : ¬ 0 ≤ sp.count) :
    Says w 60 430 [.str sp.str k, .ref l] news (fun tl r => ∃ parts, ownSpec sp (os ++ [.name x]) = some parts ∧ ColAt w n₀ tl r sp parts) (ownSpec sp (os ++ [.name x]) = none) := by
  unfold Says
  intro mean mg mb dp un gd cn cs a ccd cl outer A₀ base h₀ L m s Q E B F X N T hk hdp hun hret hexc
  have hsc := sp.count_le

  have hlo : os.length ≤ 99 := by simp at hlen; omega
  obtain ⟨us, v, rfl, hus, hov⟩ := hops.snoc_inv
  have hul : us.length ≤ 99 := by rw [hus.length]; exact hlo
  have hvl : (us ++ [v]).length = us.length + 1 := by simp
  have hsz : (us ++ [v]).toArray.size = us.length + 1 := by simp
  have hnt2 : ∀ o ∈ os, ∀ x, o ≠ .text x := fun o ho => hnt o (by simp [ho])
  have hov' := hov.mono hsub
  cases hov'
  rename_i ai di k1 k2 hm1 hm2
  replace N := addN (.tail _ hm1) (addN hm2 N)
  have hl2 : (l, listOf (us ++ [Value.ref ai]).toArray n) ∈ (ai, instObj 204 di) :: (di, dictOf [ent w "text" k1 (.str x k2)] 1) :: news := .tail _ (.tail _ hl)
  have hsub2 : ∀ p ∈ n₀, p ∈ (ai, instObj 204 di) :: (di, dictOf [ent w "text" k1 (.str x k2)] 1) :: news := fun p hp => .tail _ (.tail _ (hsub p hp))
  rcases os with _ | ⟨o0, os⟩
  all_goals (
    refine wpAny_call ?_
    k_dflt ktr_enter
    k_steps)
  · exact hexc _ _ _ _ (by rename (¬ _) => hx; rw [spec_name hd, if_neg]; intro ha; exact hx ⟨by rw [hsz]; have := hus.length; simp at this ⊢; omega, ha⟩) (by k_asm) (raised_sub (by assumption) (by k_sub)) (by assumption)
  · rename_i D0 h0' lt0 tl h2 tk2 o1 c1 a1 l1 rs m1 p1 z1 D1 h3 lt1 D2 h4 lt2 D3 h5 F1 N1 lt3 kF kN Tc kX
    exact hret _ ((D3, tupOf [.str sp.str k, .ref D2]) :: (D2, tupOf [.str x k2]) :: tl) _ _ kF (cb_drop kN (by k_sub)) (ord_lt (ltq lt3.2.2 (by k_sub)) (ord_lt (ltq lt2.2 (by k_sub)) (ord_sub o1 (by k_sub)))) ⟨_, by rw [spec_name hd, if_pos a1]; rfl, D3, D2, [.str x k2], k, rfl, .head _, .tail _ (.head _), .cons .text .nil⟩
  · exact hexc _ _ _ _ (by rename (¬ _) => hx; rw [spec_name hd, if_neg]; intro ha; exact hx ⟨by rw [hsz]; have := hus.length; simp at this ⊢; omega, ha⟩) (by k_asm) (raised_sub (by assumption) (by k_sub)) (by assumption)
  · rename_i D0 h0' lt0 tl h2 tk2 o1 c1 a1 l1 rs m1 p1 z1 D1 h3 lt1 D2 h4 lt2 D3 h5 lt3 D4 h6 F1 N1 lt4 kF kN Tc kX
    exact hret _ ((D4, tupOf [.str sp.str k, .ref D3]) :: (D3, tupOf (rs ++ [.str x k2])) :: tl) _ _ kF (cb_drop kN (by k_sub)) (ord_lt (ltq lt4.2.2.2 (by k_sub)) (ord_lt (ltq2 lt3 (by k_sub)) (ord_sub o1 (by k_sub)))) ⟨_, by rw [spec_name hd, if_pos a1], D4, D3, rs ++ [.str x k2], k, rfl, .head _, .tail _ (.head _), AllOp.snoc (allOp_in p1) .text⟩
end Mine
end
section
open PySem PySem.W PyProof.Rows
namespace Mine
theorem rowsT2a : True := by
  k_with_none
  k_with "k_room" => k_of "#h" => ((try simp only [depth_mark, depth_under_make, depth_under_kw, depth_in1, depth_deeper, depth_caller, recursionLimit]); (try dsimp only [ktrTop]); omega)
  k_with "k_units" => k_of "#h" => ((have hcL9' := cLine_is); (try simp only [units_in1, units_deeper, Around.mark_units, units_caller]); (try dsimp only [ktrTop]); omega)
  k_with "@exec While BoolOp" => k_of "#h" => (k_here; k_dflt (refine whl_start 100 ?_))
  trivial

/-- decimal_of an int, the made object told as the walk itself tells it -/
theorem dec_int {w : World} {mean : ExcName → Option Value} {mg mb : Str → Option Value} {dp un : Nat} {gd : Option (List Code)} {cn : Str} {cs : Scope} {a : Addr} {ccd : Value} {cl : List (Str × Addr)} {outer : List Env} {A₀ : Around} {base h₀ : Heap} {L : Addr} {m : Str → Option Value} {s : Shared} {Q E : Value → Shared → Prop} {news : List (Addr × Obj)} {t : Int} {k : Tok}
    (B : Below A₀ base outer h₀) (F : Fr h₀ L s.heap m) (X : (hd.heap_39 w.params).In h₀) (N : News h₀ L s.heap news) (T : Top hd.view_39 (looseW hd.view_39 [Str.ofString "PaperError", Str.ofString "first_state"]) mean mg mb h₀) (hk : cs.kind = .function)
    (hdp : dp + 10 ≤ 500) (hun : un + 10 * 10 ≤ 2000)
    (ret : ∀ x d k1 k2 k3 k4 h' tk', Fr h₀ L h' m → News h₀ L h' ((x, instObj 155 d) :: (d, dictOf [ent w "top" k1 (.int t k2), ent w "places" k3 (.int 0 k4)] 2) :: news) → (∀ p ∈ news, p.1 < d) → d < x → Q (.ref x) { s with heap := h', toks := tk' }) :
    wpAny (model PySem.Challenge.rw_og0172_01.row.prog w) (ktrTop dp un gd cn cs L a ccd cl outer) (call (.ref 180) [.int t k]) Q E s := by
  refine wpAny_call ?_
  k_dflt ktr_enter
  k_steps
  exact ret _ _ _ _ _ _ _ _ (by k_asm) (by k_asm) (by assumption) (by assumption)
end Mine
end
section
open PySem PySem.W PyProof.Rows PySem.Calls
namespace Mine

theorem rowsC7aa : True := by
  k_with_none
  k_with "k_sub" => k_of "#h" => (intro p' hp'; first | exact hp' | exact List.Mem.tail _ hp' | ((simp only [List.cons_append, List.nil_append, List.append_nil, List.mem_cons, List.mem_append] at hp' ⊢); revert hp'; ((repeat' (refine or_imp.mpr (And.intro ?_ ?_))) <;> (intro hp'; simp only [hp', true_or, or_true]))))
  k_with "k_room" => k_of "#h" => ((try simp only [depth_mark, depth_under_make, depth_under_kw, depth_in1, depth_deeper, depth_caller, recursionLimit]); (try dsimp only [ktrTop]); omega)
  k_with "k_units" => k_of "#h" => ((have hcL9' := cLine_is); (try simp only [units_in1, units_deeper, Around.mark_units, units_caller]); (try dsimp only [ktrTop]); omega)
  k_with "@exec While BoolOp" => k_of "#h" => (k_here; k_dflt (refine whl_start 100 ?_))
  k_with "@call ref" => k_of "#h" => (k_here; k_dflt (refine' dec_int ?B' ?F' ?X' ?N' ?T' ?hk' ?hd' ?hu' ?_; (case B' => k_asm); (case F' => k_asm); (case X' => k_asm); (case N' => k_asm); (case T' => k_asm); (case hk' => first | exact rfl | assumption); (case hd' => first | ((try dsimp only [Around.deeper]); omega) | (simp only [depth_under_make, Around.deeper]; omega)); (case hu' => first | ((try dsimp only [Around.deeper]); omega) | (simp [Around.deeper, Around.under, Code.cUnits, Code.frames, Code.isFrame]; omega))); intro x' d' k1' k2' k3' k4' h' tk' F' N' l1' l2'; (try k_lt l1'); (try k_lt2 l2'); (try k_sweep))
  trivial

theorem s_identity (w : World) (news : List (Addr × Obj)) :
    Says w 30 354 [] news (fun tl r => tl = []) False := by
  unfold Says
  intro mean mg mb dp un gd cn cs a ccd cl outer A₀ base h₀ L m s Q E B F X N T hk hdp hun hret hexc
  refine wpAny_call ?_
  k_dflt ktr_enter
  k_steps

  exact hret _ [] _ _ (by k_asm) (led0 (cb_drop (by k_asm) (by k_sub))) ord0 rfl

theorem my_turnEnd {h₀ : Heap} {L I : Addr} {oI : Obj} {rest : (Str → Option Value) → List (Addr × Obj) → Prop} {s₁ : Shared} {h' : Heap} {tk : Nat} {m' : Str → Option Value} {news' : List (Addr × Obj)} (F : Fr h₀ L h' m') (N : News h₀ L h' ((I, oI) :: news'))
    (off : ∀ p ∈ news', p.1 ≠ I) (r : rest m' news') : UnrEndW h₀ L s₁ [(I, oI)] rest { s₁ with heap := h', toks := tk } :=
  ⟨h', tk, m', news', rfl, F, N, fun p hp q hq => by rw [List.mem_singleton.mp hq]; exact off p hp, r⟩
theorem off_cons {I a : Addr} {o : Obj} {r : List (Addr × Obj)} (h : a < I) (k : ∀ p ∈ r, p.1 ≠ I) : ∀ p ∈ (a, o) :: r, p.1 ≠ I := fun p hp => (List.mem_cons.mp hp).elim (fun e => e ▸ Nat.ne_of_lt h) (k p)
theorem off_all {I : Addr} {r : List (Addr × Obj)} (h : AllLt I r) : ∀ p ∈ r, p.1 ≠ I := fun p hp => Nat.ne_of_lt (ktn_ltOf h p hp)
theorem rowsC7ab : True := by
  k_with "@pyIter ref" => k_of "#h" => (k_here; (with_reducible show wpAny _ _ (pyIter (Value.ref _)) (fun it s₂ => TurnsAt _ _ _ _ _ _ _ _ _ it s₂) _ _); (rename Fr _ _ _ _ => lF'); (rename News _ _ _ _ => lN'); (with_unfolding_all refine iter_tupTurns (by rfl) lF' lN' (List.Mem.head _) (by rfl) (by rfl) ?_); clear lF'; intro i' l1'; (try k_lt l1'))
  k_with "@UnrEndW" => k_of "#h" => ((with_unfolding_all refine' my_turnEnd ?F' ?N' ?o' ?r'; (case F' => k_asm); (case N' => k_asm); (case o' => ((rename (_ < _ ∧ _) => lt9); (repeat' (first | (refine off_cons ?_ ?_) | exact off_all (by simp only [lt9]) | simp only [lt9]))))); (refine ⟨by k_subL, ?_⟩))
  trivial

theorem s_first_values (w : World) (news : List (Addr × Obj)) :
    Says w 30 389 [] news (fun tl r => tl = []) False := by
  unfold Says
  intro mean mg mb dp un gd cn cs a ccd cl outer A₀ base h₀ L m s Q E B F X N T hk hdp hun hret hexc
  refine wpAny_call ?_
  k_dflt ktr_enter
  k_steps

  repeat (walk_at "UnrEndW"; k_steps)
  exact hret _ [] _ _ (by k_asm) (led0 (cb_drop (by k_asm) (by k_sub))) ord0 rfl
end Mine
end
section
open PySem PySem.W PyProof.Rows PySem.Calls
namespace Mine
theorem rowsLoop2 : True := by
  k_with_none
  trivial

section
variable {prog : Program} {w : World} {A : Around} {E : Value → Shared → Prop} {s : Shared} {h₀ : Heap} {L : Addr} {m : Str → Option Value} {env : Env}
def TupIn (ax : Addr) (its : Array Value) (news : List (Addr × Obj)) : Prop := ∃ n, (ax, ({ cls := .type "tuple", data := .seq its n } : Obj)) ∈ news
theorem TupIn.is {h : Heap} {ax : Addr} {its : Array Value} {news : List (Addr × Obj)} (x : TupIn ax its news) (N : News h₀ L h news) : h.IsTuple ax its := let ⟨n, hm⟩ := x; ⟨_, (N _ hm).1, rfl, n, rfl⟩
/-- the source of a comprehension over a tuple of the ledger -/
def TupSrc (prog : Program) (w : World) (A : Around) (h₀ : Heap) (L : Addr) (m : Str → Option Value) (env : Env) (elt : Expr) (x : Str) (scope : Scope) (cl : List (Str × Addr)) (Fin : Shared → List Value → List (Addr × Obj) → Prop) (xv : Value) (s₁ : Shared) : Prop :=
  ∃ ax its news, xv = .ref ax ∧ A.handled = none ∧ Fr h₀ L s₁.heap m ∧ News h₀ L s₁.heap news ∧ TupIn ax its news ∧ its.size ≤ sizeLine ∧
    ∀ s₂ : Shared, (∃ h, s₂ = { s₁ with heap := h }) → LCg.CompRest prog w A h₀ L m env elt x scope cl s₂ (TupIn ax its) (fun i v => its[i]? = some v) (Fin s₂) its.size 0 [] news
theorem TupSrc.ledger {elt : Expr} {x : Str} {scope : Scope} {cl : List (Str × Addr)} {Fin : Shared → List Value → List (Addr × Obj) → Prop} {ax : Addr} {its : Array Value} {k : Nat} {news : List (Addr × Obj)} {s₁ : Shared}
    (hh : A.handled = none) (F : Fr h₀ L s₁.heap m) (N : News h₀ L s₁.heap news) (hm : (ax, ({ cls := .type "tuple", data := .seq its k } : Obj)) ∈ news) (hsz : its.size ≤ sizeLine)
    (h : ∀ g, LCg.CompRest prog w A h₀ L m env elt x scope cl { s₁ with heap := g } (TupIn ax its) (fun i v => its[i]? = some v) (Fin { s₁ with heap := g }) its.size 0 [] news) :
    TupSrc prog w A h₀ L m env elt x scope cl Fin (.ref ax) s₁ := ⟨ax, its, news, rfl, hh, F, N, ⟨_, hm⟩, hsz, fun _ ⟨g, e⟩ => e ▸ h g⟩
theorem tup_st {ax I : Addr} {its : Array Value} : ∀ i (h h' : Heap) (o : Obj) (nw : List (Addr × Obj)), (h.IsTupleIter I ax i ∧ h.IsTuple ax its) → h.get? I = some o → h'.get? I = some o → (∀ b o, h₀.get? b = some o → h'.get? b = some o) → News h₀ L h' nw → TupIn ax its nw → (h'.IsTupleIter I ax i ∧ h'.IsTuple ax its) :=
  fun i h h' o nw st e e' k N S => ⟨by obtain ⟨o', q, r⟩ := st.1; rw [e] at q; cases q; exact ⟨o, e', r⟩, S.is N⟩
open LCg in
theorem ListComp_tup {elt iter : Expr} {x : Str} {px : Pos} {scope : Scope} {cl : List (Str × Addr)} {pos : Pos} {Q : Value → Shared → Prop} (F₀ : Fr h₀ L s.heap m)
    (hclos : closureFor scope env = pure cl) (hcell : ∀ y ∈ scope.names, y.2 ≠ .cell) (hkind : scope.kind = .function)
    (hnames : ∀ y ∈ scope.names, y.2 = .local → scope.names.lookup y.1 = some .local) (hx : scope.names.lookup x = some .local)
    (h : wpAny (model prog w) A (eval iter env) (TupSrc prog w A h₀ L m env elt x scope cl (fun s₂ => FinE h₀ L m s₂ Q)) E s)
    (hs : ∀ x, foldedSetIterable iter env x = pure x := by intro _; rfl) :
    wpAny (model prog w) A (eval (.ListComp elt [⟨.Name x px, iter, [], 0⟩] scope pos) env) Q E s := by
  rw [eval_ListComp]
  refine wpAny_comprehension_free (use := none) rfl hs hclos hkind hnames (wpAny_mono h (fun xv s₁ h₁ => ?_) fun _ _ e => e)
  obtain ⟨ax, its, news, rfl, hh, F, N, S, hsz, R⟩ := h₁
  have hl := S.is N
  have hlt : ax < s₁.heap.objs.size := by obtain ⟨_, e, _⟩ := hl; exact Heap.lt_size e
  refine wpAny_pyIter_tuple hl ?_
  have up : ∀ b o, s₁.heap.get? b = some o → (s₁.heap.push { cls := .type "tuple_iterator", data := .fields #[.ref ax, .int 0 0] }).get? b = some o := fun b o e => Heap.get?_push_of_some _ e
  refine block_U (Walks.tuple hh s₁.heap.objs.size ax (Nat.ne_of_lt hlt) its) hsz (fun i h st => by obtain ⟨o, e, _⟩ := st.1; exact ⟨o, e⟩) tup_st hcell hkind hx ⟨⟨_, Heap.get?_push_size _ rfl, rfl, rfl⟩, hl.at fun o e => up _ _ e⟩ (fun b hb => ?_)
    (F.keeps up) (N.grown up) (Nat.ne_of_lt F.ns.lt) (next_is_new F) (fun p hp => Nat.ne_of_lt (Heap.lt_size (N p hp).1)) S (R _ ⟨_, rfl⟩) ?_
  · show b < (s₁.heap.push _).objs.size
    rw [Heap.size_push]
    rcases List.mem_cons.mp hb with rfl | hb
    · exact Nat.lt_succ_self _
    · rw [List.mem_singleton.mp hb]; exact Nat.lt_succ_of_lt hlt
  · intro D C h tk m' ys news' F' N' o1 hn hC₀ hD₀ hCL hDL hCD offC fin
    refine ⟨m', hn, fun h'' hs'' => fin D h'' tk (F'.change hs'' hCL hC₀) (fun p hp => ?_) o1⟩
    refine ⟨hs''.extBut _ _ ?_ (N' p hp).1, (N' p hp).2⟩
    rcases List.mem_cons.mp hp with rfl | hp
    · exact Ne.symm hCD
    · exact offC p hp
end
section
variable {prog : Program} {w : World} {A : Around} {E : Value → Shared → Prop} {s : Shared} {h₀ : Heap} {L a b : Addr} {news n₁ n₂ : List (Addr × Obj)} {d e : Dat} {Q : Value → Shared → Prop}
open Classical in
theorem dat_eq (N : News h₀ L s.heap news) (Da : DatIn n₁ (.ref a) d) (sa : ∀ p ∈ n₁, p ∈ news) (Db : DatIn n₂ (.ref b) e) (sb : ∀ p ∈ n₂, p ∈ news)
    (ha : kqdOk 8 d = true) (hb : kqdOk 8 e = true) (hu : A.units + 64 < cLine) (h : Q (.bool (decide (d = e))) s) : wpAny (model prog w) A (compareOp .Eq (.ref a) (.ref b)) Q E s := by
  obtain ⟨as, ra⟩ := kqd_in N 8 (Da.mono sa) ha
  obtain ⟨bs, rb⟩ := kqd_in N 8 (Db.mono sb) hb
  have la := kqd_lay 8 d ha
  have lb := kqd_lay 8 e hb
  have e' : PyData.eqv (kqdP d) (kqdP e) = decide (d = e) := by
    have q := kqd_eqv 8 d e 8 ha hb
    by_cases hq : d = e
    · rw [decide_eq_true hq]; exact q.mpr hq
    · rw [decide_eq_false hq]; exact Bool.eq_false_iff.mpr fun x => hq (q.mp x)
  refine eq_dataH ra rb ?_ ?_ hu (by rw [e']; exact h)
  · unfold SeqAt.shaped; rw [la.1, Bool.true_and]; exact decide_eq_true (Nat.le_trans la.2 (by decide))
  · unfold SeqAt.shaped; rw [lb.1, Bool.true_and]; exact decide_eq_true (Nat.le_trans lb.2 (by decide))
open Classical in
theorem dat_ne (N : News h₀ L s.heap news) (Da : DatIn n₁ (.ref a) d) (sa : ∀ p ∈ n₁, p ∈ news) (Db : DatIn n₂ (.ref b) e) (sb : ∀ p ∈ n₂, p ∈ news)
    (ha : kqdOk 8 d = true) (hb : kqdOk 8 e = true) (hu : A.units + 64 < cLine) (h : Q (.bool (!decide (d = e))) s) : wpAny (model prog w) A (compareOp .NotEq (.ref a) (.ref b)) Q E s := by
  obtain ⟨as, ra⟩ := kqd_in N 8 (Da.mono sa) ha
  obtain ⟨bs, rb⟩ := kqd_in N 8 (Db.mono sb) hb
  have la := kqd_lay 8 d ha
  have lb := kqd_lay 8 e hb
  have e' : PyData.eqv (kqdP d) (kqdP e) = decide (d = e) := by
    have q := kqd_eqv 8 d e 8 ha hb
    by_cases hq : d = e
    · rw [decide_eq_true hq]; exact q.mpr hq
    · rw [decide_eq_false hq]; exact Bool.eq_false_iff.mpr fun x => hq (q.mp x)
  refine ne_dataH ra rb ?_ ?_ hu (by rw [e']; exact h)
  · unfold SeqAt.shaped; rw [la.1, Bool.true_and]; exact decide_eq_true (Nat.le_trans la.2 (by decide))
  · unfold SeqAt.shaped; rw [lb.1, Bool.true_and]; exact decide_eq_true (Nat.le_trans lb.2 (by decide))
end
end Mine
end
section
open PySem PySem.W PyProof.Rows PySem.Calls
namespace Mine


theorem s_own_colour (w : World) (news : List (Addr × Obj)) (sp : Sp) (k : Tok) (l : Addr) (vs : List Value) (n : Nat) (ops : List Op) (hl : (l, listOf vs.toArray n) ∈ news) (n₀ : List (Addr × Obj)) (hsub : ∀ p ∈ n₀, p ∈ news) (hops : AllOp w n₀ vs ops) (hlen : ops.length ≤ 100) (hnt : ∀ o ∈ ops, ∀ x, o ≠ .text x) (hfine : ∀ o ∈ ops, o.fine) :
    Says w 60 430 [.str sp.str k, .ref l] news (fun tl r => ∃ parts, ownSpec sp ops = some parts ∧ ColAt w n₀ tl r sp parts) (ownSpec sp ops = none) := by
  by_cases hd : 0 ≤ sp.count
  · exact s_own_dev w news sp k l vs n ops hl n₀ hsub hops hlen hnt hfine hd
  · rcases List.eq_nil_or_concat ops with rfl | ⟨os, o, rfl⟩
    · exact s_own_nil w news sp k l vs n hl n₀ hsub hops hd
    · rw [List.concat_eq_append] at *
      by_cases hn : ∃ x, o = .name x
      · obtain ⟨x, rfl⟩ := hn
        exact s_own_name w news sp k l vs n os x hl n₀ hsub hops hlen hnt hd
      · exact s_own_num w news sp k l vs n os o hl n₀ hsub hops hlen hnt (fun x e => hn ⟨x, e⟩) hd
/-- what a part of a colour tells -/
def Op.told : Op → Dat
  | .dec t p => .tuple [.int t, .int p]
  | .text x => .str x
  | _ => .none
def Op.isPart : Op → Prop
  | .dec _ _ => True
  | .text x => PyData.strOk x = true
  | _ => False
def toldD (sp : Sp) (parts : List Op) : Dat := .tuple [.str sp.str, .tuple (parts.map Op.told)]
theorem dup3 {h₀ h : Heap} {L : Addr} {x y z a b : Addr × Obj} {A : List (Addr × Obj)} (N : News h₀ L h (x :: y :: z :: A)) (ha : a ∈ A) (hb : b ∈ A) : News h₀ L h (x :: y :: z :: a :: b :: A) := fun p hp => N p (by
  simp only [List.mem_cons] at hp ⊢
  rcases hp with hp | hp | hp | hp | hp | hp <;> simp [hp, ha, hb])
theorem DatAll.one' {news : List (Addr × Obj)} {vs : List Value} {v : Value} {ds : List Dat} {d : Dat} (h : DatAll news vs ds) (k : DatIn news v d) : DatAll news (vs ++ [v]) (ds ++ [d]) := DatAll.append h (DatAll.one k)
theorem rowsC5a : True := by
  k_with_none
  k_with "k_sub" => k_of "#h" => (intro p' hp'; first | exact hp' | exact List.Mem.tail _ hp' | ((simp only [List.cons_append, List.nil_append, List.append_nil, List.mem_cons, List.mem_append] at hp' ⊢); revert hp'; ((repeat' (refine or_imp.mpr (And.intro ?_ ?_))) <;> (intro hp'; simp only [hp', true_or, or_true]))))
  k_with "k_room" => k_of "#h" => ((try simp only [depth_mark, depth_under_make, depth_under_kw, depth_in1, depth_deeper, depth_caller, recursionLimit]); (try dsimp only [ktrTop]); omega)
  k_with "k_units" => k_of "#h" => ((have hcL9' := cLine_is); (try simp only [units_in1, units_deeper, Around.mark_units, units_caller]); (try dsimp only [ktrTop]); omega)
  k_with "@exec While BoolOp" => k_of "#h" => (k_here; k_dflt (refine whl_start 100 ?_))
  trivial

theorem s_told (w : World) (news : List (Addr × Obj)) (v : Value) (t p : Int) (hv : OpAt w news v (.dec t p)) :
    Says w 10 138 [v] news (fun tl r => DatIn tl r (.tuple [.int t, .int p])) False := by
  unfold Says
  intro mean mg mb dp un gd cn cs a ccd cl outer A₀ base h₀ L m s Q E B F X N T hk hdp hun hret hexc
  cases hv
  rename_i h1 h2
  refine wpAny_call ?_
  k_dflt ktr_enter
  k_steps
  rename_i D1 h1' F1 N1 lt kF kN Tc kX
  exact hret _ [(D1, tupOf [.int t _, .int p _])] _ _ kF (led1 (tl := []) (by rw [List.append_nil]; exact kN)) (ord_lt lt ord0) (.tuple (vs := [_, _]) (.head _) (.cons (.int _ _) (.cons (.int _ _) .nil)))
theorem rowsC5b : True := by
  k_with "ktr_rel" => k_of "#h" => first | assumption | exact OpAt.int | exact OpAt.mono (by assumption) (by k_sub) | exact AllOp.mono (by assumption) (by k_sub) | exact List.Mem.tail _ (by assumption) | exact List.Mem.tail _ (List.Mem.tail _ (by assumption)) | exact subl _ (by assumption) | exact List.Mem.tail _ (subl _ (by assumption)) | exact mem_of_sub (by assumption) (by k_sub) | k_mem
  k_with "@call type:tuple" => k_of "#h" => (k_here; (with_reducible show wpAny _ _ (call (Value.type _) [Value.ref _]) _ _ _); k_dflt (refine' kde_tupleOf ?k1' ?k2' ?k3' ?k4' ?k5' ?_; (case k1' => k_asm); (case k2' => k_asm); (case k3' => exact isList_of (by k_asm) (by ktr_rel)); (case k4' => (simp only [List.size_toArray]; omega)); (case k5' => exact List.toList_toArray)); intro D' h' F' N' l1'; (try k_sweep))
  k_with "@eval ListComp" => k_of "#h" => (k_here; k_dflt (refine ListComp_tup (F₀ := by k_asm) (by with_unfolding_all rfl) (by decide) (by rfl) (by decide) (by rfl) ?_))
  k_with "@TupSrc" => k_of "#h" => (k_dflt (refine' TupSrc.ledger ?hh' ?F' ?N' ?m' ?z' ?_; (case hh' => rfl); (case F' => k_asm); (case N' => k_asm); (case m' => ktr_rel); (case z' => (simp only [List.size_toArray, sizeLine_eq]; omega)); k_whole); intro g')
  k_with "@call ref" => k_of "#h" => (k_here; k_dflt (refine' says_use (f := 138) (s_told _ _ _ _ _ ?hv') ?B' ?F' ?X' ?N' ?T' ?hk' ?hd' ?hu' ?_ ?_; (case B' => k_asm); (case F' => k_asm); (case X' => k_asm); (case N' => k_asm); (case T' => k_asm); (case hk' => first | exact rfl | assumption); (case hd' => first | ((try dsimp only [Around.deeper]); omega) | decide); (case hu' => first | ((try dsimp only [Around.deeper]); omega) | decide); (case hv' => ktr_rel)); rotate_left; (intro _ _ _ _ hx'; exact hx'.elim); (intro r' tl' h' tk' F' N' o' ho'; (try k_sweep)))
  k_with "@subscriptTail" => k_of "#h" => (k_here; (with_reducible show wpAny _ _ (subscriptTail _ _ (Value.ref _) (Value.int _ _)) _ _ _); k_dflt (refine' item_tupleT ?t' ?a' ?b' ?c' ?d' ?_; (case t' => exact News.isTup (by k_asm) (by ktr_rel)); (case a' => decide); (case b' => decide); (case c' => rfl); (case d' => rfl); k_whole))
  trivial

theorem s_law_told (w : World) (news : List (Addr × Obj)) (a b : Addr) (rs : List Value) (k : Tok) (sp : Sp) (parts : List Op) (ha : (a, tupOf [.str sp.str k, .ref b]) ∈ news) (hb : (b, tupOf rs) ∈ news) (n₀ : List (Addr × Obj)) (hsub : ∀ p ∈ n₀, p ∈ news) (hp : AllOp w n₀ rs parts) (hlen : parts.length ≤ 100) (hpt : ∀ o ∈ parts, o.isPart) :
    Says w 30 461 [.ref a] news (fun tl r => DatIn tl r (toldD sp parts)) False := by
  unfold Says
  intro mean mg mb dp un gd cn cs a' ccd cl outer A₀ base h₀ L m s Q E B F X N T hk hdp hun hret hexc
  have hrl : rs.length ≤ 100 := by rw [hp.length]; exact hlen
  refine wpAny_call ?_
  k_dflt ktr_enter
  k_steps
  refine comp_rest (fun i ys nx => ∃ tl, nx = news ++ tl ∧ (∀ q ∈ news, ∀ p ∈ tl, q.1 ≠ p.1) ∧ DatAll tl ys ((parts.take i).map Op.told)) ⟨[], by simp, ord0, .nil⟩ ?_ ?_
  · rintro i ys nx v I oI C oC D m₂ h tk E' hi ⟨tl, hnx, hord, hys⟩ hv hNs hx F' N' off ne
    subst nx
    have hv' : rs[i]? = some v := by simpa using hv
    obtain ⟨o, ho, hov⟩ := hp.get hv'
    have hpo := hpt o (List.mem_of_getElem? ho)
    have e : (parts.take (i + 1)).map Op.told = (parts.take i).map Op.told ++ [o.told] := by rw [List.take_add_one, ho]; simp
    cases hov
    case text x k2 =>
      k_steps
      refine LCg.CompEnd.intro (by k_asm) (by k_asm) (news ++ tl) (by k_sub) off ⟨_, subl _ hb⟩ ⟨tl, rfl, hord, ?_⟩
      rw [e]
      exact DatAll.one' hys (.str _ _)
    case dec ai di t p k1 k2 k3 k4 hm1 hm2 =>
      have N3 : News _ _ h ((I, oI) :: (C, oC) :: (D, LCg.lst ys) :: (ai, instObj 155 di) :: (di, dictOf [ent w "top" k1 (.int t k2), ent w "places" k3 (.int p k4)] 2) :: (news ++ tl)) := dup3 N' (subl _ (hsub _ hm1)) (subl _ (hsub _ hm2))
      have hovL : OpAt w ((I, oI) :: (C, oC) :: (D, LCg.lst ys) :: (ai, instObj 155 di) :: (di, dictOf [ent w "top" k1 (.int t k2), ent w "places" k3 (.int p k4)] 2) :: (news ++ tl)) (.ref ai) (.dec t p) := .dec (.tail _ (.tail _ (.tail _ (.head _)))) (.tail _ (.tail _ (.tail _ (.tail _ (.head _)))))
      clear N'
      k_steps
      rename_i r' tl' h' tk' F'' N'' o' ho'
      refine LCg.CompEnd.intro (by k_asm) N'' (news ++ (tl ++ tl')) (by k_sub) (by rw [← List.append_assoc]; exact off3_app (oI := oI) (oC := oC) (oD := LCg.lst ys) off (ord_sub o' (by k_sub))) ⟨_, subl _ hb⟩ ⟨tl ++ tl', rfl, ord_app hord (ord_sub o' (by k_sub)), ?_⟩
      rw [e]
      exact DatAll.one' (hys.mono subl) (ho'.mono fun p hp => List.mem_append.mpr (.inr hp))
    all_goals exact hpo.elim
  · rintro ys nx ⟨tl, hnx, hord, hys⟩
    subst nx
    intro D h' tk' F'' N'' o1
    rw [List.size_toArray, hp.length, List.take_length] at hys
    have hyl := hys.length
    rw [List.length_map] at hyl
    k_steps
    rename_i D1 h1 lt1 D2 h2 F1 N1 lt2 kF kN Tc kX
    exact hret _ ((D2, tupOf [.str sp.str k, .ref D1]) :: (D1, tupOf ys) :: tl) _ _ kF (cb_drop kN (by k_sub)) (ord_lt (ltq lt2.2.2 (by k_sub)) (ord_lt (ltq2 lt1 (by k_sub)) hord)) (.tuple (vs := [.str sp.str k, .ref D1]) (.head _) (.cons (.str _ _) (.cons (.tuple (.tail _ (.head _)) (hys.mono fun p hp => .tail _ (.tail _ hp))) .nil)))
end Mine
end
section
open PySem PySem.W PyProof.Rows PySem.Calls
namespace Mine


/-- an expression's value is the int i, the frame and the ledger stand -/
def IntAt (h₀ : Heap) (L : Addr) (m : Str → Option Value) (news : List (Addr × Obj)) (i : Int) (s₁ : Shared) (v : Value) (s₂ : Shared) : Prop :=
  ∃ k h' tk, v = .int i k ∧ s₂ = { s₁ with heap := h', toks := tk } ∧ Fr h₀ L h' m ∧ News h₀ L h' news
theorem IntAt.intro {h₀ : Heap} {L : Addr} {m : Str → Option Value} {news : List (Addr × Obj)} {i : Int} {s₁ : Shared} {k : Tok} {h' : Heap} {tk : Nat} (F : Fr h₀ L h' m) (N : News h₀ L h' news) : IntAt h₀ L m news i s₁ (.int i k) { s₁ with heap := h', toks := tk } := ⟨k, h', tk, rfl, rfl, F, N⟩
theorem cutInt {M : Model} {A : Around} {t : Sem Value} {Q : Value → Shared → Prop} {E : Value → Shared → Prop} {s : Shared} {h₀ : Heap} {L : Addr} {m : Str → Option Value} {news : List (Addr × Obj)} (i : Int) (_F : Fr h₀ L s.heap m) (_N : News h₀ L s.heap news) (h : wpAny M A t (IntAt h₀ L m news i s) E s)
    (k : ∀ kk h' tk, Fr h₀ L h' m → News h₀ L h' news → Q (.int i kk) { s with heap := h', toks := tk }) : wpAny M A t Q E s :=
  wpAny_mono h (fun v s' ⟨kk, h', tk, e1, e2, F', N'⟩ => by rw [e1, e2]; exact k kk h' tk F' N') fun _ _ e => e
/-- a law's operands and what ends them -/
def splitS (sp : Sp) (ops : List Op) : List Op × List Op :=
  if 0 ≤ sp.count then (ops, []) else match ops.getLast? with
    | some (.name x) => (ops.dropLast, [.text x])
    | _ => (ops, [])
theorem split_dev {sp : Sp} {ops : List Op} (hd : 0 ≤ sp.count) : splitS sp ops = (ops, []) := by unfold splitS; rw [if_pos hd]
theorem split_nil {sp : Sp} (hd : ¬ 0 ≤ sp.count) : splitS sp [] = ([], []) := by unfold splitS; rw [if_neg hd]; rfl
theorem split_num {sp : Sp} {os : List Op} {o : Op} (hd : ¬ 0 ≤ sp.count) (hnn : ∀ x, o ≠ .name x) : splitS sp (os ++ [o]) = (os ++ [o], []) := by
  unfold splitS
  rw [if_neg hd, List.getLast?_concat]
  cases o with
  | name x => exact absurd rfl (hnn x)
  | _ => rfl
theorem split_name {sp : Sp} {os : List Op} {x : Str} (hd : ¬ 0 ≤ sp.count) : splitS sp (os ++ [.name x]) = (os, [.text x]) := by
  unfold splitS
  rw [if_neg hd, List.getLast?_concat, List.dropLast_concat]
theorem spec_split (sp : Sp) (ops : List Op) : ownSpec sp ops = if (0 ≤ sp.count → sp.count = ((splitS sp ops).1.length : Int)) ∧ (splitS sp ops).1.all Op.isNum = true then some ((splitS sp ops).1.map (fun o => if 0 ≤ sp.count then o.asDec.cut else o.asDec) ++ (splitS sp ops).2) else none := by
  by_cases hd : 0 ≤ sp.count
  · rw [split_dev hd]
    unfold ownSpec
    rw [if_pos hd]
    simp only [hd, true_implies, if_true, List.append_nil]
  · rcases List.eq_nil_or_concat ops with rfl | ⟨os, o, rfl⟩
    · rw [split_nil hd, spec_nil hd]; simp [hd]
    · rw [List.concat_eq_append] at *
      by_cases hn : ∃ x, o = .name x
      · obtain ⟨x, rfl⟩ := hn
        rw [split_name hd, spec_name hd]
        simp only [hd, false_implies, true_and, if_false]
      · have hnn : ∀ x, o ≠ .name x := fun x e => hn ⟨x, e⟩
        rw [split_num hd hnn, spec_num hd hnn]
        simp only [hd, false_implies, true_and, if_false, List.append_nil]
def SplitPost (w : World) (n₀ : List (Addr × Obj)) (h₀ : Heap) (L : Addr) (e nm : Str) (r : Str → Option Value) (news : List (Addr × Obj)) (os ls : List Op) (s : Shared) (fl : Flow) (s₂ : Shared) : Prop :=
  ∃ h' tk Dn c De us es, fl = .next ∧ s₂ = { s with heap := h', toks := tk } ∧ Fr h₀ L h' (fun y => if y = e then some (.ref De) else if y = nm then some (.ref Dn) else r y) ∧ News h₀ L h' ((De, tupOf es) :: (Dn, listOf us.toArray c) :: news) ∧
    (∀ q ∈ news, ∀ p ∈ [(De, tupOf es), (Dn, listOf us.toArray c)], q.1 ≠ p.1) ∧ AllOp w n₀ us os ∧ DatAll [] es (ls.map Op.told) ∧ es.length ≤ 1
theorem SplitPost.intro {w : World} {n₀ : List (Addr × Obj)} {h₀ : Heap} {L : Addr} {e nm : Str} {r : Str → Option Value} {news : List (Addr × Obj)} {os ls : List Op} {s : Shared} {h' : Heap} {tk : Nat} {Dn : Addr} {c : Nat} {De : Addr} {us es : List Value}
    (F : Fr h₀ L h' (fun y => if y = e then some (.ref De) else if y = nm then some (.ref Dn) else r y)) (N : News h₀ L h' ((De, tupOf es) :: (Dn, listOf us.toArray c) :: news)) (o : ∀ q ∈ news, ∀ p ∈ [(De, tupOf es), (Dn, listOf us.toArray c)], q.1 ≠ p.1)
    (hu : AllOp w n₀ us os) (he : DatAll [] es (ls.map Op.told)) (hl : es.length ≤ 1) : SplitPost w n₀ h₀ L e nm r news os ls s .next { s with heap := h', toks := tk } := ⟨h', tk, Dn, c, De, us, es, rfl, rfl, F, N, o, hu, he, hl⟩
theorem cutSplit {M : Model} {A : Around} {t : Sem Flow} {Q : Flow → Shared → Prop} {E : Value → Shared → Prop} {s : Shared} {h₀ : Heap} {L : Addr} {e nm : Str} {v u : Value} {r : Str → Option Value} (news : List (Addr × Obj)) (w : World) (n₀ : List (Addr × Obj)) (os ls : List Op) (_F : Fr h₀ L s.heap (fun y => if y = e then some v else if y = nm then some u else r y))
    (h : wpAny M A t (SplitPost w n₀ h₀ L e nm r news os ls s) E s)
    (k : ∀ h' tk Dn c De us es, Fr h₀ L h' (fun y => if y = e then some (.ref De) else if y = nm then some (.ref Dn) else r y) → News h₀ L h' ((De, tupOf es) :: (Dn, listOf us.toArray c) :: news) →
      (∀ q ∈ news, ∀ p ∈ [(De, tupOf es), (Dn, listOf us.toArray c)], q.1 ≠ p.1) → AllOp w n₀ us os → DatAll [] es (ls.map Op.told) → es.length ≤ 1 → Q .next { s with heap := h', toks := tk }) : wpAny M A t Q E s :=
  wpAny_mono h (fun fl s' ⟨h', tk, Dn, c, De, us, es, e1, e2, F, N, o, hu, he, hl⟩ => by rw [e1, e2]; exact k h' tk Dn c De us es F N o hu he hl) fun _ _ e => e
section
variable {prog : Program} {w : World} {A : Around} {E : Value → Shared → Prop} {s : Shared} {h₀ : Heap} {L a b : Addr} {news : List (Addr × Obj)} {vs : List Value} {n k : Nat} {Q : Value → Shared → Prop}
theorem ne_nil1 (N : News h₀ L s.heap news) (ha : (a, listOf vs.toArray n) ∈ news) (hb : (b, listOf ([] : List Value).toArray k) ∈ news) (hv : 0 < vs.length) (hu : A.units < cLine) (h : Q (.bool true) s) : wpAny (model prog w) A (compareOp .NotEq (.ref a) (.ref b)) Q E s :=
  cmp_ofNotEq (PySem.SeqAt.RcNeAt.lists_lengths (isList_of N ha) (isList_of N hb) (by simp only [List.size_toArray, List.length_nil, bne_iff_ne]; omega) hu _ _ _ _ h)
theorem ne_nil0 (N : News h₀ L s.heap news) (ha : (a, listOf vs.toArray n) ∈ news) (hb : (b, listOf ([] : List Value).toArray k) ∈ news) (hv : vs.length = 0) (hu : A.units < cLine) (h : Q (.bool false) s) : wpAny (model prog w) A (compareOp .NotEq (.ref a) (.ref b)) Q E s := by
  cases vs with
  | cons _ _ => cases hv
  | nil => exact cmp_ofNotEq (PySem.SeqAt.RcNeAt.lists (e := fun _ => true) (isList_of N ha) (isList_of N hb) rfl hu (fun j h1 => absurd h1 (Nat.not_lt_zero j)) _ _ _ _ h)
end
section
variable {prog : Program} {w : World} {A : Around} {E : Value → Shared → Prop} {s : Shared} {h₀ : Heap} {L D : Addr} {m : Str → Option Value}
theorem fr_dup {h₀ h : Heap} {L : Addr} {e : Str} {a b : Option Value} {c : Str → Option Value} (F : Fr h₀ L h (fun y => if y = e then a else if y = e then b else c y)) : Fr h₀ L h (fun y => if y = e then a else c y) := by
  have q : (fun y => if y = e then a else if y = e then b else c y) = fun y => if y = e then a else c y := by
    funext y
    by_cases h : y = e <;> simp [h]
  rw [q] at F
  exact F
theorem split_len (sp : Sp) (ops : List Op) : (splitS sp ops).1.length ≤ ops.length := by
  unfold splitS
  split
  · exact Nat.le_refl _
  · split
    · simp
    · exact Nat.le_refl _
theorem split_mem (sp : Sp) (ops : List Op) : ∀ o ∈ (splitS sp ops).1, o ∈ ops := by
  unfold splitS
  split
  · exact fun _ h => h
  · split
    · exact fun o h => (List.dropLast_sublist _).subset h
    · exact fun _ h => h
theorem my_pop {news0 rest : List (Addr × Obj)} {p : List Value} {y : Value} {n : Nat} {Q : Value → Shared → Prop} (F : Fr h₀ L s.heap m) (N : News h₀ L s.heap news0) (hm : (D, listOf (p ++ [y]).toArray n) ∈ news0) (hne : ∀ q ∈ rest, q.1 ≠ D) (hs : ∀ q ∈ rest, q ∈ news0) (hz : p.length ≤ 1000)
    (h : ∀ h', Fr h₀ L h' m → News h₀ L h' ((D, listOf p.toArray (n + 1)) :: rest) → Q y { s with heap := h' }) : wpAny (model prog w) A (call (.builtin "list.pop") [.ref D]) Q E s :=
  kl_pop F (news := (D, listOf (p ++ [y]).toArray n) :: rest) (fun q hq => (List.mem_cons.mp hq).elim (fun e => e ▸ N _ hm) fun hq => N _ (hs q hq)) (kpa_last _ _) (.head hne) (by simp only [List.length_append, List.length_cons, List.length_nil, sizeLine_eq]; omega) h
end
section
variable {prog : Program} {w : World} {A : Around} {E : Value → Shared → Prop} {s : Shared} {h₀ : Heap} {L t b : Addr} {m : Str → Option Value}
theorem my_add {G : List (Addr × Obj)} {xs es : List Value} {Q : Value → Shared → Prop} (F : Fr h₀ L s.heap m) (N : News h₀ L s.heap G) (ha : (t, tupOf xs) ∈ G) (hb : (b, tupOf es) ∈ G) (hz : xs.length + es.length ≤ 1000)
    (h : ∀ z h' G', Fr h₀ L h' m → News h₀ L h' G' → (∀ p ∈ G, p ∈ G') → (z, tupOf (xs ++ es)) ∈ G' → (z = t ∨ z = b ∨ ∀ q ∈ G, q.1 < z) → Q (.ref z) { s with heap := h' }) : wpAny (model prog w) A (binaryOp .Add (.ref t) (.ref b)) Q E s := by
  have hz' : xs.toArray.toList.length + es.toArray.toList.length ≤ 16384 := by simp only [List.toList_toArray]; omega
  by_cases hx : xs = []
  · subst hx
    exact kde_addT0 F N (N.isTup ha) (N.isTup hb) rfl hz' (h b _ G F N (fun _ h => h) hb (.inr (.inl rfl)))
  · by_cases he : es = []
    · subst he
      exact kde_addT1 F N (N.isTup ha) (N.isTup hb) (by simpa using hx) rfl hz' (h t _ G F N (fun _ h => h) (by rw [List.append_nil]; exact ha) (.inl rfl))
    · exact kde_addT F N (N.isTup ha) (N.isTup hb) (by simpa using hx) (by simpa using he) hz' rfl fun D h' F' N' l => h D h' _ F' N' (fun _ h => .tail _ h) (.head _) (.inr (.inr l))
end
theorem pow_gt {t p : Int} (h : ¬ (t > 10 ^ p.toNat)) : ¬ 0 < cmp1 t p := by
  unfold cmp1
  split
  · decide
  · split
    · omega
    · decide
theorem pow_le {t p : Int} (h : t > 10 ^ p.toNat) : 0 < cmp1 t p := by
  unfold cmp1
  rw [if_neg (by omega), if_pos (by omega)]
  decide
open LCg LCt in
/-- a comprehension with a test, by an invariant over what is taken, what is made and the ledger -/
theorem comp_restT {prog : Program} {w : World} {A : Around} {s : Shared} {h₀ : Heap} {L : Addr} {m : Str → Option Value} {env : Env} {ct elt : Expr} {x : Str} {scope : Scope} {cl : List (Str × Addr)} {S : List (Addr × Obj) → Prop} {P : Nat → Value → Prop} {Fin : List Value → List (Addr × Obj) → Prop} {n : Nat} {news : List (Addr × Obj)}
    (R : Nat → List Value → List (Addr × Obj) → Prop) (h0 : R 0 [] news)
    (step : ∀ i ys news v I oI C oC D m₂ h tk (E' : Value → Shared → Prop), i < n → R i ys news → P i v → NsObj oC m₂ → m₂ x = some v → Fr h₀ L h m → News h₀ L h ((I, oI) :: (C, oC) :: (D, lst ys) :: news) → Off3 I C D news → ((@Ne Nat I C) ∧ (@Ne Nat I D) ∧ (@Ne Nat C D)) →
      wpAny (model prog w) A (isTrue ct (compEnvC scope cl C env) (eval ct (compEnvC scope cl C env))) (fun ok s' => if ok = true then
        wpAny (model prog w) A (eval elt (compEnvC scope cl C env)) (CompEnd h₀ L m { s with heap := h, toks := tk } I oI C oC D (lst ys) S (fun y news' => R (i + 1) (ys ++ [y]) news')) E' s'
        else CompEnd h₀ L m { s with heap := h, toks := tk } I oI C oC D (lst ys) S (fun _ news' => R (i + 1) ys news') Value.none s') E' { s with heap := h, toks := tk })
    (fin : ∀ ys news, R n ys news → Fin ys news) : CompRestT prog w A h₀ L m env ct elt x scope cl s S P Fin n 0 [] news := by
  have all : ∀ k i ys news, i + k = n → R i ys news → CompRestT prog w A h₀ L m env ct elt x scope cl s S P Fin k i ys news := by
    intro k
    induction k with
    | zero => intro i ys news e r; exact fin ys news (by rw [← e]; exact r)
    | succ k ih =>
      intro i ys news e r
      refine CompRestT.succ fun v I oI C oC D m₂ h tk E' hP hN hx F N off ne => ?_
      refine wpAny_mono (step i ys news v I oI C oC D m₂ h tk E' (by omega) r hP hN hx F N off ne) (fun ok s₂ hc => ?_) fun _ _ e => e
      cases ok with
      | true =>
        simp only [if_true] at hc ⊢
        exact wpAny_mono hc (fun y s₃ hc => compEnd_mono hc fun news' r' => ih _ _ _ (by omega) r') fun _ _ e => e
      | false =>
        simp only [Bool.false_eq_true, if_false] at hc ⊢
        exact compEnd_mono hc fun news' r' => ih _ _ _ (by omega) r'
  exact all n 0 [] news (by omega) h0
theorem rowsC6a : True := by
  k_with_none
  k_with "k_sub" => k_of "#h" => (intro p' hp'; first | exact hp' | exact List.Mem.tail _ hp' | ((simp only [List.cons_append, List.nil_append, List.append_nil, List.mem_cons, List.mem_append] at hp' ⊢); revert hp'; ((repeat' (refine or_imp.mpr (And.intro ?_ ?_))) <;> (intro hp'; simp only [hp', true_or, or_true]))))
  k_with "k_room" => k_of "#h" => ((try simp only [depth_mark, depth_under_make, depth_under_kw, depth_in1, depth_deeper, depth_caller, recursionLimit]); (try dsimp only [ktrTop]); omega)
  k_with "k_units" => k_of "#h" => ((have hcL9' := cLine_is); (try simp only [units_in1, units_deeper, Around.mark_units, units_caller]); (try dsimp only [ktrTop]); omega)
  k_with "@exec While BoolOp" => k_of "#h" => (k_here; k_dflt (refine whl_start 100 ?_))
  k_with "ktr_rel" => k_of "#h" => first | assumption | exact OpAt.int | exact OpAt.mono (by assumption) (by k_sub) | exact AllOp.mono (by assumption) (by k_sub) | exact List.Mem.tail _ (by assumption) | exact List.Mem.tail _ (List.Mem.tail _ (by assumption)) | exact subl _ (by assumption) | exact List.Mem.tail _ (subl _ (by assumption)) | exact mem_of_sub (by assumption) (by k_sub) | k_mem
  k_with "@call builtin:len" => k_of "#h" => (k_here; k_dflt (refine' PyProof.Rows.len_list (isList_of ?N' ?m') ?f' ?_; (case N' => k_asm); (case m' => first | ktr_rel | k_mem); (case f' => (simp only [List.size_toArray]; omega))))
  k_with "@call ref" => k_of "#h" => (k_here; k_dflt (refine' says_use (f := 180) (s_decimal_of _ _ _ _ ?hv' ?hn') ?B' ?F' ?X' ?N' ?T' ?hk' ?hd' ?hu' ?_ ?_; (case B' => k_asm); (case F' => k_asm); (case X' => k_asm); (case N' => k_asm); (case T' => k_asm); (case hk' => first | exact rfl | assumption); (case hd' => first | ((try dsimp only [Around.deeper]); omega) | decide); (case hu' => first | ((try dsimp only [Around.deeper]); omega) | decide); (case hv' => ktr_rel); (case hn' => first | assumption | rfl)); rotate_left; (intro _ _ _ _ hx'; exact hx'.elim); (intro r' tl' h' tk' F' N' o' ho'; (try k_sweep)))
  k_with "@call type:tuple" => k_of "#h" => (k_here; (with_reducible show wpAny _ _ (call (Value.type _) [Value.ref _]) _ _ _); k_dflt (refine' kde_tupleOf ?k1' ?k2' ?k3' ?k4' ?k5' ?_; (case k1' => k_asm); (case k2' => k_asm); (case k3' => exact isList_of (by k_asm) (by ktr_rel)); (case k4' => (simp only [List.size_toArray]; omega)); (case k5' => exact List.toList_toArray)); intro D' h' F' N' l1'; (try k_sweep))
  k_with "@call ref" => k_of "#h" => (k_here; k_dflt (refine' says_use (f := 138) (s_told _ _ _ _ _ ?hv') ?B' ?F' ?X' ?N' ?T' ?hk' ?hd' ?hu' ?_ ?_; (case B' => k_asm); (case F' => k_asm); (case X' => k_asm); (case N' => k_asm); (case T' => k_asm); (case hk' => first | exact rfl | assumption); (case hd' => first | ((try dsimp only [Around.deeper]); omega) | decide); (case hu' => first | ((try dsimp only [Around.deeper]); omega) | decide); (case hv' => ktr_rel)); rotate_left; (intro _ _ _ _ hx'; exact hx'.elim); (intro r' tl' h' tk' F' N' o' ho'; (try k_sweep)))
  k_with "@subscriptTail" => k_of "#h" => (k_here; (with_reducible show wpAny _ _ (subscriptTail _ _ (Value.ref _) (Value.int _ _)) _ _ _); (with_unfolding_all refine' kde_neg ?k1' ?k2' ?k3' ?k4' ?k5' ?_ ?k6'; (case k2' => decide); (case k3' => decide); (case k1' => exact isList_of (by k_asm) (by ktr_rel)); (case k4' => exact seq_last _ _); (case k5' => exact get_last _ _); (case k6' => with_unfolding_all rfl); k_whole))
  k_with "@call type:list" => k_of "#h" => (k_here; (with_reducible show wpAny _ _ (call (Value.type _) [Value.ref _]) _ _ _); k_dflt (refine' list_copyK ?k1' ?k2' ?k3' ?_ ?k4'; (case k1' => k_asm); (case k2' => k_asm); (case k3' => exact isList_of (by k_asm) (by ktr_rel)); (case k4' => (simp only [List.size_toArray, sizeLine_eq]; omega))); intro D' c' h' F' N' l1'; (try k_sweep))
  k_with "@compareOp NotEq ref ref" => k_of "#h" => (k_here; k_dflt (first | (refine' ne_nil1 ?k1' ?k2' ?k3' ?k4' ?k5' ?_; (case k1' => k_asm); (case k2' => ktr_rel); (case k3' => ktr_rel); (case k4' => omega); (case k5' => k_units)) | (refine' ne_nil0 ?k1' ?k2' ?k3' ?k4' ?k5' ?_; (case k1' => k_asm); (case k2' => ktr_rel); (case k3' => ktr_rel); (case k4' => omega); (case k5' => k_units))))
  k_with "@call builtin:list.pop" => k_of "#h" => (k_here; k_dflt (refine' my_pop ?k1' ?k2' ?k3' ?k4' ?k5' ?k6' ?_; (case k1' => k_asm); (case k2' => k_asm); (case k3' => ktr_rel); (case k4' => assumption); (case k5' => k_sub); (case k6' => omega)); intro h' F' N'; (try k_sweep))
  k_with "@exec Assign cons ListComp" => k_of "#h" => (k_here; k_dflt (refine LCg.Assign_ListComp_U (F₀ := by k_asm) (by rfl) (by with_unfolding_all rfl) (by with_unfolding_all rfl) (by decide) (by rfl) (by decide) (by rfl) (by rfl) (by rfl) ?_))
  k_with "@eval ListComp" => k_of "#h" => (k_here; (with_reducible show wpAny _ _ (eval (PySem.Expr.ListComp _ [⟨_, _, [], _⟩] _ _) _) _ _ _); k_dflt (refine LCg.ListComp_U (F₀ := by k_asm) (by with_unfolding_all rfl) (by decide) (by rfl) (by decide) (by rfl) ?_))
  k_with "@CompSrc" => k_of "#h" => (k_dflt (refine' LCg.CompSrc.ledger ?hh' ?F' ?N' ?m' ?z' ?_; (case hh' => rfl); (case F' => k_asm); (case N' => k_asm); (case m' => ktr_rel); (case z' => (simp only [List.size_toArray, sizeLine_eq]; omega)); k_whole); intro g')
  k_with "@binaryOp Add ref ref" => k_of "#h" => (k_here; k_dflt (refine' my_add ?F' ?N' ?a' ?b' ?z' ?_; (case F' => k_asm); (case N' => k_asm); (case a' => ktr_rel); (case b' => ktr_rel); (case z' => omega)); intro z' h' G' F' N' hs' hm' hz'; (try k_sweep))
  k_with "@eval ListComp" => k_of "#h" => (k_here; (with_reducible show wpAny _ _ (eval (PySem.Expr.ListComp _ [⟨_, _, [_], _⟩] _ _) _) _ _ _); k_dflt (refine LCt.ListComp_T (F₀ := by k_asm) (by with_unfolding_all rfl) (by decide) (by rfl) (by decide) (by rfl) ?_))
  k_with "@CompSrcT" => k_of "#h" => (k_dflt (refine' LCt.CompSrcT.ledger ?hh' ?F' ?N' ?m' ?z' ?_; (case hh' => rfl); (case F' => k_asm); (case N' => k_asm); (case m' => k_mem); (case z' => (simp only [List.size_toArray, sizeLine_eq]; omega)); k_whole); intro g')
  k_with "@binaryOp Pow int int" => k_of "#h" => (k_here; k_dflt (refine' pow_int_small ?kb1' ?kb2' ?kb3' ?_; (case kb1' => first | decide | omega); (case kb2' => first | decide | omega); (case kb3' => decide)))
  trivial

theorem s_law_due (w : World) (news : List (Addr × Obj)) (sp : Sp) (k : Tok) (l : Addr) (vs : List Value) (n : Nat) (ops : List Op) (hl : (l, listOf vs.toArray n) ∈ news) (n₀ : List (Addr × Obj)) (hsub : ∀ p ∈ n₀, p ∈ news) (hops : AllOp w n₀ vs ops) (hlen : ops.length ≤ 100) (hnt : ∀ o ∈ ops, ∀ x, o ≠ .text x) (hfine : ∀ o ∈ ops, o.fine) :
    Says w 40 466 [.str sp.str k, .ref l] news (fun tl r => (ownSpec sp ops = none ∧ r = .none) ∨ ∃ parts, ownSpec sp ops = some parts ∧ DatIn tl r (toldD sp parts)) False := by
  unfold Says
  intro mean mg mb dp un gd cn cs a ccd cl outer A₀ base h₀ L m s Q E B F X N T hk hdp hun hret hexc
  have hsc := sp.count_le

  have hvl : vs.length = ops.length := hops.length
  refine wpAny_call ?_
  k_dflt ktr_enter
  iterate 3 (first | (k_unfold; (try dsimp only)) | walk1 | (dsimp only; walk1))
  rename Fr _ _ _ _ => F1
  rename News _ _ _ _ => N1
  refine cutInt sp.count F1 N1 (by
    clear hret hexc
    cases sp
    all_goals (
      dsimp only [Sp.str] at F1 ⊢
      k_steps
      exact IntAt.intro (by k_asm) (cb_drop (by k_asm) (by k_sub)))) ?_
  clear F1 N1
  intro kk h1 tk1 F1 N1
  iterate 20 (first | (k_unfold; (try dsimp only)) | walk1 | (dsimp only; walk1))

  rename_i Dn cn hx1 lt1 hx2 tx2 De hx3 lt2 hx4 F2 N2
  have hord : ∀ q ∈ news, ∀ p ∈ [(De, tupOf []), (Dn, listOf vs.toArray cn)], q.1 ≠ p.1 := ord_lt (ltq lt2.2 (by k_sub)) (ord_lt lt1 ord0)
  refine cutSplit news w n₀ (splitS sp ops).1 (splitS sp ops).2 (by exact F2) ?_ ?_
  · clear hret hexc
    by_cases hd : 0 ≤ sp.count
    · rw [split_dev hd]
      k_steps
      exact SplitPost.intro (ls := []) (by k_asm) N2 hord hops .nil (by simp)
    · rcases List.eq_nil_or_concat ops with rfl | ⟨os, o, rfl⟩
      · rw [split_nil hd]
        k_steps
        exact SplitPost.intro (ls := []) (by k_asm) (cb_drop (by k_asm) (by k_sub)) hord hops .nil (by simp)
      · rw [List.concat_eq_append] at *
        clear hvl
        have hlo : os.length ≤ 99 := by simp at hlen; omega
        obtain ⟨us, v, rfl, hus, hov⟩ := hops.snoc_inv
        have hul : us.length ≤ 99 := by rw [hus.length]; exact hlo
        have hvl : (us ++ [v]).length = us.length + 1 := by simp
        have hsz : (us ++ [v]).toArray.size = us.length + 1 := by simp
        have hov' := hov.mono hsub
        by_cases hn : ∃ x, o = .name x
        · obtain ⟨x, rfl⟩ := hn
          rw [split_name hd]
          cases hov'
          rename_i ai di k1 k2 hm1 hm2
          have hne : ∀ p ∈ (ai, instObj 204 di) :: (di, dictOf [ent w "text" k1 (.str x k2)] 1) :: news, p.1 ≠ Dn := fun p hp => by
            rcases List.mem_cons.mp hp with rfl | hp
            · exact Nat.ne_of_lt (lt1 _ hm1)
            · rcases List.mem_cons.mp hp with rfl | hp
              · exact Nat.ne_of_lt (lt1 _ hm2)
              · exact Nat.ne_of_lt (lt1 _ hp)
          replace N2 := addN (.tail _ (.tail _ (.tail _ hm1))) (addN (.tail _ (.tail _ hm2)) N2)
          k_steps
          rename (Dn < _ ∧ _ < _ ∧ _ < _ ∧ AllLt _ news) => lt3
          rename Fr _ _ _ _ => F3
          rename News _ _ _ _ => N3
          exact SplitPost.intro (ls := [.text x]) (es := [.str x k2]) (c := cn + 1) (fr_dup F3) (cb_drop N3 (by k_sub)) (ord_lt (ltq lt3.2.2.2 (by k_sub)) (ord_lt lt1 ord0)) hus (.cons (.str _ _) .nil) (by simp)
        · have hnn : ∀ x, o ≠ .name x := fun x e => hn ⟨x, e⟩
          rw [split_num hd hnn]
          cases hov'
          case name x _ _ _ _ _ _ => exact absurd rfl (hnn _)
          case text x _ => exact (hnt (.text x) (by simp) x rfl).elim
          all_goals (
            (try (rename ((_, instObj _ _) ∈ news) => hm1; rename ((_, dictOf _ _) ∈ news) => hm2; replace N2 := addN (.tail _ (.tail _ (.tail _ hm1))) (addN (.tail _ (.tail _ hm2)) N2)))
            k_steps
            exact SplitPost.intro (ls := []) (by k_asm) (cb_drop (by k_asm) (by k_sub)) hord hops .nil (by simp))
  · clear hord lt1 lt2 F2 N2
    intro h2 tk2 Dn2 c2 De2 us es F2 N2 o2 hu he hel
    have hlo : (splitS sp ops).1.length ≤ 100 := Nat.le_trans (split_len sp ops) hlen
    have hnt2 : ∀ o ∈ (splitS sp ops).1, ∀ x, o ≠ .text x := fun o ho => hnt o (split_mem sp ops o ho)
    have hfi2 : ∀ o ∈ (splitS sp ops).1, o.fine := fun o ho => hfine o (split_mem sp ops o ho)
    rw [spec_split] at hret
    generalize (splitS sp ops).1 = os at *
    generalize (splitS sp ops).2 = ls at *
    clear hops hvl hl hlen hnt hfine hexc
    have hul : us.length = os.length := hu.length
    have hsz : us.toArray.size = os.length := by rw [List.size_toArray]; exact hul
    k_steps
    refine comp_restT (fun i ys nx => nx = (De2, tupOf es) :: (Dn2, listOf us.toArray c2) :: news ∧ (ys.length = 0 ↔ (os.take i).all Op.isNum = true)) ⟨rfl, by simp⟩ ?_ ?_
    · rintro i ys nx v I oI C oC D m₂ h tk E' hi ⟨hnx, hys⟩ hv hNs hx F' N' off ne
      subst nx
      have hv' : us[i]? = some v := by simpa using hv
      obtain ⟨o, ho, hov⟩ := hu.get hv'
      have e : (os.take (i + 1)).all Op.isNum = ((os.take i).all Op.isNum && o.isNum) := by rw [List.take_add_one, ho]; simp
      have hov' := hov.mono hsub
      cases hov'
      case text x _ => exact (hnt2 (.text x) (List.mem_of_getElem? ho) x rfl).elim
      all_goals (
        (try (rename ((_, instObj _ _) ∈ news) => hm1; rename ((_, dictOf _ _) ∈ news) => hm2; replace N' := addN (.tail _ (.tail _ (.tail _ (.tail _ (.tail _ (.tail _ hm1)))))) (addN (.tail _ (.tail _ (.tail _ (.tail _ (.tail _ hm2))))) N')))
        k_steps)
      all_goals (
        refine LCg.CompEnd.intro (by k_asm) (by k_asm) ((De2, tupOf es) :: (Dn2, listOf us.toArray c2) :: news) (by k_sub) off (.inr ⟨_, .tail _ (.head _), rfl, _, rfl⟩) ⟨rfl, ?_⟩
        rw [e]
        simp only [List.length_append, List.length_cons, List.length_nil, Op.isNum, Bool.and_true, Bool.and_false]
        first | exact hys | (constructor <;> intro h9 <;> first | omega | cases h9))
    · rintro ys nx ⟨hnx, hys⟩
      subst nx
      intro D h' tk' F'' N'' o1
      rw [hsz, List.take_length] at hys
      by_cases hg : (0 ≤ sp.count → sp.count = (os.length : Int)) ∧ os.all Op.isNum = true
      · rw [if_pos hg] at hret
        obtain ⟨hg1, hg2⟩ := hg
        have hy0 : ys.length = 0 := hys.mpr hg2
        replace N'' : News _ _ _ ((D, listOf ys.toArray ys.length) :: (De2, tupOf es) :: (Dn2, listOf us.toArray c2) :: news) := N''
        have hcnt : 0 ≤ sp.count → (us.toArray.size : Int) = sp.count := fun h9 => by rw [hsz]; exact (hg1 h9).symm
        by_cases hd2 : 0 ≤ sp.count
        · have hcn2 := hcnt hd2
          k_steps
          all_goals (try (exfalso; omega))
          rename_i l9 h9 F9 N9 lt9 a9 g9
          refine comp_rest (fun i zs nx => ∃ tl, nx = ((l9, listOf #[] 0) :: (D, listOf ys.toArray ys.length) :: (De2, tupOf es) :: (Dn2, listOf us.toArray c2) :: news) ++ tl ∧ (∀ q ∈ ((l9, listOf #[] 0) :: (D, listOf ys.toArray ys.length) :: (De2, tupOf es) :: (Dn2, listOf us.toArray c2) :: news), ∀ p ∈ tl, q.1 ≠ p.1) ∧ AllOp w (n₀ ++ tl) zs ((os.take i).map Op.asDec)) ⟨[], by simp, ord0, .nil⟩ ?_ ?_
          · rintro i zs nx v I oI C oC D' m₂ h tk E' hi ⟨tl, hnx, hord, hzs⟩ hv hNs hx F' N' off ne
            subst nx
            have hv' : us[i]? = some v := by simpa using hv
            obtain ⟨o, ho, hov⟩ := hu.get hv'
            have hov' : OpAt w ((I, oI) :: (C, oC) :: (D', LCg.lst zs) :: (((l9, listOf #[] 0) :: (D, listOf ys.toArray ys.length) :: (De2, tupOf es) :: (Dn2, listOf us.toArray c2) :: news) ++ tl)) v o := hov.mono fun p hp => .tail _ (.tail _ (.tail _ (subl p (.tail _ (.tail _ (.tail _ (.tail _ (hsub p hp))))))))
            have hon : o.isNum = true := List.all_eq_true.mp hg2 o (List.mem_of_getElem? ho)
            k_steps
            rename_i r' tl' h' tk' F'' N'' o' ho'
            refine LCg.CompEnd.intro (by k_asm) N'' (((l9, listOf #[] 0) :: (D, listOf ys.toArray ys.length) :: (De2, tupOf es) :: (Dn2, listOf us.toArray c2) :: news) ++ (tl ++ tl')) (by k_sub) (by rw [← List.append_assoc]; exact off3_app (oI := oI) (oC := oC) (oD := LCg.lst zs) off (ord_sub o' (by k_sub))) (.inr ⟨_, .tail _ (.tail _ (.tail _ (.head _))), rfl, _, rfl⟩) ⟨tl ++ tl', rfl, ord_app hord (ord_sub o' (by k_sub)), ?_⟩
            have e : (os.take (i + 1)).map Op.asDec = (os.take i).map Op.asDec ++ [o.asDec] := by rw [List.take_add_one, ho]; simp
            rw [e]
            refine AllOp.snoc (hzs.mono fun p hp => by rw [← List.append_assoc]; exact subl p hp) ?_
            rcases ho' with ho' | ⟨_, ho', ho''⟩
            · exact ho'.mono fun p hp => List.mem_append.mpr (.inr (List.mem_append.mpr (.inr hp)))
            · rw [ho', ← ho'']; exact hov.mono subl
          · rintro zs nx ⟨tl, hnx, hord, hzs⟩
            subst nx
            intro D2 h3 tk3 F3 N3 o3
            rw [hsz, List.take_length] at hzs
            have hzl := hzs.length
            rw [List.length_map] at hzl
            have hzz : zs.toArray.size = os.length := by rw [List.size_toArray]; exact hzl
            have hn1 : ∀ p ∈ n₀ ++ tl, p ∈ (D2, LCg.lst zs) :: (((l9, listOf #[] 0) :: (D, listOf ys.toArray ys.length) :: (De2, tupOf es) :: (Dn2, listOf us.toArray c2) :: news) ++ tl) := fun p hp => .tail _ ((List.mem_append.mp hp).elim (fun h => subl p (.tail _ (.tail _ (.tail _ (.tail _ (hsub p h)))))) fun h => List.mem_append.mpr (.inr h))
            have hnw : ∀ p ∈ news, p ∈ (D2, LCg.lst zs) :: (((l9, listOf #[] 0) :: (D, listOf ys.toArray ys.length) :: (De2, tupOf es) :: (Dn2, listOf us.toArray c2) :: news) ++ tl) := fun p hp => .tail _ (subl p (.tail _ (.tail _ (.tail _ (.tail _ hp)))))
            have hde : (De2, tupOf es) ∈ (D2, LCg.lst zs) :: (((l9, listOf #[] 0) :: (D, listOf ys.toArray ys.length) :: (De2, tupOf es) :: (Dn2, listOf us.toArray c2) :: news) ++ tl) := .tail _ (subl _ (.tail _ (.tail _ (.head _))))
            have hd1 : (D2, LCg.lst zs) ∈ (D2, LCg.lst zs) :: (((l9, listOf #[] 0) :: (D, listOf ys.toArray ys.length) :: (De2, tupOf es) :: (Dn2, listOf us.toArray c2) :: news) ++ tl) := .head _
            have hof : ∀ q ∈ news, q.1 ≠ De2 := fun q hq => o2 q hq _ (.head _)
            have hfp : ∀ o ∈ os.map Op.asDec, ∃ t p, o = .dec t p ∧ o.fine := fun o ho => by
              obtain ⟨o', ho', rfl⟩ := List.mem_map.mp ho
              exact ⟨_, _, rfl, asDec_fine (hfi2 o' ho')⟩
            clear o3 hord o1 hys hu hsub
            generalize n₀ ++ tl = n₁ at *
            generalize ((D2, LCg.lst zs) :: (((l9, listOf #[] 0) :: (D, listOf ys.toArray ys.length) :: (De2, tupOf es) :: (Dn2, listOf us.toArray c2) :: news) ++ tl)) = G at *
            have hpl : (os.map Op.asDec).length = os.length := List.length_map _
            have hpe : os.map (fun o => if 0 ≤ sp.count then o.asDec.cut else o.asDec) = (os.map Op.asDec).map Op.cut := by rw [List.map_map]; exact List.map_congr_left fun o _ => by rw [if_pos hd2]; rfl
            rw [hpe] at hret
            generalize os.map Op.asDec = parts at *
            k_steps
            refine comp_rest (fun i xs nx => ∃ tl, nx = G ++ tl ∧ (∀ q ∈ G, ∀ p ∈ tl, q.1 ≠ p.1) ∧ AllOp w (n₁ ++ tl) xs ((parts.take i).map Op.cut)) ⟨[], by simp, ord0, .nil⟩ ?_ ?_
            · rintro i xs nx v I oI C oC D' m₂ h tk E' hi ⟨tl, hnx, hord, hxs⟩ hv hNs hx F' N' off ne
              subst nx
              have hv' : zs[i]? = some v := by simpa using hv
              obtain ⟨o, ho, hov⟩ := hzs.get hv'
              obtain ⟨t, p, rfl, hfin⟩ := hfp o (List.mem_of_getElem? ho)
              obtain ⟨hf1, hf2, hf3⟩ := hfin
              have e : (parts.take (i + 1)).map Op.cut = (parts.take i).map Op.cut ++ [(Op.dec t p).cut] := by rw [List.take_add_one, ho]; simp
              cases hov
              rename_i ai di k1 k2 k3 k4 hm1 hm2
              replace N' := addN (.tail _ (.tail _ (.tail _ (.tail _ (subl _ (hn1 _ hm1)))))) (addN (.tail _ (.tail _ (.tail _ (subl _ (hn1 _ hm2))))) N')
              have hp0 : 0 ≤ p := by omega
              have hp3 : p ≤ 3 := by omega
              k_steps
              · rename_i hlt r' tl' h' tk' F'' N'' o' ho'
                refine LCg.CompEnd.intro (by k_asm) N'' (G ++ (tl ++ tl')) (by k_sub) (by rw [← List.append_assoc]; exact off3_app (oI := oI) (oC := oC) (oD := LCg.lst xs) off (ord_sub o' (by k_sub))) (.inr ⟨_, subl _ hd1, rfl, _, rfl⟩) ⟨tl ++ tl', rfl, ord_app hord (ord_sub o' (by k_sub)), ?_⟩
                rw [e]
                refine AllOp.snoc (hxs.mono fun p hp => by rw [← List.append_assoc]; exact subl p hp) ?_
                rcases ho' with ho' | ⟨_, _, h9⟩
                · have ec : (Op.int 0).asDec = (Op.dec t p).cut := cut_neg (o := .dec t p) hlt
                  rw [← ec]
                  exact ho'.mono fun p hp => List.mem_append.mpr (.inr (List.mem_append.mpr (.inr hp)))
                · cases h9
              · rename_i hlt hpw r' tl' h' tk' F'' N'' o' ho'
                refine LCg.CompEnd.intro (by k_asm) N'' (G ++ (tl ++ tl')) (by k_sub) (by rw [← List.append_assoc]; exact off3_app (oI := oI) (oC := oC) (oD := LCg.lst xs) off (ord_sub o' (by k_sub))) (.inr ⟨_, subl _ hd1, rfl, _, rfl⟩) ⟨tl ++ tl', rfl, ord_app hord (ord_sub o' (by k_sub)), ?_⟩
                rw [e]
                refine AllOp.snoc (hxs.mono fun p hp => by rw [← List.append_assoc]; exact subl p hp) ?_
                rcases ho' with ho' | ⟨_, _, h9⟩
                · have ec : (Op.int 1).asDec = (Op.dec t p).cut := cut_big (o := .dec t p) hlt (pow_le hpw)
                  rw [← ec]
                  exact ho'.mono fun p hp => List.mem_append.mpr (.inr (List.mem_append.mpr (.inr hp)))
                · cases h9
              · rename_i hlt hpw
                refine LCg.CompEnd.intro (by k_asm) N' (G ++ tl) (by k_sub) off (.inr ⟨_, subl _ hd1, rfl, _, rfl⟩) ⟨tl, rfl, hord, ?_⟩
                rw [e]
                refine AllOp.snoc hxs ?_
                have ec : Op.dec t p = (Op.dec t p).cut := cut_in (o := .dec t p) hlt (pow_gt hpw)
                rw [← ec]
                exact .dec (subl _ hm1) (subl _ hm2)
            · rintro xs nx ⟨tl, hnx, hord, hxs⟩
              subst nx
              intro D3 h4 tk4 F4 N4 o4
              rw [hzz, ← hpl, List.take_length] at hxs
              have hxl := hxs.length
              rw [List.length_map, hpl] at hxl
              have hxz : xs.toArray.size = os.length := by rw [List.size_toArray]; exact hxl
              have hn2 : ∀ p ∈ n₁ ++ tl, p ∈ (D3, LCg.lst xs) :: (G ++ tl) := fun p hp => .tail _ ((List.mem_append.mp hp).elim (fun h => subl p (hn1 p h)) fun h => List.mem_append.mpr (.inr h))
              replace hnw : ∀ p ∈ news, p ∈ (D3, LCg.lst xs) :: (G ++ tl) := fun p hp => .tail _ (subl p (hnw p hp))
              replace hde : (De2, tupOf es) ∈ (D3, LCg.lst xs) :: (G ++ tl) := .tail _ (subl _ hde)
              have hd3 : (D3, LCg.lst xs) ∈ (D3, LCg.lst xs) :: (G ++ tl) := .head _
              have hfp3 : ∀ o ∈ parts.map Op.cut, ∃ t p, o = .dec t p := fun o ho => by
                obtain ⟨o', ho', rfl⟩ := List.mem_map.mp ho
                obtain ⟨t, p, rfl, _⟩ := hfp o' ho'
                unfold Op.cut
                dsimp only
                split
                · exact ⟨_, _, rfl⟩
                · split <;> exact ⟨_, _, rfl⟩
              have hpl3 : (parts.map Op.cut).length = os.length := by rw [List.length_map]; exact hpl
              clear o4 hord hzs hfp hd1 hn1 N3
              generalize parts.map Op.cut = parts3 at *
              generalize n₁ ++ tl = n₂ at *
              generalize ((D3, LCg.lst xs) :: (G ++ tl)) = G3 at *
              k_steps
              refine comp_rest (fun i ts nx => ∃ tl, nx = G3 ++ tl ∧ (∀ q ∈ G3, ∀ p ∈ tl, q.1 ≠ p.1) ∧ DatAll tl ts ((parts3.take i).map Op.told)) ⟨[], by simp, ord0, .nil⟩ ?_ ?_
              · rintro i ts nx v I oI C oC D' m₂ h tk E' hi ⟨tl, hnx, hord, hts⟩ hv hNs hx F' N' off ne
                subst nx
                have hv' : xs[i]? = some v := by simpa using hv
                obtain ⟨o, ho, hov⟩ := hxs.get hv'
                obtain ⟨t, p, rfl⟩ := hfp3 o (List.mem_of_getElem? ho)
                have e : (parts3.take (i + 1)).map Op.told = (parts3.take i).map Op.told ++ [(Op.dec t p).told] := by rw [List.take_add_one, ho]; simp
                cases hov
                rename_i ai di k1 k2 k3 k4 hm1 hm2
                replace N' := addN (.tail _ (.tail _ (.tail _ (.tail _ (subl _ (hn2 _ hm1)))))) (addN (.tail _ (.tail _ (.tail _ (subl _ (hn2 _ hm2))))) N')
                have hovL : OpAt w ((ai, instObj 155 di) :: (di, dictOf [ent w "top" k1 (.int t k2), ent w "places" k3 (.int p k4)] 2) :: (I, oI) :: (C, oC) :: (D', LCg.lst ts) :: (G3 ++ tl)) (.ref ai) (.dec t p) := .dec (.head _) (.tail _ (.head _))
                k_steps
                rename_i r' tl' h' tk' F'' N'' o' ho'
                refine LCg.CompEnd.intro (by k_asm) N'' (G3 ++ (tl ++ tl')) (by k_sub) (by rw [← List.append_assoc]; exact off3_app (oI := oI) (oC := oC) (oD := LCg.lst ts) off (ord_sub o' (by k_sub))) (.inr ⟨_, subl _ hd3, rfl, _, rfl⟩) ⟨tl ++ tl', rfl, ord_app hord (ord_sub o' (by k_sub)), ?_⟩
                rw [e]
                exact DatAll.one' (hts.mono subl) (ho'.mono fun p hp => List.mem_append.mpr (.inr hp))
              · rintro ts nx ⟨tl, hnx, hord, hts⟩
                subst nx
                intro D9 h9' tk9 F'' N'' o1
                rw [hxz, ← hpl3, List.take_length] at hts
                have hyl := hts.length
                rw [List.length_map] at hyl
                k_steps
                rename_i D1 h1' lt1 z9 h2' G9 hs9 hm9 hz9 Dr h3' F5 N5 lt2 kF kN Tc kX
                have hzn : ∀ q ∈ news, q.1 ≠ z9 := fun q hq => by
                  rcases hz9 with rfl | rfl | hz9
                  · exact Nat.ne_of_lt (lt1 q (.tail _ (subl _ (hnw q hq))))
                  · exact hof q hq
                  · exact Nat.ne_of_lt (hz9 q (.tail _ (.tail _ (subl _ (hnw q hq)))))
                have hall9 : DatAll ((Dr, tupOf [.str sp.str k, .ref z9]) :: (z9, tupOf (ts ++ es)) :: tl) (ts ++ es) ((parts3 ++ ls).map Op.told) := by
                  rw [List.map_append]
                  exact DatAll.append (hts.mono fun p hp => .tail _ (.tail _ hp)) (he.mono fun p hp => by cases hp)
                refine hret _ ((Dr, tupOf [.str sp.str k, .ref z9]) :: (z9, tupOf (ts ++ es)) :: tl) _ _ kF (fun p hp => kN p ?_) (ord_lt (fun q hq => lt2 q (hs9 q (.tail _ (.tail _ (subl _ (hnw q hq)))))) (fun q hq p hp => ?_)) (.inr ⟨_, rfl, .tuple (vs := [_, _]) (.head _) (.cons (.str _ _) (.cons (.tuple (.tail _ (.head _)) hall9) .nil))⟩)
                · rcases List.mem_append.mp hp with hp | hp
                  · exact .tail _ (hs9 p (.tail _ (.tail _ (subl _ (hnw p hp)))))
                  · rcases List.mem_cons.mp hp with rfl | hp
                    · exact .head _
                    · rcases List.mem_cons.mp hp with rfl | hp
                      · exact .tail _ hm9
                      · exact .tail _ (hs9 p (.tail _ (.tail _ (List.mem_append.mpr (.inr hp)))))
                · rcases List.mem_cons.mp hp with rfl | hp
                  · exact hzn q hq
                  · exact hord q (hnw q hq) p hp
        · k_steps
          rename_i l9 h9 F9 N9 lt9 g9
          refine comp_rest (fun i zs nx => ∃ tl, nx = ((l9, listOf #[] 0) :: (D, listOf ys.toArray ys.length) :: (De2, tupOf es) :: (Dn2, listOf us.toArray c2) :: news) ++ tl ∧ (∀ q ∈ ((l9, listOf #[] 0) :: (D, listOf ys.toArray ys.length) :: (De2, tupOf es) :: (Dn2, listOf us.toArray c2) :: news), ∀ p ∈ tl, q.1 ≠ p.1) ∧ AllOp w (n₀ ++ tl) zs ((os.take i).map Op.asDec)) ⟨[], by simp, ord0, .nil⟩ ?_ ?_
          · rintro i zs nx v I oI C oC D' m₂ h tk E' hi ⟨tl, hnx, hord, hzs⟩ hv hNs hx F' N' off ne
            subst nx
            have hv' : us[i]? = some v := by simpa using hv
            obtain ⟨o, ho, hov⟩ := hu.get hv'
            have hov' : OpAt w ((I, oI) :: (C, oC) :: (D', LCg.lst zs) :: (((l9, listOf #[] 0) :: (D, listOf ys.toArray ys.length) :: (De2, tupOf es) :: (Dn2, listOf us.toArray c2) :: news) ++ tl)) v o := hov.mono fun p hp => .tail _ (.tail _ (.tail _ (subl p (.tail _ (.tail _ (.tail _ (.tail _ (hsub p hp))))))))
            have hon : o.isNum = true := List.all_eq_true.mp hg2 o (List.mem_of_getElem? ho)
            k_steps
            rename_i r' tl' h' tk' F'' N'' o' ho'
            refine LCg.CompEnd.intro (by k_asm) N'' (((l9, listOf #[] 0) :: (D, listOf ys.toArray ys.length) :: (De2, tupOf es) :: (Dn2, listOf us.toArray c2) :: news) ++ (tl ++ tl')) (by k_sub) (by rw [← List.append_assoc]; exact off3_app (oI := oI) (oC := oC) (oD := LCg.lst zs) off (ord_sub o' (by k_sub))) (.inr ⟨_, .tail _ (.tail _ (.tail _ (.head _))), rfl, _, rfl⟩) ⟨tl ++ tl', rfl, ord_app hord (ord_sub o' (by k_sub)), ?_⟩
            have e : (os.take (i + 1)).map Op.asDec = (os.take i).map Op.asDec ++ [o.asDec] := by rw [List.take_add_one, ho]; simp
            rw [e]
            refine AllOp.snoc (hzs.mono fun p hp => by rw [← List.append_assoc]; exact subl p hp) ?_
            rcases ho' with ho' | ⟨_, ho', ho''⟩
            · exact ho'.mono fun p hp => List.mem_append.mpr (.inr (List.mem_append.mpr (.inr hp)))
            · rw [ho', ← ho'']; exact hov.mono subl
          · rintro zs nx ⟨tl, hnx, hord, hzs⟩
            subst nx
            intro D2 h3 tk3 F3 N3 o3
            rw [hsz, List.take_length] at hzs
            have hzl := hzs.length
            rw [List.length_map] at hzl
            have hzz : zs.toArray.size = os.length := by rw [List.size_toArray]; exact hzl
            have hn1 : ∀ p ∈ n₀ ++ tl, p ∈ (D2, LCg.lst zs) :: (((l9, listOf #[] 0) :: (D, listOf ys.toArray ys.length) :: (De2, tupOf es) :: (Dn2, listOf us.toArray c2) :: news) ++ tl) := fun p hp => .tail _ ((List.mem_append.mp hp).elim (fun h => subl p (.tail _ (.tail _ (.tail _ (.tail _ (hsub p h)))))) fun h => List.mem_append.mpr (.inr h))
            have hnw : ∀ p ∈ news, p ∈ (D2, LCg.lst zs) :: (((l9, listOf #[] 0) :: (D, listOf ys.toArray ys.length) :: (De2, tupOf es) :: (Dn2, listOf us.toArray c2) :: news) ++ tl) := fun p hp => .tail _ (subl p (.tail _ (.tail _ (.tail _ (.tail _ hp)))))
            have hde : (De2, tupOf es) ∈ (D2, LCg.lst zs) :: (((l9, listOf #[] 0) :: (D, listOf ys.toArray ys.length) :: (De2, tupOf es) :: (Dn2, listOf us.toArray c2) :: news) ++ tl) := .tail _ (subl _ (.tail _ (.tail _ (.head _))))
            have hd1 : (D2, LCg.lst zs) ∈ (D2, LCg.lst zs) :: (((l9, listOf #[] 0) :: (D, listOf ys.toArray ys.length) :: (De2, tupOf es) :: (Dn2, listOf us.toArray c2) :: news) ++ tl) := .head _
            have hof : ∀ q ∈ news, q.1 ≠ De2 := fun q hq => o2 q hq _ (.head _)
            have hfp : ∀ o ∈ os.map Op.asDec, ∃ t p, o = .dec t p ∧ o.fine := fun o ho => by
              obtain ⟨o', ho', rfl⟩ := List.mem_map.mp ho
              exact ⟨_, _, rfl, asDec_fine (hfi2 o' ho')⟩
            clear o3 hord o1 hys hu hsub
            generalize n₀ ++ tl = n₁ at *
            generalize ((D2, LCg.lst zs) :: (((l9, listOf #[] 0) :: (D, listOf ys.toArray ys.length) :: (De2, tupOf es) :: (Dn2, listOf us.toArray c2) :: news) ++ tl)) = G at *
            have hpl : (os.map Op.asDec).length = os.length := List.length_map _
            have hpe : os.map (fun o => if 0 ≤ sp.count then o.asDec.cut else o.asDec) = os.map Op.asDec := List.map_congr_left fun o _ => by rw [if_neg hd2]
            rw [hpe] at hret
            generalize os.map Op.asDec = parts at *
            replace hfp : ∀ o ∈ parts, ∃ t p, o = .dec t p := fun o ho => let ⟨t, p, e, _⟩ := hfp o ho; ⟨t, p, e⟩
            k_steps
            refine comp_rest (fun i ts nx => ∃ tl, nx = G ++ tl ∧ (∀ q ∈ G, ∀ p ∈ tl, q.1 ≠ p.1) ∧ DatAll tl ts ((parts.take i).map Op.told)) ⟨[], by simp, ord0, .nil⟩ ?_ ?_
            · rintro i ts nx v I oI C oC D' m₂ h tk E' hi ⟨tl, hnx, hord, hts⟩ hv hNs hx F' N' off ne
              subst nx
              have hv' : zs[i]? = some v := by simpa using hv
              obtain ⟨o, ho, hov⟩ := hzs.get hv'
              obtain ⟨t, p, rfl⟩ := hfp o (List.mem_of_getElem? ho)
              have e : (parts.take (i + 1)).map Op.told = (parts.take i).map Op.told ++ [(Op.dec t p).told] := by rw [List.take_add_one, ho]; simp
              cases hov
              rename_i ai di k1 k2 k3 k4 hm1 hm2
              replace N' := addN (.tail _ (.tail _ (.tail _ (.tail _ (subl _ (hn1 _ hm1)))))) (addN (.tail _ (.tail _ (.tail _ (subl _ (hn1 _ hm2))))) N')
              have hovL : OpAt w ((ai, instObj 155 di) :: (di, dictOf [ent w "top" k1 (.int t k2), ent w "places" k3 (.int p k4)] 2) :: (I, oI) :: (C, oC) :: (D', LCg.lst ts) :: (G ++ tl)) (.ref ai) (.dec t p) := .dec (.head _) (.tail _ (.head _))
              k_steps
              rename_i r' tl' h' tk' F'' N'' o' ho'
              refine LCg.CompEnd.intro (by k_asm) N'' (G ++ (tl ++ tl')) (by k_sub) (by rw [← List.append_assoc]; exact off3_app (oI := oI) (oC := oC) (oD := LCg.lst ts) off (ord_sub o' (by k_sub))) (.inr ⟨_, subl _ hd1, rfl, _, rfl⟩) ⟨tl ++ tl', rfl, ord_app hord (ord_sub o' (by k_sub)), ?_⟩
              rw [e]
              exact DatAll.one' (hts.mono subl) (ho'.mono fun p hp => List.mem_append.mpr (.inr hp))
            · rintro ts nx ⟨tl, hnx, hord, hts⟩
              subst nx
              intro D9 h9' tk9 F'' N'' o1
              rw [hzz, ← hpl, List.take_length] at hts
              have hyl := hts.length
              rw [List.length_map] at hyl
              k_steps
              rename_i D1 h1' lt1 z9 h2' G9 hs9 hm9 hz9 Dr h3' F5 N5 lt2 kF kN Tc kX
              have hzn : ∀ q ∈ news, q.1 ≠ z9 := fun q hq => by
                rcases hz9 with rfl | rfl | hz9
                · exact Nat.ne_of_lt (lt1 q (.tail _ (subl _ (hnw q hq))))
                · exact hof q hq
                · exact Nat.ne_of_lt (hz9 q (.tail _ (.tail _ (subl _ (hnw q hq)))))
              have hall9 : DatAll ((Dr, tupOf [.str sp.str k, .ref z9]) :: (z9, tupOf (ts ++ es)) :: tl) (ts ++ es) ((parts ++ ls).map Op.told) := by
                rw [List.map_append]
                exact DatAll.append (hts.mono fun p hp => .tail _ (.tail _ hp)) (he.mono fun p hp => by cases hp)
              refine hret _ ((Dr, tupOf [.str sp.str k, .ref z9]) :: (z9, tupOf (ts ++ es)) :: tl) _ _ kF (fun p hp => kN p ?_) (ord_lt (fun q hq => lt2 q (hs9 q (.tail _ (.tail _ (subl _ (hnw q hq)))))) (fun q hq p hp => ?_)) (.inr ⟨_, rfl, .tuple (vs := [_, _]) (.head _) (.cons (.str _ _) (.cons (.tuple (.tail _ (.head _)) hall9) .nil))⟩)
              · rcases List.mem_append.mp hp with hp | hp
                · exact .tail _ (hs9 p (.tail _ (.tail _ (subl _ (hnw p hp)))))
                · rcases List.mem_cons.mp hp with rfl | hp
                  · exact .head _
                  · rcases List.mem_cons.mp hp with rfl | hp
                    · exact .tail _ hm9
                    · exact .tail _ (hs9 p (.tail _ (.tail _ (List.mem_append.mpr (.inr hp)))))
              · rcases List.mem_cons.mp hp with rfl | hp
                · exact hzn q hq
                · exact hord q (hnw q hq) p hp
      · rw [if_neg hg] at hret
        by_cases hall : os.all Op.isNum = true
        · have hy0 : ys.length = 0 := hys.mpr hall
          have hd1 : 0 ≤ sp.count := by
            by_cases h9 : 0 ≤ sp.count
            · exact h9
            · exact absurd ⟨fun h => absurd h h9, hall⟩ hg
          have hd2 : ¬ (us.toArray.size : Int) = sp.count := fun h9 => hg ⟨fun _ => by rw [hsz] at h9; exact h9.symm, hall⟩
          k_steps
          all_goals first
            | (exfalso; omega)
            | exact hret _ [] _ _ (by k_asm) (led0 (cb_drop (by k_asm) (by k_sub))) ord0 (.inl ⟨rfl, rfl⟩)
        · have hy0 : 0 < ys.length := Nat.pos_of_ne_zero fun h9 => hall (hys.mp h9)
          k_steps
          exact hret _ [] _ _ (by k_asm) (led0 (cb_drop (by k_asm) (by k_sub))) ord0 (.inl ⟨rfl, rfl⟩)
end Mine
end
section
open PySem PySem.W PyProof.Rows PySem.Calls
namespace Mine

theorem rowsC7a : True := by
  k_with_none
  k_with "k_sub" => k_of "#h" => (intro p' hp'; first | exact hp' | exact List.Mem.tail _ hp' | ((simp only [List.cons_append, List.nil_append, List.append_nil, List.mem_cons, List.mem_append] at hp' ⊢); revert hp'; ((repeat' (refine or_imp.mpr (And.intro ?_ ?_))) <;> (intro hp'; simp only [hp', true_or, or_true]))))
  k_with "k_room" => k_of "#h" => ((try simp only [depth_mark, depth_under_make, depth_under_kw, depth_in1, depth_deeper, depth_caller, recursionLimit]); (try dsimp only [ktrTop]); omega)
  k_with "k_units" => k_of "#h" => ((have hcL9' := cLine_is); (try simp only [units_in1, units_deeper, Around.mark_units, units_caller]); (try dsimp only [ktrTop]); omega)
  k_with "@exec While BoolOp" => k_of "#h" => (k_here; k_dflt (refine whl_start 100 ?_))
  k_with "ktr_rel" => k_of "#h" => first | assumption | exact OpAt.int | exact OpAt.mono (by assumption) (by k_sub) | exact AllOp.mono (by assumption) (by k_sub) | exact List.Mem.tail _ (by assumption) | exact List.Mem.tail _ (List.Mem.tail _ (by assumption)) | exact subl _ (by assumption) | exact List.Mem.tail _ (subl _ (by assumption)) | exact mem_of_sub (by assumption) (by k_sub) | k_mem
  k_with "@call ref" => k_of "#h" => (k_here; k_dflt (refine' says_use (f := 180) (s_decimal_of _ _ _ _ ?hv' ?hn') ?B' ?F' ?X' ?N' ?T' ?hk' ?hd' ?hu' ?_ ?_; (case B' => k_asm); (case F' => k_asm); (case X' => k_asm); (case N' => k_asm); (case T' => k_asm); (case hk' => first | exact rfl | assumption); (case hd' => first | ((try dsimp only [Around.deeper]); omega) | decide); (case hu' => first | ((try dsimp only [Around.deeper]); omega) | decide); (case hv' => ktr_rel); (case hn' => first | assumption | rfl)); rotate_left; (intro _ _ _ _ hx'; exact hx'.elim); (intro r' tl' h' tk' F' N' o' ho'; (try k_sweep)))
  trivial

theorem s_first_colour (w : World) (news : List (Addr × Obj)) (k : Tok) :
    Says w 20 382 [.str (Str.ofString "DeviceGray") k] news (fun tl r => ColAt w [] tl r .gray [.dec 0 0]) False := by
  unfold Says
  intro mean mg mb dp un gd cn cs a ccd cl outer A₀ base h₀ L m s Q E B F X N T hk hdp hun hret hexc
  refine wpAny_call ?_
  k_dflt ktr_enter
  k_steps

  rename_i r' tl h1 tk1 o1 ho1 h2 tk2 D1 h3 lt1 D2 h4 F1 N1 lt2 kF kN Tc kX
  rcases ho1 with ho1 | ⟨_, _, h9⟩
  · exact hret _ ((D2, tupOf [.str (Str.ofString "DeviceGray") k, .ref D1]) :: (D1, tupOf [r']) :: tl) _ _ kF (cb_drop kN (by k_sub)) (ord_lt (ltq lt2.2 (by k_sub)) (ord_lt (ltq2 lt1 (by k_sub)) o1)) ⟨D2, D1, [r'], k, rfl, .head _, .tail _ (.head _), .cons (ho1.mono fun p hp => .tail _ (.tail _ hp)) .nil⟩
  · cases h9
theorem rowsC7b : True := by
  k_with "@call ref" => k_of "#h" => (k_here; k_dflt (refine' says_use (f := 354) (s_identity _ _) ?B' ?F' ?X' ?N' ?T' ?hk' ?hd' ?hu' ?_ ?_; (case B' => k_asm); (case F' => k_asm); (case X' => k_asm); (case N' => k_asm); (case T' => k_asm); (case hk' => first | exact rfl | assumption); (case hd' => first | ((try dsimp only [Around.deeper]); omega) | decide); (case hu' => first | ((try dsimp only [Around.deeper]); omega) | decide); skip); rotate_left; (intro _ _ _ _ hx'; exact hx'.elim); (intro r' tl' h' tk' F' N' o' ho'; subst ho'; (try simp only [List.append_nil] at N'); (try k_sweep); clear o'))
  k_with "@call ref" => k_of "#h" => (k_here; k_dflt (refine' says_use (f := 389) (s_first_values _ _) ?B' ?F' ?X' ?N' ?T' ?hk' ?hd' ?hu' ?_ ?_; (case B' => k_asm); (case F' => k_asm); (case X' => k_asm); (case N' => k_asm); (case T' => k_asm); (case hk' => first | exact rfl | assumption); (case hd' => first | ((try dsimp only [Around.deeper]); omega) | decide); (case hu' => first | ((try dsimp only [Around.deeper]); omega) | decide); skip); rotate_left; (intro _ _ _ _ hx'; exact hx'.elim); (intro r' tl' h' tk' F' N' o' ho'; subst ho'; (try simp only [List.append_nil] at N'); (try k_sweep); clear o'))
  k_with "@call ref" => k_of "#h" => (k_here; k_dflt (refine' says_use (f := 382) (s_first_colour _ _ _) ?B' ?F' ?X' ?N' ?T' ?hk' ?hd' ?hu' ?_ ?_; (case B' => k_asm); (case F' => k_asm); (case X' => k_asm); (case N' => k_asm); (case T' => k_asm); (case hk' => first | exact rfl | assumption); (case hd' => first | ((try dsimp only [Around.deeper]); omega) | decide); (case hu' => first | ((try dsimp only [Around.deeper]); omega) | decide); skip); rotate_left; (intro _ _ _ _ hx'; exact hx'.elim); (intro r' tl' h' tk' F' N' o' ho'; (try k_sweep)))
  trivial

theorem ColAt.mono {w : World} {n₀ tl tl' : List (Addr × Obj)} {r : Value} {sp : Sp} {parts : List Op} (h : ColAt w n₀ tl r sp parts) (k : ∀ p ∈ tl, p ∈ tl') : ColAt w n₀ tl' r sp parts :=
  let ⟨a, b, rs, t, e, ha, hb, hp⟩ := h
  ⟨a, b, rs, t, e, k _ ha, k _ hb, hp.mono fun p hp => (List.mem_append.mp hp).elim (fun h => List.mem_append.mpr (.inl h)) fun h => List.mem_append.mpr (.inr (k p h))⟩
theorem tl_state {h₀ h : Heap} {L x d D0 : Addr} {ox od o0 : Obj} {news tl1 tl2 : List (Addr × Obj)} (N : News h₀ L h ((x, ox) :: (d, od) :: (((D0, o0) :: news ++ tl1) ++ tl2))) : News h₀ L h (news ++ ((d, od) :: (x, ox) :: (tl1 ++ tl2))) := fun p hp => N p (by
  simp only [List.mem_append, List.mem_cons] at hp ⊢
  rcases hp with h | h | h | h | h <;> simp [h])
theorem s_first_state (w : World) (news : List (Addr × Obj)) :
    Says w 40 397 [] news (fun tl r => ∃ a d k1 k2 k3 k4 k5 v1 v2 f g v5 tl0, tl = (d, dictOf [ent w "matrix" k1 v1, ent w "clips" k2 v2, ent w "fill" k3 f, ent w "stroke" k4 g, ent w "values" k5 v5] 5) :: (a, instObj 371 d) :: tl0 ∧ r = .ref a ∧ (∀ p ∈ (a, instObj 371 d) :: tl0, p.1 ≠ d) ∧ ColAt w [] tl0 f .gray [.dec 0 0] ∧ ColAt w [] tl0 g .gray [.dec 0 0]) False := by
  unfold Says
  intro mean mg mb dp un gd cn cs a ccd cl outer A₀ base h₀ L m s Q E B F X N T hk hdp hun hret hexc
  k_steps

  refine wpAny_call ?_
  k_dflt (refine' code_def ?k1 ?k2 ?k3 ?k4 ?k5 ?kA ?kF ?kK ?k6 ?k7 ?k8 ?k9 ?kB ?_ ?c2 ?c3 ?c4 ?c5; (case kA => exact rfl); (case kF => exact rfl); (case kK => assumption); (case k1 => k_asm); (case k2 => k_asm); (case k3 => k_asm); (case k4 => k_asm); (case k5 => k_asm); (case k6 => k_is); (case k7 => k_is); (case k8 => ktr_room); (case k9 => exact binds_K (by k_in) rfl (by k_is) rfl rfl rfl); (case c5 => decide); (case kB => exact locs rfl); (case c2 => exact rfl); (case c3 => exact rfl); (case c4 => exact rfl); k_whole; intro g' L' h' FG' F' N' B' X' T'; (try dsimp only); (try k_fold))
  k_steps
  rename_i D0 ha l0 rf tl1 hb tkb o1 c1 rg tl2 hcc tkc o2 c2 rv hd' tkd x9 d9 he F7 N7 l9 l8 g7 L7 hf FG7 B7 X7 T7 h4 h3 h2 h1 h0' F8 N8 kF8 kN8 Tc8 kX8 kF kN Tc kX
  have hdl : ∀ q ∈ news, q.1 < d9 := fun q hq => l9 q (List.mem_append.mpr (.inl (List.mem_append.mpr (.inl (.tail _ hq)))))
  have hdn : ∀ p ∈ tl1 ++ tl2, p.1 < d9 := fun p hp => l9 p ((List.mem_append.mp hp).elim (fun h => List.mem_append.mpr (.inl (List.mem_append.mpr (.inr h)))) fun h => List.mem_append.mpr (.inr h))
  exact hret _ _ _ _ kF (tl_state kN) (ord_lt hdl (ord_lt (fun q hq => Nat.lt_trans (hdl q hq) l8) fun q hq p hp => (List.mem_append.mp hp).elim (fun h => o1 q (.tail _ hq) p h) fun h => o2 q (List.mem_append.mpr (.inl (.tail _ hq))) p h))
    ⟨_, _, _, _, _, _, _, _, _, _, _, _, _, rfl, rfl, fun p hp => (List.mem_cons.mp hp).elim (fun e => e ▸ Nat.ne_of_gt l8) fun h => Nat.ne_of_lt (hdn p h), c1.mono fun p hp => List.mem_append.mpr (.inl hp), c2.mono fun p hp => List.mem_append.mpr (.inr hp)⟩
end Mine
end
section
open PySem PySem.W PyProof.Rows PySem.Calls
namespace Mine


/-- a call that changes what is in the ledger: Out of the ledger after it and of its answer -/
def SaysG (w : World) (D : Nat) (f : Addr) (vs : List Value) (news keep : List (Addr × Obj)) (Out : List (Addr × Obj) → Value → Prop) (Exc : Prop) : Prop :=
  ∀ (mean : ExcName → Option Value) (mg mb : Str → Option Value) (dp un : Nat) (gd : Option (List Code)) (cn : Str) (cs : Scope) (a : Addr) (ccd : Value) (cl : List (Str × Addr)) (outer : List Env) (A₀ : Around) (base h₀ : Heap) (L : Addr) (m : Str → Option Value) (s : Shared) (Q E : Value → Shared → Prop),
    Below A₀ base outer h₀ → Fr h₀ L s.heap m → (hd.heap_39 w.params).In h₀ → News h₀ L s.heap news → Top hd.view_39 (looseW hd.view_39 [Str.ofString "PaperError", Str.ofString "first_state"]) mean mg mb h₀ → cs.kind = .function →
    dp + D ≤ 500 → un + 10 * D ≤ 2000 →
    (∀ r news' h' tk', Fr h₀ L h' m → News h₀ L h' news' → Out news' r → Q r { s with heap := h', toks := tk' }) →
    (∀ e g₂ h' tk', Exc → Fr h₀ L g₂ m → RaisedN base (envX cn cs L a ccd cl :: outer) e (.ref 59) keep h' → g₂.UpToSlots h' → E (.ref e) { s with heap := h', toks := tk' }) →
    wpAny (model PySem.Challenge.rw_og0172_01.row.prog w) (ktrTop dp un gd cn cs L a ccd cl outer) (call (.ref f) vs) Q E s
abbrev stD (w : World) (k1 k2 k3 k4 k5 : Tok) (v1 v2 f g v5 : Value) (n : Nat) : Obj := dictOf [ent w "matrix" k1 v1, ent w "clips" k2 v2, ent w "fill" k3 f, ent w "stroke" k4 g, ent w "values" k5 v5] n

theorem my_front {h₀ h : Heap} {L d : Addr} {x y z : Addr × Obj} {od : Obj} {rest tl : List (Addr × Obj)} (N : News h₀ L h ((x :: y :: z :: (d, od) :: rest) ++ tl)) : News h₀ L h ((d, od) :: z :: (rest ++ tl)) := fun p hp => N p (by
  simp only [List.mem_append, List.mem_cons] at hp ⊢
  rcases hp with h | h | h | h <;> simp [h])
theorem my_ne {d st : Addr} {x y : Addr × Obj} {os od : Obj} {rest tl : List (Addr × Obj)} (hne : ∀ p ∈ rest, p.1 ≠ d) (hst : (st, os) ∈ rest) (o : ∀ q ∈ x :: y :: (st, os) :: (d, od) :: rest, ∀ p ∈ tl, q.1 ≠ p.1) : ∀ p ∈ (st, os) :: (rest ++ tl), p.1 ≠ d := fun p hp => by
  rcases List.mem_cons.mp hp with rfl | hp
  · exact hne _ hst
  · rcases List.mem_append.mp hp with hp | hp
    · exact hne p hp
    · exact Ne.symm (o (d, od) (.tail _ (.tail _ (.tail _ (.head _)))) p hp)
theorem rowsC8a : True := by
  k_with_none
  k_with "k_sub" => k_of "#h" => (intro p' hp'; first | exact hp' | exact List.Mem.tail _ hp' | ((simp only [List.cons_append, List.nil_append, List.append_nil, List.mem_cons, List.mem_append] at hp' ⊢); revert hp'; ((repeat' (refine or_imp.mpr (And.intro ?_ ?_))) <;> (intro hp'; simp only [hp', true_or, or_true]))))
  k_with "k_room" => k_of "#h" => ((try simp only [depth_mark, depth_under_make, depth_under_kw, depth_in1, depth_deeper, depth_caller, recursionLimit]); (try dsimp only [ktrTop]); omega)
  k_with "k_units" => k_of "#h" => ((have hcL9' := cLine_is); (try simp only [units_in1, units_deeper, Around.mark_units, units_caller]); (try dsimp only [ktrTop]); omega)
  k_with "@exec While BoolOp" => k_of "#h" => (k_here; k_dflt (refine whl_start 100 ?_))
  k_with "ktr_rel" => k_of "#h" => first | assumption | exact OpAt.int | exact OpAt.mono (by assumption) (by k_sub) | exact AllOp.mono (by assumption) (by k_sub) | exact List.Mem.tail _ (by assumption) | exact List.Mem.tail _ (List.Mem.tail _ (by assumption)) | exact subl _ (by assumption) | exact List.Mem.tail _ (subl _ (by assumption)) | exact mem_of_sub (by assumption) (by k_sub) | k_mem
  k_with "@setAttr ref" => k_of "#h" => (k_here; (rename News _ _ _ _ => lN'); (have lN9' := my_front lN'); k_dflt (refine' set_dict ?k1' ?k2' lN9' ?k4' ?k5' ?k6' ?k7' ?k8' ?k9' ?k10' ?k11' ?k12' ?k13' ?_; (case k1' => k_asm); (case k2' => k_asm); (case k4' => k_inst); (case k5' => exact rfl); (case k6' => k_is); (case k7' => k_is); (case k8' => k_is); (case k9' => k_is); (case k10' => k_get); (case k11' => k_put); (case k12' => exact Upd.head (my_ne (by assumption) (by assumption) (by assumption))); (case k13' => exact Nat.le_of_ble_eq_true rfl); k_whole; intro h' F' N'; (try k_sweep)))
  k_with "@call ref" => k_of "#h" => (k_here; k_dflt (refine' says_use (f := 430) (s_own_colour _ _ .gray _ _ _ _ _ ?hl' _ ?hsub' ?hops' ?hlen' ?hnt' ?hfine') ?B' ?F' ?X' ?N' ?T' ?hk' ?hd' ?hu' ?_ ?_; (case B' => k_asm); (case F' => k_asm); (case X' => k_asm); (case N' => k_asm); (case T' => k_asm); (case hk' => first | exact rfl | assumption); (case hd' => first | ((try dsimp only [Around.deeper]); omega) | decide); (case hu' => first | ((try dsimp only [Around.deeper]); omega) | decide); (case hl' => ktr_rel); (case hops' => assumption); (case hsub' => first | assumption | exact fun _ h => h | k_sub); (case hlen' => omega); (case hnt' => assumption); (case hfine' => assumption)); (intro r' tl' h' tk' F' N' o' ho'; (try k_sweep)); rotate_left; (intro e' g' h' tk' x' F' R' U'))
  trivial

theorem s_set_gray (w : World) (rest : List (Addr × Obj)) (st d : Addr) (k1 k2 k3 k4 k5 : Tok) (v1 v2 v5 : Value) (fa ga : Addr) (kw : Tok) (l : Addr) (vs : List Value) (n : Nat) (ops : List Op) (hst : (st, instObj 371 d) ∈ rest) (hne : ∀ p ∈ rest, p.1 ≠ d) (hl : (l, listOf vs.toArray n) ∈ rest) (n₀ : List (Addr × Obj)) (hsub : ∀ p ∈ n₀, p ∈ rest) (hops : AllOp w n₀ vs ops) (hlen : ops.length ≤ 100) (hnt : ∀ o ∈ ops, ∀ x, o ≠ .text x) (hfine : ∀ o ∈ ops, o.fine) :
    SaysG w 80 437 [.ref st, .str (Str.ofString "g") kw, .ref l] ((d, stD w k1 k2 k3 k4 k5 v1 v2 (.ref fa) (.ref ga) v5 5) :: rest) rest (fun news' r => r = .none ∧ ∃ parts tl c n', ownSpec .gray ops = some parts ∧ news' = (d, stD w k1 k2 k3 k4 k5 v1 v2 c (.ref ga) v5 n') :: (rest ++ tl) ∧ (∀ q ∈ rest, ∀ p ∈ tl, q.1 ≠ p.1) ∧ (∀ p ∈ tl, p.1 ≠ d) ∧ ColAt w n₀ tl c .gray parts) (ownSpec .gray ops = none) := by
  unfold SaysG
  intro mean mg mb dp un gd cn cs a ccd cl outer A₀ base h₀ L m s Q E B F X N T hk hdp hun hret hexc
  dsimp only [stD] at N
  replace N := addN (.tail _ hst) N
  refine wpAny_call ?_
  k_dflt ktr_enter
  k_steps
  · exact hexc _ _ _ _ (by assumption) (by k_asm) (raised_sub (by assumption) (by k_sub)) (by assumption)
  · rename (∃ parts, ownSpec _ _ = some parts ∧ _) => hp9
    rename (∀ (q : Addr × Obj), q ∈ _ → ∀ (p : Addr × Obj), p ∈ _ → q.1 ≠ p.1) => o9
    rename List (Addr × Obj) => tl9
    rename Value => r9
    obtain ⟨parts, hp1, hp2⟩ := hp9
    refine hret _ ((d, stD w k1 k2 k3 k4 k5 v1 v2 r9 (.ref ga) v5 5) :: (rest ++ tl9)) _ _ (by k_asm) (cb_drop (by k_asm) (by k_sub)) ⟨rfl, parts, tl9, r9, 5, hp1, rfl, fun q hq p hp => o9 q (.tail _ (.tail _ (.tail _ (.tail _ hq)))) p hp, fun p hp => Ne.symm (o9 _ (.tail _ (.tail _ (.tail _ (.head _)))) p hp), hp2⟩
theorem rowsC8b : True := by
  k_with "@call ref" => k_of "#h" => (k_here; k_dflt (refine' says_use (f := 430) (s_own_colour _ _ .rgb _ _ _ _ _ ?hl' _ ?hsub' ?hops' ?hlen' ?hnt' ?hfine') ?B' ?F' ?X' ?N' ?T' ?hk' ?hd' ?hu' ?_ ?_; (case B' => k_asm); (case F' => k_asm); (case X' => k_asm); (case N' => k_asm); (case T' => k_asm); (case hk' => first | exact rfl | assumption); (case hd' => first | ((try dsimp only [Around.deeper]); omega) | decide); (case hu' => first | ((try dsimp only [Around.deeper]); omega) | decide); (case hl' => ktr_rel); (case hops' => assumption); (case hsub' => first | assumption | exact fun _ h => h | k_sub); (case hlen' => omega); (case hnt' => assumption); (case hfine' => assumption)); (intro r' tl' h' tk' F' N' o' ho'; (try k_sweep)); rotate_left; (intro e' g' h' tk' x' F' R' U'))
  trivial

theorem s_set_rgb (w : World) (rest : List (Addr × Obj)) (st d : Addr) (k1 k2 k3 k4 k5 : Tok) (v1 v2 v5 : Value) (fa ga : Addr) (kw : Tok) (l : Addr) (vs : List Value) (n : Nat) (ops : List Op) (hst : (st, instObj 371 d) ∈ rest) (hne : ∀ p ∈ rest, p.1 ≠ d) (hl : (l, listOf vs.toArray n) ∈ rest) (n₀ : List (Addr × Obj)) (hsub : ∀ p ∈ n₀, p ∈ rest) (hops : AllOp w n₀ vs ops) (hlen : ops.length ≤ 100) (hnt : ∀ o ∈ ops, ∀ x, o ≠ .text x) (hfine : ∀ o ∈ ops, o.fine) :
    SaysG w 80 437 [.ref st, .str (Str.ofString "RG") kw, .ref l] ((d, stD w k1 k2 k3 k4 k5 v1 v2 (.ref fa) (.ref ga) v5 5) :: rest) rest (fun news' r => r = .none ∧ ∃ parts tl c n', ownSpec .rgb ops = some parts ∧ news' = (d, stD w k1 k2 k3 k4 k5 v1 v2 (.ref fa) c v5 n') :: (rest ++ tl) ∧ (∀ q ∈ rest, ∀ p ∈ tl, q.1 ≠ p.1) ∧ (∀ p ∈ tl, p.1 ≠ d) ∧ ColAt w n₀ tl c .rgb parts) (ownSpec .rgb ops = none) := by
  unfold SaysG
  intro mean mg mb dp un gd cn cs a ccd cl outer A₀ base h₀ L m s Q E B F X N T hk hdp hun hret hexc
  dsimp only [stD] at N
  replace N := addN (.tail _ hst) N
  refine wpAny_call ?_
  k_dflt ktr_enter
  k_steps
  · exact hexc _ _ _ _ (by assumption) (by k_asm) (raised_sub (by assumption) (by k_sub)) (by assumption)
  · rename (∃ parts, ownSpec _ _ = some parts ∧ _) => hp9
    rename (∀ (q : Addr × Obj), q ∈ _ → ∀ (p : Addr × Obj), p ∈ _ → q.1 ≠ p.1) => o9
    rename List (Addr × Obj) => tl9
    rename Value => r9
    obtain ⟨parts, hp1, hp2⟩ := hp9
    refine hret _ ((d, stD w k1 k2 k3 k4 k5 v1 v2 (.ref fa) r9 v5 5) :: (rest ++ tl9)) _ _ (by k_asm) (cb_drop (by k_asm) (by k_sub)) ⟨rfl, parts, tl9, r9, 5, hp1, rfl, fun q hq p hp => o9 q (.tail _ (.tail _ (.tail _ (.tail _ hq)))) p hp, fun p hp => Ne.symm (o9 _ (.tail _ (.tail _ (.tail _ (.head _)))) p hp), hp2⟩
theorem rowsC8c : True := by
  k_with "@call ref" => k_of "#h" => (k_here; k_dflt (refine' says_use (f := 430) (s_own_colour _ _ .cmyk _ _ _ _ _ ?hl' _ ?hsub' ?hops' ?hlen' ?hnt' ?hfine') ?B' ?F' ?X' ?N' ?T' ?hk' ?hd' ?hu' ?_ ?_; (case B' => k_asm); (case F' => k_asm); (case X' => k_asm); (case N' => k_asm); (case T' => k_asm); (case hk' => first | exact rfl | assumption); (case hd' => first | ((try dsimp only [Around.deeper]); omega) | decide); (case hu' => first | ((try dsimp only [Around.deeper]); omega) | decide); (case hl' => ktr_rel); (case hops' => assumption); (case hsub' => first | assumption | exact fun _ h => h | k_sub); (case hlen' => omega); (case hnt' => assumption); (case hfine' => assumption)); (intro r' tl' h' tk' F' N' o' ho'; (try k_sweep)); rotate_left; (intro e' g' h' tk' x' F' R' U'))
  trivial

theorem s_set_cmyk (w : World) (rest : List (Addr × Obj)) (st d : Addr) (k1 k2 k3 k4 k5 : Tok) (v1 v2 v5 : Value) (fa ga : Addr) (kw : Tok) (l : Addr) (vs : List Value) (n : Nat) (ops : List Op) (hst : (st, instObj 371 d) ∈ rest) (hne : ∀ p ∈ rest, p.1 ≠ d) (hl : (l, listOf vs.toArray n) ∈ rest) (n₀ : List (Addr × Obj)) (hsub : ∀ p ∈ n₀, p ∈ rest) (hops : AllOp w n₀ vs ops) (hlen : ops.length ≤ 100) (hnt : ∀ o ∈ ops, ∀ x, o ≠ .text x) (hfine : ∀ o ∈ ops, o.fine) :
    SaysG w 80 437 [.ref st, .str (Str.ofString "k") kw, .ref l] ((d, stD w k1 k2 k3 k4 k5 v1 v2 (.ref fa) (.ref ga) v5 5) :: rest) rest (fun news' r => r = .none ∧ ∃ parts tl c n', ownSpec .cmyk ops = some parts ∧ news' = (d, stD w k1 k2 k3 k4 k5 v1 v2 c (.ref ga) v5 n') :: (rest ++ tl) ∧ (∀ q ∈ rest, ∀ p ∈ tl, q.1 ≠ p.1) ∧ (∀ p ∈ tl, p.1 ≠ d) ∧ ColAt w n₀ tl c .cmyk parts) (ownSpec .cmyk ops = none) := by
  unfold SaysG
  intro mean mg mb dp un gd cn cs a ccd cl outer A₀ base h₀ L m s Q E B F X N T hk hdp hun hret hexc
  dsimp only [stD] at N
  replace N := addN (.tail _ hst) N
  refine wpAny_call ?_
  k_dflt ktr_enter
  k_steps
  · exact hexc _ _ _ _ (by assumption) (by k_asm) (raised_sub (by assumption) (by k_sub)) (by assumption)
  · rename (∃ parts, ownSpec _ _ = some parts ∧ _) => hp9
    rename (∀ (q : Addr × Obj), q ∈ _ → ∀ (p : Addr × Obj), p ∈ _ → q.1 ≠ p.1) => o9
    rename List (Addr × Obj) => tl9
    rename Value => r9
    obtain ⟨parts, hp1, hp2⟩ := hp9
    refine hret _ ((d, stD w k1 k2 k3 k4 k5 v1 v2 r9 (.ref ga) v5 5) :: (rest ++ tl9)) _ _ (by k_asm) (cb_drop (by k_asm) (by k_sub)) ⟨rfl, parts, tl9, r9, 5, hp1, rfl, fun q hq p hp => o9 q (.tail _ (.tail _ (.tail _ (.tail _ hq)))) p hp, fun p hp => Ne.symm (o9 _ (.tail _ (.tail _ (.tail _ (.head _)))) p hp), hp2⟩
end Mine
end
section
open PySem PySem.W PyProof.Rows PySem.Calls
namespace Mine

theorem rowsC9a : True := by
  k_with_none
  k_with "k_sub" => k_of "#h" => (intro p' hp'; first | exact hp' | exact List.Mem.tail _ hp' | ((simp only [List.cons_append, List.nil_append, List.append_nil, List.mem_cons, List.mem_append] at hp' ⊢); revert hp'; ((repeat' (refine or_imp.mpr (And.intro ?_ ?_))) <;> (intro hp'; simp only [hp', true_or, or_true]))))
  k_with "k_room" => k_of "#h" => ((try simp only [depth_mark, depth_under_make, depth_under_kw, depth_in1, depth_deeper, depth_caller, recursionLimit]); (try dsimp only [ktrTop]); omega)
  k_with "k_units" => k_of "#h" => ((have hcL9' := cLine_is); (try simp only [units_in1, units_deeper, Around.mark_units, units_caller]); (try dsimp only [ktrTop]); omega)
  k_with "@exec While BoolOp" => k_of "#h" => (k_here; k_dflt (refine whl_start 100 ?_))
  k_with "ktr_rel" => k_of "#h" => first | assumption | exact OpAt.int | exact OpAt.mono (by assumption) (by k_sub) | exact AllOp.mono (by assumption) (by k_sub) | exact List.Mem.tail _ (by assumption) | exact List.Mem.tail _ (List.Mem.tail _ (by assumption)) | exact subl _ (by assumption) | exact List.Mem.tail _ (subl _ (by assumption)) | exact mem_of_sub (by assumption) (by k_sub) | k_mem
  k_with "@call builtin:len" => k_of "#h" => (k_here; k_dflt (refine' PyProof.Rows.len_list (isList_of ?N' ?m') ?f' ?_; (case N' => k_asm); (case m' => first | ktr_rel | k_mem); (case f' => (simp only [List.size_toArray]; omega))))
  k_with "k_upd" => k_of "#h" => exact Upd.head (by assumption)
  k_with "@subscriptTail" => k_of "#h" => (k_here; (with_reducible show wpAny _ _ (subscriptTail _ _ (Value.ref _) (Value.int _ _)) _ _ _); k_dflt (refine' item_list_ints ?l' ?i' ?a' ?b' ?c' ?_ ?s' ?g'; (case i' => assumption); (case l' => exact isList_of (by k_asm) (by ktr_rel)); (case a' => omega); (case b' => omega); (case c' => omega); (case s' => with_unfolding_all rfl); (case g' => intro _; with_unfolding_all rfl)); intro t')
  trivial

theorem s_law_draw (w : World) (rest : List (Addr × Obj)) (p c : Addr) (cells : List Value) (cn n : Nat) (g s1 pl most : Int) (kg ks kp km : Tok) (hne : ∀ q ∈ rest, q.1 ≠ p) (hc : (c, listOf cells.toArray cn) ∈ rest) (ics : List Int) (hi : IntsAre cells ics) (hcl : cells.length ≤ 40) (hg : 0 ≤ g) (hs0 : 0 ≤ s1) (hs1 : s1 < 2147483647) (hp0 : 0 ≤ pl) (hp1 : pl ≤ 1000) (hm0 : 0 < most) (hm1 : most ≤ 10) :
    SaysG w 20 449 [.ref p, .int most km] ((p, listOf [.ref c, .int g kg, .int s1 ks, .int pl kp].toArray n) :: rest) rest (fun news' r => ∃ d kd s2 ks2 kp2 g2 kg2 n', r = .int d kd ∧ 0 ≤ d ∧ d < most ∧ 0 ≤ s2 ∧ s2 < 2147483647 ∧ 0 ≤ g2 ∧ news' = (p, listOf [.ref c, .int g2 kg2, .int s2 ks2, .int (pl + 1) kp2].toArray n') :: rest) False := by
  have hil : ics.length = cells.length := by have := hi.length; omega
  have hsz : cells.toArray.size = cells.length := List.size_toArray
  unfold SaysG
  intro mean mg mb dp un gd cn cs a ccd cl outer A₀ base h₀ L m s Q E B F X N T hk hdp hun hret hexc
  refine wpAny_call ?_
  k_dflt ktr_enter
  k_steps
  all_goals first
    | exact hret _ _ _ _ (by k_asm) (by k_asm) ⟨_, _, _, _, _, _, _, _, rfl, Int.fmod_nonneg_of_pos _ hm0, Int.fmod_lt_of_pos _ hm0, Int.fmod_nonneg_of_pos _ (by decide), Int.fmod_lt_of_pos _ (by decide), hg, rfl⟩
    | exact hret _ _ _ _ (by k_asm) (by k_asm) ⟨_, _, _, _, _, _, _, _, rfl, Int.fmod_nonneg_of_pos _ hm0, Int.fmod_lt_of_pos _ hm0, hs0, hs1, Int.fdiv_nonneg hg (Int.le_of_lt hm0), rfl⟩
    | trace_state
end Mine
end
section
open PySem PySem.W PyProof.Rows PySem.Calls
namespace Mine


theorem saysG_use {w : World} {D : Nat} {f : Addr} {vs : List Value} {news keep : List (Addr × Obj)} {Out : List (Addr × Obj) → Value → Prop} {Exc : Prop}
    {mean : ExcName → Option Value} {mg mb : Str → Option Value} {dp un : Nat} {gd : Option (List Code)} {cn : Str} {cs : Scope} {a : Addr} {ccd : Value} {cl : List (Str × Addr)} {outer : List Env} {A₀ : Around} {base h₀ : Heap} {L : Addr} {m : Str → Option Value} {s : Shared} {Q E : Value → Shared → Prop}
    (C : SaysG w D f vs news keep Out Exc) (B : Below A₀ base outer h₀) (F : Fr h₀ L s.heap m) (X : (hd.heap_39 w.params).In h₀) (N : News h₀ L s.heap news) (T : Top hd.view_39 (looseW hd.view_39 [Str.ofString "PaperError", Str.ofString "first_state"]) mean mg mb h₀) (hk : cs.kind = .function)
    (hdp : dp + D ≤ 500) (hun : un + 10 * D ≤ 2000)
    (ret : ∀ r news' h' tk', Fr h₀ L h' m → News h₀ L h' news' → Out news' r → Q r { s with heap := h', toks := tk' })
    (exc : ∀ e g₂ h' tk', Exc → Fr h₀ L g₂ m → RaisedN base (envX cn cs L a ccd cl :: outer) e (.ref 59) keep h' → g₂.UpToSlots h' → E (.ref e) { s with heap := h', toks := tk' }) :
    wpAny (model PySem.Challenge.rw_og0172_01.row.prog w) (ktrTop dp un gd cn cs L a ccd cl outer) (call (.ref f) vs) Q E s :=
  C _ _ _ _ _ _ _ _ _ _ _ _ _ _ _ _ _ _ _ _ B F X N T hk hdp hun ret exc
theorem rowsC10a : True := by
  k_with_none
  k_with "k_sub" => k_of "#h" => (intro p' hp'; first | exact hp' | exact List.Mem.tail _ hp' | ((simp only [List.cons_append, List.nil_append, List.append_nil, List.mem_cons, List.mem_append] at hp' ⊢); revert hp'; ((repeat' (refine or_imp.mpr (And.intro ?_ ?_))) <;> (intro hp'; simp only [hp', true_or, or_true]))))
  k_with "k_room" => k_of "#h" => ((try simp only [depth_mark, depth_under_make, depth_under_kw, depth_in1, depth_deeper, depth_caller, recursionLimit]); (try dsimp only [ktrTop]); omega)
  k_with "k_units" => k_of "#h" => ((have hcL9' := cLine_is); (try simp only [units_in1, units_deeper, Around.mark_units, units_caller]); (try dsimp only [ktrTop]); omega)
  k_with "@exec While BoolOp" => k_of "#h" => (k_here; k_dflt (refine whl_start 100 ?_))
  k_with "ktr_rel" => k_of "#h" => first | assumption | exact OpAt.int | exact OpAt.mono (by assumption) (by k_sub) | exact AllOp.mono (by assumption) (by k_sub) | exact List.Mem.tail _ (by assumption) | exact List.Mem.tail _ (List.Mem.tail _ (by assumption)) | exact subl _ (by assumption) | exact List.Mem.tail _ (subl _ (by assumption)) | exact mem_of_sub (by assumption) (by k_sub) | k_mem
  k_with "@call ref" => k_of "#h" => (k_here; k_dflt (refine' saysG_use (f := 449) (s_law_draw _ _ _ _ _ _ _ _ _ _ _ _ _ _ _ ?hne' ?hc' _ ?hi' ?hcl' ?hg' ?hs0' ?hs1' ?hp0' ?hp1' ?hm0' ?hm1') ?B' ?F' ?X' ?N' ?T' ?hk' ?hd' ?hu' ?_ ?_; (case B' => k_asm); (case F' => k_asm); (case X' => k_asm); (case N' => k_asm); (case T' => k_asm); (case hk' => first | exact rfl | assumption); (case hd' => first | ((try dsimp only [Around.deeper]); omega) | decide); (case hu' => first | ((try dsimp only [Around.deeper]); omega) | decide); (case hne' => assumption); (case hc' => assumption); (case hi' => assumption); (case hcl' => omega); (case hg' => omega); (case hs0' => omega); (case hs1' => omega); (case hp0' => omega); (case hp1' => omega); (case hm0' => omega); (case hm1' => omega)); rotate_left; (intro _ _ _ _ hx'; exact hx'.elim); (intro r' nw' h' tk' F' N' ho'; (obtain ⟨d', kd', s2', ks2', kp2', g2', kg2', n2', e1', hd0', hd1', hs0', hs1', hg0', e2'⟩ := ho'); subst e1'; subst e2'; (try k_sweep)))
  trivial

theorem op_news2 {h₀ h : Heap} {L : Addr} {a b p : Addr × Obj} {rest : List (Addr × Obj)} (N : News h₀ L h (a :: b :: p :: rest)) : News h₀ L h (p :: (rest ++ [a, b])) := fun q hq => N q (by
  simp only [List.mem_cons, List.mem_append, List.not_mem_nil, or_false] at hq ⊢
  rcases hq with h | h | h | h <;> simp only [h, true_or, or_true])
theorem op_news7 {h₀ h : Heap} {L : Addr} {a b c d e f g p : Addr × Obj} {rest : List (Addr × Obj)} (N : News h₀ L h (a :: b :: c :: d :: e :: f :: g :: p :: rest)) : News h₀ L h (p :: (rest ++ [a, b, c, d, e, f, g])) := fun q hq => N q (by
  simp only [List.mem_cons, List.mem_append, List.not_mem_nil, or_false] at hq ⊢
  rcases hq with h | h | h | h | h | h | h | h | h <;> simp only [h, true_or, or_true])
theorem op_six {d : Int} (h8 : d < 8) (h0 : 0 ≤ d) (h6 : d ≠ 6) (h7 : d ≠ 7) : d = 0 ∨ d = 1 ∨ d = 2 ∨ d = 3 ∨ d = 4 ∨ d = 5 := by omega
theorem op_off {p d : Addr} {rest tl : List (Addr × Obj)} (h : p < d ∧ AllLt d rest) (k : ∀ x ∈ tl, @LE.le Nat _ d x.1) : (∀ q ∈ rest, ∀ x ∈ tl, q.1 ≠ x.1) ∧ ∀ x ∈ tl, x.1 ≠ p :=
  ⟨fun q hq x hx => Nat.ne_of_lt (Nat.lt_of_lt_of_le (tb_ltOf h.2 q hq) (k x hx)), fun x hx => Ne.symm (Nat.ne_of_lt (Nat.lt_of_lt_of_le h.1 (k x hx)))⟩

theorem s_law_operand (w : World) (rest : List (Addr × Obj)) (p c : Addr) (cells : List Value) (cn n : Nat) (g s1 pl : Int) (kg ks kp : Tok) (hne : ∀ q ∈ rest, q.1 ≠ p) (hc : (c, listOf cells.toArray cn) ∈ rest) (ics : List Int) (hi : IntsAre cells ics) (hcl : cells.length ≤ 40) (hg : 0 ≤ g) (hs0 : 0 ≤ s1) (hs1 : s1 < 2147483647) (hp0 : 0 ≤ pl) (hp1 : pl ≤ 1000) :
    SaysG w 40 456 [.ref p] ((p, listOf [.ref c, .int g kg, .int s1 ks, .int pl kp].toArray n) :: rest) rest (fun news' r => ∃ o s2 ks2 kp2 g2 kg2 n' tl, OpAt w tl r o ∧ o.fine ∧ (∀ x, o ≠ .text x) ∧ (∀ x, o = .name x → PyData.strOk x = true) ∧ 0 ≤ s2 ∧ s2 < 2147483647 ∧ 0 ≤ g2 ∧ news' = (p, listOf [.ref c, .int g2 kg2, .int s2 ks2, .int (pl + 1) kp2].toArray n') :: (rest ++ tl) ∧ (∀ q ∈ rest, ∀ x ∈ tl, q.1 ≠ x.1) ∧ (∀ x ∈ tl, x.1 ≠ p)) False := by
  unfold SaysG
  intro mean mg mb dp un gd cn cs a ccd cl outer A₀ base h₀ L m s Q E B F X N T hk hdp hun hret hexc
  refine wpAny_call ?_
  k_dflt ktr_enter
  k_steps
  · rename (p < _ ∧ AllLt _ rest) => l9
    rename News h₀ L _ _ => N9
    exact hret _ _ _ _ (by k_asm) (op_news2 N9) ⟨.name (Str.ofString "P1"), _, _, _, _, _, _, _, .name (by repeat first | exact List.Mem.head _ | refine List.Mem.tail _ ?_) (by repeat first | exact List.Mem.head _ | refine List.Mem.tail _ ?_), trivial, (by intro x hx; cases hx), (by intro x hx; cases hx; first | done | decide +kernel), by assumption, by assumption, by assumption, rfl, op_off l9 (by simp only [List.forall_mem_cons]; exact ⟨by omega, by omega, fun _ h => nomatch h⟩)⟩
  · rename (p < _ ∧ AllLt _ rest) => l9
    rename News h₀ L _ _ => N9
    exact hret _ _ _ _ (by k_asm) (op_news2 N9) ⟨.str, _, _, _, _, _, _, _, .str (by repeat first | exact List.Mem.head _ | refine List.Mem.tail _ ?_) (by repeat first | exact List.Mem.head _ | refine List.Mem.tail _ ?_), trivial, (by intro x hx; cases hx), (by intro x hx; cases hx; first | done | decide +kernel), by assumption, by assumption, by assumption, rfl, op_off l9 (by simp only [List.forall_mem_cons]; exact ⟨by omega, by omega, fun _ h => nomatch h⟩)⟩
  · rename (_ < (8 : Int)) => hd8
    rename (p < _ ∧ AllLt _ rest) => l9
    rcases op_six hd8 (by assumption) (by assumption) (by assumption) with e | e | e | e | e | e
    · subst e
      k_steps
      rename News h₀ L _ _ => N9
      exact hret _ _ _ _ (by k_asm) (op_news7 N9) ⟨(.int 3), _, _, _, _, _, _, _, .int, ⟨by decide, by decide⟩, (by intro x hx; cases hx), (by intro x hx; cases hx; first | done | decide +kernel), by assumption, by assumption, by assumption, rfl, op_off l9 (by simp only [List.forall_mem_cons]; exact ⟨by omega, by omega, by omega, by omega, by omega, by omega, by omega, fun _ h => nomatch h⟩)⟩
    · subst e
      k_steps
      rename News h₀ L _ _ => N9
      exact hret _ _ _ _ (by k_asm) (op_news7 N9) ⟨(.int (-2)), _, _, _, _, _, _, _, .int, ⟨by decide, by decide⟩, (by intro x hx; cases hx), (by intro x hx; cases hx; first | done | decide +kernel), by assumption, by assumption, by assumption, rfl, op_off l9 (by simp only [List.forall_mem_cons]; exact ⟨by omega, by omega, by omega, by omega, by omega, by omega, by omega, fun _ h => nomatch h⟩)⟩
    · subst e
      k_steps
      rename News h₀ L _ _ => N9
      exact hret _ _ _ _ (by k_asm) (op_news7 N9) ⟨(.dec 7 1), _, _, _, _, _, _, _, (.dec (by repeat first | exact List.Mem.head _ | refine List.Mem.tail _ ?_) (by repeat first | exact List.Mem.head _ | refine List.Mem.tail _ ?_)), ⟨by decide, by decide, by decide⟩, (by intro x hx; cases hx), (by intro x hx; cases hx; first | done | decide +kernel), by assumption, by assumption, by assumption, rfl, op_off l9 (by simp only [List.forall_mem_cons]; exact ⟨by omega, by omega, by omega, by omega, by omega, by omega, by omega, fun _ h => nomatch h⟩)⟩
    · subst e
      k_steps
      rename News h₀ L _ _ => N9
      exact hret _ _ _ _ (by k_asm) (op_news7 N9) ⟨(.dec 125 2), _, _, _, _, _, _, _, (.dec (by repeat first | exact List.Mem.head _ | refine List.Mem.tail _ ?_) (by repeat first | exact List.Mem.head _ | refine List.Mem.tail _ ?_)), ⟨by decide, by decide, by decide⟩, (by intro x hx; cases hx), (by intro x hx; cases hx; first | done | decide +kernel), by assumption, by assumption, by assumption, rfl, op_off l9 (by simp only [List.forall_mem_cons]; exact ⟨by omega, by omega, by omega, by omega, by omega, by omega, by omega, fun _ h => nomatch h⟩)⟩
    · subst e
      k_steps
      rename News h₀ L _ _ => N9
      exact hret _ _ _ _ (by k_asm) (op_news7 N9) ⟨(.dec (-4) 3), _, _, _, _, _, _, _, (.dec (by repeat first | exact List.Mem.head _ | refine List.Mem.tail _ ?_) (by repeat first | exact List.Mem.head _ | refine List.Mem.tail _ ?_)), ⟨by decide, by decide, by decide⟩, (by intro x hx; cases hx), (by intro x hx; cases hx; first | done | decide +kernel), by assumption, by assumption, by assumption, rfl, op_off l9 (by simp only [List.forall_mem_cons]; exact ⟨by omega, by omega, by omega, by omega, by omega, by omega, by omega, fun _ h => nomatch h⟩)⟩
    · subst e
      k_steps
      rename News h₀ L _ _ => N9
      exact hret _ _ _ _ (by k_asm) (op_news7 N9) ⟨(.int 1), _, _, _, _, _, _, _, .int, ⟨by decide, by decide⟩, (by intro x hx; cases hx), (by intro x hx; cases hx; first | done | decide +kernel), by assumption, by assumption, by assumption, rfl, op_off l9 (by simp only [List.forall_mem_cons]; exact ⟨by omega, by omega, by omega, by omega, by omega, by omega, by omega, fun _ h => nomatch h⟩)⟩
end Mine
end
section
open PySem PySem.W PyProof.Rows PySem.Calls
namespace Mine


/-- as Says, the script read at the base heap -/
def SaysL (w : World) (D : Nat) (f : Addr) (sa : Addr) (items : List Value) (news : List (Addr × Obj)) (Out : List (Addr × Obj) → Value → Prop) : Prop :=
  ∀ (mean : ExcName → Option Value) (mg mb : Str → Option Value) (dp un : Nat) (gd : Option (List Code)) (cn : Str) (cs : Scope) (a : Addr) (ccd : Value) (cl : List (Str × Addr)) (outer : List Env) (A₀ : Around) (base h₀ : Heap) (L : Addr) (m : Str → Option Value) (s : Shared) (Q E : Value → Shared → Prop),
    Below A₀ base outer h₀ → Fr h₀ L s.heap m → (hd.heap_39 w.params).In h₀ → h₀.IsList sa items.toArray → News h₀ L s.heap news → Top hd.view_39 (looseW hd.view_39 [Str.ofString "PaperError", Str.ofString "first_state"]) mean mg mb h₀ → cs.kind = .function →
    dp + D ≤ 500 → un + 10 * D ≤ 2000 →
    (∀ r tl h' tk', Fr h₀ L h' m → News h₀ L h' (news ++ tl) → (∀ q ∈ news, ∀ p ∈ tl, q.1 ≠ p.1) → Out tl r → Q r { s with heap := h', toks := tk' }) →
    wpAny (model PySem.Challenge.rw_og0172_01.row.prog w) (ktrTop dp un gd cn cs L a ccd cl outer) (call (.ref f) [.ref sa]) Q E s

theorem saysL_use {w : World} {D : Nat} {f sa : Addr} {items : List Value} {news : List (Addr × Obj)} {Out : List (Addr × Obj) → Value → Prop}
    {mean : ExcName → Option Value} {mg mb : Str → Option Value} {dp un : Nat} {gd : Option (List Code)} {cn : Str} {cs : Scope} {a : Addr} {ccd : Value} {cl : List (Str × Addr)} {outer : List Env} {A₀ : Around} {base h₀ : Heap} {L : Addr} {m : Str → Option Value} {s : Shared} {Q E : Value → Shared → Prop}
    (C : SaysL w D f sa items news Out) (B : Below A₀ base outer h₀) (F : Fr h₀ L s.heap m) (X : (hd.heap_39 w.params).In h₀) (Ls : h₀.IsList sa items.toArray) (N : News h₀ L s.heap news) (T : Top hd.view_39 (looseW hd.view_39 [Str.ofString "PaperError", Str.ofString "first_state"]) mean mg mb h₀) (hk : cs.kind = .function)
    (hdp : dp + D ≤ 500) (hun : un + 10 * D ≤ 2000)
    (ret : ∀ r tl h' tk', Fr h₀ L h' m → News h₀ L h' (news ++ tl) → (∀ q ∈ news, ∀ p ∈ tl, q.1 ≠ p.1) → Out tl r → Q r { s with heap := h', toks := tk' }) :
    wpAny (model PySem.Challenge.rw_og0172_01.row.prog w) (ktrTop dp un gd cn cs L a ccd cl outer) (call (.ref f) [.ref sa]) Q E s :=
  C _ _ _ _ _ _ _ _ _ _ _ _ _ _ _ _ _ _ _ _ B F X Ls N T hk hdp hun ret
theorem rowsC11a : True := by
  k_with_none
  k_with "k_sub" => k_of "#h" => (intro p' hp'; first | exact hp' | exact List.Mem.tail _ hp' | ((simp only [List.cons_append, List.nil_append, List.append_nil, List.mem_cons, List.mem_append] at hp' ⊢); revert hp'; ((repeat' (refine or_imp.mpr (And.intro ?_ ?_))) <;> (intro hp'; simp only [hp', true_or, or_true]))))
  k_with "k_room" => k_of "#h" => ((try simp only [depth_mark, depth_under_make, depth_under_kw, depth_in1, depth_deeper, depth_caller, recursionLimit]); (try dsimp only [ktrTop]); omega)
  k_with "k_units" => k_of "#h" => ((have hcL9' := cLine_is); (try simp only [units_in1, units_deeper, Around.mark_units, units_caller]); (try dsimp only [ktrTop]); omega)
  k_with "@exec While BoolOp" => k_of "#h" => (k_here; k_dflt (refine whl_start 100 ?_))
  k_with "ktr_rel" => k_of "#h" => first | assumption | exact OpAt.int | exact OpAt.mono (by assumption) (by k_sub) | exact AllOp.mono (by assumption) (by k_sub) | exact List.Mem.tail _ (by assumption) | exact List.Mem.tail _ (List.Mem.tail _ (by assumption)) | exact subl _ (by assumption) | exact List.Mem.tail _ (subl _ (by assumption)) | exact mem_of_sub (by assumption) (by k_sub) | k_mem
  k_with "@exec Assign cons ListComp" => k_of "#h" => (k_here; k_dflt (refine LCg.Assign_ListComp_U (F₀ := by k_asm) (by rfl) (by with_unfolding_all rfl) (by with_unfolding_all rfl) (by decide) (by rfl) (by decide) (by rfl) (by rfl) (by rfl) ?_))
  k_with "@CompSrc" => k_of "#h" => (k_dflt (refine' LCg.CompSrc.ledger ?hh' ?F' ?N' ?m' ?z' ?_; (case hh' => rfl); (case F' => k_asm); (case N' => k_asm); (case m' => ktr_rel); (case z' => (rename IntsAre _ (List.take 40 _) => hz8); (have hz9' := hz8.length); (simp only [List.size_toArray, sizeLine_eq]; omega)); k_whole); intro g')
  k_with "@CompRest" => k_of "#h" => fail "own"
  k_with "@truthy ref" => k_of "#h" => (k_here; (with_reducible show wpAny _ _ (truthy (Value.ref _)) _ _ _); k_dflt (refine' truthy_ints_fit (isList_of (by k_asm) (by ktr_rel)) (by assumption) ?f' ?_; (case f' => omega)))
  k_with "@subscriptTail" => k_of "#h" => (k_here; (with_reducible show wpAny _ _ (subscriptTail _ _ (Value.ref _) (Value.int _ _)) _ _ _); k_dflt (refine' item_list_ints ?l' ?i' ?a' ?b' ?c' ?_ ?s' ?g'; (case i' => assumption); (case l' => exact isList_of (by k_asm) (by ktr_rel)); (case a' => omega); (case b' => omega); (case c' => omega); (case s' => with_unfolding_all rfl); (case g' => intro _; with_unfolding_all rfl)); intro t')
  k_with "@binaryOp Pow int int" => k_of "#h" => (k_here; k_dflt (refine' pow_int_small ?kb1' ?kb2' ?kb3' ?_; (case kb1' => first | decide | omega); (case kb2' => first | decide | omega); (case kb3' => decide)))
  k_with "@pyIter ref" => k_of "#h" => k_invariant "state" (fun a => 0 ≤ a ∧ a < 2147483647)
  trivial

theorem ints_snoc {ys : List Value} {as : List Int} {a : Int} {t : Tok} (h : IntsAre ys as) : IntsAre (ys ++ [.int a t]) (as ++ [a]) :=
  IntsAre.append h (.cons a t .nil)
open LCg in
theorem off1_mem {D : Addr} : ∀ {l : List (Addr × Obj)}, Off1 D l → ∀ p ∈ l, p.1 ≠ D
  | [], _, p, hp => by cases hp
  | x :: r, h, p, hp => by
    rcases List.mem_cons.mp hp with rfl | hp
    · exact h.1
    · exact off1_mem h.2 p hp
theorem ord_ne {D : Addr} {o : Obj} {news tl : List (Addr × Obj)} (h1 : ∀ q ∈ news, q.1 ≠ D) (h : ∀ q ∈ news, ∀ p ∈ tl, q.1 ≠ p.1) : ∀ q ∈ news, ∀ p ∈ (D, o) :: tl, q.1 ≠ p.1 := by
  intro q hq p hp
  rcases List.mem_cons.mp hp with rfl | hp
  · exact h1 q hq
  · exact h q hq p hp
theorem box_news {h₀ h : Heap} {L : Addr} {a b c : Addr × Obj} {rest : List (Addr × Obj)} (N : News h₀ L h (a :: b :: c :: rest)) : News h₀ L h (rest ++ [a, b, c]) := fun q hq => N q (by
  simp only [List.mem_cons, List.mem_append, List.not_mem_nil, or_false] at hq ⊢
  rcases hq with h | h | h | h <;> simp only [h, true_or, or_true])
theorem and4 {a b c d : Prop} (h : a ∧ b ∧ c) (k : d) : a ∧ b ∧ c ∧ d := ⟨h.1, h.2.1, h.2.2, k⟩
theorem box_fold : ∀ (ics : List Int) (s0 g : Int), 0 ≤ s0 → s0 < 2147483647 → 0 ≤ g → 0 ≤ (List.foldl (fun (σ : Int × Int × Unit) n => ((σ.fst * 48271 + n.fmod 2147483647 + 11).fmod 2147483647, σ.snd.fst, ())) (s0, g, ()) ics).snd.fst ∧ 0 ≤ (List.foldl (fun (σ : Int × Int × Unit) n => ((σ.fst * 48271 + n.fmod 2147483647 + 11).fmod 2147483647, σ.snd.fst, ())) (s0, g, ()) ics).fst ∧ (List.foldl (fun (σ : Int × Int × Unit) n => ((σ.fst * 48271 + n.fmod 2147483647 + 11).fmod 2147483647, σ.snd.fst, ())) (s0, g, ()) ics).fst < 2147483647
  | [], s0, g, h0, h1, h2 => ⟨h2, h0, h1⟩
  | n :: r, s0, g, _, _, h2 => by
    rw [List.foldl_cons]
    exact box_fold r _ g (Int.fmod_nonneg_of_pos _ (by decide)) (Int.fmod_lt_of_pos _ (by decide)) h2
theorem box_fold2 : ∀ (ics : List Int) (s0 g k : Int), 0 ≤ s0 → s0 < 2147483647 → 0 ≤ g → 0 ≤ (List.foldl (fun (σ : Int × Int × Int × Unit) n => ((σ.fst * 48271 + n.fmod 2147483647 + 11).fmod 2147483647, σ.snd.fst, σ.snd.fst, ())) (s0, g, k, ()) ics).snd.fst ∧ 0 ≤ (List.foldl (fun (σ : Int × Int × Int × Unit) n => ((σ.fst * 48271 + n.fmod 2147483647 + 11).fmod 2147483647, σ.snd.fst, σ.snd.fst, ())) (s0, g, k, ()) ics).fst ∧ (List.foldl (fun (σ : Int × Int × Int × Unit) n => ((σ.fst * 48271 + n.fmod 2147483647 + 11).fmod 2147483647, σ.snd.fst, σ.snd.fst, ())) (s0, g, k, ()) ics).fst < 2147483647
  | [], s0, g, k, h0, h1, h2 => ⟨h2, h0, h1⟩
  | n :: r, s0, g, k, _, _, h2 => by
    rw [List.foldl_cons]
    exact box_fold2 r _ g _ (Int.fmod_nonneg_of_pos _ (by decide)) (Int.fmod_lt_of_pos _ (by decide)) h2
theorem s_law_box (w : World) (news : List (Addr × Obj)) (sa : Addr) (items : List Value) (ns : List Int) (hI : IntsAre items ns) (hlen : ns.length ≤ 63) :
    SaysL w 20 442 sa items news (fun tl r => ∃ p c cells cn n g s1 kg ks kp ics, r = .ref p ∧ (p, listOf [.ref c, .int g kg, .int s1 ks, .int 0 kp].toArray n) ∈ tl ∧ (c, listOf cells.toArray cn) ∈ tl ∧ IntsAre cells ics ∧ cells.length ≤ 40 ∧ 0 ≤ g ∧ 0 ≤ s1 ∧ s1 < 2147483647 ∧ c < p) := by
  have hil : items.length = ns.length := by have := hI.length; omega
  unfold SaysL
  intro mean mg mb dp un gd cn cs a ccd cl outer A₀ base h₀ L m s Q E B F X Ls N T hk hdp hun hret
  refine wpAny_call ?_
  k_dflt ktr_enter
  rename Fr h₀ L _ _ => FG9
  have Lg := FG9.lst Ls
  k_steps
  rename IntsAre _ (List.take 40 ns) => hws
  rename_i D1 ws h1 F1 N1 lt1 hws2 hC1 hL1
  have hwl : ws.length = (List.take 40 ns).length := by have := hws.length; omega
  refine comp_rest (fun i ys nx => nx = (D1, listOf ws.toArray 0) :: news ∧ IntsAre ys ((List.take 40 ns).take i)) ⟨rfl, .nil⟩ ?_ ?_
  · rintro i ys nx v I oI C oC D m₂ h tk E' hi ⟨hnx, hys⟩ hv hNs hx F' N' off ne
    subst nx
    have hv' : ws[i]? = some v := by simpa using hv
    obtain ⟨n1, t1, rfl, hn1⟩ := hws.at i v hv'
    k_steps
    refine LCg.CompEnd.intro (by k_asm) (by k_asm) ((D1, listOf ws.toArray 0) :: news) (by k_sub) off (.inr ⟨_, .head _, rfl, _, rfl⟩) ⟨rfl, ?_⟩
    rw [List.take_add_one, hn1]
    exact ints_snoc hys
  · rintro ys nx ⟨hnx, hys⟩
    subst nx
    intro D h' tk' F'' N'' o1
    rw [show ws.toArray.size = (List.take 40 ns).length by rw [List.size_toArray]; exact hwl, List.take_length] at hys
    have hyl : ys.length = (List.take 40 ns).length := by have := hys.length; omega
    have hn40 : (List.take 40 ns).length ≤ 40 := by rw [List.length_take]; omega
    generalize List.take 40 ns = ics at *
    k_steps
    all_goals (
      rename News h₀ L _ _ => kN
      rename (D < _ ∧ D1 < _ ∧ AllLt _ news) => l1
      refine hret _ _ _ _ (by k_asm) (box_news kN) (ord_lt (ktn_ltOf l1.2.2) (ord_ne (off1_mem o1.2) (ord_lt lt1 ord0))) ⟨_, _, _, _, _, _, _, _, _, _, ics, rfl, .head _, .tail _ (.head _), by assumption, by omega, ?_⟩
      first | exact and4 (box_fold ics 7 0 (by decide) (by decide) (by decide)) l1.1 | exact and4 (box_fold2 ics 7 _ 0 (by decide) (by decide) (Int.fmod_nonneg_of_pos _ (by decide +kernel))) l1.1)
end Mine
end
section
open PySem PySem.W PyProof.Rows PySem.Calls PySem.Spec
namespace Mine
theorem rowsCaught : True := by
  k_with_none
  trivial

section
variable {prog : Program} {w : World} {A₀ : Around} {E : Value → Shared → Prop} {s' : Shared} {h₀ h : Heap} {outer : List Env} {L a e : Addr} {m : Str → Option Value} {name : Str} {scope : Scope} {cd : Value} {cl : List (Str × Addr)}
  {b₀ : Stmt} {suite : List Stmt} {pos np : Pos} {rest : List ExceptHandler} {Q : Flow → Shared → Prop} {news : List (Addr × Obj)}
  {p : Program} {loose : List Str} {mean : ExcName → Option Value} {mg mb : Str → Option Value} {x : Str}
theorem pf_caught (K : Below A₀ h₀ outer h₀) (F : Fr h₀ L h m) (hsm : h.UpToSlots s'.heap) (R : RaisedN h₀ (envX name scope L a cd cl :: outer) e (.ref 59) news s'.heap)
    (X : (hd.heap_39 w.params).In h₀) (T : TopRead p loose mg mb h₀) (ex : nsIn (hd.heap_39 w.params) mainGlobals x = some (some (.ref 59)))
    (k : ∀ h', Fr h₀ L h' m → News h₀ L h' news →
      wpAny (model prog w) ((A₀.deeper (envX name scope L a cd cl)).mark (some (.ref e))) (execs (b₀ :: suite) (envX name scope L a cd cl)) Q E { s' with heap := h' })
    (hk : scope.kind = .function := by rfl) (hx : (envX name scope L a cd cl).kindOf x = some .globalImplicit := by rfl) (hd' : (x == ("__debug__" : Str)) = false := by decide)
    (hE : PassesOwnAt (model prog w) ((A₀.deeper (envX name scope L a cd cl)).mark (some (.ref e))) (A₀.deeper (envX name scope L a cd cl)) (envX name scope L a cd cl) E := by passes_own) :
    wpAny (model prog w) (A₀.deeper (envX name scope L a cd cl)) (noteFrame (.ref e) (envX name scope L a cd cl))
      (fun _ s₂ => wpAny (model prog w) (A₀.deeper (envX name scope L a cd cl)) (setFlight (.ref e) none) (fun _ s₃ =>
        wpAny (model prog w) (A₀.deeper (envX name scope L a cd cl)) (handleBy (.ref e) (envX name scope L a cd cl) (.ExceptHandler (some (.Name x np)) none (b₀ :: suite) pos :: rest)) Q E s₃) E s₂) E s' := by
  obtain ⟨B, a0, hB, hl, hfl⟩ := R
  have hL : B.get? L = none := by
    obtain ⟨_, ⟨L', _, hf, hn', _⟩, _⟩ := hfl.2.2.1
    obtain rfl : L = L' := Option.some.inj hf
    exact hn'
  have hbase : pfTail.contains (.type "BaseException") = true := by decide
  refine wpAny_looks_onW (Around.frames_deeper K.stack) rfl hfl fun h₄ hheld₄ hsm₄ => ?_
  refine wpAny_landsW hheld₄ fun h₅ hheld hsm₅' => ?_
  have hsm₅ := hsm₄.trans hsm₅'
  have hheld' := flyingW_base hB hheld
  have F₅ := F.of_stays hheld'.1 (hsm.trans hsm₅)
  obtain ⟨ob, hob, hobc⟩ := hheld'.there
  obtain ⟨nm, q', N, bs, sn, sub, ab, col, dd, k0, k1, k2, k3, k5, hC⟩ := pf_cls X
  have hC₅ := F₅.keep _ _ hC
  refine wpAny_handleBy_cons (codeAny_handlers_test (nameX_K F₅ X T ex ?_ hk hx hd')) (by intro q; cases q)
  refine wpAny_excMatches_sub_self hC₅ hob hobc hbase (codeAny_handlers_suite ?_)
  refine lands_againW hheld fun h₆ hfl₆ hsm₆ => ?_
  have F₆ := F.of_stays (flyingW_base hB hfl₆).1 ((hsm.trans hsm₅).trans hsm₆)
  exact wpAny_passesOwnAt hE (k h₆ F₆ fun q hq => ⟨hfl₆.1 _ _ (hl q hq).1, (fun z => by have := (hl q hq).1; rw [z, hL] at this; cases this), (hl q hq).2⟩)
end
end Mine
end
section
open PySem PySem.W PyProof.Rows PySem.Calls
namespace Mine
theorem rowsM3 : True := by
  k_with_none
  trivial


/-- the plain law: what a colour's parts are -/
theorem cut_again (o : Op) : o.asDec.cut.asDec.cut = o.asDec.cut := by
  have h : ∀ t p, Op.cut (Op.asDec (Op.cut (.dec t p))) = Op.cut (.dec t p) := by
    intro t p
    have c : Op.cut (.dec t p) = if t < 0 then .dec 0 0 else if cmp1 t p > 0 then .dec 1 0 else .dec t p := rfl
    by_cases h1 : t < 0
    · rw [c, if_pos h1]; rfl
    · by_cases h2 : cmp1 t p > 0
      · rw [c, if_neg h1, if_pos h2]; rfl
      · have e : Op.cut (.dec t p) = .dec t p := by rw [c, if_neg h1, if_neg h2]
        rw [e]; exact e
  exact h o.top o.places
theorem cut_fine {o : Op} (hn : o.isNum = true) (h : o.fine) : o.asDec.cut.fine := by
  have h0 : o.asDec.fine := by
    cases o with
    | int t => exact ⟨h.1, h.2, .inl rfl⟩
    | dec t p => exact h
    | _ => cases hn
  unfold Op.asDec at h0 ⊢
  unfold Op.cut
  dsimp only
  split
  · exact ⟨by decide, by decide, .inl rfl⟩
  · split
    · exact ⟨by decide, by decide, .inl rfl⟩
    · exact h0
theorem cut_dec (o : Op) : ∃ t p, o.asDec.cut = .dec t p := by
  unfold Op.asDec Op.cut
  dsimp only
  split
  · exact ⟨_, _, rfl⟩
  · split <;> exact ⟨_, _, rfl⟩
theorem spec_dev {sp : Sp} {ops parts : List Op} (hd : 0 ≤ sp.count) (hs : ownSpec sp ops = some parts) : sp.count = (ops.length : Int) ∧ ops.all Op.isNum = true ∧ parts = ops.map fun o => o.asDec.cut := by
  unfold ownSpec at hs
  rw [if_pos hd] at hs
  split at hs
  · rename_i h; cases hs; exact ⟨h.1, h.2, rfl⟩
  · cases hs
theorem spec_again {sp : Sp} {ops parts : List Op} (hd : 0 ≤ sp.count) (hs : ownSpec sp ops = some parts) (hf : ∀ o ∈ ops, o.fine) :
    ownSpec sp parts = some parts ∧ (∀ o ∈ parts, ∀ x, o ≠ .text x) ∧ (∀ o ∈ parts, o.fine) := by
  obtain ⟨h1, h2, rfl⟩ := spec_dev hd hs
  have hn := List.all_eq_true.mp h2
  refine ⟨?_, ?_, ?_⟩
  · unfold ownSpec
    rw [if_pos hd, if_pos ⟨by rw [List.length_map]; exact h1, List.all_eq_true.mpr fun o ho => by
      obtain ⟨a, _, rfl⟩ := List.mem_map.mp ho
      obtain ⟨t, p, e⟩ := cut_dec a
      rw [e]; rfl⟩, List.map_map]
    exact congrArg some (List.map_congr_left fun a _ => cut_again a)
  · intro o ho x e
    obtain ⟨a, _, rfl⟩ := List.mem_map.mp ho
    obtain ⟨t, p, e'⟩ := cut_dec a
    rw [e'] at e; cases e
  · intro o ho
    obtain ⟨a, ha, rfl⟩ := List.mem_map.mp ho
    exact cut_fine (hn a ha) (hf a ha)
theorem spec_parts {sp : Sp} {ops parts : List Op} (hs : ownSpec sp ops = some parts) (hl : ops.length ≤ 5) (hx : ∀ o ∈ ops, ∀ x, o = .name x → PyData.strOk x = true) : parts.length ≤ 100 ∧ ∀ o ∈ parts, o.isPart := by
  by_cases hd : 0 ≤ sp.count
  · obtain ⟨_, _, rfl⟩ := spec_dev hd hs
    refine ⟨by rw [List.length_map]; omega, fun o ho => ?_⟩
    obtain ⟨a, _, rfl⟩ := List.mem_map.mp ho
    obtain ⟨t, p, e⟩ := cut_dec a
    rw [e]; trivial
  · have num : ∀ os : List Op, ∀ o ∈ os.map Op.asDec, o.isPart := fun os o ho => by
      obtain ⟨a, _, rfl⟩ := List.mem_map.mp ho
      trivial
    unfold ownSpec at hs
    rw [if_neg hd] at hs
    split at hs
    · rename_i x hg
      split at hs
      · cases hs
        refine ⟨by simp; omega, fun o ho => ?_⟩
        rcases List.mem_append.mp ho with ho | ho
        · exact num _ o ho
        · rw [List.mem_singleton.mp ho]
          exact hx _ (List.mem_of_getLast? hg) x rfl
      · cases hs
    · split at hs
      · cases hs
        exact ⟨by simp; omega, num _⟩
      · cases hs
theorem told_ok (sp : Sp) {parts : List Op} (h : ∀ o ∈ parts, o.isPart) : kqdOk 8 (toldD sp parts) = true := by
  have h1 : PyData.strOk sp.str = true := by cases sp <;> decide +kernel
  have h2 : ∀ d ∈ parts.map Op.told, kqdOk 6 d = true := fun d hd => by
    obtain ⟨o, ho, rfl⟩ := List.mem_map.mp hd
    have := h o ho
    cases o with
    | dec t p => rfl
    | text x => exact this
    | _ => exact this.elim
  unfold toldD
  simp only [kqdOk, List.all_cons, List.all_nil, Bool.and_true, Bool.and_eq_true]
  exact ⟨h1, List.all_eq_true.mpr h2⟩
section
variable {prog : Program} {w : World} {A : Around} {E : Value → Shared → Prop} {s : Shared} {h₀ : Heap} {L : Addr} {news n₁ n₂ : List (Addr × Obj)} {Q : Value → Shared → Prop} {a b : Value} {d : Dat}
theorem dat_same (hk : kqdOk 8 d = true) : PyData.eqv (kqdP d) (kqdP d) = true := (kqd_eqv 8 d d 8 hk hk).mpr rfl
theorem dat_shaped (hk : kqdOk 8 d = true) : SeqAt.shaped (kqdP d) = true := by
  have l := kqd_lay 8 d hk
  unfold SeqAt.shaped; rw [l.1, Bool.true_and]; exact decide_eq_true (Nat.le_trans l.2 (by decide))
theorem datX_ne (N : News h₀ L s.heap news) (Da : DatIn n₁ a d) (sa : ∀ p ∈ n₁, p ∈ news) (Db : DatIn n₂ b d) (sb : ∀ p ∈ n₂, p ∈ news) (hk : kqdOk 8 d = true) (hu : A.units + 64 < cLine) (h : Q (.bool false) s) : wpAny (model prog w) A (compareOp .NotEq a b) Q E s := by
  obtain ⟨as, ra⟩ := kqd_in N 8 (Da.mono sa) hk
  obtain ⟨bs, rb⟩ := kqd_in N 8 (Db.mono sb) hk
  exact ne_dataH ra rb (dat_shaped hk) (dat_shaped hk) hu (by rw [dat_same hk]; exact h)
theorem datX_eq (N : News h₀ L s.heap news) (Da : DatIn n₁ a d) (sa : ∀ p ∈ n₁, p ∈ news) (Db : DatIn n₂ b d) (sb : ∀ p ∈ n₂, p ∈ news) (hk : kqdOk 8 d = true) (hu : A.units + 64 < cLine) (h : Q (.bool true) s) : wpAny (model prog w) A (compareOp .Eq a b) Q E s := by
  obtain ⟨as, ra⟩ := kqd_in N 8 (Da.mono sa) hk
  obtain ⟨bs, rb⟩ := kqd_in N 8 (Db.mono sb) hk
  exact eq_dataH ra rb (dat_shaped hk) (dat_shaped hk) hu (by rw [dat_same hk]; exact h)
theorem datIn_ref {v : Value} {ds : List Dat} (h : DatIn news v (.tuple ds)) : ∃ a, v = .ref a := by cases h; exact ⟨_, rfl⟩
end
theorem Says.imp {w : World} {D : Nat} {f : Addr} {vs : List Value} {news : List (Addr × Obj)} {Out Out' : List (Addr × Obj) → Value → Prop} {Exc Exc' : Prop} (C : Says w D f vs news Out Exc) (h : ∀ tl r, Out tl r → Out' tl r) (k : Exc → Exc') : Says w D f vs news Out' Exc' := by
  intro mean mg mb dp un gd cn cs a ccd cl outer A₀ base h₀ L m s Q E B F X N T hk hdp hun hret hexc
  exact C _ _ _ _ _ _ _ _ _ _ _ _ _ _ _ _ _ _ _ _ B F X N T hk hdp hun (fun r tl h' tk' F' N' o' ho => hret r tl h' tk' F' N' o' (h _ _ ho)) (fun e g₂ h' tk' he => hexc e g₂ h' tk' (k he))
theorem own_some {w : World} {news : List (Addr × Obj)} {sp : Sp} {k : Tok} {l : Addr} {vs : List Value} {n : Nat} {ops parts : List Op} (hs : ownSpec sp ops = some parts) (hl : (l, listOf vs.toArray n) ∈ news) (n₀ : List (Addr × Obj)) (hsub : ∀ p ∈ n₀, p ∈ news) (hops : AllOp w n₀ vs ops) (hlen : ops.length ≤ 100) (hnt : ∀ o ∈ ops, ∀ x, o ≠ .text x) (hfine : ∀ o ∈ ops, o.fine) :
    Says w 60 430 [.str sp.str k, .ref l] news (fun tl r => ∃ a b rs k, r = .ref a ∧ (a, tupOf [.str sp.str k, .ref b]) ∈ tl ∧ (b, tupOf rs) ∈ tl ∧ AllOp w (n₀ ++ tl) rs parts) False :=
  Says.imp (s_own_colour w news sp k l vs n ops hl n₀ hsub hops hlen hnt hfine) (fun tl r ⟨p, h1, h2⟩ => by rw [hs] at h1; cases h1; exact h2) (fun h => by rw [hs] at h; cases h)
theorem own_none {w : World} {news : List (Addr × Obj)} {sp : Sp} {k : Tok} {l : Addr} {vs : List Value} {n : Nat} {ops : List Op} (hs : ownSpec sp ops = none) (hl : (l, listOf vs.toArray n) ∈ news) (n₀ : List (Addr × Obj)) (hsub : ∀ p ∈ n₀, p ∈ news) (hops : AllOp w n₀ vs ops) (hlen : ops.length ≤ 100) (hnt : ∀ o ∈ ops, ∀ x, o ≠ .text x) (hfine : ∀ o ∈ ops, o.fine) :
    Says w 60 430 [.str sp.str k, .ref l] news (fun _ _ => False) True :=
  Says.imp (s_own_colour w news sp k l vs n ops hl n₀ hsub hops hlen hnt hfine) (fun tl r ⟨p, h1, h2⟩ => by rw [hs] at h1; cases h1) (fun _ => trivial)
end Mine
end
section
open PySem PySem.W PyProof.Rows PySem.Calls
namespace Mine
theorem rowsM4 : True := by
  k_with_none
  trivial


noncomputable def lawB : List Stmt := match hd.stT 37 with
  | .FunctionDef _ _ b _ _ _ _ _ _ _ => b
  | _ => []
noncomputable def lawS : Scope := match hd.stT 37 with
  | .FunctionDef _ _ _ _ _ _ sc _ _ _ => sc
  | _ => default

theorem due_some {w : World} {news : List (Addr × Obj)} {sp : Sp} {k : Tok} {l : Addr} {vs : List Value} {n : Nat} {ops parts : List Op} (hs : ownSpec sp ops = some parts) (hl : (l, listOf vs.toArray n) ∈ news) (n₀ : List (Addr × Obj)) (hsub : ∀ p ∈ n₀, p ∈ news) (hops : AllOp w n₀ vs ops) (hlen : ops.length ≤ 100) (hnt : ∀ o ∈ ops, ∀ x, o ≠ .text x) (hfine : ∀ o ∈ ops, o.fine) :
    Says w 40 466 [.str sp.str k, .ref l] news (fun tl r => ∃ a, r = .ref a ∧ DatIn tl (.ref a) (toldD sp parts)) False :=
  Says.imp (s_law_due w news sp k l vs n ops hl n₀ hsub hops hlen hnt hfine) (fun tl r h => by
    rcases h with ⟨h1, _⟩ | ⟨p, h1, h2⟩
    · rw [hs] at h1; cases h1
    · rw [hs] at h1; cases h1
      obtain ⟨a, rfl⟩ := datIn_ref h2
      exact ⟨a, rfl, h2⟩) id
theorem due_none {w : World} {news : List (Addr × Obj)} {sp : Sp} {k : Tok} {l : Addr} {vs : List Value} {n : Nat} {ops : List Op} (hs : ownSpec sp ops = none) (hl : (l, listOf vs.toArray n) ∈ news) (n₀ : List (Addr × Obj)) (hsub : ∀ p ∈ n₀, p ∈ news) (hops : AllOp w n₀ vs ops) (hlen : ops.length ≤ 100) (hnt : ∀ o ∈ ops, ∀ x, o ≠ .text x) (hfine : ∀ o ∈ ops, o.fine) :
    Says w 40 466 [.str sp.str k, .ref l] news (fun tl r => r = .none) False :=
  Says.imp (s_law_due w news sp k l vs n ops hl n₀ hsub hops hlen hnt hfine) (fun tl r h => by
    rcases h with ⟨_, h1⟩ | ⟨p, h1, h2⟩
    · exact h1
    · rw [hs] at h1; cases h1) id
theorem fs_says (w : World) (news : List (Addr × Obj)) : Says w 40 397 [] news (fun tl r => ∃ a d k1 k2 k3 k4 k5 v1 v2 fa ga v5 tl0 fb frs fk gb grs gk, tl = (d, dictOf [ent w "matrix" k1 v1, ent w "clips" k2 v2, ent w "fill" k3 (.ref fa), ent w "stroke" k4 (.ref ga), ent w "values" k5 v5] 5) :: (a, instObj 371 d) :: tl0 ∧ r = .ref a ∧ (∀ p ∈ (a, instObj 371 d) :: tl0, p.1 ≠ d) ∧ (fa, tupOf [.str Sp.gray.str fk, .ref fb]) ∈ tl0 ∧ (fb, tupOf frs) ∈ tl0 ∧ AllOp w tl0 frs [.dec 0 0] ∧ (ga, tupOf [.str Sp.gray.str gk, .ref gb]) ∈ tl0 ∧ (gb, tupOf grs) ∈ tl0 ∧ AllOp w tl0 grs [.dec 0 0]) False :=
  Says.imp (s_first_state w news) (fun tl r h => by
    obtain ⟨a, d, k1, k2, k3, k4, k5, v1, v2, f, g, v5, tl0, h1, h2, h3, cf, cg⟩ := h
    obtain ⟨fa, fb, frs, fk, e, f1, f2, f3⟩ := cf
    obtain ⟨ga, gb, grs, gk, e', g1, g2, g3⟩ := cg
    subst e; subst e'
    exact ⟨a, d, k1, k2, k3, k4, k5, v1, v2, fa, ga, v5, tl0, fb, frs, fk, gb, grs, gk, h1, h2, h3, f1, f2, f3, g1, g2, g3⟩) id
theorem told_says {w : World} {news : List (Addr × Obj)} {a b : Addr} {rs : List Value} {k : Tok} {sp : Sp} {parts : List Op} (ha : (a, tupOf [.str sp.str k, .ref b]) ∈ news) (hb : (b, tupOf rs) ∈ news) (n₀ : List (Addr × Obj)) (hsub : ∀ p ∈ n₀, p ∈ news) (hp : AllOp w n₀ rs parts) (hlen : parts.length ≤ 100) (hpt : ∀ o ∈ parts, o.isPart) :
    Says w 30 461 [.ref a] news (fun tl r => ∃ t, r = .ref t ∧ DatIn tl (.ref t) (toldD sp parts)) False :=
  Says.imp (s_law_told w news a b rs k sp parts ha hb n₀ hsub hp hlen hpt) (fun tl r h => by
    obtain ⟨t, rfl⟩ := datIn_ref h
    exact ⟨t, rfl, h⟩) id
theorem SaysG.imp {w : World} {D : Nat} {f : Addr} {vs : List Value} {news keep : List (Addr × Obj)} {Out Out' : List (Addr × Obj) → Value → Prop} {Exc Exc' : Prop} (C : SaysG w D f vs news keep Out Exc) (h : ∀ tl r, Out tl r → Out' tl r) (k : Exc → Exc') : SaysG w D f vs news keep Out' Exc' := by
  intro mean mg mb dp un gd cn cs a ccd cl outer A₀ base h₀ L m s Q E B F X N T hk hdp hun hret hexc
  exact C _ _ _ _ _ _ _ _ _ _ _ _ _ _ _ _ _ _ _ _ B F X N T hk hdp hun (fun r tl h' tk' F' N' ho => hret r tl h' tk' F' N' (h _ _ ho)) (fun e g₂ h' tk' he => hexc e g₂ h' tk' (k he))
theorem all_fits {w : World} {n₀ : List (Addr × Obj)} {vs : List Value} {os : List Op} (h : AllOp w n₀ vs os) (hl : os.length ≤ 100) : vs.toArray.size ≤ sizeLine := by
  have := h.length
  simp only [List.size_toArray, sizeLine_eq]; omega
theorem told_okn (n : Nat) (sp : Sp) {parts : List Op} (h : ∀ o ∈ parts, o.isPart) : kqdOk (n + 3) (toldD sp parts) = true := by
  have h1 : PyData.strOk sp.str = true := by cases sp <;> decide +kernel
  have h2 : ∀ d ∈ parts.map Op.told, kqdOk (n + 1) d = true := fun d hd => by
    obtain ⟨o, ho, rfl⟩ := List.mem_map.mp hd
    have := h o ho
    cases o with
    | dec t p => cases n <;> rfl
    | text x => exact this
    | _ => exact this.elim
  unfold toldD
  simp only [kqdOk, List.all_cons, List.all_nil, Bool.and_true, Bool.and_eq_true]
  exact ⟨h1, List.all_eq_true.mpr h2⟩
theorem two_eq {prog : Program} {w : World} {A : Around} {E : Value → Shared → Prop} {s : Shared} {h₀ : Heap} {L : Addr} {news : List (Addr × Obj)} {Q : Value → Shared → Prop} {s1 s2 : Addr} {a1 a2 b1 b2 : Value} {n1 n2 : Nat} {d1 d2 : Dat}
    (N : News h₀ L s.heap news) (h1 : (s1, listOf #[a1, a2] n1) ∈ news) (h2 : (s2, listOf #[b1, b2] n2) ∈ news) (A1 : DatIn news a1 d1) (A2 : DatIn news a2 d2) (B1 : DatIn news b1 d1) (B2 : DatIn news b2 d2)
    (k1 : kqdOk 7 d1 = true) (k2 : kqdOk 7 d2 = true) (hu : A.units + 64 < cLine) (h : Q (.bool true) s) : wpAny (model prog w) A (compareOp .Eq (.ref s1) (.ref s2)) Q E s := by
  have hk : kqdOk 8 (.list [d1, d2]) = true := by simp only [kqdOk, List.all_cons, List.all_nil, Bool.and_true, k1, k2]
  exact datX_eq N (.list (vs := [a1, a2]) h1 (.cons A1 (.cons A2 .nil))) (fun _ h => h) (.list (vs := [b1, b2]) h2 (.cons B1 (.cons B2 .nil))) (fun _ h => h) hk hu h
theorem plain_dat {news : List (Addr × Obj)} {D D1 D2 : Addr} {k k1 k2 : Tok} (h : (D, tupOf [.str (Str.ofString "DeviceGray") k, .ref D1]) ∈ news) (h1 : (D1, tupOf [.ref D2]) ∈ news) (h2 : (D2, tupOf [.int 0 k1, .int 0 k2]) ∈ news) : DatIn news (.ref D) (toldD .gray [.dec 0 0]) :=
  .tuple (vs := [_, _]) h (.cons (.str _ _) (.cons (.tuple (vs := [_]) h1 (.cons (.tuple (vs := [_, _]) h2 (.cons (.int _ _) (.cons (.int _ _) .nil))) .nil)) .nil))
abbrev patOps : List Op := [.int 3, .int (-2), .name (Str.ofString "P")]
abbrev patParts : List Op := [.dec 3 0, .dec (-2) 0, .text (Str.ofString "P")]
theorem pat_spec : ownSpec .pat patOps = some patParts := rfl
theorem pat_hnt : ∀ o ∈ patOps, ∀ x, o ≠ .text x := by
  intro o ho x e
  subst e
  rcases List.mem_cons.mp ho with h | ho
  · cases h
  · rcases List.mem_cons.mp ho with h | ho
    · cases h
    · cases List.mem_singleton.mp ho
theorem pat_fine : ∀ o ∈ patOps, o.fine := by
  intro o ho
  rcases List.mem_cons.mp ho with rfl | ho
  · exact ⟨by decide, by decide⟩
  · rcases List.mem_cons.mp ho with rfl | ho
    · exact ⟨by decide, by decide⟩
    · rw [List.mem_singleton.mp ho]; trivial
theorem pat_part : ∀ o ∈ patParts, o.isPart := by
  intro o ho
  rcases List.mem_cons.mp ho with rfl | ho
  · trivial
  · rcases List.mem_cons.mp ho with rfl | ho
    · trivial
    · rw [List.mem_singleton.mp ho]; show PyData.strOk _ = true; decide +kernel
theorem pat_dat {news : List (Addr × Obj)} {D D1 D2 D3 : Addr} {k k1 k2 k3 k4 k5 : Tok} (h : (D, tupOf [.str (Str.ofString "Pattern") k, .ref D1]) ∈ news) (h1 : (D1, tupOf [.ref D2, .ref D3, .str (Str.ofString "P") k5]) ∈ news) (h2 : (D2, tupOf [.int 3 k1, .int 0 k2]) ∈ news) (h3 : (D3, tupOf [.int (-2) k3, .int 0 k4]) ∈ news) : DatIn news (.ref D) (toldD .pat patParts) :=
  .tuple (vs := [_, _]) h (.cons (.str _ _) (.cons (.tuple (vs := [_, _, _]) h1 (.cons (.tuple (vs := [_, _]) h2 (.cons (.int _ _) (.cons (.int _ _) .nil))) (.cons (.tuple (vs := [_, _]) h3 (.cons (.int _ _) (.cons (.int _ _) .nil))) (.cons (.str _ _) .nil)))) .nil))
theorem my_ite_f {c : Prop} [Decidable c] {a b : Prop} (h : ¬ c) (k : b) : if c then a else b := by rw [if_neg h]; exact k
theorem my_ite_t {c : Prop} [Decidable c] {a b : Prop} (h : c) (k : a) : if c then a else b := by rw [if_pos h]; exact k
theorem st_news {h₀ h : Heap} {L : Addr} {q a d : Addr × Obj} {A t0 : List (Addr × Obj)} (N : News h₀ L h ((q :: A) ++ (d :: a :: t0))) : News h₀ L h (d :: a :: q :: (A ++ t0)) := fun p hp => N p (by
  simp only [List.mem_append, List.mem_cons] at hp ⊢
  rcases hp with h | h | h | h | h <;> simp only [h, true_or, or_true])
theorem st_ne {q a : Addr × Obj} {d : Addr} {od : Obj} {A t0 : List (Addr × Obj)} (h : ∀ p ∈ a :: t0, p.1 ≠ d) (o : ∀ x ∈ q :: A, ∀ p ∈ (d, od) :: a :: t0, x.1 ≠ p.1) : ∀ p ∈ a :: q :: (A ++ t0), p.1 ≠ d := fun p hp => by
  rcases List.mem_cons.mp hp with rfl | hp
  · exact h _ (.head _)
  · rcases List.mem_cons.mp hp with rfl | hp
    · exact o _ (.head _) _ (.head _)
    · rcases List.mem_append.mp hp with hp | hp
      · exact o _ (.tail _ hp) _ (.head _)
      · exact h _ (.tail _ hp)

theorem set_some_gray {w : World} {rest : List (Addr × Obj)} {st d : Addr} {k1 k2 k3 k4 k5 : Tok} {v1 v2 v5 : Value} {fa ga : Addr} {kw : Tok} {l : Addr} {vs : List Value} {n : Nat} {ops parts : List Op} (hs : ownSpec .gray ops = some parts) (hst : (st, instObj 371 d) ∈ rest) (hne : ∀ p ∈ rest, p.1 ≠ d) (hl : (l, listOf vs.toArray n) ∈ rest) (n₀ : List (Addr × Obj)) (hsub : ∀ p ∈ n₀, p ∈ rest) (hops : AllOp w n₀ vs ops) (hlen : ops.length ≤ 100) (hnt : ∀ o ∈ ops, ∀ x, o ≠ .text x) (hfine : ∀ o ∈ ops, o.fine) :
    SaysG w 80 437 [.ref st, .str (Str.ofString "g") kw, .ref l] ((d, stD w k1 k2 k3 k4 k5 v1 v2 (.ref fa) (.ref ga) v5 5) :: rest) rest (fun news' r => r = .none ∧ ∃ tl x b rs k n', news' = (d, stD w k1 k2 k3 k4 k5 v1 v2 (.ref x) (.ref ga) v5 n') :: (rest ++ tl) ∧ (∀ p ∈ rest ++ tl, p.1 ≠ d) ∧ (x, tupOf [.str Sp.gray.str k, .ref b]) ∈ tl ∧ (b, tupOf rs) ∈ tl ∧ AllOp w (n₀ ++ tl) rs parts) False :=
  SaysG.imp (s_set_gray w rest st d k1 k2 k3 k4 k5 v1 v2 v5 fa ga kw l vs n ops hst hne hl n₀ hsub hops hlen hnt hfine) (fun nw r h => by
    obtain ⟨h1, p, tl, c, n', h2, h3, _, h5, x, b, rs, k, e, h6, h7, h8⟩ := h
    rw [hs] at h2; cases h2
    subst e
    exact ⟨h1, tl, x, b, rs, k, n', h3, fun q hq => (List.mem_append.mp hq).elim (hne q) (h5 q), h6, h7, h8⟩) (fun h => by rw [hs] at h; cases h)

theorem set_some_rgb {w : World} {rest : List (Addr × Obj)} {st d : Addr} {k1 k2 k3 k4 k5 : Tok} {v1 v2 v5 : Value} {fa ga : Addr} {kw : Tok} {l : Addr} {vs : List Value} {n : Nat} {ops parts : List Op} (hs : ownSpec .rgb ops = some parts) (hst : (st, instObj 371 d) ∈ rest) (hne : ∀ p ∈ rest, p.1 ≠ d) (hl : (l, listOf vs.toArray n) ∈ rest) (n₀ : List (Addr × Obj)) (hsub : ∀ p ∈ n₀, p ∈ rest) (hops : AllOp w n₀ vs ops) (hlen : ops.length ≤ 100) (hnt : ∀ o ∈ ops, ∀ x, o ≠ .text x) (hfine : ∀ o ∈ ops, o.fine) :
    SaysG w 80 437 [.ref st, .str (Str.ofString "RG") kw, .ref l] ((d, stD w k1 k2 k3 k4 k5 v1 v2 (.ref fa) (.ref ga) v5 5) :: rest) rest (fun news' r => r = .none ∧ ∃ tl x b rs k n', news' = (d, stD w k1 k2 k3 k4 k5 v1 v2 (.ref fa) (.ref x) v5 n') :: (rest ++ tl) ∧ (∀ p ∈ rest ++ tl, p.1 ≠ d) ∧ (x, tupOf [.str Sp.rgb.str k, .ref b]) ∈ tl ∧ (b, tupOf rs) ∈ tl ∧ AllOp w (n₀ ++ tl) rs parts) False :=
  SaysG.imp (s_set_rgb w rest st d k1 k2 k3 k4 k5 v1 v2 v5 fa ga kw l vs n ops hst hne hl n₀ hsub hops hlen hnt hfine) (fun nw r h => by
    obtain ⟨h1, p, tl, c, n', h2, h3, _, h5, x, b, rs, k, e, h6, h7, h8⟩ := h
    rw [hs] at h2; cases h2
    subst e
    exact ⟨h1, tl, x, b, rs, k, n', h3, fun q hq => (List.mem_append.mp hq).elim (hne q) (h5 q), h6, h7, h8⟩) (fun h => by rw [hs] at h; cases h)

theorem set_some_cmyk {w : World} {rest : List (Addr × Obj)} {st d : Addr} {k1 k2 k3 k4 k5 : Tok} {v1 v2 v5 : Value} {fa ga : Addr} {kw : Tok} {l : Addr} {vs : List Value} {n : Nat} {ops parts : List Op} (hs : ownSpec .cmyk ops = some parts) (hst : (st, instObj 371 d) ∈ rest) (hne : ∀ p ∈ rest, p.1 ≠ d) (hl : (l, listOf vs.toArray n) ∈ rest) (n₀ : List (Addr × Obj)) (hsub : ∀ p ∈ n₀, p ∈ rest) (hops : AllOp w n₀ vs ops) (hlen : ops.length ≤ 100) (hnt : ∀ o ∈ ops, ∀ x, o ≠ .text x) (hfine : ∀ o ∈ ops, o.fine) :
    SaysG w 80 437 [.ref st, .str (Str.ofString "k") kw, .ref l] ((d, stD w k1 k2 k3 k4 k5 v1 v2 (.ref fa) (.ref ga) v5 5) :: rest) rest (fun news' r => r = .none ∧ ∃ tl x b rs k n', news' = (d, stD w k1 k2 k3 k4 k5 v1 v2 (.ref x) (.ref ga) v5 n') :: (rest ++ tl) ∧ (∀ p ∈ rest ++ tl, p.1 ≠ d) ∧ (x, tupOf [.str Sp.cmyk.str k, .ref b]) ∈ tl ∧ (b, tupOf rs) ∈ tl ∧ AllOp w (n₀ ++ tl) rs parts) False :=
  SaysG.imp (s_set_cmyk w rest st d k1 k2 k3 k4 k5 v1 v2 v5 fa ga kw l vs n ops hst hne hl n₀ hsub hops hlen hnt hfine) (fun nw r h => by
    obtain ⟨h1, p, tl, c, n', h2, h3, _, h5, x, b, rs, k, e, h6, h7, h8⟩ := h
    rw [hs] at h2; cases h2
    subst e
    exact ⟨h1, tl, x, b, rs, k, n', h3, fun q hq => (List.mem_append.mp hq).elim (hne q) (h5 q), h6, h7, h8⟩) (fun h => by rw [hs] at h; cases h)
end Mine
end
section
open PySem PySem.W PyProof.Rows PySem.Calls
namespace Mine

theorem rowsM5graynonea : True := by
  k_with_none
  k_with "k_sub" => k_of "#h" => (intro p' hp'; first | exact hp' | exact List.Mem.tail _ hp' | ((simp only [List.cons_append, List.nil_append, List.append_nil, List.mem_cons, List.mem_append] at hp' ⊢); revert hp'; ((repeat' (refine or_imp.mpr (And.intro ?_ ?_))) <;> (intro hp'; simp only [hp', true_or, or_true]))))
  k_with "k_room" => k_of "#h" => ((try simp only [depth_mark, depth_under_make, depth_under_kw, depth_in1, depth_deeper, depth_caller, recursionLimit]); (try dsimp only [ktrTop]); omega)
  k_with "k_units" => k_of "#h" => ((have hcL9' := cLine_is); (try simp only [units_in1, units_deeper, Around.mark_units, units_caller]); (try dsimp only [ktrTop]); omega)
  k_with "@exec While BoolOp" => k_of "#h" => (k_here; k_dflt (refine whl_start 100 ?_))
  k_with "ktr_rel" => k_of "#h" => first | assumption | exact OpAt.int | exact OpAt.mono (by assumption) (by k_sub) | exact AllOp.mono (by assumption) (by k_sub) | exact List.Mem.tail _ (by assumption) | exact List.Mem.tail _ (List.Mem.tail _ (by assumption)) | exact subl _ (by assumption) | exact List.Mem.tail _ (subl _ (by assumption)) | exact mem_of_sub (by assumption) (by k_sub) | k_mem
  k_with "@exec Try" => k_of "#h" => (refine wpAny_Try_except ?_)
  k_with "@ite" => k_of "#h" => first | (refine my_ite_f (by decide) ?_) | (refine my_ite_t (by decide) ?_)
  k_with "@subscriptTail" => k_of "#h" => (k_here; (with_reducible show wpAny _ _ (subscriptTail _ _ (Value.ref _) (Value.int _ _)) _ _ _); k_dflt (refine' item_tupleT ?t' ?a' ?b' ?c' ?d' ?_; (case t' => exact News.isTup (by k_asm) (by ktr_rel)); (case a' => decide); (case b' => decide); (case c' => rfl); (case d' => rfl); k_whole))
  k_with "@call type:list" => k_of "#h" => (k_here; (with_reducible show wpAny _ _ (call (Value.type _) [Value.ref _]) _ _ _); k_dflt (refine' list_copyKT ?k1' ?k2' ?k3' ?_ ?k4'; (case k1' => k_asm); (case k2' => k_asm); (case k3' => exact News.isTup (by k_asm) (by ktr_rel)); (case k4' => exact all_fits (by assumption) (by assumption))); intro D' c' h' F' N' l1'; (try k_sweep))
  k_with "@call ref" => k_of "#h" => (k_here; k_dflt (refine' says_use (f := 466) (due_none (sp := .gray) ?hs' ?hl' _ ?hsub' ?hops' ?hlen' ?hnt' ?hfine') ?B' ?F' ?X' ?N' ?T' ?hk' ?hd' ?hu' ?_ ?_; (case B' => k_asm); (case F' => k_asm); (case X' => k_asm); (case N' => k_asm); (case T' => k_asm); (case hk' => first | exact rfl | assumption); (case hd' => first | ((try dsimp only [Around.deeper]); omega) | decide); (case hu' => first | ((try dsimp only [Around.deeper]); omega) | decide); (case hl' => ktr_rel); (case hops' => assumption); (case hs' => assumption); (case hsub' => k_sub); (case hlen' => omega); (case hnt' => assumption); (case hfine' => assumption)); rotate_left; (intro _ _ _ _ hx'; exact hx'.elim); (intro r' tl' h' tk' F' N' o' ho'; subst ho'; (try simp only [List.cons_append] at N'); clear o'; (try k_sweep)))
  k_with "@call ref" => k_of "#h" => (k_here; k_dflt (refine' says_use (f := 430) (own_none (sp := .gray) ?hs' ?hl' _ ?hsub' ?hops' ?hlen' ?hnt' ?hfine') ?B' ?F' ?X' ?N' ?T' ?hk' ?hd' ?hu' ?_ ?_; (case B' => k_asm); (case F' => k_asm); (case X' => k_asm); (case N' => k_asm); (case T' => k_asm); (case hk' => first | exact rfl | assumption); (case hd' => first | ((try dsimp only [Around.deeper]); omega) | decide); (case hu' => first | ((try dsimp only [Around.deeper]); omega) | decide); (case hl' => ktr_rel); (case hops' => assumption); (case hs' => assumption); (case hsub' => k_sub); (case hlen' => omega); (case hnt' => assumption); (case hfine' => assumption)); (intro _ _ _ _ _ _ _ hx'; exact hx'.elim); (intro e' g' h' tk' x' F' R' U'))
  k_with "@call ref" => k_of "#h" => (k_here; k_dflt (refine' says_use (f := 397) (fs_says _ _) ?B' ?F' ?X' ?N' ?T' ?hk' ?hd' ?hu' ?_ ?_; (case B' => k_asm); (case F' => k_asm); (case X' => k_asm); (case N' => k_asm); (case T' => k_asm); (case hk' => first | exact rfl | assumption); (case hd' => first | ((try dsimp only [Around.deeper]); omega) | decide); (case hu' => first | ((try dsimp only [Around.deeper]); omega) | decide); skip); rotate_left; (intro _ _ _ _ hx'; exact hx'.elim); (intro r' tl' h' tk' F' N' o' ho'; (obtain ⟨sa', sd', k1', k2', k3', k4', k5', v1', v2', fa', ga', v5', t0', fb', frs', fk', gb', grs', gk', et', er', hn', hf1', hf2', hf3', hg1', hg2', hg3'⟩ := ho'); subst et'; subst er'; (replace hn' := st_ne hn' o'); (replace N' := st_news N'); clear o'; (try k_sweep)))
  trivial

theorem law_gray_none {w : World} {mean : ExcName → Option Value} {mg mb : Str → Option Value} {h₀ : Heap} {L fa : Addr} {cd : Value} {cl : List (Str × Addr)} {m0 : Str → Option Value} {s : Shared} {Q : Flow → Shared → Prop} {E : Value → Shared → Prop} (k : Tok) (l : Addr) (vs : List Value) (n : Nat) (ops : List Op) (news : List (Addr × Obj))
    (B : Below callerA h₀ [] h₀) (F : Fr h₀ L s.heap (fun y => if y = Str.ofString "some" then some (.ref l) else if y = Str.ofString "space" then some (.str (Str.ofString "DeviceGray") k) else m0 y)) (X : (hd.heap_39 w.params).In h₀) (N : News h₀ L s.heap ((l, listOf vs.toArray n) :: news)) (T : Top hd.view_39 (looseW hd.view_39 [Str.ofString "PaperError", Str.ofString "first_state"]) mean mg mb h₀)
    (hops : AllOp w news vs ops) (hlen : ops.length ≤ 5) (hnt : ∀ o ∈ ops, ∀ x, o ≠ .text x) (hfine : ∀ o ∈ ops, o.fine) (hstr : ∀ o ∈ ops, ∀ x, o = .name x → PyData.strOk x = true) (hs : ownSpec .gray ops = none)
    (hE : ∀ e, PassesOwnAt (model PySem.Challenge.rw_og0172_01.row.prog w) ((callerA.deeper (envX (Str.ofString "law") lawS L fa cd cl)).mark (some (.ref e))) (callerA.deeper (envX (Str.ofString "law") lawS L fa cd cl)) (envX (Str.ofString "law") lawS L fa cd cl) E)
    (hQ : ∀ h' tk' m', Fr h₀ L h' m' → Q (.ret (.bool true)) { s with heap := h', toks := tk' }) :
    wpAny (model PySem.Challenge.rw_og0172_01.row.prog w) (callerA.deeper (envX (Str.ofString "law") lawS L fa cd cl)) (execs (List.drop 3 lawB) (envX (Str.ofString "law") lawS L fa cd cl)) Q E s := by
  conv => arg 2; arg 2; arg 2; whnf
  conv => arg 3; arg 1; whnf
  conv => arg 3; arg 2; arg 2; whnf
  k_steps
  rename_i e9 g9 h9 tk9 x9 F9 R9 U9
  refine pf_caught (x := Str.ofString "PaintFault") B F9 U9 R9 X (topRead_of T) (by kernel_rfl) (fun h8 F8 N8 => ?_) rfl rfl (by decide) (hE _)
  k_steps
  all_goals exact hQ _ _ _ (by k_asm)
end Mine
end
section
open PySem PySem.W PyProof.Rows PySem.Calls
namespace Mine

theorem rowsM5graysomea : True := by
  k_with_none
  k_with "k_sub" => k_of "#h" => (intro p' hp'; first | exact hp' | exact List.Mem.tail _ hp' | ((simp only [List.cons_append, List.nil_append, List.append_nil, List.mem_cons, List.mem_append] at hp' ⊢); revert hp'; ((repeat' (refine or_imp.mpr (And.intro ?_ ?_))) <;> (intro hp'; simp only [hp', true_or, or_true]))))
  k_with "k_room" => k_of "#h" => ((try simp only [depth_mark, depth_under_make, depth_under_kw, depth_in1, depth_deeper, depth_caller, recursionLimit]); (try dsimp only [ktrTop]); omega)
  k_with "k_units" => k_of "#h" => ((have hcL9' := cLine_is); (try simp only [units_in1, units_deeper, Around.mark_units, units_caller]); (try dsimp only [ktrTop]); omega)
  k_with "@exec While BoolOp" => k_of "#h" => (k_here; k_dflt (refine whl_start 100 ?_))
  k_with "ktr_rel" => k_of "#h" => first | assumption | exact OpAt.int | exact OpAt.mono (by assumption) (by k_sub) | exact AllOp.mono (by assumption) (by k_sub) | exact List.Mem.tail _ (by assumption) | exact List.Mem.tail _ (List.Mem.tail _ (by assumption)) | exact subl _ (by assumption) | exact List.Mem.tail _ (subl _ (by assumption)) | exact mem_of_sub (by assumption) (by k_sub) | k_mem
  k_with "@exec Try" => k_of "#h" => (refine wpAny_Try_except ?_)
  k_with "@ite" => k_of "#h" => first | (refine my_ite_f (by decide) ?_) | (refine my_ite_t (by decide) ?_)
  k_with "@subscriptTail" => k_of "#h" => (k_here; (with_reducible show wpAny _ _ (subscriptTail _ _ (Value.ref _) (Value.int _ _)) _ _ _); k_dflt (refine' item_tupleT ?t' ?a' ?b' ?c' ?d' ?_; (case t' => exact News.isTup (by k_asm) (by ktr_rel)); (case a' => decide); (case b' => decide); (case c' => rfl); (case d' => rfl); k_whole))
  k_with "@call type:list" => k_of "#h" => (k_here; (with_reducible show wpAny _ _ (call (Value.type _) [Value.ref _]) _ _ _); k_dflt (refine' list_copyKT ?k1' ?k2' ?k3' ?_ ?k4'; (case k1' => k_asm); (case k2' => k_asm); (case k3' => exact News.isTup (by k_asm) (by ktr_rel)); (case k4' => exact all_fits (by assumption) (by assumption))); intro D' c' h' F' N' l1'; (try k_sweep))
  k_with "@call ref" => k_of "#h" => (k_here; k_dflt (refine' says_use (f := 466) (due_some (sp := .gray) ?hs' ?hl' _ ?hsub' ?hops' ?hlen' ?hnt' ?hfine') ?B' ?F' ?X' ?N' ?T' ?hk' ?hd' ?hu' ?_ ?_; (case B' => k_asm); (case F' => k_asm); (case X' => k_asm); (case N' => k_asm); (case T' => k_asm); (case hk' => first | exact rfl | assumption); (case hd' => first | ((try dsimp only [Around.deeper]); omega) | decide); (case hu' => first | ((try dsimp only [Around.deeper]); omega) | decide); (case hl' => ktr_rel); (case hops' => assumption); (case hs' => assumption); (case hsub' => k_sub); (case hlen' => omega); (case hnt' => assumption); (case hfine' => assumption)); rotate_left; (intro _ _ _ _ hx'; exact hx'.elim); (intro r' tl' h' tk' F' N' o' ho'; (obtain ⟨ad', er', hd'⟩ := ho'); subst er'; (try simp only [List.cons_append] at N'); clear o'; (try k_sweep)))
  k_with "@call ref" => k_of "#h" => (k_here; k_dflt (refine' says_use (f := 430) (own_some (sp := .gray) ?hs' ?hl' _ ?hsub' ?hops' ?hlen' ?hnt' ?hfine') ?B' ?F' ?X' ?N' ?T' ?hk' ?hd' ?hu' ?_ ?_; (case B' => k_asm); (case F' => k_asm); (case X' => k_asm); (case N' => k_asm); (case T' => k_asm); (case hk' => first | exact rfl | assumption); (case hd' => first | ((try dsimp only [Around.deeper]); omega) | decide); (case hu' => first | ((try dsimp only [Around.deeper]); omega) | decide); (case hl' => ktr_rel); (case hops' => assumption); (case hs' => assumption); (case hsub' => k_sub); (case hlen' => omega); (case hnt' => assumption); (case hfine' => assumption)); rotate_left; (intro _ _ _ _ hx'; exact hx'.elim); (intro r' tl' h' tk' F' N' o' ho'; (obtain ⟨ca', cb', crs', ck', er', hc1', hc2', hc3'⟩ := ho'); subst er'; (try (rename (∀ (p : Addr × Obj), p ∈ _ → p.1 ≠ _) => hn'; replace hn' := hne_app hn' o'; simp only [List.cons_append] at hn')); (try simp only [List.cons_append] at N'); clear o'; (try k_sweep)))
  k_with "@call ref" => k_of "#h" => (k_here; k_dflt (refine' says_use (f := 397) (fs_says _ _) ?B' ?F' ?X' ?N' ?T' ?hk' ?hd' ?hu' ?_ ?_; (case B' => k_asm); (case F' => k_asm); (case X' => k_asm); (case N' => k_asm); (case T' => k_asm); (case hk' => first | exact rfl | assumption); (case hd' => first | ((try dsimp only [Around.deeper]); omega) | decide); (case hu' => first | ((try dsimp only [Around.deeper]); omega) | decide); skip); rotate_left; (intro _ _ _ _ hx'; exact hx'.elim); (intro r' tl' h' tk' F' N' o' ho'; (obtain ⟨sa', sd', k1', k2', k3', k4', k5', v1', v2', fa', ga', v5', t0', fb', frs', fk', gb', grs', gk', et', er', hn', hf1', hf2', hf3', hg1', hg2', hg3'⟩ := ho'); subst et'; subst er'; (replace hn' := st_ne hn' o'); (replace N' := st_news N'); clear o'; (try k_sweep)))
  k_with "@call ref" => k_of "#h" => (k_here; k_dflt (refine' saysG_use (f := 437) (set_some_gray ?hs' ?hst' ?hne' ?hl' _ ?hsub' ?hops' ?hlen' ?hnt' ?hfine') ?B' ?F' ?X' ?N' ?T' ?hk' ?hd' ?hu' ?_ ?_; (case B' => k_asm); (case F' => k_asm); (case X' => k_asm); (case N' => k_asm); (case T' => k_asm); (case hk' => first | exact rfl | assumption); (case hd' => first | ((try dsimp only [Around.deeper]); omega) | decide); (case hu' => first | ((try dsimp only [Around.deeper]); omega) | decide); (case hst' => exact List.Mem.head _); (case hne' => assumption); (case hl' => ktr_rel); (case hops' => assumption); (case hs' => assumption); (case hsub' => k_sub); (case hlen' => omega); (case hnt' => assumption); (case hfine' => assumption)); rotate_left; (intro _ _ _ _ hx'; exact hx'.elim); (intro r' nw' h' tk' F' N' ho'; (obtain ⟨er', tl', x', b', rs', k', n', en', hn', h6', h7', h8'⟩ := ho'); subst er'; subst en'; (try simp only [List.cons_append] at N'); clear hn'; (try k_sweep)))
  k_with "@call ref" => k_of "#h" => (k_here; k_dflt (refine' says_use (f := 461) (told_says ?ha' ?hb' _ ?hsub' ?hp' ?hlen' ?hpt') ?B' ?F' ?X' ?N' ?T' ?hk' ?hd' ?hu' ?_ ?_; (case B' => k_asm); (case F' => k_asm); (case X' => k_asm); (case N' => k_asm); (case T' => k_asm); (case hk' => first | exact rfl | assumption); (case hd' => first | ((try dsimp only [Around.deeper]); omega) | decide); (case hu' => first | ((try dsimp only [Around.deeper]); omega) | decide); (case ha' => ktr_rel); (case hb' => ktr_rel); (case hp' => assumption); (case hsub' => k_sub); (case hlen' => first | assumption | decide); (case hpt' => assumption)); rotate_left; (intro _ _ _ _ hx'; exact hx'.elim); (intro r' tl' h' tk' F' N' o' ho'; (obtain ⟨ta', er', hd'⟩ := ho'); subst er'; (try simp only [List.cons_append] at N'); clear o'; (try k_sweep)))
  k_with "@compareOp NotEq ref ref" => k_of "#h" => (k_here; k_dflt (refine' datX_ne ?N' ?Da' (fun _ h' => h') ?Db' (fun _ h' => h') ?hk' ?hu' ?_; (case N' => k_asm); (case Da' => (refine' DatIn.mono ?s' ?h'; (case h' => assumption); (case s' => k_sub))); (case Db' => first | exact pat_dat (by k_mem) (by k_mem) (by k_mem) (by k_mem) | (refine' DatIn.mono ?s' ?h'; (case h' => assumption); (case s' => k_sub))); (case hk' => exact told_ok _ (by assumption)); (case hu' => first | k_units | decide)))
  k_with "@compareOp Eq ref ref" => k_of "#h" => (k_here; k_dflt (refine' two_eq ?N' ?h1' ?h2' ?A1' ?A2' ?B1' ?B2' ?k1' ?k2' ?hu' ?_; (case N' => k_asm); (case h1' => k_mem); (case h2' => k_mem); (case A1' => (refine' DatIn.mono ?s' ?h'; (case h' => assumption); (case s' => k_sub))); (case A2' => (refine' DatIn.mono ?s' ?h'; (case h' => assumption); (case s' => k_sub))); (case B1' => first | exact plain_dat (by k_mem) (by k_mem) (by k_mem) | (refine' DatIn.mono ?s' ?h'; (case h' => assumption); (case s' => k_sub))); (case B2' => first | exact plain_dat (by k_mem) (by k_mem) (by k_mem) | (refine' DatIn.mono ?s' ?h'; (case h' => assumption); (case s' => k_sub))); (case k1' => exact told_okn 4 _ (by assumption)); (case k2' => exact told_okn 4 _ (by assumption)); (case hu' => first | k_units | decide)))
  trivial

theorem law_gray_some {w : World} {mean : ExcName → Option Value} {mg mb : Str → Option Value} {h₀ : Heap} {L fa : Addr} {cd : Value} {cl : List (Str × Addr)} {m0 : Str → Option Value} {s : Shared} {Q : Flow → Shared → Prop} {E : Value → Shared → Prop} (k : Tok) (l : Addr) (vs : List Value) (n : Nat) (ops : List Op) (parts : List Op) (news : List (Addr × Obj))
    (B : Below callerA h₀ [] h₀) (F : Fr h₀ L s.heap (fun y => if y = Str.ofString "some" then some (.ref l) else if y = Str.ofString "space" then some (.str (Str.ofString "DeviceGray") k) else m0 y)) (X : (hd.heap_39 w.params).In h₀) (N : News h₀ L s.heap ((l, listOf vs.toArray n) :: news)) (T : Top hd.view_39 (looseW hd.view_39 [Str.ofString "PaperError", Str.ofString "first_state"]) mean mg mb h₀)
    (hops : AllOp w news vs ops) (hlen : ops.length ≤ 5) (hnt : ∀ o ∈ ops, ∀ x, o ≠ .text x) (hfine : ∀ o ∈ ops, o.fine) (hstr : ∀ o ∈ ops, ∀ x, o = .name x → PyData.strOk x = true) (hs : ownSpec .gray ops = some parts)
    (hE : ∀ e, PassesOwnAt (model PySem.Challenge.rw_og0172_01.row.prog w) ((callerA.deeper (envX (Str.ofString "law") lawS L fa cd cl)).mark (some (.ref e))) (callerA.deeper (envX (Str.ofString "law") lawS L fa cd cl)) (envX (Str.ofString "law") lawS L fa cd cl) E)
    (hQ : ∀ h' tk' m', Fr h₀ L h' m' → Q (.ret (.bool true)) { s with heap := h', toks := tk' }) :
    wpAny (model PySem.Challenge.rw_og0172_01.row.prog w) (callerA.deeper (envX (Str.ofString "law") lawS L fa cd cl)) (execs (List.drop 3 lawB) (envX (Str.ofString "law") lawS L fa cd cl)) Q E s := by
  conv => arg 2; arg 2; arg 2; whnf
  conv => arg 3; arg 1; whnf
  conv => arg 3; arg 2; arg 2; whnf
  obtain ⟨hpl, hpp⟩ := spec_parts hs hlen hstr
  have hz : ∀ o ∈ [Op.dec 0 0], o.isPart := fun o ho => by rw [List.mem_singleton.mp ho]; trivial
  obtain ⟨hs2, hnt2, hf2⟩ := spec_again (by decide) hs hfine
  k_steps
  all_goals exact hQ _ _ _ (by k_asm)
end Mine
end
section
open PySem PySem.W PyProof.Rows PySem.Calls
namespace Mine

theorem rowsM5rgbnonea : True := by
  k_with_none
  k_with "k_sub" => k_of "#h" => (intro p' hp'; first | exact hp' | exact List.Mem.tail _ hp' | ((simp only [List.cons_append, List.nil_append, List.append_nil, List.mem_cons, List.mem_append] at hp' ⊢); revert hp'; ((repeat' (refine or_imp.mpr (And.intro ?_ ?_))) <;> (intro hp'; simp only [hp', true_or, or_true]))))
  k_with "k_room" => k_of "#h" => ((try simp only [depth_mark, depth_under_make, depth_under_kw, depth_in1, depth_deeper, depth_caller, recursionLimit]); (try dsimp only [ktrTop]); omega)
  k_with "k_units" => k_of "#h" => ((have hcL9' := cLine_is); (try simp only [units_in1, units_deeper, Around.mark_units, units_caller]); (try dsimp only [ktrTop]); omega)
  k_with "@exec While BoolOp" => k_of "#h" => (k_here; k_dflt (refine whl_start 100 ?_))
  k_with "ktr_rel" => k_of "#h" => first | assumption | exact OpAt.int | exact OpAt.mono (by assumption) (by k_sub) | exact AllOp.mono (by assumption) (by k_sub) | exact List.Mem.tail _ (by assumption) | exact List.Mem.tail _ (List.Mem.tail _ (by assumption)) | exact subl _ (by assumption) | exact List.Mem.tail _ (subl _ (by assumption)) | exact mem_of_sub (by assumption) (by k_sub) | k_mem
  k_with "@exec Try" => k_of "#h" => (refine wpAny_Try_except ?_)
  k_with "@ite" => k_of "#h" => first | (refine my_ite_f (by decide) ?_) | (refine my_ite_t (by decide) ?_)
  k_with "@subscriptTail" => k_of "#h" => (k_here; (with_reducible show wpAny _ _ (subscriptTail _ _ (Value.ref _) (Value.int _ _)) _ _ _); k_dflt (refine' item_tupleT ?t' ?a' ?b' ?c' ?d' ?_; (case t' => exact News.isTup (by k_asm) (by ktr_rel)); (case a' => decide); (case b' => decide); (case c' => rfl); (case d' => rfl); k_whole))
  k_with "@call type:list" => k_of "#h" => (k_here; (with_reducible show wpAny _ _ (call (Value.type _) [Value.ref _]) _ _ _); k_dflt (refine' list_copyKT ?k1' ?k2' ?k3' ?_ ?k4'; (case k1' => k_asm); (case k2' => k_asm); (case k3' => exact News.isTup (by k_asm) (by ktr_rel)); (case k4' => exact all_fits (by assumption) (by assumption))); intro D' c' h' F' N' l1'; (try k_sweep))
  k_with "@call ref" => k_of "#h" => (k_here; k_dflt (refine' says_use (f := 466) (due_none (sp := .rgb) ?hs' ?hl' _ ?hsub' ?hops' ?hlen' ?hnt' ?hfine') ?B' ?F' ?X' ?N' ?T' ?hk' ?hd' ?hu' ?_ ?_; (case B' => k_asm); (case F' => k_asm); (case X' => k_asm); (case N' => k_asm); (case T' => k_asm); (case hk' => first | exact rfl | assumption); (case hd' => first | ((try dsimp only [Around.deeper]); omega) | decide); (case hu' => first | ((try dsimp only [Around.deeper]); omega) | decide); (case hl' => ktr_rel); (case hops' => assumption); (case hs' => assumption); (case hsub' => k_sub); (case hlen' => omega); (case hnt' => assumption); (case hfine' => assumption)); rotate_left; (intro _ _ _ _ hx'; exact hx'.elim); (intro r' tl' h' tk' F' N' o' ho'; subst ho'; (try simp only [List.cons_append] at N'); clear o'; (try k_sweep)))
  k_with "@call ref" => k_of "#h" => (k_here; k_dflt (refine' says_use (f := 430) (own_none (sp := .rgb) ?hs' ?hl' _ ?hsub' ?hops' ?hlen' ?hnt' ?hfine') ?B' ?F' ?X' ?N' ?T' ?hk' ?hd' ?hu' ?_ ?_; (case B' => k_asm); (case F' => k_asm); (case X' => k_asm); (case N' => k_asm); (case T' => k_asm); (case hk' => first | exact rfl | assumption); (case hd' => first | ((try dsimp only [Around.deeper]); omega) | decide); (case hu' => first | ((try dsimp only [Around.deeper]); omega) | decide); (case hl' => ktr_rel); (case hops' => assumption); (case hs' => assumption); (case hsub' => k_sub); (case hlen' => omega); (case hnt' => assumption); (case hfine' => assumption)); (intro _ _ _ _ _ _ _ hx'; exact hx'.elim); (intro e' g' h' tk' x' F' R' U'))
  k_with "@call ref" => k_of "#h" => (k_here; k_dflt (refine' says_use (f := 397) (fs_says _ _) ?B' ?F' ?X' ?N' ?T' ?hk' ?hd' ?hu' ?_ ?_; (case B' => k_asm); (case F' => k_asm); (case X' => k_asm); (case N' => k_asm); (case T' => k_asm); (case hk' => first | exact rfl | assumption); (case hd' => first | ((try dsimp only [Around.deeper]); omega) | decide); (case hu' => first | ((try dsimp only [Around.deeper]); omega) | decide); skip); rotate_left; (intro _ _ _ _ hx'; exact hx'.elim); (intro r' tl' h' tk' F' N' o' ho'; (obtain ⟨sa', sd', k1', k2', k3', k4', k5', v1', v2', fa', ga', v5', t0', fb', frs', fk', gb', grs', gk', et', er', hn', hf1', hf2', hf3', hg1', hg2', hg3'⟩ := ho'); subst et'; subst er'; (replace hn' := st_ne hn' o'); (replace N' := st_news N'); clear o'; (try k_sweep)))
  trivial

theorem law_rgb_none {w : World} {mean : ExcName → Option Value} {mg mb : Str → Option Value} {h₀ : Heap} {L fa : Addr} {cd : Value} {cl : List (Str × Addr)} {m0 : Str → Option Value} {s : Shared} {Q : Flow → Shared → Prop} {E : Value → Shared → Prop} (k : Tok) (l : Addr) (vs : List Value) (n : Nat) (ops : List Op) (news : List (Addr × Obj))
    (B : Below callerA h₀ [] h₀) (F : Fr h₀ L s.heap (fun y => if y = Str.ofString "some" then some (.ref l) else if y = Str.ofString "space" then some (.str (Str.ofString "DeviceRGB") k) else m0 y)) (X : (hd.heap_39 w.params).In h₀) (N : News h₀ L s.heap ((l, listOf vs.toArray n) :: news)) (T : Top hd.view_39 (looseW hd.view_39 [Str.ofString "PaperError", Str.ofString "first_state"]) mean mg mb h₀)
    (hops : AllOp w news vs ops) (hlen : ops.length ≤ 5) (hnt : ∀ o ∈ ops, ∀ x, o ≠ .text x) (hfine : ∀ o ∈ ops, o.fine) (hstr : ∀ o ∈ ops, ∀ x, o = .name x → PyData.strOk x = true) (hs : ownSpec .rgb ops = none)
    (hE : ∀ e, PassesOwnAt (model PySem.Challenge.rw_og0172_01.row.prog w) ((callerA.deeper (envX (Str.ofString "law") lawS L fa cd cl)).mark (some (.ref e))) (callerA.deeper (envX (Str.ofString "law") lawS L fa cd cl)) (envX (Str.ofString "law") lawS L fa cd cl) E)
    (hQ : ∀ h' tk' m', Fr h₀ L h' m' → Q (.ret (.bool true)) { s with heap := h', toks := tk' }) :
    wpAny (model PySem.Challenge.rw_og0172_01.row.prog w) (callerA.deeper (envX (Str.ofString "law") lawS L fa cd cl)) (execs (List.drop 3 lawB) (envX (Str.ofString "law") lawS L fa cd cl)) Q E s := by
  conv => arg 2; arg 2; arg 2; whnf
  conv => arg 3; arg 1; whnf
  conv => arg 3; arg 2; arg 2; whnf
  k_steps
  rename_i e9 g9 h9 tk9 x9 F9 R9 U9
  refine pf_caught (x := Str.ofString "PaintFault") B F9 U9 R9 X (topRead_of T) (by kernel_rfl) (fun h8 F8 N8 => ?_) rfl rfl (by decide) (hE _)
  k_steps
  all_goals exact hQ _ _ _ (by k_asm)
end Mine
end
section
open PySem PySem.W PyProof.Rows PySem.Calls
namespace Mine

theorem rowsM5rgbsomea : True := by
  k_with_none
  k_with "k_sub" => k_of "#h" => (intro p' hp'; first | exact hp' | exact List.Mem.tail _ hp' | ((simp only [List.cons_append, List.nil_append, List.append_nil, List.mem_cons, List.mem_append] at hp' ⊢); revert hp'; ((repeat' (refine or_imp.mpr (And.intro ?_ ?_))) <;> (intro hp'; simp only [hp', true_or, or_true]))))
  k_with "k_room" => k_of "#h" => ((try simp only [depth_mark, depth_under_make, depth_under_kw, depth_in1, depth_deeper, depth_caller, recursionLimit]); (try dsimp only [ktrTop]); omega)
  k_with "k_units" => k_of "#h" => ((have hcL9' := cLine_is); (try simp only [units_in1, units_deeper, Around.mark_units, units_caller]); (try dsimp only [ktrTop]); omega)
  k_with "@exec While BoolOp" => k_of "#h" => (k_here; k_dflt (refine whl_start 100 ?_))
  k_with "ktr_rel" => k_of "#h" => first | assumption | exact OpAt.int | exact OpAt.mono (by assumption) (by k_sub) | exact AllOp.mono (by assumption) (by k_sub) | exact List.Mem.tail _ (by assumption) | exact List.Mem.tail _ (List.Mem.tail _ (by assumption)) | exact subl _ (by assumption) | exact List.Mem.tail _ (subl _ (by assumption)) | exact mem_of_sub (by assumption) (by k_sub) | k_mem
  k_with "@exec Try" => k_of "#h" => (refine wpAny_Try_except ?_)
  k_with "@ite" => k_of "#h" => first | (refine my_ite_f (by decide) ?_) | (refine my_ite_t (by decide) ?_)
  k_with "@subscriptTail" => k_of "#h" => (k_here; (with_reducible show wpAny _ _ (subscriptTail _ _ (Value.ref _) (Value.int _ _)) _ _ _); k_dflt (refine' item_tupleT ?t' ?a' ?b' ?c' ?d' ?_; (case t' => exact News.isTup (by k_asm) (by ktr_rel)); (case a' => decide); (case b' => decide); (case c' => rfl); (case d' => rfl); k_whole))
  k_with "@call type:list" => k_of "#h" => (k_here; (with_reducible show wpAny _ _ (call (Value.type _) [Value.ref _]) _ _ _); k_dflt (refine' list_copyKT ?k1' ?k2' ?k3' ?_ ?k4'; (case k1' => k_asm); (case k2' => k_asm); (case k3' => exact News.isTup (by k_asm) (by ktr_rel)); (case k4' => exact all_fits (by assumption) (by assumption))); intro D' c' h' F' N' l1'; (try k_sweep))
  k_with "@call ref" => k_of "#h" => (k_here; k_dflt (refine' says_use (f := 466) (due_some (sp := .rgb) ?hs' ?hl' _ ?hsub' ?hops' ?hlen' ?hnt' ?hfine') ?B' ?F' ?X' ?N' ?T' ?hk' ?hd' ?hu' ?_ ?_; (case B' => k_asm); (case F' => k_asm); (case X' => k_asm); (case N' => k_asm); (case T' => k_asm); (case hk' => first | exact rfl | assumption); (case hd' => first | ((try dsimp only [Around.deeper]); omega) | decide); (case hu' => first | ((try dsimp only [Around.deeper]); omega) | decide); (case hl' => ktr_rel); (case hops' => assumption); (case hs' => assumption); (case hsub' => k_sub); (case hlen' => omega); (case hnt' => assumption); (case hfine' => assumption)); rotate_left; (intro _ _ _ _ hx'; exact hx'.elim); (intro r' tl' h' tk' F' N' o' ho'; (obtain ⟨ad', er', hd'⟩ := ho'); subst er'; (try simp only [List.cons_append] at N'); clear o'; (try k_sweep)))
  k_with "@call ref" => k_of "#h" => (k_here; k_dflt (refine' says_use (f := 430) (own_some (sp := .rgb) ?hs' ?hl' _ ?hsub' ?hops' ?hlen' ?hnt' ?hfine') ?B' ?F' ?X' ?N' ?T' ?hk' ?hd' ?hu' ?_ ?_; (case B' => k_asm); (case F' => k_asm); (case X' => k_asm); (case N' => k_asm); (case T' => k_asm); (case hk' => first | exact rfl | assumption); (case hd' => first | ((try dsimp only [Around.deeper]); omega) | decide); (case hu' => first | ((try dsimp only [Around.deeper]); omega) | decide); (case hl' => ktr_rel); (case hops' => assumption); (case hs' => assumption); (case hsub' => k_sub); (case hlen' => omega); (case hnt' => assumption); (case hfine' => assumption)); rotate_left; (intro _ _ _ _ hx'; exact hx'.elim); (intro r' tl' h' tk' F' N' o' ho'; (obtain ⟨ca', cb', crs', ck', er', hc1', hc2', hc3'⟩ := ho'); subst er'; (try (rename (∀ (p : Addr × Obj), p ∈ _ → p.1 ≠ _) => hn'; replace hn' := hne_app hn' o'; simp only [List.cons_append] at hn')); (try simp only [List.cons_append] at N'); clear o'; (try k_sweep)))
  k_with "@call ref" => k_of "#h" => (k_here; k_dflt (refine' says_use (f := 397) (fs_says _ _) ?B' ?F' ?X' ?N' ?T' ?hk' ?hd' ?hu' ?_ ?_; (case B' => k_asm); (case F' => k_asm); (case X' => k_asm); (case N' => k_asm); (case T' => k_asm); (case hk' => first | exact rfl | assumption); (case hd' => first | ((try dsimp only [Around.deeper]); omega) | decide); (case hu' => first | ((try dsimp only [Around.deeper]); omega) | decide); skip); rotate_left; (intro _ _ _ _ hx'; exact hx'.elim); (intro r' tl' h' tk' F' N' o' ho'; (obtain ⟨sa', sd', k1', k2', k3', k4', k5', v1', v2', fa', ga', v5', t0', fb', frs', fk', gb', grs', gk', et', er', hn', hf1', hf2', hf3', hg1', hg2', hg3'⟩ := ho'); subst et'; subst er'; (replace hn' := st_ne hn' o'); (replace N' := st_news N'); clear o'; (try k_sweep)))
  k_with "@call ref" => k_of "#h" => (k_here; k_dflt (refine' saysG_use (f := 437) (set_some_rgb ?hs' ?hst' ?hne' ?hl' _ ?hsub' ?hops' ?hlen' ?hnt' ?hfine') ?B' ?F' ?X' ?N' ?T' ?hk' ?hd' ?hu' ?_ ?_; (case B' => k_asm); (case F' => k_asm); (case X' => k_asm); (case N' => k_asm); (case T' => k_asm); (case hk' => first | exact rfl | assumption); (case hd' => first | ((try dsimp only [Around.deeper]); omega) | decide); (case hu' => first | ((try dsimp only [Around.deeper]); omega) | decide); (case hst' => exact List.Mem.head _); (case hne' => assumption); (case hl' => ktr_rel); (case hops' => assumption); (case hs' => assumption); (case hsub' => k_sub); (case hlen' => omega); (case hnt' => assumption); (case hfine' => assumption)); rotate_left; (intro _ _ _ _ hx'; exact hx'.elim); (intro r' nw' h' tk' F' N' ho'; (obtain ⟨er', tl', x', b', rs', k', n', en', hn', h6', h7', h8'⟩ := ho'); subst er'; subst en'; (try simp only [List.cons_append] at N'); clear hn'; (try k_sweep)))
  k_with "@call ref" => k_of "#h" => (k_here; k_dflt (refine' says_use (f := 461) (told_says ?ha' ?hb' _ ?hsub' ?hp' ?hlen' ?hpt') ?B' ?F' ?X' ?N' ?T' ?hk' ?hd' ?hu' ?_ ?_; (case B' => k_asm); (case F' => k_asm); (case X' => k_asm); (case N' => k_asm); (case T' => k_asm); (case hk' => first | exact rfl | assumption); (case hd' => first | ((try dsimp only [Around.deeper]); omega) | decide); (case hu' => first | ((try dsimp only [Around.deeper]); omega) | decide); (case ha' => ktr_rel); (case hb' => ktr_rel); (case hp' => assumption); (case hsub' => k_sub); (case hlen' => first | assumption | decide); (case hpt' => assumption)); rotate_left; (intro _ _ _ _ hx'; exact hx'.elim); (intro r' tl' h' tk' F' N' o' ho'; (obtain ⟨ta', er', hd'⟩ := ho'); subst er'; (try simp only [List.cons_append] at N'); clear o'; (try k_sweep)))
  k_with "@compareOp NotEq ref ref" => k_of "#h" => (k_here; k_dflt (refine' datX_ne ?N' ?Da' (fun _ h' => h') ?Db' (fun _ h' => h') ?hk' ?hu' ?_; (case N' => k_asm); (case Da' => (refine' DatIn.mono ?s' ?h'; (case h' => assumption); (case s' => k_sub))); (case Db' => first | exact pat_dat (by k_mem) (by k_mem) (by k_mem) (by k_mem) | (refine' DatIn.mono ?s' ?h'; (case h' => assumption); (case s' => k_sub))); (case hk' => exact told_ok _ (by assumption)); (case hu' => first | k_units | decide)))
  k_with "@compareOp Eq ref ref" => k_of "#h" => (k_here; k_dflt (refine' two_eq ?N' ?h1' ?h2' ?A1' ?A2' ?B1' ?B2' ?k1' ?k2' ?hu' ?_; (case N' => k_asm); (case h1' => k_mem); (case h2' => k_mem); (case A1' => (refine' DatIn.mono ?s' ?h'; (case h' => assumption); (case s' => k_sub))); (case A2' => (refine' DatIn.mono ?s' ?h'; (case h' => assumption); (case s' => k_sub))); (case B1' => first | exact plain_dat (by k_mem) (by k_mem) (by k_mem) | (refine' DatIn.mono ?s' ?h'; (case h' => assumption); (case s' => k_sub))); (case B2' => first | exact plain_dat (by k_mem) (by k_mem) (by k_mem) | (refine' DatIn.mono ?s' ?h'; (case h' => assumption); (case s' => k_sub))); (case k1' => exact told_okn 4 _ (by assumption)); (case k2' => exact told_okn 4 _ (by assumption)); (case hu' => first | k_units | decide)))
  trivial

theorem law_rgb_some {w : World} {mean : ExcName → Option Value} {mg mb : Str → Option Value} {h₀ : Heap} {L fa : Addr} {cd : Value} {cl : List (Str × Addr)} {m0 : Str → Option Value} {s : Shared} {Q : Flow → Shared → Prop} {E : Value → Shared → Prop} (k : Tok) (l : Addr) (vs : List Value) (n : Nat) (ops : List Op) (parts : List Op) (news : List (Addr × Obj))
    (B : Below callerA h₀ [] h₀) (F : Fr h₀ L s.heap (fun y => if y = Str.ofString "some" then some (.ref l) else if y = Str.ofString "space" then some (.str (Str.ofString "DeviceRGB") k) else m0 y)) (X : (hd.heap_39 w.params).In h₀) (N : News h₀ L s.heap ((l, listOf vs.toArray n) :: news)) (T : Top hd.view_39 (looseW hd.view_39 [Str.ofString "PaperError", Str.ofString "first_state"]) mean mg mb h₀)
    (hops : AllOp w news vs ops) (hlen : ops.length ≤ 5) (hnt : ∀ o ∈ ops, ∀ x, o ≠ .text x) (hfine : ∀ o ∈ ops, o.fine) (hstr : ∀ o ∈ ops, ∀ x, o = .name x → PyData.strOk x = true) (hs : ownSpec .rgb ops = some parts)
    (hE : ∀ e, PassesOwnAt (model PySem.Challenge.rw_og0172_01.row.prog w) ((callerA.deeper (envX (Str.ofString "law") lawS L fa cd cl)).mark (some (.ref e))) (callerA.deeper (envX (Str.ofString "law") lawS L fa cd cl)) (envX (Str.ofString "law") lawS L fa cd cl) E)
    (hQ : ∀ h' tk' m', Fr h₀ L h' m' → Q (.ret (.bool true)) { s with heap := h', toks := tk' }) :
    wpAny (model PySem.Challenge.rw_og0172_01.row.prog w) (callerA.deeper (envX (Str.ofString "law") lawS L fa cd cl)) (execs (List.drop 3 lawB) (envX (Str.ofString "law") lawS L fa cd cl)) Q E s := by
  conv => arg 2; arg 2; arg 2; whnf
  conv => arg 3; arg 1; whnf
  conv => arg 3; arg 2; arg 2; whnf
  obtain ⟨hpl, hpp⟩ := spec_parts hs hlen hstr
  have hz : ∀ o ∈ [Op.dec 0 0], o.isPart := fun o ho => by rw [List.mem_singleton.mp ho]; trivial
  obtain ⟨hs2, hnt2, hf2⟩ := spec_again (by decide) hs hfine
  k_steps
  all_goals exact hQ _ _ _ (by k_asm)
end Mine
end
section
open PySem PySem.W PyProof.Rows PySem.Calls
namespace Mine

theorem rowsM5cmyknonea : True := by
  k_with_none
  k_with "k_sub" => k_of "#h" => (intro p' hp'; first | exact hp' | exact List.Mem.tail _ hp' | ((simp only [List.cons_append, List.nil_append, List.append_nil, List.mem_cons, List.mem_append] at hp' ⊢); revert hp'; ((repeat' (refine or_imp.mpr (And.intro ?_ ?_))) <;> (intro hp'; simp only [hp', true_or, or_true]))))
  k_with "k_room" => k_of "#h" => ((try simp only [depth_mark, depth_under_make, depth_under_kw, depth_in1, depth_deeper, depth_caller, recursionLimit]); (try dsimp only [ktrTop]); omega)
  k_with "k_units" => k_of "#h" => ((have hcL9' := cLine_is); (try simp only [units_in1, units_deeper, Around.mark_units, units_caller]); (try dsimp only [ktrTop]); omega)
  k_with "@exec While BoolOp" => k_of "#h" => (k_here; k_dflt (refine whl_start 100 ?_))
  k_with "ktr_rel" => k_of "#h" => first | assumption | exact OpAt.int | exact OpAt.mono (by assumption) (by k_sub) | exact AllOp.mono (by assumption) (by k_sub) | exact List.Mem.tail _ (by assumption) | exact List.Mem.tail _ (List.Mem.tail _ (by assumption)) | exact subl _ (by assumption) | exact List.Mem.tail _ (subl _ (by assumption)) | exact mem_of_sub (by assumption) (by k_sub) | k_mem
  k_with "@exec Try" => k_of "#h" => (refine wpAny_Try_except ?_)
  k_with "@ite" => k_of "#h" => first | (refine my_ite_f (by decide) ?_) | (refine my_ite_t (by decide) ?_)
  k_with "@subscriptTail" => k_of "#h" => (k_here; (with_reducible show wpAny _ _ (subscriptTail _ _ (Value.ref _) (Value.int _ _)) _ _ _); k_dflt (refine' item_tupleT ?t' ?a' ?b' ?c' ?d' ?_; (case t' => exact News.isTup (by k_asm) (by ktr_rel)); (case a' => decide); (case b' => decide); (case c' => rfl); (case d' => rfl); k_whole))
  k_with "@call type:list" => k_of "#h" => (k_here; (with_reducible show wpAny _ _ (call (Value.type _) [Value.ref _]) _ _ _); k_dflt (refine' list_copyKT ?k1' ?k2' ?k3' ?_ ?k4'; (case k1' => k_asm); (case k2' => k_asm); (case k3' => exact News.isTup (by k_asm) (by ktr_rel)); (case k4' => exact all_fits (by assumption) (by assumption))); intro D' c' h' F' N' l1'; (try k_sweep))
  k_with "@call ref" => k_of "#h" => (k_here; k_dflt (refine' says_use (f := 466) (due_none (sp := .cmyk) ?hs' ?hl' _ ?hsub' ?hops' ?hlen' ?hnt' ?hfine') ?B' ?F' ?X' ?N' ?T' ?hk' ?hd' ?hu' ?_ ?_; (case B' => k_asm); (case F' => k_asm); (case X' => k_asm); (case N' => k_asm); (case T' => k_asm); (case hk' => first | exact rfl | assumption); (case hd' => first | ((try dsimp only [Around.deeper]); omega) | decide); (case hu' => first | ((try dsimp only [Around.deeper]); omega) | decide); (case hl' => ktr_rel); (case hops' => assumption); (case hs' => assumption); (case hsub' => k_sub); (case hlen' => omega); (case hnt' => assumption); (case hfine' => assumption)); rotate_left; (intro _ _ _ _ hx'; exact hx'.elim); (intro r' tl' h' tk' F' N' o' ho'; subst ho'; (try simp only [List.cons_append] at N'); clear o'; (try k_sweep)))
  k_with "@call ref" => k_of "#h" => (k_here; k_dflt (refine' says_use (f := 430) (own_none (sp := .cmyk) ?hs' ?hl' _ ?hsub' ?hops' ?hlen' ?hnt' ?hfine') ?B' ?F' ?X' ?N' ?T' ?hk' ?hd' ?hu' ?_ ?_; (case B' => k_asm); (case F' => k_asm); (case X' => k_asm); (case N' => k_asm); (case T' => k_asm); (case hk' => first | exact rfl | assumption); (case hd' => first | ((try dsimp only [Around.deeper]); omega) | decide); (case hu' => first | ((try dsimp only [Around.deeper]); omega) | decide); (case hl' => ktr_rel); (case hops' => assumption); (case hs' => assumption); (case hsub' => k_sub); (case hlen' => omega); (case hnt' => assumption); (case hfine' => assumption)); (intro _ _ _ _ _ _ _ hx'; exact hx'.elim); (intro e' g' h' tk' x' F' R' U'))
  k_with "@call ref" => k_of "#h" => (k_here; k_dflt (refine' says_use (f := 397) (fs_says _ _) ?B' ?F' ?X' ?N' ?T' ?hk' ?hd' ?hu' ?_ ?_; (case B' => k_asm); (case F' => k_asm); (case X' => k_asm); (case N' => k_asm); (case T' => k_asm); (case hk' => first | exact rfl | assumption); (case hd' => first | ((try dsimp only [Around.deeper]); omega) | decide); (case hu' => first | ((try dsimp only [Around.deeper]); omega) | decide); skip); rotate_left; (intro _ _ _ _ hx'; exact hx'.elim); (intro r' tl' h' tk' F' N' o' ho'; (obtain ⟨sa', sd', k1', k2', k3', k4', k5', v1', v2', fa', ga', v5', t0', fb', frs', fk', gb', grs', gk', et', er', hn', hf1', hf2', hf3', hg1', hg2', hg3'⟩ := ho'); subst et'; subst er'; (replace hn' := st_ne hn' o'); (replace N' := st_news N'); clear o'; (try k_sweep)))
  trivial

theorem law_cmyk_none {w : World} {mean : ExcName → Option Value} {mg mb : Str → Option Value} {h₀ : Heap} {L fa : Addr} {cd : Value} {cl : List (Str × Addr)} {m0 : Str → Option Value} {s : Shared} {Q : Flow → Shared → Prop} {E : Value → Shared → Prop} (k : Tok) (l : Addr) (vs : List Value) (n : Nat) (ops : List Op) (news : List (Addr × Obj))
    (B : Below callerA h₀ [] h₀) (F : Fr h₀ L s.heap (fun y => if y = Str.ofString "some" then some (.ref l) else if y = Str.ofString "space" then some (.str (Str.ofString "DeviceCMYK") k) else m0 y)) (X : (hd.heap_39 w.params).In h₀) (N : News h₀ L s.heap ((l, listOf vs.toArray n) :: news)) (T : Top hd.view_39 (looseW hd.view_39 [Str.ofString "PaperError", Str.ofString "first_state"]) mean mg mb h₀)
    (hops : AllOp w news vs ops) (hlen : ops.length ≤ 5) (hnt : ∀ o ∈ ops, ∀ x, o ≠ .text x) (hfine : ∀ o ∈ ops, o.fine) (hstr : ∀ o ∈ ops, ∀ x, o = .name x → PyData.strOk x = true) (hs : ownSpec .cmyk ops = none)
    (hE : ∀ e, PassesOwnAt (model PySem.Challenge.rw_og0172_01.row.prog w) ((callerA.deeper (envX (Str.ofString "law") lawS L fa cd cl)).mark (some (.ref e))) (callerA.deeper (envX (Str.ofString "law") lawS L fa cd cl)) (envX (Str.ofString "law") lawS L fa cd cl) E)
    (hQ : ∀ h' tk' m', Fr h₀ L h' m' → Q (.ret (.bool true)) { s with heap := h', toks := tk' }) :
    wpAny (model PySem.Challenge.rw_og0172_01.row.prog w) (callerA.deeper (envX (Str.ofString "law") lawS L fa cd cl)) (execs (List.drop 3 lawB) (envX (Str.ofString "law") lawS L fa cd cl)) Q E s := by
  conv => arg 2; arg 2; arg 2; whnf
  conv => arg 3; arg 1; whnf
  conv => arg 3; arg 2; arg 2; whnf
  k_steps
  rename_i e9 g9 h9 tk9 x9 F9 R9 U9
  refine pf_caught (x := Str.ofString "PaintFault") B F9 U9 R9 X (topRead_of T) (by kernel_rfl) (fun h8 F8 N8 => ?_) rfl rfl (by decide) (hE _)
  k_steps
  all_goals exact hQ _ _ _ (by k_asm)
end Mine
end
section
open PySem PySem.W PyProof.Rows PySem.Calls
namespace Mine

theorem rowsM5cmyksomea : True := by
  k_with_none
  k_with "k_sub" => k_of "#h" => (intro p' hp'; first | exact hp' | exact List.Mem.tail _ hp' | ((simp only [List.cons_append, List.nil_append, List.append_nil, List.mem_cons, List.mem_append] at hp' ⊢); revert hp'; ((repeat' (refine or_imp.mpr (And.intro ?_ ?_))) <;> (intro hp'; simp only [hp', true_or, or_true]))))
  k_with "k_room" => k_of "#h" => ((try simp only [depth_mark, depth_under_make, depth_under_kw, depth_in1, depth_deeper, depth_caller, recursionLimit]); (try dsimp only [ktrTop]); omega)
  k_with "k_units" => k_of "#h" => ((have hcL9' := cLine_is); (try simp only [units_in1, units_deeper, Around.mark_units, units_caller]); (try dsimp only [ktrTop]); omega)
  k_with "@exec While BoolOp" => k_of "#h" => (k_here; k_dflt (refine whl_start 100 ?_))
  k_with "ktr_rel" => k_of "#h" => first | assumption | exact OpAt.int | exact OpAt.mono (by assumption) (by k_sub) | exact AllOp.mono (by assumption) (by k_sub) | exact List.Mem.tail _ (by assumption) | exact List.Mem.tail _ (List.Mem.tail _ (by assumption)) | exact subl _ (by assumption) | exact List.Mem.tail _ (subl _ (by assumption)) | exact mem_of_sub (by assumption) (by k_sub) | k_mem
  k_with "@exec Try" => k_of "#h" => (refine wpAny_Try_except ?_)
  k_with "@ite" => k_of "#h" => first | (refine my_ite_f (by decide) ?_) | (refine my_ite_t (by decide) ?_)
  k_with "@subscriptTail" => k_of "#h" => (k_here; (with_reducible show wpAny _ _ (subscriptTail _ _ (Value.ref _) (Value.int _ _)) _ _ _); k_dflt (refine' item_tupleT ?t' ?a' ?b' ?c' ?d' ?_; (case t' => exact News.isTup (by k_asm) (by ktr_rel)); (case a' => decide); (case b' => decide); (case c' => rfl); (case d' => rfl); k_whole))
  k_with "@call type:list" => k_of "#h" => (k_here; (with_reducible show wpAny _ _ (call (Value.type _) [Value.ref _]) _ _ _); k_dflt (refine' list_copyKT ?k1' ?k2' ?k3' ?_ ?k4'; (case k1' => k_asm); (case k2' => k_asm); (case k3' => exact News.isTup (by k_asm) (by ktr_rel)); (case k4' => exact all_fits (by assumption) (by assumption))); intro D' c' h' F' N' l1'; (try k_sweep))
  k_with "@call ref" => k_of "#h" => (k_here; k_dflt (refine' says_use (f := 466) (due_some (sp := .cmyk) ?hs' ?hl' _ ?hsub' ?hops' ?hlen' ?hnt' ?hfine') ?B' ?F' ?X' ?N' ?T' ?hk' ?hd' ?hu' ?_ ?_; (case B' => k_asm); (case F' => k_asm); (case X' => k_asm); (case N' => k_asm); (case T' => k_asm); (case hk' => first | exact rfl | assumption); (case hd' => first | ((try dsimp only [Around.deeper]); omega) | decide); (case hu' => first | ((try dsimp only [Around.deeper]); omega) | decide); (case hl' => ktr_rel); (case hops' => assumption); (case hs' => assumption); (case hsub' => k_sub); (case hlen' => omega); (case hnt' => assumption); (case hfine' => assumption)); rotate_left; (intro _ _ _ _ hx'; exact hx'.elim); (intro r' tl' h' tk' F' N' o' ho'; (obtain ⟨ad', er', hd'⟩ := ho'); subst er'; (try simp only [List.cons_append] at N'); clear o'; (try k_sweep)))
  k_with "@call ref" => k_of "#h" => (k_here; k_dflt (refine' says_use (f := 430) (own_some (sp := .cmyk) ?hs' ?hl' _ ?hsub' ?hops' ?hlen' ?hnt' ?hfine') ?B' ?F' ?X' ?N' ?T' ?hk' ?hd' ?hu' ?_ ?_; (case B' => k_asm); (case F' => k_asm); (case X' => k_asm); (case N' => k_asm); (case T' => k_asm); (case hk' => first | exact rfl | assumption); (case hd' => first | ((try dsimp only [Around.deeper]); omega) | decide); (case hu' => first | ((try dsimp only [Around.deeper]); omega) | decide); (case hl' => ktr_rel); (case hops' => assumption); (case hs' => assumption); (case hsub' => k_sub); (case hlen' => omega); (case hnt' => assumption); (case hfine' => assumption)); rotate_left; (intro _ _ _ _ hx'; exact hx'.elim); (intro r' tl' h' tk' F' N' o' ho'; (obtain ⟨ca', cb', crs', ck', er', hc1', hc2', hc3'⟩ := ho'); subst er'; (try (rename (∀ (p : Addr × Obj), p ∈ _ → p.1 ≠ _) => hn'; replace hn' := hne_app hn' o'; simp only [List.cons_append] at hn')); (try simp only [List.cons_append] at N'); clear o'; (try k_sweep)))
  k_with "@call ref" => k_of "#h" => (k_here; k_dflt (refine' says_use (f := 397) (fs_says _ _) ?B' ?F' ?X' ?N' ?T' ?hk' ?hd' ?hu' ?_ ?_; (case B' => k_asm); (case F' => k_asm); (case X' => k_asm); (case N' => k_asm); (case T' => k_asm); (case hk' => first | exact rfl | assumption); (case hd' => first | ((try dsimp only [Around.deeper]); omega) | decide); (case hu' => first | ((try dsimp only [Around.deeper]); omega) | decide); skip); rotate_left; (intro _ _ _ _ hx'; exact hx'.elim); (intro r' tl' h' tk' F' N' o' ho'; (obtain ⟨sa', sd', k1', k2', k3', k4', k5', v1', v2', fa', ga', v5', t0', fb', frs', fk', gb', grs', gk', et', er', hn', hf1', hf2', hf3', hg1', hg2', hg3'⟩ := ho'); subst et'; subst er'; (replace hn' := st_ne hn' o'); (replace N' := st_news N'); clear o'; (try k_sweep)))
  k_with "@call ref" => k_of "#h" => (k_here; k_dflt (refine' saysG_use (f := 437) (set_some_cmyk ?hs' ?hst' ?hne' ?hl' _ ?hsub' ?hops' ?hlen' ?hnt' ?hfine') ?B' ?F' ?X' ?N' ?T' ?hk' ?hd' ?hu' ?_ ?_; (case B' => k_asm); (case F' => k_asm); (case X' => k_asm); (case N' => k_asm); (case T' => k_asm); (case hk' => first | exact rfl | assumption); (case hd' => first | ((try dsimp only [Around.deeper]); omega) | decide); (case hu' => first | ((try dsimp only [Around.deeper]); omega) | decide); (case hst' => exact List.Mem.head _); (case hne' => assumption); (case hl' => ktr_rel); (case hops' => assumption); (case hs' => assumption); (case hsub' => k_sub); (case hlen' => omega); (case hnt' => assumption); (case hfine' => assumption)); rotate_left; (intro _ _ _ _ hx'; exact hx'.elim); (intro r' nw' h' tk' F' N' ho'; (obtain ⟨er', tl', x', b', rs', k', n', en', hn', h6', h7', h8'⟩ := ho'); subst er'; subst en'; (try simp only [List.cons_append] at N'); clear hn'; (try k_sweep)))
  k_with "@call ref" => k_of "#h" => (k_here; k_dflt (refine' says_use (f := 461) (told_says ?ha' ?hb' _ ?hsub' ?hp' ?hlen' ?hpt') ?B' ?F' ?X' ?N' ?T' ?hk' ?hd' ?hu' ?_ ?_; (case B' => k_asm); (case F' => k_asm); (case X' => k_asm); (case N' => k_asm); (case T' => k_asm); (case hk' => first | exact rfl | assumption); (case hd' => first | ((try dsimp only [Around.deeper]); omega) | decide); (case hu' => first | ((try dsimp only [Around.deeper]); omega) | decide); (case ha' => ktr_rel); (case hb' => ktr_rel); (case hp' => assumption); (case hsub' => k_sub); (case hlen' => first | assumption | decide); (case hpt' => assumption)); rotate_left; (intro _ _ _ _ hx'; exact hx'.elim); (intro r' tl' h' tk' F' N' o' ho'; (obtain ⟨ta', er', hd'⟩ := ho'); subst er'; (try simp only [List.cons_append] at N'); clear o'; (try k_sweep)))
  k_with "@compareOp NotEq ref ref" => k_of "#h" => (k_here; k_dflt (refine' datX_ne ?N' ?Da' (fun _ h' => h') ?Db' (fun _ h' => h') ?hk' ?hu' ?_; (case N' => k_asm); (case Da' => (refine' DatIn.mono ?s' ?h'; (case h' => assumption); (case s' => k_sub))); (case Db' => first | exact pat_dat (by k_mem) (by k_mem) (by k_mem) (by k_mem) | (refine' DatIn.mono ?s' ?h'; (case h' => assumption); (case s' => k_sub))); (case hk' => exact told_ok _ (by assumption)); (case hu' => first | k_units | decide)))
  k_with "@compareOp Eq ref ref" => k_of "#h" => (k_here; k_dflt (refine' two_eq ?N' ?h1' ?h2' ?A1' ?A2' ?B1' ?B2' ?k1' ?k2' ?hu' ?_; (case N' => k_asm); (case h1' => k_mem); (case h2' => k_mem); (case A1' => (refine' DatIn.mono ?s' ?h'; (case h' => assumption); (case s' => k_sub))); (case A2' => (refine' DatIn.mono ?s' ?h'; (case h' => assumption); (case s' => k_sub))); (case B1' => first | exact plain_dat (by k_mem) (by k_mem) (by k_mem) | (refine' DatIn.mono ?s' ?h'; (case h' => assumption); (case s' => k_sub))); (case B2' => first | exact plain_dat (by k_mem) (by k_mem) (by k_mem) | (refine' DatIn.mono ?s' ?h'; (case h' => assumption); (case s' => k_sub))); (case k1' => exact told_okn 4 _ (by assumption)); (case k2' => exact told_okn 4 _ (by assumption)); (case hu' => first | k_units | decide)))
  trivial

theorem law_cmyk_some {w : World} {mean : ExcName → Option Value} {mg mb : Str → Option Value} {h₀ : Heap} {L fa : Addr} {cd : Value} {cl : List (Str × Addr)} {m0 : Str → Option Value} {s : Shared} {Q : Flow → Shared → Prop} {E : Value → Shared → Prop} (k : Tok) (l : Addr) (vs : List Value) (n : Nat) (ops : List Op) (parts : List Op) (news : List (Addr × Obj))
    (B : Below callerA h₀ [] h₀) (F : Fr h₀ L s.heap (fun y => if y = Str.ofString "some" then some (.ref l) else if y = Str.ofString "space" then some (.str (Str.ofString "DeviceCMYK") k) else m0 y)) (X : (hd.heap_39 w.params).In h₀) (N : News h₀ L s.heap ((l, listOf vs.toArray n) :: news)) (T : Top hd.view_39 (looseW hd.view_39 [Str.ofString "PaperError", Str.ofString "first_state"]) mean mg mb h₀)
    (hops : AllOp w news vs ops) (hlen : ops.length ≤ 5) (hnt : ∀ o ∈ ops, ∀ x, o ≠ .text x) (hfine : ∀ o ∈ ops, o.fine) (hstr : ∀ o ∈ ops, ∀ x, o = .name x → PyData.strOk x = true) (hs : ownSpec .cmyk ops = some parts)
    (hE : ∀ e, PassesOwnAt (model PySem.Challenge.rw_og0172_01.row.prog w) ((callerA.deeper (envX (Str.ofString "law") lawS L fa cd cl)).mark (some (.ref e))) (callerA.deeper (envX (Str.ofString "law") lawS L fa cd cl)) (envX (Str.ofString "law") lawS L fa cd cl) E)
    (hQ : ∀ h' tk' m', Fr h₀ L h' m' → Q (.ret (.bool true)) { s with heap := h', toks := tk' }) :
    wpAny (model PySem.Challenge.rw_og0172_01.row.prog w) (callerA.deeper (envX (Str.ofString "law") lawS L fa cd cl)) (execs (List.drop 3 lawB) (envX (Str.ofString "law") lawS L fa cd cl)) Q E s := by
  conv => arg 2; arg 2; arg 2; whnf
  conv => arg 3; arg 1; whnf
  conv => arg 3; arg 2; arg 2; whnf
  obtain ⟨hpl, hpp⟩ := spec_parts hs hlen hstr
  have hz : ∀ o ∈ [Op.dec 0 0], o.isPart := fun o ho => by rw [List.mem_singleton.mp ho]; trivial
  obtain ⟨hs2, hnt2, hf2⟩ := spec_again (by decide) hs hfine
  k_steps
  all_goals exact hQ _ _ _ (by k_asm)
end Mine
end
section
open PySem PySem.W PyProof.Rows PySem.Calls
namespace Mine

theorem rowsM5patnonea : True := by
  k_with_none
  k_with "k_sub" => k_of "#h" => (intro p' hp'; first | exact hp' | exact List.Mem.tail _ hp' | ((simp only [List.cons_append, List.nil_append, List.append_nil, List.mem_cons, List.mem_append] at hp' ⊢); revert hp'; ((repeat' (refine or_imp.mpr (And.intro ?_ ?_))) <;> (intro hp'; simp only [hp', true_or, or_true]))))
  k_with "k_room" => k_of "#h" => ((try simp only [depth_mark, depth_under_make, depth_under_kw, depth_in1, depth_deeper, depth_caller, recursionLimit]); (try dsimp only [ktrTop]); omega)
  k_with "k_units" => k_of "#h" => ((have hcL9' := cLine_is); (try simp only [units_in1, units_deeper, Around.mark_units, units_caller]); (try dsimp only [ktrTop]); omega)
  k_with "@exec While BoolOp" => k_of "#h" => (k_here; k_dflt (refine whl_start 100 ?_))
  k_with "ktr_rel" => k_of "#h" => first | assumption | exact OpAt.int | exact OpAt.mono (by assumption) (by k_sub) | exact AllOp.mono (by assumption) (by k_sub) | exact List.Mem.tail _ (by assumption) | exact List.Mem.tail _ (List.Mem.tail _ (by assumption)) | exact subl _ (by assumption) | exact List.Mem.tail _ (subl _ (by assumption)) | exact mem_of_sub (by assumption) (by k_sub) | k_mem
  k_with "@exec Try" => k_of "#h" => (refine wpAny_Try_except ?_)
  k_with "@ite" => k_of "#h" => first | (refine my_ite_f (by decide) ?_) | (refine my_ite_t (by decide) ?_)
  k_with "@subscriptTail" => k_of "#h" => (k_here; (with_reducible show wpAny _ _ (subscriptTail _ _ (Value.ref _) (Value.int _ _)) _ _ _); k_dflt (refine' item_tupleT ?t' ?a' ?b' ?c' ?d' ?_; (case t' => exact News.isTup (by k_asm) (by ktr_rel)); (case a' => decide); (case b' => decide); (case c' => rfl); (case d' => rfl); k_whole))
  k_with "@call type:list" => k_of "#h" => (k_here; (with_reducible show wpAny _ _ (call (Value.type _) [Value.ref _]) _ _ _); k_dflt (refine' list_copyKT ?k1' ?k2' ?k3' ?_ ?k4'; (case k1' => k_asm); (case k2' => k_asm); (case k3' => exact News.isTup (by k_asm) (by ktr_rel)); (case k4' => exact all_fits (by assumption) (by assumption))); intro D' c' h' F' N' l1'; (try k_sweep))
  k_with "@call ref" => k_of "#h" => (k_here; k_dflt (refine' says_use (f := 466) (due_none (sp := .pat) ?hs' ?hl' _ ?hsub' ?hops' ?hlen' ?hnt' ?hfine') ?B' ?F' ?X' ?N' ?T' ?hk' ?hd' ?hu' ?_ ?_; (case B' => k_asm); (case F' => k_asm); (case X' => k_asm); (case N' => k_asm); (case T' => k_asm); (case hk' => first | exact rfl | assumption); (case hd' => first | ((try dsimp only [Around.deeper]); omega) | decide); (case hu' => first | ((try dsimp only [Around.deeper]); omega) | decide); (case hl' => ktr_rel); (case hops' => assumption); (case hs' => assumption); (case hsub' => k_sub); (case hlen' => omega); (case hnt' => assumption); (case hfine' => assumption)); rotate_left; (intro _ _ _ _ hx'; exact hx'.elim); (intro r' tl' h' tk' F' N' o' ho'; subst ho'; (try simp only [List.cons_append] at N'); clear o'; (try k_sweep)))
  k_with "@call ref" => k_of "#h" => (k_here; k_dflt (refine' says_use (f := 430) (own_none (sp := .pat) ?hs' ?hl' _ ?hsub' ?hops' ?hlen' ?hnt' ?hfine') ?B' ?F' ?X' ?N' ?T' ?hk' ?hd' ?hu' ?_ ?_; (case B' => k_asm); (case F' => k_asm); (case X' => k_asm); (case N' => k_asm); (case T' => k_asm); (case hk' => first | exact rfl | assumption); (case hd' => first | ((try dsimp only [Around.deeper]); omega) | decide); (case hu' => first | ((try dsimp only [Around.deeper]); omega) | decide); (case hl' => ktr_rel); (case hops' => assumption); (case hs' => assumption); (case hsub' => k_sub); (case hlen' => omega); (case hnt' => assumption); (case hfine' => assumption)); (intro _ _ _ _ _ _ _ hx'; exact hx'.elim); (intro e' g' h' tk' x' F' R' U'))
  k_with "@call ref" => k_of "#h" => (k_here; k_dflt (refine' says_use (f := 430) (own_some (sp := .pat) pat_spec ?hl' _ (fun _ h => h) ?hops' (by decide) pat_hnt pat_fine) ?B' ?F' ?X' ?N' ?T' ?hk' ?hd' ?hu' ?_ ?_; (case B' => k_asm); (case F' => k_asm); (case X' => k_asm); (case N' => k_asm); (case T' => k_asm); (case hk' => first | exact rfl | assumption); (case hd' => first | ((try dsimp only [Around.deeper]); omega) | decide); (case hu' => first | ((try dsimp only [Around.deeper]); omega) | decide); (case hl' => k_mem); (case hops' => exact .cons .int (.cons .int (.cons (.name (by k_mem) (by k_mem)) .nil)))); rotate_left; (intro _ _ _ _ hx'; exact hx'.elim); (intro r' tl' h' tk' F' N' o' ho'; (obtain ⟨ca', cb', crs', ck', er', hc1', hc2', hc3'⟩ := ho'); subst er'; (try simp only [List.cons_append] at N'); clear o'; (try k_sweep)))
  k_with "@call ref" => k_of "#h" => (k_here; k_dflt (refine' says_use (f := 397) (fs_says _ _) ?B' ?F' ?X' ?N' ?T' ?hk' ?hd' ?hu' ?_ ?_; (case B' => k_asm); (case F' => k_asm); (case X' => k_asm); (case N' => k_asm); (case T' => k_asm); (case hk' => first | exact rfl | assumption); (case hd' => first | ((try dsimp only [Around.deeper]); omega) | decide); (case hu' => first | ((try dsimp only [Around.deeper]); omega) | decide); skip); rotate_left; (intro _ _ _ _ hx'; exact hx'.elim); (intro r' tl' h' tk' F' N' o' ho'; (obtain ⟨sa', sd', k1', k2', k3', k4', k5', v1', v2', fa', ga', v5', t0', fb', frs', fk', gb', grs', gk', et', er', hn', hf1', hf2', hf3', hg1', hg2', hg3'⟩ := ho'); subst et'; subst er'; (replace hn' := st_ne hn' o'); (replace N' := st_news N'); clear o'; (try k_sweep)))
  k_with "@call ref" => k_of "#h" => (k_here; k_dflt (refine' says_use (f := 461) (told_says ?ha' ?hb' _ ?hsub' ?hp' ?hlen' ?hpt') ?B' ?F' ?X' ?N' ?T' ?hk' ?hd' ?hu' ?_ ?_; (case B' => k_asm); (case F' => k_asm); (case X' => k_asm); (case N' => k_asm); (case T' => k_asm); (case hk' => first | exact rfl | assumption); (case hd' => first | ((try dsimp only [Around.deeper]); omega) | decide); (case hu' => first | ((try dsimp only [Around.deeper]); omega) | decide); (case ha' => ktr_rel); (case hb' => ktr_rel); (case hp' => assumption); (case hsub' => k_sub); (case hlen' => first | assumption | decide); (case hpt' => assumption)); rotate_left; (intro _ _ _ _ hx'; exact hx'.elim); (intro r' tl' h' tk' F' N' o' ho'; (obtain ⟨ta', er', hd'⟩ := ho'); subst er'; (try simp only [List.cons_append] at N'); clear o'; (try k_sweep)))
  k_with "@compareOp NotEq ref ref" => k_of "#h" => (k_here; k_dflt (refine' datX_ne ?N' ?Da' (fun _ h' => h') ?Db' (fun _ h' => h') ?hk' ?hu' ?_; (case N' => k_asm); (case Da' => (refine' DatIn.mono ?s' ?h'; (case h' => assumption); (case s' => k_sub))); (case Db' => first | exact pat_dat (by k_mem) (by k_mem) (by k_mem) (by k_mem) | (refine' DatIn.mono ?s' ?h'; (case h' => assumption); (case s' => k_sub))); (case hk' => exact told_ok _ (by assumption)); (case hu' => first | k_units | decide)))
  k_with "@compareOp Eq ref ref" => k_of "#h" => (k_here; k_dflt (refine' two_eq ?N' ?h1' ?h2' ?A1' ?A2' ?B1' ?B2' ?k1' ?k2' ?hu' ?_; (case N' => k_asm); (case h1' => k_mem); (case h2' => k_mem); (case A1' => (refine' DatIn.mono ?s' ?h'; (case h' => assumption); (case s' => k_sub))); (case A2' => (refine' DatIn.mono ?s' ?h'; (case h' => assumption); (case s' => k_sub))); (case B1' => first | exact plain_dat (by k_mem) (by k_mem) (by k_mem) | (refine' DatIn.mono ?s' ?h'; (case h' => assumption); (case s' => k_sub))); (case B2' => first | exact plain_dat (by k_mem) (by k_mem) (by k_mem) | (refine' DatIn.mono ?s' ?h'; (case h' => assumption); (case s' => k_sub))); (case k1' => exact told_okn 4 _ (by assumption)); (case k2' => exact told_okn 4 _ (by assumption)); (case hu' => first | k_units | decide)))
  trivial

theorem law_pat_none {w : World} {mean : ExcName → Option Value} {mg mb : Str → Option Value} {h₀ : Heap} {L fa : Addr} {cd : Value} {cl : List (Str × Addr)} {m0 : Str → Option Value} {s : Shared} {Q : Flow → Shared → Prop} {E : Value → Shared → Prop} (k : Tok) (l : Addr) (vs : List Value) (n : Nat) (ops : List Op) (news : List (Addr × Obj))
    (B : Below callerA h₀ [] h₀) (F : Fr h₀ L s.heap (fun y => if y = Str.ofString "some" then some (.ref l) else if y = Str.ofString "space" then some (.str (Str.ofString "Pattern") k) else m0 y)) (X : (hd.heap_39 w.params).In h₀) (N : News h₀ L s.heap ((l, listOf vs.toArray n) :: news)) (T : Top hd.view_39 (looseW hd.view_39 [Str.ofString "PaperError", Str.ofString "first_state"]) mean mg mb h₀)
    (hops : AllOp w news vs ops) (hlen : ops.length ≤ 5) (hnt : ∀ o ∈ ops, ∀ x, o ≠ .text x) (hfine : ∀ o ∈ ops, o.fine) (hstr : ∀ o ∈ ops, ∀ x, o = .name x → PyData.strOk x = true) (hs : ownSpec .pat ops = none)
    (hE : ∀ e, PassesOwnAt (model PySem.Challenge.rw_og0172_01.row.prog w) ((callerA.deeper (envX (Str.ofString "law") lawS L fa cd cl)).mark (some (.ref e))) (callerA.deeper (envX (Str.ofString "law") lawS L fa cd cl)) (envX (Str.ofString "law") lawS L fa cd cl) E)
    (hQ : ∀ h' tk' m', Fr h₀ L h' m' → Q (.ret (.bool true)) { s with heap := h', toks := tk' }) :
    wpAny (model PySem.Challenge.rw_og0172_01.row.prog w) (callerA.deeper (envX (Str.ofString "law") lawS L fa cd cl)) (execs (List.drop 3 lawB) (envX (Str.ofString "law") lawS L fa cd cl)) Q E s := by
  conv => arg 2; arg 2; arg 2; whnf
  conv => arg 3; arg 1; whnf
  conv => arg 3; arg 2; arg 2; whnf
  have hzP := pat_part
  k_steps
  rename_i e9 g9 h9 tk9 x9 F9 R9 U9
  refine pf_caught (x := Str.ofString "PaintFault") B F9 U9 R9 X (topRead_of T) (by kernel_rfl) (fun h8 F8 N8 => ?_) rfl rfl (by decide) (hE _)
  k_steps
  all_goals exact hQ _ _ _ (by k_asm)
end Mine
end
section
open PySem PySem.W PyProof.Rows PySem.Calls
namespace Mine

theorem rowsM5patsomea : True := by
  k_with_none
  k_with "k_sub" => k_of "#h" => (intro p' hp'; first | exact hp' | exact List.Mem.tail _ hp' | ((simp only [List.cons_append, List.nil_append, List.append_nil, List.mem_cons, List.mem_append] at hp' ⊢); revert hp'; ((repeat' (refine or_imp.mpr (And.intro ?_ ?_))) <;> (intro hp'; simp only [hp', true_or, or_true]))))
  k_with "k_room" => k_of "#h" => ((try simp only [depth_mark, depth_under_make, depth_under_kw, depth_in1, depth_deeper, depth_caller, recursionLimit]); (try dsimp only [ktrTop]); omega)
  k_with "k_units" => k_of "#h" => ((have hcL9' := cLine_is); (try simp only [units_in1, units_deeper, Around.mark_units, units_caller]); (try dsimp only [ktrTop]); omega)
  k_with "@exec While BoolOp" => k_of "#h" => (k_here; k_dflt (refine whl_start 100 ?_))
  k_with "ktr_rel" => k_of "#h" => first | assumption | exact OpAt.int | exact OpAt.mono (by assumption) (by k_sub) | exact AllOp.mono (by assumption) (by k_sub) | exact List.Mem.tail _ (by assumption) | exact List.Mem.tail _ (List.Mem.tail _ (by assumption)) | exact subl _ (by assumption) | exact List.Mem.tail _ (subl _ (by assumption)) | exact mem_of_sub (by assumption) (by k_sub) | k_mem
  k_with "@exec Try" => k_of "#h" => (refine wpAny_Try_except ?_)
  k_with "@ite" => k_of "#h" => first | (refine my_ite_f (by decide) ?_) | (refine my_ite_t (by decide) ?_)
  k_with "@subscriptTail" => k_of "#h" => (k_here; (with_reducible show wpAny _ _ (subscriptTail _ _ (Value.ref _) (Value.int _ _)) _ _ _); k_dflt (refine' item_tupleT ?t' ?a' ?b' ?c' ?d' ?_; (case t' => exact News.isTup (by k_asm) (by ktr_rel)); (case a' => decide); (case b' => decide); (case c' => rfl); (case d' => rfl); k_whole))
  k_with "@call type:list" => k_of "#h" => (k_here; (with_reducible show wpAny _ _ (call (Value.type _) [Value.ref _]) _ _ _); k_dflt (refine' list_copyKT ?k1' ?k2' ?k3' ?_ ?k4'; (case k1' => k_asm); (case k2' => k_asm); (case k3' => exact News.isTup (by k_asm) (by ktr_rel)); (case k4' => exact all_fits (by assumption) (by assumption))); intro D' c' h' F' N' l1'; (try k_sweep))
  k_with "@call ref" => k_of "#h" => (k_here; k_dflt (refine' says_use (f := 466) (due_some (sp := .pat) ?hs' ?hl' _ ?hsub' ?hops' ?hlen' ?hnt' ?hfine') ?B' ?F' ?X' ?N' ?T' ?hk' ?hd' ?hu' ?_ ?_; (case B' => k_asm); (case F' => k_asm); (case X' => k_asm); (case N' => k_asm); (case T' => k_asm); (case hk' => first | exact rfl | assumption); (case hd' => first | ((try dsimp only [Around.deeper]); omega) | decide); (case hu' => first | ((try dsimp only [Around.deeper]); omega) | decide); (case hl' => ktr_rel); (case hops' => assumption); (case hs' => assumption); (case hsub' => k_sub); (case hlen' => omega); (case hnt' => assumption); (case hfine' => assumption)); rotate_left; (intro _ _ _ _ hx'; exact hx'.elim); (intro r' tl' h' tk' F' N' o' ho'; (obtain ⟨ad', er', hd'⟩ := ho'); subst er'; (try simp only [List.cons_append] at N'); clear o'; (try k_sweep)))
  k_with "@call ref" => k_of "#h" => (k_here; k_dflt (refine' says_use (f := 430) (own_some (sp := .pat) ?hs' ?hl' _ ?hsub' ?hops' ?hlen' ?hnt' ?hfine') ?B' ?F' ?X' ?N' ?T' ?hk' ?hd' ?hu' ?_ ?_; (case B' => k_asm); (case F' => k_asm); (case X' => k_asm); (case N' => k_asm); (case T' => k_asm); (case hk' => first | exact rfl | assumption); (case hd' => first | ((try dsimp only [Around.deeper]); omega) | decide); (case hu' => first | ((try dsimp only [Around.deeper]); omega) | decide); (case hl' => ktr_rel); (case hops' => assumption); (case hs' => assumption); (case hsub' => k_sub); (case hlen' => omega); (case hnt' => assumption); (case hfine' => assumption)); rotate_left; (intro _ _ _ _ hx'; exact hx'.elim); (intro r' tl' h' tk' F' N' o' ho'; (obtain ⟨ca', cb', crs', ck', er', hc1', hc2', hc3'⟩ := ho'); subst er'; (try (rename (∀ (p : Addr × Obj), p ∈ _ → p.1 ≠ _) => hn'; replace hn' := hne_app hn' o'; simp only [List.cons_append] at hn')); (try simp only [List.cons_append] at N'); clear o'; (try k_sweep)))
  k_with "@call ref" => k_of "#h" => (k_here; k_dflt (refine' says_use (f := 430) (own_some (sp := .pat) pat_spec ?hl' _ (fun _ h => h) ?hops' (by decide) pat_hnt pat_fine) ?B' ?F' ?X' ?N' ?T' ?hk' ?hd' ?hu' ?_ ?_; (case B' => k_asm); (case F' => k_asm); (case X' => k_asm); (case N' => k_asm); (case T' => k_asm); (case hk' => first | exact rfl | assumption); (case hd' => first | ((try dsimp only [Around.deeper]); omega) | decide); (case hu' => first | ((try dsimp only [Around.deeper]); omega) | decide); (case hl' => k_mem); (case hops' => exact .cons .int (.cons .int (.cons (.name (by k_mem) (by k_mem)) .nil)))); rotate_left; (intro _ _ _ _ hx'; exact hx'.elim); (intro r' tl' h' tk' F' N' o' ho'; (obtain ⟨ca', cb', crs', ck', er', hc1', hc2', hc3'⟩ := ho'); subst er'; (try simp only [List.cons_append] at N'); clear o'; (try k_sweep)))
  k_with "@call ref" => k_of "#h" => (k_here; k_dflt (refine' says_use (f := 397) (fs_says _ _) ?B' ?F' ?X' ?N' ?T' ?hk' ?hd' ?hu' ?_ ?_; (case B' => k_asm); (case F' => k_asm); (case X' => k_asm); (case N' => k_asm); (case T' => k_asm); (case hk' => first | exact rfl | assumption); (case hd' => first | ((try dsimp only [Around.deeper]); omega) | decide); (case hu' => first | ((try dsimp only [Around.deeper]); omega) | decide); skip); rotate_left; (intro _ _ _ _ hx'; exact hx'.elim); (intro r' tl' h' tk' F' N' o' ho'; (obtain ⟨sa', sd', k1', k2', k3', k4', k5', v1', v2', fa', ga', v5', t0', fb', frs', fk', gb', grs', gk', et', er', hn', hf1', hf2', hf3', hg1', hg2', hg3'⟩ := ho'); subst et'; subst er'; (replace hn' := st_ne hn' o'); (replace N' := st_news N'); clear o'; (try k_sweep)))
  k_with "@call ref" => k_of "#h" => (k_here; k_dflt (refine' says_use (f := 461) (told_says ?ha' ?hb' _ ?hsub' ?hp' ?hlen' ?hpt') ?B' ?F' ?X' ?N' ?T' ?hk' ?hd' ?hu' ?_ ?_; (case B' => k_asm); (case F' => k_asm); (case X' => k_asm); (case N' => k_asm); (case T' => k_asm); (case hk' => first | exact rfl | assumption); (case hd' => first | ((try dsimp only [Around.deeper]); omega) | decide); (case hu' => first | ((try dsimp only [Around.deeper]); omega) | decide); (case ha' => ktr_rel); (case hb' => ktr_rel); (case hp' => assumption); (case hsub' => k_sub); (case hlen' => first | assumption | decide); (case hpt' => assumption)); rotate_left; (intro _ _ _ _ hx'; exact hx'.elim); (intro r' tl' h' tk' F' N' o' ho'; (obtain ⟨ta', er', hd'⟩ := ho'); subst er'; (try simp only [List.cons_append] at N'); clear o'; (try k_sweep)))
  k_with "@compareOp NotEq ref ref" => k_of "#h" => (k_here; k_dflt (refine' datX_ne ?N' ?Da' (fun _ h' => h') ?Db' (fun _ h' => h') ?hk' ?hu' ?_; (case N' => k_asm); (case Da' => (refine' DatIn.mono ?s' ?h'; (case h' => assumption); (case s' => k_sub))); (case Db' => first | exact pat_dat (by k_mem) (by k_mem) (by k_mem) (by k_mem) | (refine' DatIn.mono ?s' ?h'; (case h' => assumption); (case s' => k_sub))); (case hk' => exact told_ok _ (by assumption)); (case hu' => first | k_units | decide)))
  k_with "@compareOp Eq ref ref" => k_of "#h" => (k_here; k_dflt (refine' two_eq ?N' ?h1' ?h2' ?A1' ?A2' ?B1' ?B2' ?k1' ?k2' ?hu' ?_; (case N' => k_asm); (case h1' => k_mem); (case h2' => k_mem); (case A1' => (refine' DatIn.mono ?s' ?h'; (case h' => assumption); (case s' => k_sub))); (case A2' => (refine' DatIn.mono ?s' ?h'; (case h' => assumption); (case s' => k_sub))); (case B1' => first | exact plain_dat (by k_mem) (by k_mem) (by k_mem) | (refine' DatIn.mono ?s' ?h'; (case h' => assumption); (case s' => k_sub))); (case B2' => first | exact plain_dat (by k_mem) (by k_mem) (by k_mem) | (refine' DatIn.mono ?s' ?h'; (case h' => assumption); (case s' => k_sub))); (case k1' => exact told_okn 4 _ (by assumption)); (case k2' => exact told_okn 4 _ (by assumption)); (case hu' => first | k_units | decide)))
  trivial

theorem law_pat_some {w : World} {mean : ExcName → Option Value} {mg mb : Str → Option Value} {h₀ : Heap} {L fa : Addr} {cd : Value} {cl : List (Str × Addr)} {m0 : Str → Option Value} {s : Shared} {Q : Flow → Shared → Prop} {E : Value → Shared → Prop} (k : Tok) (l : Addr) (vs : List Value) (n : Nat) (ops : List Op) (parts : List Op) (news : List (Addr × Obj))
    (B : Below callerA h₀ [] h₀) (F : Fr h₀ L s.heap (fun y => if y = Str.ofString "some" then some (.ref l) else if y = Str.ofString "space" then some (.str (Str.ofString "Pattern") k) else m0 y)) (X : (hd.heap_39 w.params).In h₀) (N : News h₀ L s.heap ((l, listOf vs.toArray n) :: news)) (T : Top hd.view_39 (looseW hd.view_39 [Str.ofString "PaperError", Str.ofString "first_state"]) mean mg mb h₀)
    (hops : AllOp w news vs ops) (hlen : ops.length ≤ 5) (hnt : ∀ o ∈ ops, ∀ x, o ≠ .text x) (hfine : ∀ o ∈ ops, o.fine) (hstr : ∀ o ∈ ops, ∀ x, o = .name x → PyData.strOk x = true) (hs : ownSpec .pat ops = some parts)
    (hE : ∀ e, PassesOwnAt (model PySem.Challenge.rw_og0172_01.row.prog w) ((callerA.deeper (envX (Str.ofString "law") lawS L fa cd cl)).mark (some (.ref e))) (callerA.deeper (envX (Str.ofString "law") lawS L fa cd cl)) (envX (Str.ofString "law") lawS L fa cd cl) E)
    (hQ : ∀ h' tk' m', Fr h₀ L h' m' → Q (.ret (.bool true)) { s with heap := h', toks := tk' }) :
    wpAny (model PySem.Challenge.rw_og0172_01.row.prog w) (callerA.deeper (envX (Str.ofString "law") lawS L fa cd cl)) (execs (List.drop 3 lawB) (envX (Str.ofString "law") lawS L fa cd cl)) Q E s := by
  conv => arg 2; arg 2; arg 2; whnf
  conv => arg 3; arg 1; whnf
  conv => arg 3; arg 2; arg 2; whnf
  have hzP := pat_part
  obtain ⟨hpl, hpp⟩ := spec_parts hs hlen hstr
  have hz : ∀ o ∈ [Op.dec 0 0], o.isPart := fun o ho => by rw [List.mem_singleton.mp ho]; trivial
  k_steps
  all_goals exact hQ _ _ _ (by k_asm)
end Mine
end
section
open PySem PySem.W PyProof.Rows PySem.Calls
namespace Mine

theorem rowsM5ownnonea : True := by
  k_with_none
  k_with "k_sub" => k_of "#h" => (intro p' hp'; first | exact hp' | exact List.Mem.tail _ hp' | ((simp only [List.cons_append, List.nil_append, List.append_nil, List.mem_cons, List.mem_append] at hp' ⊢); revert hp'; ((repeat' (refine or_imp.mpr (And.intro ?_ ?_))) <;> (intro hp'; simp only [hp', true_or, or_true]))))
  k_with "k_room" => k_of "#h" => ((try simp only [depth_mark, depth_under_make, depth_under_kw, depth_in1, depth_deeper, depth_caller, recursionLimit]); (try dsimp only [ktrTop]); omega)
  k_with "k_units" => k_of "#h" => ((have hcL9' := cLine_is); (try simp only [units_in1, units_deeper, Around.mark_units, units_caller]); (try dsimp only [ktrTop]); omega)
  k_with "@exec While BoolOp" => k_of "#h" => (k_here; k_dflt (refine whl_start 100 ?_))
  k_with "ktr_rel" => k_of "#h" => first | assumption | exact OpAt.int | exact OpAt.mono (by assumption) (by k_sub) | exact AllOp.mono (by assumption) (by k_sub) | exact List.Mem.tail _ (by assumption) | exact List.Mem.tail _ (List.Mem.tail _ (by assumption)) | exact subl _ (by assumption) | exact List.Mem.tail _ (subl _ (by assumption)) | exact mem_of_sub (by assumption) (by k_sub) | k_mem
  k_with "@exec Try" => k_of "#h" => (refine wpAny_Try_except ?_)
  k_with "@ite" => k_of "#h" => first | (refine my_ite_f (by decide) ?_) | (refine my_ite_t (by decide) ?_)
  k_with "@subscriptTail" => k_of "#h" => (k_here; (with_reducible show wpAny _ _ (subscriptTail _ _ (Value.ref _) (Value.int _ _)) _ _ _); k_dflt (refine' item_tupleT ?t' ?a' ?b' ?c' ?d' ?_; (case t' => exact News.isTup (by k_asm) (by ktr_rel)); (case a' => decide); (case b' => decide); (case c' => rfl); (case d' => rfl); k_whole))
  k_with "@call type:list" => k_of "#h" => (k_here; (with_reducible show wpAny _ _ (call (Value.type _) [Value.ref _]) _ _ _); k_dflt (refine' list_copyKT ?k1' ?k2' ?k3' ?_ ?k4'; (case k1' => k_asm); (case k2' => k_asm); (case k3' => exact News.isTup (by k_asm) (by ktr_rel)); (case k4' => exact all_fits (by assumption) (by assumption))); intro D' c' h' F' N' l1'; (try k_sweep))
  k_with "@call ref" => k_of "#h" => (k_here; k_dflt (refine' says_use (f := 466) (due_none (sp := .own) ?hs' ?hl' _ ?hsub' ?hops' ?hlen' ?hnt' ?hfine') ?B' ?F' ?X' ?N' ?T' ?hk' ?hd' ?hu' ?_ ?_; (case B' => k_asm); (case F' => k_asm); (case X' => k_asm); (case N' => k_asm); (case T' => k_asm); (case hk' => first | exact rfl | assumption); (case hd' => first | ((try dsimp only [Around.deeper]); omega) | decide); (case hu' => first | ((try dsimp only [Around.deeper]); omega) | decide); (case hl' => ktr_rel); (case hops' => assumption); (case hs' => assumption); (case hsub' => k_sub); (case hlen' => omega); (case hnt' => assumption); (case hfine' => assumption)); rotate_left; (intro _ _ _ _ hx'; exact hx'.elim); (intro r' tl' h' tk' F' N' o' ho'; subst ho'; (try simp only [List.cons_append] at N'); clear o'; (try k_sweep)))
  k_with "@call ref" => k_of "#h" => (k_here; k_dflt (refine' says_use (f := 430) (own_none (sp := .own) ?hs' ?hl' _ ?hsub' ?hops' ?hlen' ?hnt' ?hfine') ?B' ?F' ?X' ?N' ?T' ?hk' ?hd' ?hu' ?_ ?_; (case B' => k_asm); (case F' => k_asm); (case X' => k_asm); (case N' => k_asm); (case T' => k_asm); (case hk' => first | exact rfl | assumption); (case hd' => first | ((try dsimp only [Around.deeper]); omega) | decide); (case hu' => first | ((try dsimp only [Around.deeper]); omega) | decide); (case hl' => ktr_rel); (case hops' => assumption); (case hs' => assumption); (case hsub' => k_sub); (case hlen' => omega); (case hnt' => assumption); (case hfine' => assumption)); (intro _ _ _ _ _ _ _ hx'; exact hx'.elim); (intro e' g' h' tk' x' F' R' U'))
  k_with "@call ref" => k_of "#h" => (k_here; k_dflt (refine' says_use (f := 397) (fs_says _ _) ?B' ?F' ?X' ?N' ?T' ?hk' ?hd' ?hu' ?_ ?_; (case B' => k_asm); (case F' => k_asm); (case X' => k_asm); (case N' => k_asm); (case T' => k_asm); (case hk' => first | exact rfl | assumption); (case hd' => first | ((try dsimp only [Around.deeper]); omega) | decide); (case hu' => first | ((try dsimp only [Around.deeper]); omega) | decide); skip); rotate_left; (intro _ _ _ _ hx'; exact hx'.elim); (intro r' tl' h' tk' F' N' o' ho'; (obtain ⟨sa', sd', k1', k2', k3', k4', k5', v1', v2', fa', ga', v5', t0', fb', frs', fk', gb', grs', gk', et', er', hn', hf1', hf2', hf3', hg1', hg2', hg3'⟩ := ho'); subst et'; subst er'; (replace hn' := st_ne hn' o'); (replace N' := st_news N'); clear o'; (try k_sweep)))
  trivial

theorem law_own_none {w : World} {mean : ExcName → Option Value} {mg mb : Str → Option Value} {h₀ : Heap} {L fa : Addr} {cd : Value} {cl : List (Str × Addr)} {m0 : Str → Option Value} {s : Shared} {Q : Flow → Shared → Prop} {E : Value → Shared → Prop} (k : Tok) (l : Addr) (vs : List Value) (n : Nat) (ops : List Op) (news : List (Addr × Obj))
    (B : Below callerA h₀ [] h₀) (F : Fr h₀ L s.heap (fun y => if y = Str.ofString "some" then some (.ref l) else if y = Str.ofString "space" then some (.str (Str.ofString "Own") k) else m0 y)) (X : (hd.heap_39 w.params).In h₀) (N : News h₀ L s.heap ((l, listOf vs.toArray n) :: news)) (T : Top hd.view_39 (looseW hd.view_39 [Str.ofString "PaperError", Str.ofString "first_state"]) mean mg mb h₀)
    (hops : AllOp w news vs ops) (hlen : ops.length ≤ 5) (hnt : ∀ o ∈ ops, ∀ x, o ≠ .text x) (hfine : ∀ o ∈ ops, o.fine) (hstr : ∀ o ∈ ops, ∀ x, o = .name x → PyData.strOk x = true) (hs : ownSpec .own ops = none)
    (hE : ∀ e, PassesOwnAt (model PySem.Challenge.rw_og0172_01.row.prog w) ((callerA.deeper (envX (Str.ofString "law") lawS L fa cd cl)).mark (some (.ref e))) (callerA.deeper (envX (Str.ofString "law") lawS L fa cd cl)) (envX (Str.ofString "law") lawS L fa cd cl) E)
    (hQ : ∀ h' tk' m', Fr h₀ L h' m' → Q (.ret (.bool true)) { s with heap := h', toks := tk' }) :
    wpAny (model PySem.Challenge.rw_og0172_01.row.prog w) (callerA.deeper (envX (Str.ofString "law") lawS L fa cd cl)) (execs (List.drop 3 lawB) (envX (Str.ofString "law") lawS L fa cd cl)) Q E s := by
  conv => arg 2; arg 2; arg 2; whnf
  conv => arg 3; arg 1; whnf
  conv => arg 3; arg 2; arg 2; whnf
  k_steps
  rename_i e9 g9 h9 tk9 x9 F9 R9 U9
  refine pf_caught (x := Str.ofString "PaintFault") B F9 U9 R9 X (topRead_of T) (by kernel_rfl) (fun h8 F8 N8 => ?_) rfl rfl (by decide) (hE _)
  k_steps
  all_goals exact hQ _ _ _ (by k_asm)
end Mine
end
section
open PySem PySem.W PyProof.Rows PySem.Calls
namespace Mine

theorem rowsM5ownsomea : True := by
  k_with_none
  k_with "k_sub" => k_of "#h" => (intro p' hp'; first | exact hp' | exact List.Mem.tail _ hp' | ((simp only [List.cons_append, List.nil_append, List.append_nil, List.mem_cons, List.mem_append] at hp' ⊢); revert hp'; ((repeat' (refine or_imp.mpr (And.intro ?_ ?_))) <;> (intro hp'; simp only [hp', true_or, or_true]))))
  k_with "k_room" => k_of "#h" => ((try simp only [depth_mark, depth_under_make, depth_under_kw, depth_in1, depth_deeper, depth_caller, recursionLimit]); (try dsimp only [ktrTop]); omega)
  k_with "k_units" => k_of "#h" => ((have hcL9' := cLine_is); (try simp only [units_in1, units_deeper, Around.mark_units, units_caller]); (try dsimp only [ktrTop]); omega)
  k_with "@exec While BoolOp" => k_of "#h" => (k_here; k_dflt (refine whl_start 100 ?_))
  k_with "ktr_rel" => k_of "#h" => first | assumption | exact OpAt.int | exact OpAt.mono (by assumption) (by k_sub) | exact AllOp.mono (by assumption) (by k_sub) | exact List.Mem.tail _ (by assumption) | exact List.Mem.tail _ (List.Mem.tail _ (by assumption)) | exact subl _ (by assumption) | exact List.Mem.tail _ (subl _ (by assumption)) | exact mem_of_sub (by assumption) (by k_sub) | k_mem
  k_with "@exec Try" => k_of "#h" => (refine wpAny_Try_except ?_)
  k_with "@ite" => k_of "#h" => first | (refine my_ite_f (by decide) ?_) | (refine my_ite_t (by decide) ?_)
  k_with "@subscriptTail" => k_of "#h" => (k_here; (with_reducible show wpAny _ _ (subscriptTail _ _ (Value.ref _) (Value.int _ _)) _ _ _); k_dflt (refine' item_tupleT ?t' ?a' ?b' ?c' ?d' ?_; (case t' => exact News.isTup (by k_asm) (by ktr_rel)); (case a' => decide); (case b' => decide); (case c' => rfl); (case d' => rfl); k_whole))
  k_with "@call type:list" => k_of "#h" => (k_here; (with_reducible show wpAny _ _ (call (Value.type _) [Value.ref _]) _ _ _); k_dflt (refine' list_copyKT ?k1' ?k2' ?k3' ?_ ?k4'; (case k1' => k_asm); (case k2' => k_asm); (case k3' => exact News.isTup (by k_asm) (by ktr_rel)); (case k4' => exact all_fits (by assumption) (by assumption))); intro D' c' h' F' N' l1'; (try k_sweep))
  k_with "@call ref" => k_of "#h" => (k_here; k_dflt (refine' says_use (f := 466) (due_some (sp := .own) ?hs' ?hl' _ ?hsub' ?hops' ?hlen' ?hnt' ?hfine') ?B' ?F' ?X' ?N' ?T' ?hk' ?hd' ?hu' ?_ ?_; (case B' => k_asm); (case F' => k_asm); (case X' => k_asm); (case N' => k_asm); (case T' => k_asm); (case hk' => first | exact rfl | assumption); (case hd' => first | ((try dsimp only [Around.deeper]); omega) | decide); (case hu' => first | ((try dsimp only [Around.deeper]); omega) | decide); (case hl' => ktr_rel); (case hops' => assumption); (case hs' => assumption); (case hsub' => k_sub); (case hlen' => omega); (case hnt' => assumption); (case hfine' => assumption)); rotate_left; (intro _ _ _ _ hx'; exact hx'.elim); (intro r' tl' h' tk' F' N' o' ho'; (obtain ⟨ad', er', hd'⟩ := ho'); subst er'; (try simp only [List.cons_append] at N'); clear o'; (try k_sweep)))
  k_with "@call ref" => k_of "#h" => (k_here; k_dflt (refine' says_use (f := 430) (own_some (sp := .own) ?hs' ?hl' _ ?hsub' ?hops' ?hlen' ?hnt' ?hfine') ?B' ?F' ?X' ?N' ?T' ?hk' ?hd' ?hu' ?_ ?_; (case B' => k_asm); (case F' => k_asm); (case X' => k_asm); (case N' => k_asm); (case T' => k_asm); (case hk' => first | exact rfl | assumption); (case hd' => first | ((try dsimp only [Around.deeper]); omega) | decide); (case hu' => first | ((try dsimp only [Around.deeper]); omega) | decide); (case hl' => ktr_rel); (case hops' => assumption); (case hs' => assumption); (case hsub' => k_sub); (case hlen' => omega); (case hnt' => assumption); (case hfine' => assumption)); rotate_left; (intro _ _ _ _ hx'; exact hx'.elim); (intro r' tl' h' tk' F' N' o' ho'; (obtain ⟨ca', cb', crs', ck', er', hc1', hc2', hc3'⟩ := ho'); subst er'; (try (rename (∀ (p : Addr × Obj), p ∈ _ → p.1 ≠ _) => hn'; replace hn' := hne_app hn' o'; simp only [List.cons_append] at hn')); (try simp only [List.cons_append] at N'); clear o'; (try k_sweep)))
  k_with "@call ref" => k_of "#h" => (k_here; k_dflt (refine' says_use (f := 397) (fs_says _ _) ?B' ?F' ?X' ?N' ?T' ?hk' ?hd' ?hu' ?_ ?_; (case B' => k_asm); (case F' => k_asm); (case X' => k_asm); (case N' => k_asm); (case T' => k_asm); (case hk' => first | exact rfl | assumption); (case hd' => first | ((try dsimp only [Around.deeper]); omega) | decide); (case hu' => first | ((try dsimp only [Around.deeper]); omega) | decide); skip); rotate_left; (intro _ _ _ _ hx'; exact hx'.elim); (intro r' tl' h' tk' F' N' o' ho'; (obtain ⟨sa', sd', k1', k2', k3', k4', k5', v1', v2', fa', ga', v5', t0', fb', frs', fk', gb', grs', gk', et', er', hn', hf1', hf2', hf3', hg1', hg2', hg3'⟩ := ho'); subst et'; subst er'; (replace hn' := st_ne hn' o'); (replace N' := st_news N'); clear o'; (try k_sweep)))
  k_with "@call ref" => k_of "#h" => (k_here; k_dflt (refine' says_use (f := 461) (told_says ?ha' ?hb' _ ?hsub' ?hp' ?hlen' ?hpt') ?B' ?F' ?X' ?N' ?T' ?hk' ?hd' ?hu' ?_ ?_; (case B' => k_asm); (case F' => k_asm); (case X' => k_asm); (case N' => k_asm); (case T' => k_asm); (case hk' => first | exact rfl | assumption); (case hd' => first | ((try dsimp only [Around.deeper]); omega) | decide); (case hu' => first | ((try dsimp only [Around.deeper]); omega) | decide); (case ha' => ktr_rel); (case hb' => ktr_rel); (case hp' => assumption); (case hsub' => k_sub); (case hlen' => first | assumption | decide); (case hpt' => assumption)); rotate_left; (intro _ _ _ _ hx'; exact hx'.elim); (intro r' tl' h' tk' F' N' o' ho'; (obtain ⟨ta', er', hd'⟩ := ho'); subst er'; (try simp only [List.cons_append] at N'); clear o'; (try k_sweep)))
  k_with "@compareOp NotEq ref ref" => k_of "#h" => (k_here; k_dflt (refine' datX_ne ?N' ?Da' (fun _ h' => h') ?Db' (fun _ h' => h') ?hk' ?hu' ?_; (case N' => k_asm); (case Da' => (refine' DatIn.mono ?s' ?h'; (case h' => assumption); (case s' => k_sub))); (case Db' => first | exact pat_dat (by k_mem) (by k_mem) (by k_mem) (by k_mem) | (refine' DatIn.mono ?s' ?h'; (case h' => assumption); (case s' => k_sub))); (case hk' => exact told_ok _ (by assumption)); (case hu' => first | k_units | decide)))
  k_with "@compareOp Eq ref ref" => k_of "#h" => (k_here; k_dflt (refine' two_eq ?N' ?h1' ?h2' ?A1' ?A2' ?B1' ?B2' ?k1' ?k2' ?hu' ?_; (case N' => k_asm); (case h1' => k_mem); (case h2' => k_mem); (case A1' => (refine' DatIn.mono ?s' ?h'; (case h' => assumption); (case s' => k_sub))); (case A2' => (refine' DatIn.mono ?s' ?h'; (case h' => assumption); (case s' => k_sub))); (case B1' => first | exact plain_dat (by k_mem) (by k_mem) (by k_mem) | (refine' DatIn.mono ?s' ?h'; (case h' => assumption); (case s' => k_sub))); (case B2' => first | exact plain_dat (by k_mem) (by k_mem) (by k_mem) | (refine' DatIn.mono ?s' ?h'; (case h' => assumption); (case s' => k_sub))); (case k1' => exact told_okn 4 _ (by assumption)); (case k2' => exact told_okn 4 _ (by assumption)); (case hu' => first | k_units | decide)))
  trivial

theorem law_own_some {w : World} {mean : ExcName → Option Value} {mg mb : Str → Option Value} {h₀ : Heap} {L fa : Addr} {cd : Value} {cl : List (Str × Addr)} {m0 : Str → Option Value} {s : Shared} {Q : Flow → Shared → Prop} {E : Value → Shared → Prop} (k : Tok) (l : Addr) (vs : List Value) (n : Nat) (ops : List Op) (parts : List Op) (news : List (Addr × Obj))
    (B : Below callerA h₀ [] h₀) (F : Fr h₀ L s.heap (fun y => if y = Str.ofString "some" then some (.ref l) else if y = Str.ofString "space" then some (.str (Str.ofString "Own") k) else m0 y)) (X : (hd.heap_39 w.params).In h₀) (N : News h₀ L s.heap ((l, listOf vs.toArray n) :: news)) (T : Top hd.view_39 (looseW hd.view_39 [Str.ofString "PaperError", Str.ofString "first_state"]) mean mg mb h₀)
    (hops : AllOp w news vs ops) (hlen : ops.length ≤ 5) (hnt : ∀ o ∈ ops, ∀ x, o ≠ .text x) (hfine : ∀ o ∈ ops, o.fine) (hstr : ∀ o ∈ ops, ∀ x, o = .name x → PyData.strOk x = true) (hs : ownSpec .own ops = some parts)
    (hE : ∀ e, PassesOwnAt (model PySem.Challenge.rw_og0172_01.row.prog w) ((callerA.deeper (envX (Str.ofString "law") lawS L fa cd cl)).mark (some (.ref e))) (callerA.deeper (envX (Str.ofString "law") lawS L fa cd cl)) (envX (Str.ofString "law") lawS L fa cd cl) E)
    (hQ : ∀ h' tk' m', Fr h₀ L h' m' → Q (.ret (.bool true)) { s with heap := h', toks := tk' }) :
    wpAny (model PySem.Challenge.rw_og0172_01.row.prog w) (callerA.deeper (envX (Str.ofString "law") lawS L fa cd cl)) (execs (List.drop 3 lawB) (envX (Str.ofString "law") lawS L fa cd cl)) Q E s := by
  conv => arg 2; arg 2; arg 2; whnf
  conv => arg 3; arg 1; whnf
  conv => arg 3; arg 2; arg 2; whnf
  obtain ⟨hpl, hpp⟩ := spec_parts hs hlen hstr
  have hz : ∀ o ∈ [Op.dec 0 0], o.isPart := fun o ho => by rw [List.mem_singleton.mp ho]; trivial
  k_steps
  all_goals exact hQ _ _ _ (by k_asm)
end Mine
end
section
open PySem PySem.W PyProof.Rows PySem.Calls
namespace Mine
theorem rowsM6 : True := by
  k_with_none
  trivial


theorem law_all {w : World} {mean : ExcName → Option Value} {mg mb : Str → Option Value} {h₀ : Heap} {L fa : Addr} {cd : Value} {cl : List (Str × Addr)} {m0 : Str → Option Value} {s : Shared} {Q : Flow → Shared → Prop} {E : Value → Shared → Prop} (sp : Sp) (k : Tok) (l : Addr) (vs : List Value) (n : Nat) (ops : List Op) (news : List (Addr × Obj))
    (B : Below callerA h₀ [] h₀) (F : Fr h₀ L s.heap (fun y => if y = Str.ofString "some" then some (.ref l) else if y = Str.ofString "space" then some (.str sp.str k) else m0 y)) (X : (hd.heap_39 w.params).In h₀) (N : News h₀ L s.heap ((l, listOf vs.toArray n) :: news)) (T : Top hd.view_39 (looseW hd.view_39 [Str.ofString "PaperError", Str.ofString "first_state"]) mean mg mb h₀)
    (hops : AllOp w news vs ops) (hlen : ops.length ≤ 5) (hnt : ∀ o ∈ ops, ∀ x, o ≠ .text x) (hfine : ∀ o ∈ ops, o.fine) (hstr : ∀ o ∈ ops, ∀ x, o = .name x → PyData.strOk x = true)
    (hE : ∀ e, PassesOwnAt (model PySem.Challenge.rw_og0172_01.row.prog w) ((callerA.deeper (envX (Str.ofString "law") lawS L fa cd cl)).mark (some (.ref e))) (callerA.deeper (envX (Str.ofString "law") lawS L fa cd cl)) (envX (Str.ofString "law") lawS L fa cd cl) E)
    (hQ : ∀ h' tk' m', Fr h₀ L h' m' → Q (.ret (.bool true)) { s with heap := h', toks := tk' }) :
    wpAny (model PySem.Challenge.rw_og0172_01.row.prog w) (callerA.deeper (envX (Str.ofString "law") lawS L fa cd cl)) (execs (List.drop 3 lawB) (envX (Str.ofString "law") lawS L fa cd cl)) Q E s := by
  cases sp with
  | gray =>
    cases hs : ownSpec .gray ops with
    | none => exact law_gray_none k l vs n ops news B F X N T hops hlen hnt hfine hstr hs hE hQ
    | some parts => exact law_gray_some k l vs n ops parts news B F X N T hops hlen hnt hfine hstr hs hE hQ
  | rgb =>
    cases hs : ownSpec .rgb ops with
    | none => exact law_rgb_none k l vs n ops news B F X N T hops hlen hnt hfine hstr hs hE hQ
    | some parts => exact law_rgb_some k l vs n ops parts news B F X N T hops hlen hnt hfine hstr hs hE hQ
  | pat =>
    cases hs : ownSpec .pat ops with
    | none => exact law_pat_none k l vs n ops news B F X N T hops hlen hnt hfine hstr hs hE hQ
    | some parts => exact law_pat_some k l vs n ops parts news B F X N T hops hlen hnt hfine hstr hs hE hQ
  | cmyk =>
    cases hs : ownSpec .cmyk ops with
    | none => exact law_cmyk_none k l vs n ops news B F X N T hops hlen hnt hfine hstr hs hE hQ
    | some parts => exact law_cmyk_some k l vs n ops parts news B F X N T hops hlen hnt hfine hstr hs hE hQ
  | own =>
    cases hs : ownSpec .own ops with
    | none => exact law_own_none k l vs n ops news B F X N T hops hlen hnt hfine hstr hs hE hQ
    | some parts => exact law_own_some k l vs n ops parts news B F X N T hops hlen hnt hfine hstr hs hE hQ
end Mine
end
section
open PySem PySem.W PyProof.Rows PySem.Calls
namespace Mine


theorem space_item {prog : Program} {w : World} {A : Around} {E : Value → Shared → Prop} {s : Shared} {h₀ : Heap} {L t : Addr} {news : List (Addr × Obj)} {value slice : Expr} {k1 k2 k3 k4 k5 u : Tok} {d : Int} {Q : Value → Shared → Prop}
    (N : News h₀ L s.heap news) (hm : (t, tupOf [.str Sp.gray.str k1, .str Sp.rgb.str k2, .str Sp.pat.str k3, .str Sp.cmyk.str k4, .str Sp.own.str k5]) ∈ news) (h0 : 0 ≤ d) (h5 : d < 5) (h : ∀ sp k, Q (.str (Sp.str sp) k) s)
    (hs : ∀ d, subscripted slice false (.ref t) (.int d u) = operate [.ref t, .int d u] (getItem (.ref t) (.int d u)) := by intro _; with_unfolding_all rfl) :
    wpAny (model prog w) A (subscriptTail value slice (.ref t) (.int d u)) Q E s := by
  have ht := News.isTup N hm
  have : d = 0 ∨ d = 1 ∨ d = 2 ∨ d = 3 ∨ d = 4 := by omega
  rcases this with rfl | rfl | rfl | rfl | rfl
  · exact item_tupleT ht (by decide) (by decide) rfl rfl (h .gray k1) (hs _)
  · exact item_tupleT ht (by decide) (by decide) rfl rfl (h .rgb k2) (hs _)
  · exact item_tupleT ht (by decide) (by decide) rfl rfl (h .pat k3) (hs _)
  · exact item_tupleT ht (by decide) (by decide) rfl rfl (h .cmyk k4) (hs _)
  · exact item_tupleT ht (by decide) (by decide) rfl rfl (h .own k5) (hs _)
theorem box_main {h₀ h : Heap} {L : Addr} {q p c : Addr × Obj} {tl : List (Addr × Obj)} (N : News h₀ L h ([q] ++ tl)) (hp : p ∈ tl) (hc : c ∈ tl) : News h₀ L h [q, p, c] := fun x hx => N x (by
  rcases List.mem_cons.mp hx with rfl | hx
  · exact .head _
  · rcases List.mem_cons.mp hx with rfl | hx
    · exact .tail _ hp
    · rw [List.mem_singleton.mp hx]; exact .tail _ hc)
/-- between two turns of the operands' comprehension -/
def PoolInv (w : World) (pp cA pc : Addr) (oc : Obj) (cells : List Value) (cn : Nat) (i : Nat) (ys : List Value) (nx : List (Addr × Obj)) : Prop :=
  ∃ g s pl kg ks kp n tl ops, (∀ p ∈ (pp, listOf #[.ref pc, .int g kg, .int s ks, .int pl kp] n) :: (cA, oc) :: (pc, listOf cells.toArray cn) :: tl, p ∈ nx) ∧ pl = 2 + (i : Int) ∧ AllOp w tl ys ops ∧ ops.length = i ∧ (∀ o ∈ ops, o.fine ∧ (∀ x, o ≠ .text x) ∧ (∀ x, o = .name x → PyData.strOk x = true)) ∧ 0 ≤ g ∧ 0 ≤ s ∧ s < 2147483647 ∧ (∀ x ∈ tl, x.1 ≠ pp)
theorem pool_led {h₀ h : Heap} {L : Addr} {P I C D c k : Addr × Obj} {tl nx : List (Addr × Obj)} (N : News h₀ L h (I :: C :: D :: nx)) (s : ∀ p ∈ P :: c :: k :: tl, p ∈ nx) : News h₀ L h (P :: c :: I :: C :: D :: k :: tl) := fun p hp => N p (by
  simp only [List.mem_cons] at hp ⊢
  rcases hp with h | h | h | h | h | h | h
  · exact .inr (.inr (.inr (s p (h ▸ .head _))))
  · exact .inr (.inr (.inr (s p (h ▸ .tail _ (.head _)))))
  · exact .inl h
  · exact .inr (.inl h)
  · exact .inr (.inr (.inl h))
  · exact .inr (.inr (.inr (s p (h ▸ .tail _ (.tail _ (.head _))))))
  · exact .inr (.inr (.inr (s p (.tail _ (.tail _ (.tail _ h)))))))
open LCg in
theorem pool_ne {pp cA pc I C D : Addr} {oP oc oI oC oD oc' : Obj} {tl nx : List (Addr × Obj)} (off : Off3 I C D nx) (s : ∀ p ∈ (pp, oP) :: (cA, oc) :: (pc, oc') :: tl, p ∈ nx) (h1 : cA ≠ pp) (h2 : pc ≠ pp) (h3 : ∀ x ∈ tl, x.1 ≠ pp) : ∀ q ∈ (cA, oc) :: (I, oI) :: (C, oC) :: (D, oD) :: (pc, oc') :: tl, q.1 ≠ pp := by
  have hm := off.mem _ (s _ (.head _))
  intro q hq
  simp only [List.mem_cons] at hq
  rcases hq with h | h | h | h | h | h
  · rw [h]; exact h1
  · rw [h]; exact Ne.symm hm.1
  · rw [h]; exact Ne.symm hm.2.1
  · rw [h]; exact Ne.symm hm.2.2
  · rw [h]; exact h2
  · exact h3 q h
theorem led_swap {h₀ h : Heap} {L : Addr} {q p : Addr × Obj} {r : List (Addr × Obj)} (N : News h₀ L h (q :: p :: r)) : News h₀ L h (p :: q :: r) := fun x hx => N x (by
  rcases List.mem_cons.mp hx with rfl | hx
  · exact .tail _ (.head _)
  · rcases List.mem_cons.mp hx with rfl | hx
    · exact .head _
    · exact .tail _ (.tail _ hx))
theorem rowsM7a : True := by
  k_with_none
  k_with "k_sub" => k_of "#h" => (intro p' hp'; first | exact hp' | exact List.Mem.tail _ hp' | ((simp only [List.cons_append, List.nil_append, List.append_nil, List.mem_cons, List.mem_append] at hp' ⊢); revert hp'; ((repeat' (refine or_imp.mpr (And.intro ?_ ?_))) <;> (intro hp'; simp only [hp', true_or, or_true]))))
  k_with "k_room" => k_of "#h" => ((try simp only [depth_mark, depth_under_make, depth_under_kw, depth_in1, depth_deeper, depth_caller, recursionLimit]); (try dsimp only [ktrTop]); omega)
  k_with "k_units" => k_of "#h" => ((have hcL9' := cLine_is); (try simp only [units_in1, units_deeper, Around.mark_units, units_caller]); (try dsimp only [ktrTop]); omega)
  k_with "@exec While BoolOp" => k_of "#h" => (k_here; k_dflt (refine whl_start 100 ?_))
  k_with "ktr_rel" => k_of "#h" => first | assumption | exact OpAt.int | exact OpAt.mono (by assumption) (by k_sub) | exact AllOp.mono (by assumption) (by k_sub) | exact List.Mem.tail _ (by assumption) | exact List.Mem.tail _ (List.Mem.tail _ (by assumption)) | exact subl _ (by assumption) | exact List.Mem.tail _ (subl _ (by assumption)) | exact mem_of_sub (by assumption) (by k_sub) | k_mem
  k_with "@call ref" => k_of "#h" => (k_here; k_dflt (refine' saysL_use (s_law_box _ _ _ _ _ ?hI' ?hlen') ?B' ?F' ?X' ?Ls' ?N' ?T' ?hk' ?hd' ?hu' ?_; (case Ls' => assumption); (case hI' => assumption); (case hlen' => assumption); (case B' => k_asm); (case F' => k_asm); (case X' => k_asm); (case N' => k_asm); (case T' => k_asm); (case hk' => first | exact rfl | assumption); (case hd' => first | ((try dsimp only [Around.deeper]); omega) | decide); (case hu' => first | ((try dsimp only [Around.deeper]); omega) | decide)); intro r' tl' h' tk' F' N' o' ho'; (obtain ⟨pp', pc', cells', cn', n', g', s1', kg', ks', kp', ics', er', hp', hc', hi', hcl', hg', hs0', hs1', hcp'⟩ := ho'); subst er'; (have e1' := o' _ (List.Mem.head _) _ hp'); (have e2' := o' _ (List.Mem.head _) _ hc'); (dsimp only at e1' e2'); (replace e1' := neN e1'); (replace e2' := neN e2'); (replace hcp' := ltN hcp'); (replace N' := box_main N' hp' hc'); clear o' hp' hc'; (try k_sweep))
  k_with "@call ref" => k_of "#h" => (k_here; k_dflt (refine' saysG_use (f := 449) (s_law_draw _ _ _ _ _ _ _ _ _ _ _ _ _ _ _ ?hne' ?hc' _ ?hi' ?hcl' ?hg' ?hs0' ?hs1' ?hp0' ?hp1' ?hm0' ?hm1') ?B' ?F' ?X' ?N' ?T' ?hk' ?hd' ?hu' ?_ ?_; (case B' => k_asm); (case F' => k_asm); (case X' => k_asm); (case N' => first | k_asm | exact led_swap (by k_asm)); (case T' => k_asm); (case hk' => first | exact rfl | assumption); (case hd' => first | ((try dsimp only [Around.deeper]); omega) | decide); (case hu' => first | ((try dsimp only [Around.deeper]); omega) | decide); (case hne' => k_all); (case hc' => k_mem); (case hi' => assumption); (case hcl' => omega); (case hg' => omega); (case hs0' => omega); (case hs1' => omega); (case hp0' => omega); (case hp1' => omega); (case hm0' => omega); (case hm1' => omega)); rotate_left; (intro _ _ _ _ hx'; exact hx'.elim); (intro r' nw' h' tk' F' N' ho'; (obtain ⟨d', kd', s2', ks2', kp2', g2', kg2', n2', e1', hd0', hd1', hs0', hs1', hg0', e2'⟩ := ho'); subst e1'; subst e2'; (try k_sweep)))
  k_with "@storeName" => k_of "#h" => (k_here; k_dflt (refine' storeX_C ?F' ?N' ?c' ?U' ?d' ?_ ?z1' ?z2'; (case z1' => rfl); (case z2' => rfl); (case F' => k_asm); (case N' => k_asm); (case c' => rfl); (case U' => (refine' UpdF.head ?u'; (case u' => k_all))); (case d' => k_asm)); intro h' o' F' N' d'; (try dsimp only at N'); (replace N' := led_swap N'); (try k_sweep))
  k_with "@subscriptTail" => k_of "#h" => (k_here; (with_reducible show wpAny _ _ (subscriptTail _ _ (Value.ref _) (Value.int _ _)) _ _ _); k_dflt (refine' space_item ?N' ?hm' ?h0' ?h5' ?_ ?hs'; (case N' => k_asm); (case hm' => k_mem); (case h0' => assumption); (case h5' => assumption); (case hs' => intro _; with_unfolding_all rfl)); intro sp' k')
  k_with "@CompSrc" => k_of "#h" => (k_dflt (refine' LCg.CompSrc.range ?hh' ?F' ?N' ?r' ?sm' ?rs' ?zz' ?_; (case hh' => rfl); (case F' => k_asm); (case N' => k_asm); (case r' => assumption); (case sm' => exact small_one (by decide) (by decide) (by omega) (by omega)); (case rs' => exact rangeSize_nat _ _); (case zz' => (rw [sizeLine_eq]; omega))); intro g')
  k_with "@call ref" => k_of "#h" => (k_here; k_dflt (refine' saysG_use (f := 456) (s_law_operand _ _ _ _ _ _ _ _ _ _ _ _ _ ?hne' ?hc' _ ?hi' ?hcl' ?hg' ?hs0' ?hs1' ?hp0' ?hp1') ?B' ?F' ?X' ?N' ?T' ?hk' ?hd' ?hu' ?_ ?_; (case B' => k_asm); (case F' => k_asm); (case X' => k_asm); (case N' => k_asm); (case T' => k_asm); (case hk' => first | exact rfl | assumption); (case hd' => first | ((try dsimp only [Around.deeper]); omega) | decide); (case hu' => first | ((try dsimp only [Around.deeper]); omega) | decide); (case hne' => assumption); (case hc' => k_mem); (case hi' => assumption); (case hcl' => omega); (case hg' => omega); (case hs0' => omega); (case hs1' => omega); (case hp0' => omega); (case hp1' => omega)); rotate_left; (intro _ _ _ _ hx'; exact hx'.elim); (intro r' nw' h' tk' F' N' ho'; (obtain ⟨o', s2', ks2', kp2', g2', kg2', n2', tl', hov', hof', hot', hon', hs0', hs1', hg0', e2', hq', hx'⟩ := ho'); subst e2'; (try k_sweep)))
  trivial

theorem pool_sub {P I C D c k : Addr × Obj} {tl t9 : List (Addr × Obj)} : ∀ p ∈ I :: C :: D :: P :: c :: k :: (tl ++ t9), p ∈ P :: ((c :: I :: C :: D :: k :: tl) ++ t9) := fun p hp => by
  simp only [List.mem_cons, List.mem_append] at hp ⊢
  rcases hp with h | h | h | h | h | h | h | h <;> simp only [h, true_or, or_true]
open LCg in
theorem pool_off {pp cA pc I C D : Addr} {oP oP' oc oI oC oD ok : Obj} {tl t9 nx : List (Addr × Obj)} (off : Off3 I C D nx) (s : ∀ p ∈ (pp, oP) :: (cA, oc) :: (pc, ok) :: tl, p ∈ nx) (hq : ∀ q ∈ (cA, oc) :: (I, oI) :: (C, oC) :: (D, oD) :: (pc, ok) :: tl, ∀ x ∈ t9, q.1 ≠ x.1) : Off3 I C D ((pp, oP') :: (cA, oc) :: (pc, ok) :: (tl ++ t9)) :=
  Off3.of fun p hp => by
    rcases List.mem_cons.mp hp with rfl | hp
    · have := off.mem _ (s (pp, oP) (.head _)); exact this
    · rcases List.mem_cons.mp hp with rfl | hp
      · exact off.mem _ (s _ (.tail _ (.head _)))
      · rcases List.mem_cons.mp hp with rfl | hp
        · exact off.mem _ (s _ (.tail _ (.tail _ (.head _))))
        · rcases List.mem_append.mp hp with hp | hp
          · exact off.mem _ (s _ (.tail _ (.tail _ (.tail _ hp))))
          · exact ⟨Ne.symm (hq (I, oI) (.tail _ (.head _)) p hp), Ne.symm (hq (C, oC) (.tail _ (.tail _ (.head _))) p hp), Ne.symm (hq (D, oD) (.tail _ (.tail _ (.tail _ (.head _)))) p hp)⟩

theorem law_whole {w : World} {mean : ExcName → Option Value} {mg mb : Str → Option Value} {h₀ : Heap} {L fa : Addr} {cd : Value} {m0 : Str → Option Value} {s : Shared} {Q : Flow → Shared → Prop} {E : Value → Shared → Prop} (sa cA : Addr) (items : List Value) (ns : List Int) (oc0 : Obj) (v0 : Option Value)
    (B : Below callerA h₀ [] h₀) (F : Fr h₀ L s.heap (fun y => if y = Str.ofString "script" then some (.ref sa) else m0 y)) (X : (hd.heap_39 w.params).In h₀) (N : News h₀ L s.heap [(cA, oc0)]) (hoc : oc0.data = .cell v0) (T : Top hd.view_39 (looseW hd.view_39 [Str.ofString "PaperError", Str.ofString "first_state"]) mean mg mb h₀)
    (Ls : h₀.IsList sa items.toArray) (hI : IntsAre items ns) (hlen : ns.length ≤ 63)
    (hE : ∀ e, PassesOwnAt (model PySem.Challenge.rw_og0172_01.row.prog w) ((callerA.deeper (envX (Str.ofString "law") lawS L fa cd [(Str.ofString "pool", cA)])).mark (some (.ref e))) (callerA.deeper (envX (Str.ofString "law") lawS L fa cd [(Str.ofString "pool", cA)])) (envX (Str.ofString "law") lawS L fa cd [(Str.ofString "pool", cA)]) E)
    (hQ : ∀ h' tk' m', Fr h₀ L h' m' → Q (.ret (.bool true)) { s with heap := h', toks := tk' }) :
    wpAny (model PySem.Challenge.rw_og0172_01.row.prog w) (callerA.deeper (envX (Str.ofString "law") lawS L fa cd [(Str.ofString "pool", cA)])) (execs lawB (envX (Str.ofString "law") lawS L fa cd [(Str.ofString "pool", cA)])) Q E s := by
  conv => arg 2; arg 2; arg 2; whnf
  conv => arg 3; arg 1; whnf
  conv => arg 3; arg 2; arg 2; whnf
  k_steps
  rename_i pp pc cells cn n0 g1 s1 kg ks kp ics hi hcl hg hs0a hs1a e1 e2 hcp h5 oc dc Dt h4 l1 h3 tk1 d1 kd1 s2a ks2a kp2a g2a kg2a n2a hd0a hd1a hs0b hs1b hg0b sp k h2 h1 tk2 F2 d kd s2 ks2 kp2 g2 kg2 n2 hd0 hd1 hs0 hs1 hg0 N2 h7 tk3 t1 u1 v1 hr F3 N3 hkeep g7
  refine comp_rest (PoolInv w pp cA pc oc cells cn) ⟨g2, s2, 0 + 1 + 1, kg2, ks2, kp2, n2, [], [], (fun p hp => by
      simp only [List.mem_cons, List.not_mem_nil, or_false] at hp ⊢
      rcases hp with h | h | h <;> simp only [h, true_or, or_true]), by decide, .nil, rfl, (fun o ho => nomatch ho), hg0, hs0, hs1, fun x hx => nomatch hx⟩ ?_ ?_
  · rintro i ys nx v I oI C oC D m₂ h tk E' hi' ⟨g', s', pl', kg', ks', kp', n', tl, ops, hsub, hpl, hall, hlen', hops, hg', hs0', hs1', htl⟩ hv hNs hx F' N' off ne
    have hne9 := pool_ne (oI := oI) (oC := oC) (oD := LCg.lst ys) off hsub e1 (Nat.ne_of_lt hcp) htl
    replace N' := pool_led N' hsub
    have hi5 : i < 5 := by omega
    clear N2 F2
    k_steps
    rename_i r9 h9 tk9 F9 o9 s29 ks9 kp9 g29 kg9 n9 tl9 hov hof hot hon hs9 hs19 hg9 hq9 hx9 N9
    refine LCg.CompEnd.intro F9 N9 ((pp, _) :: (cA, oc) :: (pc, listOf cells.toArray cn) :: (tl ++ tl9)) pool_sub (pool_off (oI := oI) (oC := oC) (oD := LCg.lst ys) off hsub hq9) trivial ⟨g29, s29, pl' + 1, kg9, ks9, kp9, n9, tl ++ tl9, ops ++ [o9], (fun p hp => hp), by omega, AllOp.snoc (hall.mono subl) (hov.mono fun p hp => List.mem_append.mpr (.inr hp)), by rw [List.length_append, hlen']; rfl, ?_, hg9, hs9, hs19, ?_⟩
    · intro o ho
      rcases List.mem_append.mp ho with ho | ho
      · exact hops o ho
      · rw [List.mem_singleton.mp ho]; exact ⟨hof, hot, hon⟩
    · intro x hx
      rcases List.mem_append.mp hx with hx | hx
      · exact htl x hx
      · exact hx9 x hx
  · rintro ys nx ⟨g', s', pl', kg', ks', kp', n', tl, ops, hsub, hpl, hall, hlen', hops, hg', hs0', hs1', htl⟩
    intro D h' tk' F'' N'' o1
    exact law_all sp k D ys _ ops nx B F'' X N'' T (hall.mono fun p hp => hsub p (.tail _ (.tail _ (.tail _ hp)))) (by omega) (fun o ho => (hops o ho).2.1) (fun o ho => (hops o ho).1) (fun o ho => (hops o ho).2.2) hE fun h' tk' m' F' => hQ h' tk' m' F'
end Mine
end
section
open PySem PySem.W PyProof.Rows PySem.Calls
namespace Mine
theorem rowsM8 : True := by
  k_with_none
  trivial



theorem fr_with {h₀ h : Heap} {L : Addr} {m : Str → Option Value} {x : Str} {v : Value} (F : Fr h₀ L h m) (e : m x = some v) : Fr h₀ L h (fun y => if y = x then some v else m y) := by
  have : (fun y => if y = x then some v else m y) = m := by
    funext y
    by_cases h : y = x
    · rw [if_pos h, h, e]
    · rw [if_neg h]
  rw [this]; exact F

theorem h_main : PySem.Challenge.rw_og0172_01.Holds := by
  w_on
  refine holds_law h_said fun said => ?_
  refine holds_open (q := hd.view_39) (loose := [PySem.Str.ofString "PaperError", PySem.Str.ofString "first_state"]) (Xt := hd.xt) (XP := XL hd.view_39 []) (Yf := hd.hook.obs) (Ya := hd.hook.val) (YP := hd.hook.says) (N := 6788) hd.p_left (Hook.of hd.hook) (Hook.keeps hd.hook) (fun s e => xl_of s (Bool.and_eq_true_iff.mp e).1) XL.keeps (by rfl) (by rfl) (by rfl) (fun s e => recFacts_of (Bool.and_eq_true_iff.mp e).2) (by rfl) said h_ok ⟨rfl, rfl, rfl, rfl, rfl, by kernel_rfl⟩ ?hw ?hc
  case hw => w_witness2
  case hc =>
    k_go0
    (all_goals try k_fold)
    rename (¬ (_ < _)) => hlen0
    have hlen9 : (_ : List Int).length ≤ 63 := Nat.le_of_not_lt fun h => hlen0 (by exact_mod_cast h)
    clear hlen0
    rename Fr _ _ _ _ => F9
    rename News _ _ _ _ => N9
    rename Below _ _ _ _ => B9
    rename Top _ _ _ _ _ _ => T9
    rename Frag.In _ _ => X9
    rename Heap.IsList _ _ _ => L9
    rename IntsAre _ _ => I9
    rename (_ = Data.cell _) => hc9
    refine law_whole _ _ _ _ _ _ B9 (fr_with F9 rfl) X9 N9 hc9 T9 L9 I9 hlen9 (fun e => ?_) (fun h' tk' m' F' => ?_)
    · passes_own
    · first
      | (k_end; wrow_close)
      | wrow_close
      | k_steps
end Mine
end
theorem PySem.Challenge.cw_og0172_01_holds : PySem.Challenge.rw_og0172_01.Holds := by
  exact Mine.h_main
