import PyProof.Rows.All
import Wide.All
import OpenK.AllK
import Wide.FinOn
import Lean
import PySem.Challenge.RW_sa0007_01
open PySem PySem.W PySem.Calls PySem.Spec PyProof.Rows PySem.W.X
set_option Elab.async false
set_option maxRecDepth 100000
set_option maxHeartbeats 8000000
set_option rowWalk.seconds 0
namespace Mine

/-! the objects of the heap behind the text's top (printed by a program of this claim's, out of a run of the top) -/
set_option linter.unusedVariables false
/-- the globals of the text behind its top, as the heap bears them, in parts (a twin's proof is quadratic in the texts of ONE definition) -/
noncomputable def glob1 (P : Params) : List DictEntry := [⟨(PyData.keyHash P (Str.ofString "__name__")), (Value.str (Str.ofString "__name__") 165), (Value.str (Str.ofString "law_sa0007_01") 760)⟩, ⟨(PyData.keyHash P (Str.ofString "__doc__")), (Value.str (Str.ofString "__doc__") 166), Value.none⟩, ⟨(PyData.keyHash P (Str.ofString "__package__")), (Value.str (Str.ofString "__package__") 167), Value.none⟩, ⟨(PyData.keyHash P (Str.ofString "__loader__")), (Value.str (Str.ofString "__loader__") 168), (Value.builtin "__main__.__loader__#opaque")⟩, ⟨(PyData.keyHash P (Str.ofString "__spec__")), (Value.str (Str.ofString "__spec__") 169), Value.none⟩, ⟨(PyData.keyHash P (Str.ofString "__annotations__")), (Value.str (Str.ofString "__annotations__") 170), (Value.ref 6)⟩, ⟨(PyData.keyHash P (Str.ofString "__builtins__")), (Value.str (Str.ofString "__builtins__") 171), (Value.ref 4)⟩, ⟨(PyData.keyHash P (Str.ofString "__file__")), (Value.str (Str.ofString "__file__") 173), (Value.str (Str.ofString "/claim/cut.py") 172)⟩]
noncomputable def glob2 (P : Params) : List DictEntry := [⟨(PyData.keyHash P (Str.ofString "__cached__")), (Value.str (Str.ofString "__cached__") 174), Value.none⟩, ⟨(PyData.keyHash P (Str.ofString "AdaError")), (Value.str (Str.ofString "AdaError") 217), (Value.ref 31)⟩, ⟨(PyData.keyHash P (Str.ofString "AdaRaise")), (Value.str (Str.ofString "AdaRaise") 246), (Value.ref 51)⟩, ⟨(PyData.keyHash P (Str.ofString "refuse")), (Value.str (Str.ofString "refuse") 255), (Value.ref 60)⟩, ⟨(PyData.keyHash P (Str.ofString "bounds_of")), (Value.str (Str.ofString "bounds_of") 262), (Value.ref 67)⟩, ⟨(PyData.keyHash P (Str.ofString "in_bounds")), (Value.str (Str.ofString "in_bounds") 271), (Value.ref 74)⟩, ⟨(PyData.keyHash P (Str.ofString "is_member")), (Value.str (Str.ofString "is_member") 281), (Value.ref 81)⟩, ⟨(PyData.keyHash P (Str.ofString "check_range")), (Value.str (Str.ofString "check_range") 289), (Value.ref 88)⟩]
noncomputable def glob3 (P : Params) : List DictEntry := [⟨(PyData.keyHash P (Str.ofString "check_base")), (Value.str (Str.ofString "check_base") 297), (Value.ref 95)⟩, ⟨(PyData.keyHash P (Str.ofString "rounded_quotient")), (Value.str (Str.ofString "rounded_quotient") 306), (Value.ref 102)⟩, ⟨(PyData.keyHash P (Str.ofString "cut_toward_zero")), (Value.str (Str.ofString "cut_toward_zero") 315), (Value.ref 109)⟩, ⟨(PyData.keyHash P (Str.ofString "small_of")), (Value.str (Str.ofString "small_of") 322), (Value.ref 116)⟩, ⟨(PyData.keyHash P (Str.ofString "converted")), (Value.str (Str.ofString "converted") 333), (Value.ref 123)⟩, ⟨(PyData.keyHash P (Str.ofString "convert_to")), (Value.str (Str.ofString "convert_to") 342), (Value.ref 130)⟩, ⟨(PyData.keyHash P (Str.ofString "MOST_BITS")), (Value.str (Str.ofString "MOST_BITS") 346), (Value.int 4096 345)⟩, ⟨(PyData.keyHash P (Str.ofString "whole_add")), (Value.str (Str.ofString "whole_add") 355), (Value.ref 137)⟩]
noncomputable def glob4 (P : Params) : List DictEntry := [⟨(PyData.keyHash P (Str.ofString "whole_sub")), (Value.str (Str.ofString "whole_sub") 364), (Value.ref 144)⟩, ⟨(PyData.keyHash P (Str.ofString "whole_mul")), (Value.str (Str.ofString "whole_mul") 373), (Value.ref 151)⟩, ⟨(PyData.keyHash P (Str.ofString "need_divisor")), (Value.str (Str.ofString "need_divisor") 380), (Value.ref 158)⟩, ⟨(PyData.keyHash P (Str.ofString "whole_div")), (Value.str (Str.ofString "whole_div") 389), (Value.ref 165)⟩, ⟨(PyData.keyHash P (Str.ofString "whole_rem")), (Value.str (Str.ofString "whole_rem") 398), (Value.ref 172)⟩, ⟨(PyData.keyHash P (Str.ofString "whole_modulo")), (Value.str (Str.ofString "whole_modulo") 407), (Value.ref 179)⟩, ⟨(PyData.keyHash P (Str.ofString "size_of")), (Value.str (Str.ofString "size_of") 415), (Value.ref 186)⟩, ⟨(PyData.keyHash P (Str.ofString "is_great_power")), (Value.str (Str.ofString "is_great_power") 423), (Value.ref 193)⟩]
noncomputable def glob5 (P : Params) : List DictEntry := [⟨(PyData.keyHash P (Str.ofString "whole_power")), (Value.str (Str.ofString "whole_power") 433), (Value.ref 200)⟩, ⟨(PyData.keyHash P (Str.ofString "whole_neg")), (Value.str (Str.ofString "whole_neg") 441), (Value.ref 207)⟩, ⟨(PyData.keyHash P (Str.ofString "whole_abs")), (Value.str (Str.ofString "whole_abs") 449), (Value.ref 214)⟩, ⟨(PyData.keyHash P (Str.ofString "same_number")), (Value.str (Str.ofString "same_number") 457), (Value.ref 221)⟩, ⟨(PyData.keyHash P (Str.ofString "modular_add")), (Value.str (Str.ofString "modular_add") 466), (Value.ref 228)⟩, ⟨(PyData.keyHash P (Str.ofString "modular_sub")), (Value.str (Str.ofString "modular_sub") 475), (Value.ref 235)⟩, ⟨(PyData.keyHash P (Str.ofString "modular_mul")), (Value.str (Str.ofString "modular_mul") 484), (Value.ref 242)⟩, ⟨(PyData.keyHash P (Str.ofString "modular_power")), (Value.str (Str.ofString "modular_power") 494), (Value.ref 249)⟩]
noncomputable def glob6 (P : Params) : List DictEntry := [⟨(PyData.keyHash P (Str.ofString "modular_neg")), (Value.str (Str.ofString "modular_neg") 502), (Value.ref 256)⟩, ⟨(PyData.keyHash P (Str.ofString "logic_and")), (Value.str (Str.ofString "logic_and") 511), (Value.ref 263)⟩, ⟨(PyData.keyHash P (Str.ofString "logic_or")), (Value.str (Str.ofString "logic_or") 520), (Value.ref 270)⟩, ⟨(PyData.keyHash P (Str.ofString "logic_xor")), (Value.str (Str.ofString "logic_xor") 529), (Value.ref 277)⟩, ⟨(PyData.keyHash P (Str.ofString "come_round")), (Value.str (Str.ofString "come_round") 537), (Value.ref 284)⟩, ⟨(PyData.keyHash P (Str.ofString "logic_not")), (Value.str (Str.ofString "logic_not") 545), (Value.ref 291)⟩, ⟨(PyData.keyHash P (Str.ofString "fixed_times")), (Value.str (Str.ofString "fixed_times") 558), (Value.ref 298)⟩, ⟨(PyData.keyHash P (Str.ofString "fixed_over")), (Value.str (Str.ofString "fixed_over") 571), (Value.ref 305)⟩]
noncomputable def glob7 (P : Params) : List DictEntry := [⟨(PyData.keyHash P (Str.ofString "holds_between")), (Value.str (Str.ofString "holds_between") 580), (Value.ref 312)⟩, ⟨(PyData.keyHash P (Str.ofString "whole_operators")), (Value.str (Str.ofString "whole_operators") 586), (Value.ref 319)⟩, ⟨(PyData.keyHash P (Str.ofString "modular_operators")), (Value.str (Str.ofString "modular_operators") 592), (Value.ref 326)⟩, ⟨(PyData.keyHash P (Str.ofString "fixed_operators")), (Value.str (Str.ofString "fixed_operators") 598), (Value.ref 333)⟩, ⟨(PyData.keyHash P (Str.ofString "logic_operators")), (Value.str (Str.ofString "logic_operators") 604), (Value.ref 340)⟩, ⟨(PyData.keyHash P (Str.ofString "operators_of")), (Value.str (Str.ofString "operators_of") 611), (Value.ref 347)⟩, ⟨(PyData.keyHash P (Str.ofString "unary_operators")), (Value.str (Str.ofString "unary_operators") 618), (Value.ref 354)⟩, ⟨(PyData.keyHash P (Str.ofString "ratio_toward_zero")), (Value.str (Str.ofString "ratio_toward_zero") 627), (Value.ref 361)⟩]
noncomputable def glob8 (P : Params) : List DictEntry := [⟨(PyData.keyHash P (Str.ofString "ratio_rounded")), (Value.str (Str.ofString "ratio_rounded") 635), (Value.ref 368)⟩, ⟨(PyData.keyHash P (Str.ofString "Type")), (Value.str (Str.ofString "Type") 690), (Value.ref 385)⟩, ⟨(PyData.keyHash P (Str.ofString "Subtype")), (Value.str (Str.ofString "Subtype") 721), (Value.ref 406)⟩, ⟨(PyData.keyHash P (Str.ofString "int_type")), (Value.str (Str.ofString "int_type") 731), (Value.ref 417)⟩, ⟨(PyData.keyHash P (Str.ofString "mod_type")), (Value.str (Str.ofString "mod_type") 740), (Value.ref 424)⟩, ⟨(PyData.keyHash P (Str.ofString "fixed_type")), (Value.str (Str.ofString "fixed_type") 751), (Value.ref 431)⟩, ⟨(PyData.keyHash P (Str.ofString "numbered")), (Value.str (Str.ofString "numbered") 759), (Value.ref 438)⟩, ⟨(PyData.keyHash P (Str.ofString "_law_wind")), (Value.str (Str.ofString "_law_wind") 771), (Value.ref 445)⟩]
noncomputable def glob9 (P : Params) : List DictEntry := [⟨(PyData.keyHash P (Str.ofString "_law_into")), (Value.str (Str.ofString "_law_into") 780), (Value.ref 452)⟩, ⟨(PyData.keyHash P (Str.ofString "_law_within")), (Value.str (Str.ofString "_law_within") 789), (Value.ref 459)⟩, ⟨(PyData.keyHash P (Str.ofString "_law_reckoned")), (Value.str (Str.ofString "_law_reckoned") 800), (Value.ref 466)⟩, ⟨(PyData.keyHash P (Str.ofString "_law_about")), (Value.str (Str.ofString "_law_about") 808), (Value.ref 473)⟩, ⟨(PyData.keyHash P (Str.ofString "_law_sorts")), (Value.str (Str.ofString "_law_sorts") 823), (Value.ref 480)⟩, ⟨(PyData.keyHash P (Str.ofString "_law_back_turn")), (Value.str (Str.ofString "_law_back_turn") 848), (Value.ref 487)⟩, ⟨(PyData.keyHash P (Str.ofString "_law_order_turn")), (Value.str (Str.ofString "_law_order_turn") 854), (Value.ref 492)⟩, ⟨(PyData.keyHash P (Str.ofString "law")), (Value.str (Str.ofString "law") 864), (Value.ref 499)⟩]
noncomputable def globs (P : Params) : List DictEntry := glob1 P ++ (glob2 P ++ (glob3 P ++ (glob4 P ++ (glob5 P ++ (glob6 P ++ (glob7 P ++ (glob8 P ++ (glob9 P))))))))
noncomputable def vs (s : String) (t : Nat) : Value := .str (Str.ofString s) t
noncomputable def en (P : Params) (s : String) (t : Nat) (v : Value) : DictEntry := ⟨PyData.keyHash P (Str.ofString s), vs s t, v⟩
noncomputable def tu (l : List Value) : Obj := ⟨.type "tuple", none, .seq l.toArray, #[]⟩
noncomputable def fl (l : List Value) : Obj := ⟨.none, none, .fields l.toArray, #[]⟩
noncomputable def co (n q : String) (t : Nat) (line argc flags : Int) (a u : Nat) : Obj := ⟨.type "code", none, .fields #[vs n t, vs q (t + 1), vs "/claim/cut.py" (t + 2), .int line 0, .int argc 0, .int 0 0, .int 0 0, .int flags 0, .ref a, .bool true, .int 181 0, .ref (a + 1), .none, .ref (a + 2), .ref (a + 3), .ref (a + 4), .int (Int.ofNat u) 0, .int line 0, vs "/claim/cut.py" (u + 1)], #[]⟩
noncomputable abbrev pg : Program := PySem.Challenge.rw_sa0007_01.row.toRowW.prog
noncomputable def bd (i : Nat) : Stmt := (pg.main.body[i]?).getD (.Pass ⟨0, 0, 0, 0⟩)
noncomputable def isDefn : Stmt → Bool
  | .FunctionDef .. => true
  | _ => false
/-- the first def of a class -/
noncomputable def df : Stmt → Stmt
  | .ClassDef _ _ _ b _ _ _ _ _ _ _ => (b.find? isDefn).getD (.Pass ⟨0, 0, 0, 0⟩)
  | s => s
noncomputable def fd (q : String) : Stmt → FuncData
  | .FunctionDef n a b _ _ _ sc _ _ _ => { name := n, qualname := Str.ofString q, params := a, body := .stmts b, scope := sc, globals := 0, closure := [], defaults := .none, kwdefaults := .none }
  | _ => default
noncomputable def fb (f : FuncData) : Obj := ⟨.none, none, .func f, #[]⟩
noncomputable def fu (f : FuncData) (m : Value) (c : Nat) : Obj := ⟨.type "function", none, .func { f with globals := 3, pyModule := m, code := .ref c }, #[]⟩
noncomputable def ch0 (P : Params) (r : List Obj) : List Obj := tu [.type "Exception"] :: ({ cls := .type "builtin_function_or_method", data := Data.fields #[.builtin "type.__prepare__", .type "type"] } : Obj) :: ({ cls := .type "dict", data := Data.dict #[en P "__module__" 196 (vs "adacore.errors" 187), en P "__qualname__" 198 (vs "AdaError" 197), en P "__firstlineno__" 200 (.int 2 199), en P "__init__" 208 (.ref 28), en P "__static_attributes__" 210 (.ref 29)] 5 } : Obj) :: tu [] :: fl [.int 4 0, .int 4 0, .ref 27] :: (⟨.type "code", none, .fields #[vs "AdaError" 191, vs "AdaError" 192, vs "/claim/cut.py" 193, .int 2 0, .int 0 0, .int 0 0, .int 0 0, .int 0 0, .ref 18, .bool false, .int 181 0, .ref 19, .none, .none, .none, .none, .int 194 0, .int 2 0, vs "/claim/cut.py" 195], #[]⟩ : Obj) :: ({ cls := .type "frame", slots := #[some (.ref 20), some (.ref 3), some (.ref 17), none, some (vs "adacore.errors" 187), none, some (.ref 0)] } : Obj) :: tu [] :: fl [] :: tu [vs "self" 204, vs "text" 205] :: tu [] :: fb (fd "AdaError.__init__" (df (bd 1))) :: co "__init__" "AdaError.__init__" 201 4 2 3 22 206 :: fu (fd "AdaError.__init__" (df (bd 1))) (vs "adacore.errors" 187) 27 :: tu [vs "text" 209] :: ({ cls := .type "dict", data := Data.dict #[en P "__module__" 196 (vs "adacore.errors" 187), en P "__firstlineno__" 200 (.int 2 199), en P "__init__" 208 (.ref 28), en P "__static_attributes__" 210 (.ref 29), en P "__weakref__" 212 (.ref 32), en P "__doc__" 213 (.none)] 3 } : Obj) :: ({ cls := .type "type", data := Data.cls { name := Str.ofString "AdaError", bases := [.type "Exception"], mro := [.ref 31, .type "Exception", .type "BaseException", .type "object"], ns := 30, qualname := Str.ofString "AdaError", subclasses := [.ref 51] }, slots := #[some (.ref 15), none, some (vs "AdaError" 189), some (vs "AdaError" 197), some (.builtin "Exception.__new__"), some (.bool true)] } : Obj) :: ({ cls := .type "getset_descriptor", data := Data.fields #[vs "__weakref__" 211, .ref 31, .builtin "ExceptionGroup.__weakref__", .none] } : Obj) :: ({ cls := .type "super", data := Data.fields #[.ref 31, .ref 31, .ref 31] } : Obj) :: ({ cls := .type "builtin_function_or_method", data := Data.fields #[.builtin "object.__init_subclass__", .ref 31] } : Obj) :: tu [.ref 31] :: ({ cls := .type "builtin_function_or_method", data := Data.fields #[.builtin "type.__prepare__", .type "type"] } : Obj) :: ({ cls := .type "dict", data := Data.dict #[en P "__module__" 225 (vs "adacore.errors" 187), en P "__qualname__" 227 (vs "AdaRaise" 226), en P "__firstlineno__" 229 (.int 7 228), en P "__init__" 239 (.ref 48), en P "__static_attributes__" 243 (.ref 49)] 5 } : Obj) :: tu [] :: fl [.int 9 0, .int 4 0, .ref 47] :: (⟨.type "code", none, .fields #[vs "AdaRaise" 220, vs "AdaRaise" 221, vs "/claim/cut.py" 222, .int 7 0, .int 0 0, .int 0 0, .int 0 0, .int 0 0, .ref 38, .bool false, .int 181 0, .ref 39, .none, .none, .none, .none, .int 223 0, .int 7 0, vs "/claim/cut.py" 224], #[]⟩ : Obj) :: ({ cls := .type "frame", slots := #[some (.ref 40), some (.ref 3), some (.ref 37), none, some (vs "adacore.errors" 187), none, some (.ref 0)] } : Obj) :: tu [] :: fl [] :: tu [vs "self" 233, vs "name" 234, vs "line" 235, vs "text" 236] :: tu [] :: fb (fd "AdaRaise.__init__" (df (bd 2))) :: co "__init__" "AdaRaise.__init__" 230 9 4 3 42 237 :: fu (fd "AdaRaise.__init__" (df (bd 2))) (vs "adacore.errors" 187) 47 :: tu [vs "line" 240, vs "name" 241, vs "word" 242] :: r
noncomputable def ch1 (P : Params) (r : List Obj) : List Obj := ({ cls := .type "dict", data := Data.dict #[en P "__module__" 225 (vs "adacore.errors" 187), en P "__firstlineno__" 229 (.int 7 228), en P "__init__" 239 (.ref 48), en P "__static_attributes__" 243 (.ref 49), en P "__doc__" 244 (.none)] 2 } : Obj) :: ({ cls := .type "type", data := Data.cls { name := Str.ofString "AdaRaise", bases := [.ref 31], mro := [.ref 51, .ref 31, .type "Exception", .type "BaseException", .type "object"], ns := 50, qualname := Str.ofString "AdaRaise" }, slots := #[some (.ref 35), none, some (vs "AdaRaise" 218), some (vs "AdaRaise" 226), some (.builtin "Exception.__new__"), some (.bool true)] } : Obj) :: ({ cls := .type "super", data := Data.fields #[.ref 51, .ref 51, .ref 51] } : Obj) :: ({ cls := .type "builtin_function_or_method", data := Data.fields #[.builtin "object.__init_subclass__", .ref 51] } : Obj) :: tu [] :: fl [] :: tu [vs "text" 252] :: tu [] :: fb (fd "refuse" (bd 4)) :: co "refuse" "refuse" 249 15 1 3 54 253 :: fu (fd "refuse" (bd 4)) (vs "adacore.scalars" 247) 59 :: tu [] :: fl [] :: tu [vs "subtype" 259] :: tu [] :: fb (fd "bounds_of" (bd 5)) :: co "bounds_of" "bounds_of" 256 17 1 3 61 260 :: fu (fd "bounds_of" (bd 5)) (vs "adacore.scalars" 247) 66 :: tu [] :: fl [] :: tu [vs "value" 266, vs "low" 267, vs "high" 268] :: tu [] :: fb (fd "in_bounds" (bd 6)) :: co "in_bounds" "in_bounds" 263 21 3 3 68 269 :: fu (fd "in_bounds" (bd 6)) (vs "adacore.scalars" 247) 73 :: tu [] :: fl [] :: tu [vs "subtype" 275, vs "value" 276, vs "low" 277, vs "high" 278] :: tu [] :: fb (fd "is_member" (bd 7)) :: co "is_member" "is_member" 272 23 2 3 75 279 :: fu (fd "is_member" (bd 7)) (vs "adacore.scalars" 247) 80 :: tu [] :: fl [] :: tu [vs "subtype" 285, vs "value" 286] :: r
noncomputable def ch2 (P : Params) (r : List Obj) : List Obj := tu [] :: fb (fd "check_range" (bd 8)) :: co "check_range" "check_range" 282 26 2 3 82 287 :: fu (fd "check_range" (bd 8)) (vs "adacore.scalars" 247) 87 :: tu [] :: fl [] :: tu [vs "t" 293, vs "value" 294] :: tu [] :: fb (fd "check_base" (bd 9)) :: co "check_base" "check_base" 290 30 2 3 89 295 :: fu (fd "check_base" (bd 9)) (vs "adacore.scalars" 247) 94 :: tu [] :: fl [] :: tu [vs "num" 301, vs "den" 302, vs "q" 303] :: tu [] :: fb (fd "rounded_quotient" (bd 10)) :: co "rounded_quotient" "rounded_quotient" 298 34 2 3 96 304 :: fu (fd "rounded_quotient" (bd 10)) (vs "adacore.scalars" 247) 101 :: tu [] :: fl [] :: tu [vs "num" 310, vs "den" 311, vs "q" 312] :: tu [] :: fb (fd "cut_toward_zero" (bd 11)) :: co "cut_toward_zero" "cut_toward_zero" 307 39 2 3 103 313 :: fu (fd "cut_toward_zero" (bd 11)) (vs "adacore.scalars" 247) 108 :: tu [] :: fl [] :: tu [vs "t" 319] :: tu [] :: fb (fd "small_of" (bd 12)) :: co "small_of" "small_of" 316 44 1 3 110 320 :: fu (fd "small_of" (bd 12)) (vs "adacore.scalars" 247) 115 :: tu [] :: fl [] :: tu [vs "target" 326, vs "source" 327, vs "value" 328, vs "num" 329, vs "den" 330] :: r
noncomputable def ch3 (P : Params) (r : List Obj) : List Obj := tu [] :: fb (fd "converted" (bd 13)) :: co "converted" "converted" 323 48 3 3 117 331 :: fu (fd "converted" (bd 13)) (vs "adacore.scalars" 247) 122 :: tu [] :: fl [] :: tu [vs "subtype" 337, vs "source" 338, vs "value" 339] :: tu [] :: fb (fd "convert_to" (bd 14)) :: co "convert_to" "convert_to" 334 54 3 3 124 340 :: fu (fd "convert_to" (bd 14)) (vs "adacore.scalars" 247) 129 :: tu [] :: fl [] :: tu [vs "t" 350, vs "x" 351, vs "y" 352] :: tu [] :: fb (fd "whole_add" (bd 17)) :: co "whole_add" "whole_add" 347 58 3 3 131 353 :: fu (fd "whole_add" (bd 17)) (vs "adacore.arith" 343) 136 :: tu [] :: fl [] :: tu [vs "t" 359, vs "x" 360, vs "y" 361] :: tu [] :: fb (fd "whole_sub" (bd 18)) :: co "whole_sub" "whole_sub" 356 60 3 3 138 362 :: fu (fd "whole_sub" (bd 18)) (vs "adacore.arith" 343) 143 :: tu [] :: fl [] :: tu [vs "t" 368, vs "x" 369, vs "y" 370] :: tu [] :: fb (fd "whole_mul" (bd 19)) :: co "whole_mul" "whole_mul" 365 62 3 3 145 371 :: fu (fd "whole_mul" (bd 19)) (vs "adacore.arith" 343) 150 :: tu [] :: fl [] :: tu [vs "y" 377] :: r
noncomputable def ch4 (P : Params) (r : List Obj) : List Obj := tu [] :: fb (fd "need_divisor" (bd 20)) :: co "need_divisor" "need_divisor" 374 64 1 3 152 378 :: fu (fd "need_divisor" (bd 20)) (vs "adacore.arith" 343) 157 :: tu [] :: fl [] :: tu [vs "t" 384, vs "x" 385, vs "y" 386] :: tu [] :: fb (fd "whole_div" (bd 21)) :: co "whole_div" "whole_div" 381 67 3 3 159 387 :: fu (fd "whole_div" (bd 21)) (vs "adacore.arith" 343) 164 :: tu [] :: fl [] :: tu [vs "t" 393, vs "x" 394, vs "y" 395] :: tu [] :: fb (fd "whole_rem" (bd 22)) :: co "whole_rem" "whole_rem" 390 70 3 3 166 396 :: fu (fd "whole_rem" (bd 22)) (vs "adacore.arith" 343) 171 :: tu [] :: fl [] :: tu [vs "t" 402, vs "x" 403, vs "y" 404] :: tu [] :: fb (fd "whole_modulo" (bd 23)) :: co "whole_modulo" "whole_modulo" 399 73 3 3 173 405 :: fu (fd "whole_modulo" (bd 23)) (vs "adacore.arith" 343) 178 :: tu [] :: fl [] :: tu [vs "x" 411, vs "count" 412] :: tu [] :: fb (fd "size_of" (bd 24)) :: co "size_of" "size_of" 408 76 1 3 180 413 :: fu (fd "size_of" (bd 24)) (vs "adacore.arith" 343) 185 :: tu [] :: fl [] :: tu [vs "x" 419, vs "n" 420] :: r
noncomputable def ch5 (P : Params) (r : List Obj) : List Obj := tu [] :: fb (fd "is_great_power" (bd 25)) :: co "is_great_power" "is_great_power" 416 83 2 3 187 421 :: fu (fd "is_great_power" (bd 25)) (vs "adacore.arith" 343) 192 :: tu [] :: fl [] :: tu [vs "t" 427, vs "x" 428, vs "n" 429, vs "result" 430] :: tu [] :: fb (fd "whole_power" (bd 26)) :: co "whole_power" "whole_power" 424 85 3 3 194 431 :: fu (fd "whole_power" (bd 26)) (vs "adacore.arith" 343) 199 :: tu [] :: fl [] :: tu [vs "t" 437, vs "x" 438] :: tu [] :: fb (fd "whole_neg" (bd 27)) :: co "whole_neg" "whole_neg" 434 100 2 3 201 439 :: fu (fd "whole_neg" (bd 27)) (vs "adacore.arith" 343) 206 :: tu [] :: fl [] :: tu [vs "t" 445, vs "x" 446] :: tu [] :: fb (fd "whole_abs" (bd 28)) :: co "whole_abs" "whole_abs" 442 102 2 3 208 447 :: fu (fd "whole_abs" (bd 28)) (vs "adacore.arith" 343) 213 :: tu [] :: fl [] :: tu [vs "t" 453, vs "x" 454] :: tu [] :: fb (fd "same_number" (bd 29)) :: co "same_number" "same_number" 450 104 2 3 215 455 :: fu (fd "same_number" (bd 29)) (vs "adacore.arith" 343) 220 :: tu [] :: fl [] :: tu [vs "t" 461, vs "x" 462, vs "y" 463] :: r
noncomputable def ch6 (P : Params) (r : List Obj) : List Obj := tu [] :: fb (fd "modular_add" (bd 30)) :: co "modular_add" "modular_add" 458 106 3 3 222 464 :: fu (fd "modular_add" (bd 30)) (vs "adacore.arith" 343) 227 :: tu [] :: fl [] :: tu [vs "t" 470, vs "x" 471, vs "y" 472] :: tu [] :: fb (fd "modular_sub" (bd 31)) :: co "modular_sub" "modular_sub" 467 108 3 3 229 473 :: fu (fd "modular_sub" (bd 31)) (vs "adacore.arith" 343) 234 :: tu [] :: fl [] :: tu [vs "t" 479, vs "x" 480, vs "y" 481] :: tu [] :: fb (fd "modular_mul" (bd 32)) :: co "modular_mul" "modular_mul" 476 110 3 3 236 482 :: fu (fd "modular_mul" (bd 32)) (vs "adacore.arith" 343) 241 :: tu [] :: fl [] :: tu [vs "t" 488, vs "x" 489, vs "n" 490, vs "result" 491] :: tu [] :: fb (fd "modular_power" (bd 33)) :: co "modular_power" "modular_power" 485 112 3 3 243 492 :: fu (fd "modular_power" (bd 33)) (vs "adacore.arith" 343) 248 :: tu [] :: fl [] :: tu [vs "t" 498, vs "x" 499] :: tu [] :: fb (fd "modular_neg" (bd 34)) :: co "modular_neg" "modular_neg" 495 122 2 3 250 500 :: fu (fd "modular_neg" (bd 34)) (vs "adacore.arith" 343) 255 :: tu [] :: fl [] :: tu [vs "t" 506, vs "x" 507, vs "y" 508] :: r
noncomputable def ch7 (P : Params) (r : List Obj) : List Obj := tu [] :: fb (fd "logic_and" (bd 35)) :: co "logic_and" "logic_and" 503 124 3 3 257 509 :: fu (fd "logic_and" (bd 35)) (vs "adacore.arith" 343) 262 :: tu [] :: fl [] :: tu [vs "t" 515, vs "x" 516, vs "y" 517] :: tu [] :: fb (fd "logic_or" (bd 36)) :: co "logic_or" "logic_or" 512 126 3 3 264 518 :: fu (fd "logic_or" (bd 36)) (vs "adacore.arith" 343) 269 :: tu [] :: fl [] :: tu [vs "t" 524, vs "x" 525, vs "y" 526] :: tu [] :: fb (fd "logic_xor" (bd 37)) :: co "logic_xor" "logic_xor" 521 128 3 3 271 527 :: fu (fd "logic_xor" (bd 37)) (vs "adacore.arith" 343) 276 :: tu [] :: fl [] :: tu [vs "t" 533, vs "value" 534] :: tu [] :: fb (fd "come_round" (bd 38)) :: co "come_round" "come_round" 530 130 2 3 278 535 :: fu (fd "come_round" (bd 38)) (vs "adacore.arith" 343) 283 :: tu [] :: fl [] :: tu [vs "t" 541, vs "x" 542] :: tu [] :: fb (fd "logic_not" (bd 39)) :: co "logic_not" "logic_not" 538 134 2 3 285 543 :: fu (fd "logic_not" (bd 39)) (vs "adacore.arith" 343) 290 :: tu [] :: fl [] :: tu [vs "t" 549, vs "x" 550, vs "of_x" 551, vs "y" 552, vs "of_y" 553, vs "num" 554, vs "den" 555] :: r
noncomputable def ch8 (P : Params) (r : List Obj) : List Obj := tu [] :: fb (fd "fixed_times" (bd 40)) :: co "fixed_times" "fixed_times" 546 136 5 3 292 556 :: fu (fd "fixed_times" (bd 40)) (vs "adacore.arith" 343) 297 :: tu [] :: fl [] :: tu [vs "t" 562, vs "x" 563, vs "of_x" 564, vs "y" 565, vs "of_y" 566, vs "num" 567, vs "den" 568] :: tu [] :: fb (fd "fixed_over" (bd 41)) :: co "fixed_over" "fixed_over" 559 140 5 3 299 569 :: fu (fd "fixed_over" (bd 41)) (vs "adacore.arith" 343) 304 :: tu [] :: fl [] :: tu [vs "name" 575, vs "x" 576, vs "y" 577] :: tu [] :: fb (fd "holds_between" (bd 42)) :: co "holds_between" "holds_between" 572 145 3 3 306 578 :: fu (fd "holds_between" (bd 42)) (vs "adacore.arith" 343) 311 :: tu [] :: fl [] :: tu [] :: tu [] :: fb (fd "whole_operators" (bd 43)) :: co "whole_operators" "whole_operators" 581 157 0 3 313 584 :: fu (fd "whole_operators" (bd 43)) (vs "adacore.arith" 343) 318 :: tu [] :: fl [] :: tu [] :: tu [] :: fb (fd "modular_operators" (bd 44)) :: co "modular_operators" "modular_operators" 587 159 0 3 320 590 :: fu (fd "modular_operators" (bd 44)) (vs "adacore.arith" 343) 325 :: tu [] :: fl [] :: tu [] :: r
noncomputable def ch9 (P : Params) (r : List Obj) : List Obj := tu [] :: fb (fd "fixed_operators" (bd 45)) :: co "fixed_operators" "fixed_operators" 593 161 0 3 327 596 :: fu (fd "fixed_operators" (bd 45)) (vs "adacore.arith" 343) 332 :: tu [] :: fl [] :: tu [] :: tu [] :: fb (fd "logic_operators" (bd 46)) :: co "logic_operators" "logic_operators" 599 163 0 3 334 602 :: fu (fd "logic_operators" (bd 46)) (vs "adacore.arith" 343) 339 :: tu [] :: fl [] :: tu [vs "t" 608] :: tu [] :: fb (fd "operators_of" (bd 47)) :: co "operators_of" "operators_of" 605 165 1 3 341 609 :: fu (fd "operators_of" (bd 47)) (vs "adacore.arith" 343) 346 :: tu [] :: fl [] :: tu [vs "t" 615] :: tu [] :: fb (fd "unary_operators" (bd 48)) :: co "unary_operators" "unary_operators" 612 173 1 3 348 616 :: fu (fd "unary_operators" (bd 48)) (vs "adacore.arith" 343) 353 :: tu [] :: fl [] :: tu [vs "x" 624] :: tu [] :: fb (fd "ratio_toward_zero" (bd 50)) :: co "ratio_toward_zero" "ratio_toward_zero" 621 180 1 3 355 625 :: fu (fd "ratio_toward_zero" (bd 50)) (vs "adacore.rationals" 619) 360 :: tu [] :: fl [] :: tu [vs "x" 631, vs "size" 632] :: r
noncomputable def ch10 (P : Params) (r : List Obj) : List Obj := tu [] :: fb (fd "ratio_rounded" (bd 51)) :: co "ratio_rounded" "ratio_rounded" 628 184 1 3 362 633 :: fu (fd "ratio_rounded" (bd 51)) (vs "adacore.rationals" 619) 367 :: tu [] :: ({ cls := .type "builtin_function_or_method", data := Data.fields #[.builtin "type.__prepare__", .type "type"] } : Obj) :: ({ cls := .type "dict", data := Data.dict #[en P "__module__" 645 (vs "adacore.types" 636), en P "__qualname__" 647 (vs "Type" 646), en P "__firstlineno__" 649 (.int 190 648), en P "__init__" 658 (.ref 382), en P "__static_attributes__" 683 (.ref 383)] 5 } : Obj) :: tu [] :: fl [.int 192 0, .int 4 0, .ref 381] :: (⟨.type "code", none, .fields #[vs "Type" 640, vs "Type" 641, vs "/claim/cut.py" 642, .int 190 0, .int 0 0, .int 0 0, .int 0 0, .int 0 0, .ref 372, .bool false, .int 181 0, .ref 373, .none, .none, .none, .none, .int 643 0, .int 190 0, vs "/claim/cut.py" 644], #[]⟩ : Obj) :: ({ cls := .type "frame", slots := #[some (.ref 374), some (.ref 3), some (.ref 371), none, some (vs "adacore.types" 636), none, some (.ref 0)] } : Obj) :: tu [] :: fl [] :: tu [vs "self" 653, vs "kind" 654, vs "name" 655] :: tu [] :: fb (fd "Type.__init__" (df (bd 53))) :: co "__init__" "Type.__init__" 650 192 3 3 376 656 :: fu (fd "Type.__init__" (df (bd 53))) (vs "adacore.types" 636) 381 :: tu [vs "component" 659, vs "components" 660, vs "designated" 661, vs "discriminants" 662, vs "high" 663, vs "index" 664, vs "is_abstract" 665, vs "is_constant" 666, vs "is_constrained" 667, vs "is_late" 668, vs "is_limited" 669, vs "is_private" 670, vs "is_tagged" 671, vs "kind" 672, vs "literals" 673, vs "low" 674, vs "modulus" 675, vs "name" 676, vs "number" 677, vs "operations" 678, vs "parent" 679, vs "small" 680, vs "variant" 681, vs "wide" 682] :: ({ cls := .type "dict", data := Data.dict #[en P "__module__" 645 (vs "adacore.types" 636), en P "__firstlineno__" 649 (.int 190 648), en P "__init__" 658 (.ref 382), en P "__static_attributes__" 683 (.ref 383), en P "__dict__" 685 (.ref 386), en P "__weakref__" 687 (.ref 387), en P "__doc__" 688 (.none)] 4 } : Obj) :: ({ cls := .type "type", data := Data.cls { name := Str.ofString "Type", bases := [.type "object"], mro := [.ref 385, .type "object"], ns := 384, qualname := Str.ofString "Type" }, slots := #[none, none, some (vs "Type" 638), some (vs "Type" 646), some (.builtin "object.__new__"), some (.bool true)] } : Obj) :: ({ cls := .type "getset_descriptor", data := Data.fields #[vs "__dict__" 684, .ref 385, .builtin "function.__dict__", .builtin "function.__dict__#set"] } : Obj) :: ({ cls := .type "getset_descriptor", data := Data.fields #[vs "__weakref__" 686, .ref 385, .builtin "ExceptionGroup.__weakref__", .none] } : Obj) :: ({ cls := .type "super", data := Data.fields #[.ref 385, .ref 385, .ref 385] } : Obj) :: ({ cls := .type "builtin_function_or_method", data := Data.fields #[.builtin "object.__init_subclass__", .ref 385] } : Obj) :: tu [] :: ({ cls := .type "builtin_function_or_method", data := Data.fields #[.builtin "type.__prepare__", .type "type"] } : Obj) :: ({ cls := .type "dict", data := Data.dict #[en P "__module__" 698 (vs "adacore.types" 636), en P "__qualname__" 700 (vs "Subtype" 699), en P "__firstlineno__" 702 (.int 217 701), en P "__init__" 711 (.ref 403), en P "__static_attributes__" 714 (.ref 404)] 5 } : Obj) :: tu [] :: fl [.int 219 0, .int 4 0, .ref 402] :: (⟨.type "code", none, .fields #[vs "Subtype" 693, vs "Subtype" 694, vs "/claim/cut.py" 695, .int 217 0, .int 0 0, .int 0 0, .int 0 0, .int 0 0, .ref 393, .bool false, .int 181 0, .ref 394, .none, .none, .none, .none, .int 696 0, .int 217 0, vs "/claim/cut.py" 697], #[]⟩ : Obj) :: ({ cls := .type "frame", slots := #[some (.ref 395), some (.ref 3), some (.ref 392), none, some (vs "adacore.types" 636), none, some (.ref 0)] } : Obj) :: tu [] :: fl [] :: tu [vs "self" 706, vs "t" 707, vs "constraint" 708] :: r
noncomputable def ch11 (P : Params) (r : List Obj) : List Obj := tu [] :: fb (fd "Subtype.__init__" (df (bd 54))) :: co "__init__" "Subtype.__init__" 703 219 3 3 397 709 :: fu (fd "Subtype.__init__" (df (bd 54))) (vs "adacore.types" 636) 402 :: tu [vs "constraint" 712, vs "type" 713] :: ({ cls := .type "dict", data := Data.dict #[en P "__module__" 698 (vs "adacore.types" 636), en P "__firstlineno__" 702 (.int 217 701), en P "__init__" 711 (.ref 403), en P "__static_attributes__" 714 (.ref 404), en P "__dict__" 716 (.ref 407), en P "__weakref__" 718 (.ref 408), en P "__doc__" 719 (.none)] 4 } : Obj) :: ({ cls := .type "type", data := Data.cls { name := Str.ofString "Subtype", bases := [.type "object"], mro := [.ref 406, .type "object"], ns := 405, qualname := Str.ofString "Subtype" }, slots := #[none, none, some (vs "Subtype" 691), some (vs "Subtype" 699), some (.builtin "object.__new__"), some (.bool true)] } : Obj) :: ({ cls := .type "getset_descriptor", data := Data.fields #[vs "__dict__" 715, .ref 406, .builtin "function.__dict__", .builtin "function.__dict__#set"] } : Obj) :: ({ cls := .type "getset_descriptor", data := Data.fields #[vs "__weakref__" 717, .ref 406, .builtin "ExceptionGroup.__weakref__", .none] } : Obj) :: ({ cls := .type "super", data := Data.fields #[.ref 406, .ref 406, .ref 406] } : Obj) :: ({ cls := .type "builtin_function_or_method", data := Data.fields #[.builtin "object.__init_subclass__", .ref 406] } : Obj) :: tu [] :: fl [] :: tu [vs "name" 725, vs "low" 726, vs "high" 727, vs "made" 728] :: tu [] :: fb (fd "int_type" (bd 55)) :: co "int_type" "int_type" 722 222 3 3 411 729 :: fu (fd "int_type" (bd 55)) (vs "adacore.types" 636) 416 :: tu [] :: fl [] :: tu [vs "name" 735, vs "modulus" 736, vs "made" 737] :: tu [] :: fb (fd "mod_type" (bd 56)) :: co "mod_type" "mod_type" 732 227 2 3 418 738 :: fu (fd "mod_type" (bd 56)) (vs "adacore.types" 636) 423 :: tu [] :: fl [] :: tu [vs "name" 744, vs "small" 745, vs "low" 746, vs "high" 747, vs "made" 748] :: tu [] :: fb (fd "fixed_type" (bd 57)) :: co "fixed_type" "fixed_type" 741 233 4 3 425 749 :: fu (fd "fixed_type" (bd 57)) (vs "adacore.types" 636) 430 :: tu [] :: fl [] :: tu [vs "t" 755, vs "number" 756] :: r
noncomputable def ch12 (P : Params) (r : List Obj) : List Obj := tu [] :: fb (fd "numbered" (bd 58)) :: co "numbered" "numbered" 752 239 2 3 432 757 :: fu (fd "numbered" (bd 58)) (vs "adacore.types" 636) 437 :: tu [] :: fl [] :: tu [vs "reel" 765, vs "many" 766, vs "turn" 767, vs "cell" 768] :: tu [] :: fb (fd "_law_wind" (bd 60)) :: co "_law_wind" "_law_wind" 762 243 2 3 439 769 :: fu (fd "_law_wind" (bd 60)) (vs "law_sa0007_01" 760) 444 :: tu [] :: fl [] :: tu [vs "target" 775, vs "source" 776, vs "value" 777] :: tu [] :: fb (fd "_law_into" (bd 61)) :: co "_law_into" "_law_into" 772 248 3 3 446 778 :: fu (fd "_law_into" (bd 61)) (vs "law_sa0007_01" 760) 451 :: tu [] :: fl [] :: tu [vs "subtype" 784, vs "source" 785, vs "value" 786] :: tu [] :: fb (fd "_law_within" (bd 62)) :: co "_law_within" "_law_within" 781 250 3 3 453 787 :: fu (fd "_law_within" (bd 62)) (vs "law_sa0007_01" 760) 458 :: tu [] :: fl [] :: tu [vs "work" 793, vs "target" 794, vs "x" 795, vs "source" 796, vs "other" 797] :: tu [] :: fb (fd "_law_reckoned" (bd 63)) :: co "_law_reckoned" "_law_reckoned" 790 255 5 3 460 798 :: fu (fd "_law_reckoned" (bd 63)) (vs "law_sa0007_01" 760) 465 :: tu [] :: fl [] :: tu [vs "t" 804, vs "value" 805] :: r
noncomputable def ch13 (P : Params) (r : List Obj) : List Obj := tu [] :: fb (fd "_law_about" (bd 64)) :: co "_law_about" "_law_about" 801 260 2 3 467 806 :: fu (fd "_law_about" (bd 64)) (vs "law_sa0007_01" 760) 472 :: tu [] :: fl [] :: tu [vs "reel" 812, vs "parts" 813, vs "finer" 814, vs "top" 815, vs "plain" 816, vs "dial" 817, vs "coarse" 818, vs "fine" 819, vs "rough" 820] :: tu [] :: fb (fd "_law_sorts" (bd 65)) :: co "_law_sorts" "_law_sorts" 809 262 1 3 474 821 :: fu (fd "_law_sorts" (bd 65)) (vs "law_sa0007_01" 760) 479 :: tu [] :: fl [] :: tu [vs "reel" 827, vs "sorts" 828, vs "plain" 829, vs "coarse" 830, vs "fine" 831, vs "rough" 832, vs "x" 833, vs "other" 834, vs "n" 835, vs "y" 836, vs "near" 837, vs "sign" 838, vs "both" 839, vs "t" 840, vs "home" 841, vs "gap" 842, vs "parts" 843, vs "cut" 844, vs "work" 845] :: tu [] :: fb (fd "_law_back_turn" (bd 66)) :: co "_law_back_turn" "_law_back_turn" 824 272 2 3 481 846 :: fu (fd "_law_back_turn" (bd 66)) (vs "law_sa0007_01" 760) 486 :: tu [] :: fl [] :: fb (fd "_law_order_turn" (bd 67)) :: (⟨.type "code", none, .fields #[vs "_law_order_turn" 849, vs "_law_order_turn" 850, vs "/claim/cut.py" 851, .int 300 0, .int 2 0, .int 0 0, .int 0 0, .int 3 0, .ref 488, .bool true, .int 181 0, .ref 489, .none, .none, .none, .ref 490, .int 852 0, .int 300 0, vs "/claim/cut.py" 853], #[]⟩ : Obj) :: fu (fd "_law_order_turn" (bd 67)) (vs "law_sa0007_01" 760) 491 :: tu [] :: fl [] :: tu [vs "script" 858, vs "reel" 859, vs "sorts" 860, vs "turn" 861] :: tu [] :: fb (fd "law" (bd 68)) :: co "law" "law" 855 314 1 3 493 862 :: fu (fd "law" (bd 68)) (vs "law_sa0007_01" 760) 498 :: r
noncomputable def tl (P : Params) : List Obj := ch0 P (ch1 P (ch2 P (ch3 P (ch4 P (ch5 P (ch6 P (ch7 P (ch8 P (ch9 P (ch10 P (ch11 P (ch12 P (ch13 P [])))))))))))))
noncomputable def f12 : List Value := ([(2, 20), (7, 40), (15, 59), (17, 66), (21, 73), (23, 80), (26, 87), (30, 94), (34, 101), (39, 108), (44, 115), (48, 122), (54, 129), (58, 136), (60, 143), (62, 150), (64, 157), (67, 164), (70, 171), (73, 178), (76, 185), (83, 192), (85, 199), (100, 206), (102, 213), (104, 220), (106, 227), (108, 234), (110, 241), (112, 248), (122, 255), (124, 262), (126, 269), (128, 276), (130, 283), (134, 290), (136, 297), (140, 304), (145, 311), (157, 318), (159, 325), (161, 332), (163, 339), (165, 346), (173, 353), (180, 360), (184, 367), (190, 374), (217, 395), (222, 416), (227, 423), (233, 430), (239, 437), (243, 444), (248, 451), (250, 458), (255, 465), (260, 472), (262, 479), (272, 486), (300, 491), (314, 498)] : List (Int × Nat)).flatMap fun p => [.int p.1 0, .int 0 0, .ref p.2]
/-- the text's own dict: the first entry is set anew, the others come one behind the other -/
noncomputable def gl (P : Params) (v : Value) (n e : Nat) : Obj := ⟨.type "dict", none, .dict (⟨PyData.keyHash P (Str.ofString "__name__"), vs "__name__" 165, v⟩ :: ((globs P).drop 1).take n).toArray e, #[]⟩
noncomputable def sub2 (P : Params) : Obj := { cls := .none, data := Data.dict #[en P "type.__subclasses__.Exception.0" 214 (.int 31 0), en P "type.__subclasses__.Exception.n" 215 (.int 1 0)] 2 }
noncomputable def hd15 (P : Params) (two three : Obj) (n : Nat) (r : List Obj) : List Obj :=
  boot_o_0 P :: boot_o_1 P :: two :: three :: boot_o_4 P :: boot_o_5 P :: boot_o_6 P :: boot_o_7 P :: boot_o_8 P :: boot_o_9 P :: boot_o_10 P :: tu [] :: fl (f12.take n) :: (⟨.type "code", none, .fields #[vs "<module>" 182, vs "<module>" 183, vs "/claim/cut.py" 184, .int 1 0, .int 0 0, .int 0 0, .int 0 0, .int 0 0, .ref 11, .bool false, .int 181 0, .ref 12, .none, .none, .none, .none, .int 185 0, .int 1 0, vs "/claim/cut.py" 186], #[]⟩ : Obj) :: ({ cls := .type "frame", slots := #[some (.ref 13), some (.ref 3), some (.ref 3), none, some (vs "__main__" 164), none, some (.ref 0)] } : Obj) :: r
noncomputable def objs (P : Params) : List Obj := hd15 P (sub2 P) (gl P (vs "law_sa0007_01" 760) 71 72) 186 (tl P)


/-! the run of the text's top, in parts: each part by the kernel, behind the library's twins of the run's functions -/
noncomputable def halve (l : List Obj) : List Obj × List Obj := List.rec ([], []) (fun a _ ih => (a :: ih.2, ih.1)) l
/-- a list as the library's tree -/
noncomputable def bt : Nat → List Obj → BT
  | 0, _ => .nil
  | _ + 1, [] => .nil
  | n + 1, o :: r => .node o (bt n (halve r).1) (bt n (halve r).2)
noncomputable abbrev bod : List Stmt := behindTheImports pg
noncomputable abbrev env0 : Env := { scope := pg.main.scope, locals := mainNs, globals := mainNs, cells := [], code := .ref 13, frame := some 14 }
noncomputable abbrev cod : Code := .body bod env0
noncomputable abbrev B0 : List Frame := [topFrame ⟨0, 0, 0, 0⟩]
noncomputable def at_ (l : List Obj) (n toks : Nat) (os : OsState) : SharedT := ⟨bt 10 l, n, {}, #[], {}, toks, os⟩
noncomputable def o31 : Obj := { cls := .type "type", data := Data.cls { name := Str.ofString "AdaError", bases := [.type "Exception"], mro := [.ref 31, .type "Exception", .type "BaseException", .type "object"], ns := 30, qualname := Str.ofString "AdaError" }, slots := #[some (.ref 15), none, some (vs "AdaError" 189), some (vs "AdaError" 197), some (.builtin "Exception.__new__"), some (.bool true)] }
noncomputable def st1 (w : World) (os : OsState) : SharedT := at_ (hd15 w.params (boot_o_2 w.params) (gl w.params (vs "__main__" 164) 8 9) 0 []) 15 187 os
noncomputable def st3 (w : World) (os : OsState) : SharedT := at_ (hd15 w.params (sub2 w.params) (gl w.params (vs "adacore.errors" 187) 9 10) 3 ((tl w.params).take 16 ++ (o31 :: ((tl w.params).drop 17).take 3))) 35 218 os
noncomputable def st4 (w : World) (os : OsState) : SharedT := at_ (hd15 w.params (sub2 w.params) (gl w.params (vs "adacore.errors" 187) 10 11) 6 ((tl w.params).take 39)) 54 247 os
noncomputable def st13 (w : World) (os : OsState) : SharedT := at_ (hd15 w.params (sub2 w.params) (gl w.params (vs "adacore.scalars" 247) 18 19) 30 ((tl w.params).take 95)) 110 316 os
noncomputable def st22 (w : World) (os : OsState) : SharedT := at_ (hd15 w.params (sub2 w.params) (gl w.params (vs "adacore.arith" 343) 26 27) 51 ((tl w.params).take 144)) 159 381 os
noncomputable def st31 (w : World) (os : OsState) : SharedT := at_ (hd15 w.params (sub2 w.params) (gl w.params (vs "adacore.arith" 343) 35 36) 78 ((tl w.params).take 207)) 222 458 os
noncomputable def st40 (w : World) (os : OsState) : SharedT := at_ (hd15 w.params (sub2 w.params) (gl w.params (vs "adacore.arith" 343) 44 45) 105 ((tl w.params).take 270)) 285 538 os
noncomputable def st48 (w : World) (os : OsState) : SharedT := at_ (hd15 w.params (sub2 w.params) (gl w.params (vs "adacore.arith" 343) 52 53) 129 ((tl w.params).take 326)) 341 605 os
noncomputable def st54 (w : World) (os : OsState) : SharedT := at_ (hd15 w.params (sub2 w.params) (gl w.params (vs "adacore.types" 636) 56 57) 141 ((tl w.params).take 354)) 369 638 os
noncomputable def st55 (w : World) (os : OsState) : SharedT := at_ (hd15 w.params (sub2 w.params) (gl w.params (vs "adacore.types" 636) 57 58) 144 ((tl w.params).take 375)) 390 691 os
noncomputable def st56 (w : World) (os : OsState) : SharedT := at_ (hd15 w.params (sub2 w.params) (gl w.params (vs "adacore.types" 636) 58 59) 147 ((tl w.params).take 396)) 411 722 os
noncomputable def st64 (w : World) (os : OsState) : SharedT := at_ (hd15 w.params (sub2 w.params) (gl w.params (vs "law_sa0007_01" 760) 65 66) 168 ((tl w.params).take 445)) 460 790 os
noncomputable def st70 (w : World) (os : OsState) : SharedT := at_ (hd15 w.params (sub2 w.params) (gl w.params (vs "law_sa0007_01" 760) 71 72) 186 (tl w.params)) 500 865 os
theorem pre_ok (w : World) (os : OsState) : topGo treeTable pg w 11 (some (.ref 6)) 12 ⟨boot_heap w.params, #[], boot_drawn, boot_toks, os⟩ (topStub pg) =
    some (⟨⟨⟨hd15 w.params (boot_o_2 w.params) (gl w.params (vs "__main__" 164) 8 9) 0 []⟩, {}⟩, #[], {}, 187, os⟩, ⟨denote treeTable cod, cod, ⟨0, 0, 0, 0⟩, B0⟩) := by
  rw [PySem.W.Fast.te15667345088766844465, PySem.W.Fast.te14364793385576792824, PySem.W.Fast.te11892475500146522536]
  kernel_rfl
theorem blk_ok (w : World) (os : OsState) : segRun treeTable pg w 11 (some (.ref 6)) 1 1 ⟨⟨⟨hd15 w.params (boot_o_2 w.params) (gl w.params (vs "__main__" 164) 8 9) 0 []⟩, {}⟩, #[], {}, 187, os⟩ (blockOf bod env0 cod ⟨0, 0, 0, 0⟩ B0) =
    some (.next, (st1 w os).abs, cod, ⟨0, 0, 0, 0⟩) := by
  unfold blockOf
  rw [PySem.W.Fast.te14374325043358763698, PySem.W.Fast.te14364793385576792824, PySem.W.Fast.te1066825118222455980]
  kernel_rfl
theorem seg3 (w : World) (os : OsState) : segRunT treeTable pg w 11 (some (.ref 6)) 1 238 (st1 w os) (piecesOf ((bod.drop 0).take 2) env0 cod ⟨0, 0, 0, 0⟩ B0) = some (.next, st3 w os, cod, ⟨2, 0, 6, 24⟩) := by
  unfold piecesOf
  rw [PySem.W.Fast.te10110043849684766642, PySem.W.Fast.te14364793385576792824, PySem.W.Fast.te12563942051412417395]
  kernel_rfl
theorem seg4 (w : World) (os : OsState) : segRunT treeTable pg w 11 (some (.ref 6)) 1 250 (st3 w os) (piecesOf ((bod.drop 2).take 1) env0 cod ⟨2, 0, 6, 24⟩ B0) = some (.next, st4 w os, cod, ⟨7, 0, 13, 24⟩) := by
  unfold piecesOf
  rw [PySem.W.Fast.te10110043849684766642, PySem.W.Fast.te14364793385576792824, PySem.W.Fast.te12563942051412417395]
  kernel_rfl
theorem seg13 (w : World) (os : OsState) : segRunT treeTable pg w 11 (some (.ref 6)) 1 253 (st4 w os) (piecesOf ((bod.drop 3).take 9) env0 cod ⟨7, 0, 13, 24⟩ B0) = some (.next, st13 w os, cod, ⟨39, 0, 43, 12⟩) := by
  unfold piecesOf
  rw [PySem.W.Fast.te10110043849684766642, PySem.W.Fast.te14364793385576792824, PySem.W.Fast.te12563942051412417395]
  kernel_rfl
theorem seg22 (w : World) (os : OsState) : segRunT treeTable pg w 11 (some (.ref 6)) 1 234 (st13 w os) (piecesOf ((bod.drop 12).take 9) env0 cod ⟨39, 0, 43, 12⟩ B0) = some (.next, st22 w os, cod, ⟨64, 0, 66, 34⟩) := by
  unfold piecesOf
  rw [PySem.W.Fast.te10110043849684766642, PySem.W.Fast.te14364793385576792824, PySem.W.Fast.te12563942051412417395]
  kernel_rfl
theorem seg31 (w : World) (os : OsState) : segRunT treeTable pg w 11 (some (.ref 6)) 1 276 (st22 w os) (piecesOf ((bod.drop 21).take 9) env0 cod ⟨64, 0, 66, 34⟩ B0) = some (.next, st31 w os, cod, ⟨104, 0, 105, 12⟩) := by
  unfold piecesOf
  rw [PySem.W.Fast.te10110043849684766642, PySem.W.Fast.te14364793385576792824, PySem.W.Fast.te12563942051412417395]
  kernel_rfl
theorem seg40 (w : World) (os : OsState) : segRunT treeTable pg w 11 (some (.ref 6)) 1 279 (st31 w os) (piecesOf ((bod.drop 30).take 9) env0 cod ⟨104, 0, 105, 12⟩ B0) = some (.next, st40 w os, cod, ⟨130, 0, 133, 16⟩) := by
  unfold piecesOf
  rw [PySem.W.Fast.te10110043849684766642, PySem.W.Fast.te14364793385576792824, PySem.W.Fast.te12563942051412417395]
  kernel_rfl
theorem seg48 (w : World) (os : OsState) : segRunT treeTable pg w 11 (some (.ref 6)) 1 244 (st40 w os) (piecesOf ((bod.drop 39).take 8) env0 cod ⟨130, 0, 133, 16⟩ B0) = some (.next, st48 w os, cod, ⟨163, 0, 164, 63⟩) := by
  unfold piecesOf
  rw [PySem.W.Fast.te10110043849684766642, PySem.W.Fast.te14364793385576792824, PySem.W.Fast.te12563942051412417395]
  kernel_rfl
theorem seg54 (w : World) (os : OsState) : segRunT treeTable pg w 11 (some (.ref 6)) 1 136 (st48 w os) (piecesOf ((bod.drop 47).take 6) env0 cod ⟨163, 0, 164, 63⟩ B0) = some (.next, st54 w os, cod, ⟨189, 0, 189, 8⟩) := by
  unfold piecesOf
  rw [PySem.W.Fast.te10110043849684766642, PySem.W.Fast.te14364793385576792824, PySem.W.Fast.te12563942051412417395]
  kernel_rfl
theorem seg55 (w : World) (os : OsState) : segRunT treeTable pg w 11 (some (.ref 6)) 1 247 (st54 w os) (piecesOf ((bod.drop 53).take 1) env0 cod ⟨189, 0, 189, 8⟩ B0) = some (.next, st55 w os, cod, ⟨190, 0, 216, 28⟩) := by
  unfold piecesOf
  rw [PySem.W.Fast.te10110043849684766642, PySem.W.Fast.te14364793385576792824, PySem.W.Fast.te12563942051412417395]
  kernel_rfl
theorem seg56 (w : World) (os : OsState) : segRunT treeTable pg w 11 (some (.ref 6)) 1 225 (st55 w os) (piecesOf ((bod.drop 54).take 1) env0 cod ⟨190, 0, 216, 28⟩ B0) = some (.next, st56 w os, cod, ⟨217, 0, 221, 36⟩) := by
  unfold piecesOf
  rw [PySem.W.Fast.te10110043849684766642, PySem.W.Fast.te14364793385576792824, PySem.W.Fast.te12563942051412417395]
  kernel_rfl
theorem seg64 (w : World) (os : OsState) : segRunT treeTable pg w 11 (some (.ref 6)) 1 230 (st56 w os) (piecesOf ((bod.drop 55).take 8) env0 cod ⟨217, 0, 221, 36⟩ B0) = some (.next, st64 w os, cod, ⟨250, 0, 254, 19⟩) := by
  unfold piecesOf
  rw [PySem.W.Fast.te10110043849684766642, PySem.W.Fast.te14364793385576792824, PySem.W.Fast.te12563942051412417395]
  kernel_rfl
theorem seg70 (w : World) (os : OsState) : segRunT treeTable pg w 11 (some (.ref 6)) 1 206 (st64 w os) (piecesOf ((bod.drop 63).take 6) env0 cod ⟨250, 0, 254, 19⟩ B0) = some (.next, st70 w os, cod, ⟨314, 0, 323, 15⟩) := by
  unfold piecesOf
  rw [PySem.W.Fast.te10110043849684766642, PySem.W.Fast.te14364793385576792824, PySem.W.Fast.te12563942051412417395]
  kernel_rfl
theorem fin_ok (w : World) (os : OsState) : topRun treeTable pg w 11 (some (.ref 6)) 2 (st70 w os).abs (restOf (bod.drop 69) env0 cod ⟨314, 0, 323, 15⟩ B0) = some ⟨⟨⟨objs w.params⟩, {}⟩, #[], {}, 865, os⟩ := by
  unfold restOf leaveH
  rw [PySem.W.Fast.te14082659384304107361, PySem.W.Fast.te14364793385576792824, PySem.W.Fast.te12563942051412417395, PySem.W.Fast.te9442747609961115081]
  kernel_rfl
theorem piece_cut {tb : String → Option Builtin} {p : Program} {w : World} {n₀ : Nat} {ann : Option Value} {env : Env} {q : Pos} {n N i k : Nat} {s s' r : Shared} {b : List Stmt} {c : Code} {pos p' : Pos}
    (h : segRun tb p w n₀ ann 1 n s (piecesOf ((b.drop i).take k) env c pos [topFrame q]) = some (.next, s', c, p'))
    (l : topRun tb p w n₀ ann N s' (restOf (b.drop (i + k)) env c p' [topFrame q]) = some r) : topRun tb p w n₀ ann (n + N) s (restOf (b.drop i) env c pos [topFrame q]) = some r := by
  rw [← List.drop_drop] at l
  have := piece_app h l
  rwa [List.take_append_drop] at this
theorem piece_cut0 {tb : String → Option Builtin} {p : Program} {w : World} {n₀ : Nat} {ann : Option Value} {env : Env} {q : Pos} {n N k : Nat} {s s' r : Shared} {b : List Stmt} {c : Code} {pos p' : Pos}
    (h : segRun tb p w n₀ ann 1 n s (piecesOf ((b.drop 0).take k) env c pos [topFrame q]) = some (.next, s', c, p'))
    (l : topRun tb p w n₀ ann N s' (restOf (b.drop (0 + k)) env c p' [topFrame q]) = some r) : topRun tb p w n₀ ann (n + N) s (restOf b env c pos [topFrame q]) = some r := by
  have := piece_cut h l
  rwa [List.drop_zero] at this
/-- the run of the top, whole -/
theorem run_ok (w : World) (os : OsState) : topRun treeTable pg w 11 (some (.ref 6)) (12 + (1 + (238 + (250 + (253 + (234 + (276 + (279 + (244 + (136 + (247 + (225 + (230 + (206 + 2)))))))))))))) ⟨boot_heap w.params, #[], boot_drawn, boot_toks, os⟩ (topStub pg) = some ⟨⟨⟨objs w.params⟩, {}⟩, #[], {}, 865, os⟩ := by
  refine go_top (pre_ok w os) ?_
  refine piece_block (b := bod) (env := env0) (c := cod) (blk_ok w os) ?_
  refine piece_cut0 (k := 2) (b := bod) (env := env0) (c := cod) (segRun_of (seg3 w os)) ?_
  refine piece_cut (i := 2) (k := 1) (b := bod) (env := env0) (c := cod) (segRun_of (seg4 w os)) ?_
  refine piece_cut (i := 3) (k := 9) (b := bod) (env := env0) (c := cod) (segRun_of (seg13 w os)) ?_
  refine piece_cut (i := 12) (k := 9) (b := bod) (env := env0) (c := cod) (segRun_of (seg22 w os)) ?_
  refine piece_cut (i := 21) (k := 9) (b := bod) (env := env0) (c := cod) (segRun_of (seg31 w os)) ?_
  refine piece_cut (i := 30) (k := 9) (b := bod) (env := env0) (c := cod) (segRun_of (seg40 w os)) ?_
  refine piece_cut (i := 39) (k := 8) (b := bod) (env := env0) (c := cod) (segRun_of (seg48 w os)) ?_
  refine piece_cut (i := 47) (k := 6) (b := bod) (env := env0) (c := cod) (segRun_of (seg54 w os)) ?_
  refine piece_cut (i := 53) (k := 1) (b := bod) (env := env0) (c := cod) (segRun_of (seg55 w os)) ?_
  refine piece_cut (i := 54) (k := 1) (b := bod) (env := env0) (c := cod) (segRun_of (seg56 w os)) ?_
  refine piece_cut (i := 55) (k := 8) (b := bod) (env := env0) (c := cod) (segRun_of (seg64 w os)) ?_
  refine piece_cut (i := 63) (k := 6) (b := bod) (env := env0) (c := cod) (segRun_of (seg70 w os)) ?_
  exact fin_ok w os


/-! the head: what the text's top leaves is seen, each look by the kernel, behind the library's twins -/
/-- the statements of the text's top that only name its parts -/
def isName : Stmt → Bool
  | .Assign [.Name x _] _ _ => x == Str.ofString "__name__"
  | _ => false
/-- the text less those -/
def viewQ : Program := { PySem.Challenge.rw_sa0007_01.row.toRowW.prog with main := { PySem.Challenge.rw_sa0007_01.row.toRowW.prog.main with body := PySem.Challenge.rw_sa0007_01.row.toRowW.prog.main.body.filter fun s => !isName s } }
noncomputable abbrev fin (w : World) (os : OsState) : Shared := ⟨⟨⟨objs w.params⟩, {}⟩, #[], {}, 865, os⟩
theorem open_ok (w : World) : (fencedOpening treeTable pg w 5738).map (fun s => (s.heap, s.gens, s.drawn, s.toks)) = some (boot_heap w.params, #[], boot_drawn, boot_toks) :=
  boot_open (p := pg) (N := 5738) (by kernel_rfl) (by decide) (by intro s; kernel_rfl) w
theorem size_ok (w : World) : ((boot_heap w.params).isNs mainGlobals && (#[] : Array GenState).size == 0, (boot_heap w.params).objs.size, (boot_heap w.params).nsMap mainGlobals "__annotations__") = (true, 11, some (.ref 6)) := by
  kernel_rfl
theorem kept_ok (w : World) (os : OsState) : (staticsOk (importedModules pg.main.body) (boot_heap w.params) (fin w os).heap && namesBound pg (fin w os).heap && gensDone (fin w os) && laidKept (boot_heap w.params) (fin w os).heap) = true := by
  rw [PySem.W.Fast.te5923862056798008813]
  kernel_rfl
theorem seen_1 (w : World) (os : OsState) : seen ((recsOf viewQ).map (·.name)) (ownsOf viewQ) [] { fin w os with gens := #[] } = expectedOf viewQ := by
  rw [PySem.W.Fast.te5160383126252970620, PySem.W.Fast.te3399658132070893891, PySem.W.Fast.te5991557255702980513]
  kernel_rfl
theorem seen_2 (w : World) (os : OsState) : (fin w os).heap.keysOk (looseW viewQ []) ((recsOf viewQ).map (·.name)) ((litsOf viewQ).map (·.1)) ((clssOf viewQ (looseW viewQ [])).map (·.name)) = true := by
  rw [PySem.W.Fast.te10880121769531294198, PySem.W.Fast.te821141287760084731, PySem.W.Fast.te3399658132070893891, PySem.W.Fast.te7409074990110511671, PySem.W.Fast.te13664370479719496447]
  kernel_rfl
theorem seen_3 (w : World) (os : OsState) : tabsOk viewQ (fin w os) = true := by
  rw [PySem.W.Fast.te479339242167458305]
  kernel_rfl
theorem seen_4 (w : World) (os : OsState) : pinSeenD viewQ (drecsOf viewQ) (fin w os) = pinGoodD (drecsOf viewQ) := by
  rw [PySem.W.Fast.te16090120013241838585, PySem.W.Fast.te3247288618530077131]
  kernel_rfl
theorem seen_5 (w : World) (os : OsState) : plainSeenE viewQ (looseW viewQ []) (fin w os) = plainGoodE viewQ (looseW viewQ []) := by
  rw [PySem.W.Fast.te2386780881361962483, PySem.W.Fast.te821141287760084731]
  kernel_rfl
theorem seen_6 (w : World) (os : OsState) : plainSeenD viewQ [] (fin w os) = plainGoodD viewQ [] := by
  rw [PySem.W.Fast.te11698064438423848299]
  kernel_rfl
theorem seen_7 (w : World) (os : OsState) : wideSeen viewQ (fin w os) = wideGood viewQ := by
  rw [PySem.W.Fast.te7317090234206586261]
  kernel_rfl
theorem seen_8 (w : World) (os : OsState) : clsSeenW viewQ [] (fin w os) = clsGoodW viewQ [] := by
  rw [PySem.W.Fast.te7369524293546568484]
  kernel_rfl
theorem seen_9 (w : World) (os : OsState) : ((fin w os).heap.accountedOkI (importedModules pg.main.body) && (fin w os).heap.isNs mainGlobals && (fin w os).heap.isNs builtinsNs && tablesOk viewQ (fin w os).heap && (xlAt viewQ [] (fin w os) && recOk (RowW.records PySem.Challenge.rw_sa0007_01.row.toRowW) (fin w os))) = true := by
  rw [PySem.W.Fast.te14722251495701143533, PySem.W.Fast.te5923862056798008813, PySem.W.Fast.te10994771534591457954]
  kernel_rfl
theorem and_6 {a b c d e f g : Bool} (h1 : a = true) (h2 : (b && c && d && e && f) = true) (h3 : g = true) : (a && b && c && d && e && f && g) = true := by
  simp only [Bool.and_eq_true] at h2 ⊢
  simp [h1, h2, h3]
theorem seen_ok (w : World) (os : OsState) : openSeen viewQ [] (importedModules pg.main.body) (fun s => xlAt viewQ [] s && recOk (RowW.records PySem.Challenge.rw_sa0007_01.row.toRowW) s) true (fin w os) = openGood viewQ [] := by
  unfold openSeen openGood
  exact looks_pair (seen_1 w os) (looks_pair (by kernel_rfl) (looks_pair (and_6 (seen_2 w os) (seen_9 w os) (by rfl)) (looks_pair (seen_3 w os) (looks_pair (seen_4 w os) (looks_pair (seen_5 w os) (looks_pair (seen_6 w os) (looks_pair (seen_7 w os) (seen_8 w os))))))))
theorem said_ok : PySem.Challenge.rw_sa0007_01.wellSaid = true := by
  rw [PySem.W.Fast.te9446332074065402090]
  kernel_rfl
section
local macro_rules | `(tactic| k_head) => `(tactic| x_head)
local macro_rules | `(tactic| o_law) => `(tactic| (refine holds_law said_ok fun said => ?_))
local macro_rules | `(tactic| o_head $H:term) => `(tactic| (
  refine holds_open (q := viewQ) (loose := []) (Xt := fun s => xlAt viewQ [] s && recOk (RowW.records PySem.Challenge.rw_sa0007_01.row.toRowW) s) (XP := XL viewQ []) (Yf := Hook.obs $H) (Ya := Hook.val $H) (YP := Hook.says $H) (N := 5738) ?hl (Hook.of $H) (Hook.keeps $H) (fun s e => xl_of s (Bool.and_eq_true_iff.mp e).1) XL.keeps (by rfl) (by rfl) (by rfl) (fun s e => recFacts_of (Bool.and_eq_true_iff.mp e).2) (by rfl) (by first | assumption | decide +kernel) (by decide +kernel) ⟨rfl, rfl, rfl, rfl, rfl, by decide +kernel⟩ ?hw ?hc
  case hl => exact LeftO.of_pieces (H₀ := boot_heap) (H₁ := fun P => ⟨⟨objs P⟩, {}⟩) (gs₀ := #[]) (gs₁ := #[]) (d₀ := boot_drawn) (d₁ := {}) (k₀ := boot_toks) (k₁ := 865) (m₀ := 11) (ann := some (.ref 6)) open_ok size_ok run_ok (by decide) (fun w => funext fun os => looks_pair (kept_ok w os) (looks_pair (seen_ok w os) (by kernel_rfl)))))
open_top hd for PySem.Challenge.rw_sa0007_01
end


/-- a mark: the goal that bears it names the row and its written part -/
def Tag (_ : OpenLaw) (_ : Params → Frag) : Prop := True
theorem tag : Tag PySem.Challenge.rw_sa0007_01 hd.heap_1 := trivial
abbrev Led := List (Addr × Obj)

/-- what holds with more room above holds with less -/
theorem wp_roomier {α : Type} {M : Model} {A A' : Around} {t : Sem α} {Q : α → Shared → Prop} {E : Value → Shared → Prop} {s : Shared}
    (hh : A'.handled = A.handled) (hd : A.depth ≤ A'.depth) (hf : A'.frames = none ∨ A'.frames = A.frames) (hg : A'.guards = none ∨ A'.guards = A.guards) (hu : A.units ≤ A'.units)
    (h : wpAny M A' t Q E s) : wpAny M A t Q E s := by
  intro G p hG
  obtain ⟨a, b, c, d, e⟩ := hG
  refine h G p ⟨a.trans hh.symm, Nat.le_trans b hd, fun l q => ?_, fun g q => ?_, Nat.le_trans e hu⟩
  · rcases hf with z | z
    · rw [z] at q; cases q
    · exact c l (z ▸ q)
  · rcases hg with z | z
    · rw [z] at q; cases q
    · exact d g (z ▸ q)

abbrev Hall : Around := { handled := none, depth := 600, frames := none, guards := none, units := 600 }

/-- e is a new AdaRaise of h' -/
structure Ada (h h' : Heap) (e : Addr) : Prop where
  keeps : ∀ b o, h.get? b = some o → h'.get? b = some o
  new : h.get? e = none
  there : ∃ ob tp, h'.get? e = some ob ∧ ob.cls = .ref 51 ∧ ob.data = .fields #[tp, .none, .none, .none, .bool false, .none]

theorem mem_keeps {h h' : Heap} {news : Led} (D : Mem h h' [] news) : ∀ b o, h.get? b = some o → h'.get? b = some o :=
  fun b o e => D.keep b o e (by rw [show away [] b = true from rfl, Bool.or_true])
theorem ada_of {h h' : Heap} {news : Led} {e : Addr} {ob : Obj} {tp : Value} (D : Mem h h' [] news) (hm : (e, ob) ∈ news) (hc : ob.cls = .ref 51) (hd : ob.data = .fields #[tp, .none, .none, .none, .bool false, .none]) : Ada h h' e :=
  ⟨mem_keeps D, (D.nw _ hm).2, ob, tp, (D.nw _ hm).1, hc, hd⟩

section
local macro_rules | `(tactic| x_close) => `(tactic| ((rename (∀ _ _ _, Ada _ _ _ → _) => hr); exact hr _ _ _ (ada_of (by assumption) (List.Mem.tail _ (List.Mem.tail _ (List.Mem.tail _ (List.Mem.tail _ (List.Mem.head _))))) rfl rfl)))
/-- two great objects of the top's heap, given to the run as facts: without the name of the whole heap, whose twin would be laid (and is too great) -/
theorem obj_at {w : World} {h : Heap} (X : (hd.heap_1 w.params).In h) : h.get? (nat_lit 0) = some (Obj.mk (boot_o_0 w.params).cls (boot_o_0 w.params).dict (boot_o_0 w.params).data (boot_o_0 w.params).slots) ∧ h.get? (nat_lit 3) = some (Obj.mk (.type "dict") none (.dict (Array.mk (globs w.params)) 72) #[]) :=
  ⟨X 0 _ (by kernel_rfl!), X 3 _ (by kernel_rfl!)⟩
set_option maxHeartbeats 0 in
theorem make_hall {prog : Program} {w : World} {s : Shared} {x y : Str} {tx ty tz : Tok} {Q : Value → Shared → Prop} {E : Value → Shared → Prop} :
    Tag PySem.Challenge.rw_sa0007_01 hd.heap_1 → (hd.heap_1 w.params).In s.heap → (∀ e h' t, Ada s.heap h' e → Q (.ref e) { s with heap := h', toks := t }) →
    wpAny (model prog w) Hall (call (.ref 51) [.str y ty, .int 0 tz, .str x tx]) Q E s := by
  k_fill
  intro _ X hret
  obtain ⟨e0, e3⟩ := obj_at X
  x_run
end
/-- an AdaRaise may be raised -/
def CanRaise (w : World) (E : Value → Shared → Prop) (v : Value) (s₁ : Shared) : Prop :=
  (hd.heap_1 w.params).In s₁.heap ∧ ∃ e ob tp, v = .ref e ∧ s₁.heap.get? e = some ob ∧ ob.cls = .ref 51 ∧ ob.data = .fields #[tp, .none, .none, .none, .bool false, .none] ∧ E (.ref e) s₁

theorem raise_ada {prog : Program} {w : World} {A : Around} {E : Value → Shared → Prop} {s : Shared} {env : Env} {x : PySem.Expr} {pos : Pos} {Q : Flow → Shared → Prop} :
    Tag PySem.Challenge.rw_sa0007_01 hd.heap_1 → A.handled = none → wpAny (model prog w) A (eval x env) (CanRaise w E) E s → wpAny (model prog w) A (exec (.Raise (some x) none pos) env) Q E s := by
  k_fill
  intro _ hh h
  show wpAny _ A (do standAt pos; raiseStmt env (some (do let v ← eval x env; standAt pos; pure v)) none) Q E s
  refine wpAny_bind (wpAny_standAt ?_)
  unfold raiseStmt
  dsimp only
  refine wpAny_bind (wpAny_bind (wpAny_mono h (fun v s₁ h₁ => wpAny_bind (wpAny_standAt (wpAny_pure ?_))) fun _ _ z => z))
  obtain ⟨X, e, ob, tp, rfl, he, hc, hd, hE⟩ := h₁
  have L1 : Looks (model prog w) s₁.heap (typeOf (.ref 51)) (.type "type") := looks_typeIn X (by k_is)
  have L2 : Looks (model prog w) s₁.heap (isSubtype (.ref 51) (.type "BaseException")) true := looks_subIn X (by k_is)
  have L3 : Looks (model prog w) s₁.heap (typeOf (.ref e)) (.ref 51) := by rw [← hc]; exact (Looks.ld he).andThen .now
  have L4 : Looks (model prog w) s₁.heap (isInstance (.ref e) (.type "BaseException")) true := L3.andThen L2
  have L5 : Looks (model prog w) s₁.heap (PySem.isType (.ref e)) false := (Looks.ld he).andThen (by rw [hd]; exact .now)
  refine wpAny_bind (wpAny_pure ?_)
  dsimp only
  refine wpAny_bind (wpAny_holding ?_)
  unfold excFromValue isExcClass
  refine wpAny_bind (wpAny_bind (L5.here ?_))
  simp only [Bool.false_eq_true, if_false]
  refine wpAny_pure ?_
  simp only [Bool.false_eq_true, if_false]
  refine wpAny_bind (L4.here ?_)
  simp only [if_true]
  refine wpAny_pure ?_
  refine wpAny_bind (L5.here ?_)
  simp only [Bool.false_eq_true, if_false]
  unfold raisedInstance
  refine wpAny_bind (wpAny_bind (L3.here (wpAny_bind (L1.here ?_))))
  rw [if_pos (by decide)]
  refine wpAny_pure ?_
  unfold setFlight
  refine wpAny_bind (wpAny_bind (wpAny_field he hd (i := 1) (x := .none) rfl ?_))
  rw [if_neg (by decide)]
  exact wpAny_pure (wpAny_raiseNew_none hh hE)

theorem new_ada {prog : Program} {w : World} {A : Around} {E : Value → Shared → Prop} {s : Shared} {x y : Str} {tx ty tz : Tok} (hh : A.handled = none) (hdp : A.depth ≤ 600) (hu : A.units ≤ 600) (X : (hd.heap_1 w.params).In s.heap)
    (k : ∀ e h' t, Ada s.heap h' e → E (.ref e) { s with heap := h', toks := t }) : wpAny (model prog w) A (call (.ref 51) [.str y ty, .int 0 tz, .str x tx]) (CanRaise w E) E s :=
  wp_roomier (A' := Hall) hh.symm hdp (Or.inl rfl) (Or.inl rfl) hu (make_hall tag X fun e h' t M => by
    obtain ⟨ob, tp, a, b, c⟩ := M.there
    exact ⟨X.keeps M.keeps, e, ob, tp, rfl, a, b, c, k e h' t M⟩)

theorem leave_ada {M : Model} {A : Around} {E : Value → Shared → Prop} {s' : Shared} {base g h : Heap} {outer : List Env} {L a e : Addr} {m : Str → Option Value} {name : Str} {scope : Scope} {cd : Value} {Q : Unit → Shared → Prop} {news : Led}
    (K : Below A base outer g) (hx : Ada h s'.heap e) (F : Fr g L h m) (N : News g L h news)
    (hQ : ∀ h', RaisedSN base g outer e (.ref 51) news h' → g.UpToSlots h' → Q () { s' with heap := h' }) (hk : scope.kind = .function := by rfl) :
    wpAny M (A.deeper (envOf name scope L a cd)) (leaving (envOf name scope L a cd) (.ref e)) Q E s' := by
  have K' := K.push (name := name) (a := a) (cd := cd) F hk
  obtain ⟨ob, tp, he, hc, hd⟩ := hx.there
  have inl : ∀ env ∈ (envOf name scope L a cd :: outer), ∀ b, env.frame = some b → b ∈ (envOf name scope L a cd :: outer).filterMap (·.frame) := fun env he b hb => List.mem_filterMap.mpr ⟨env, he, hb⟩
  have out : ∀ {b o}, h.get? b = some o → b ∉ (envOf name scope L a cd :: outer).filterMap (·.frame) → (hideAll h ((envOf name scope L a cd :: outer).filterMap (·.frame))).get? b = some o := fun q n => hideAll_get _ q n
  have st : base.StaysIn (hideAll h ((envOf name scope L a cd :: outer).filterMap (·.frame))) := fun b o q => out (K'.stays b o q) fun hm => by
    rw [(K'.frames.mem hm).1] at q; cases q
  have sg : ∀ b o, g.get? b = some o → b ∉ outer.filterMap (·.frame) → (hideAll h ((envOf name scope L a cd :: outer).filterMap (·.frame))).get? b = some o := fun b o q nm => out (F.keep b o q) fun hm => by
    rcases kts_mem hm with z | z
    · rw [z, kts_self F] at q; cases q
    · exact nm z
  have led : ∀ q ∈ news, (hideAll h ((envOf name scope L a cd :: outer).filterMap (·.frame))).get? q.1 = some q.2 ∧ g.get? q.1 = none ∧ base.get? q.1 = none := fun q hq => by
    refine ⟨out (N q hq).1 fun hm => ?_, (N q hq).2.2, fresh_of_stays K.stays (N q hq).2.2⟩
    obtain ⟨env, hin, hf⟩ := List.mem_filterMap.mp hm
    rcases List.mem_cons.mp hin with rfl | hin
    · exact (N q hq).2.1 (Option.some.inj hf).symm
    · obtain ⟨o, ho, _⟩ := (K.frames.mem (List.mem_filterMap.mpr ⟨env, hin, hf⟩)).2
      rw [(N q hq).2.2] at ho; cases ho
  have hen : (hideAll h ((envOf name scope L a cd :: outer).filterMap (·.frame))).get? e = none := by
    cases q : (hideAll h ((envOf name scope L a cd :: outer).filterMap (·.frame))).get? e with
    | none => rfl
    | some o => have z := of_hideAll _ q; rw [hx.new] at z; cases z
  refine wpAny_leaving_firstW (a0 := tp) K'.stack ((funFrames_hide K'.frames inl).of_keeps fun b o hb _ => ⟨o, hx.keeps b o hb, rfl⟩) rfl he (fun b o hb => hx.keeps b o (of_hideAll _ hb)) hen hd rfl rfl fun h' hL => ?_
  obtain ⟨k1, ⟨_, _, k2⟩, k3, k4⟩ := hL
  exact hQ h' ⟨_, tp, st, sg, led, k1, hen, k2, by rw [← hc]; exact k3⟩ (((Heap.UpToSlots.of_keeps F.keep).trans (Heap.UpToSlots.of_keeps hx.keeps)).trans k4)

theorem caught_ada {prog : Program} {w : World} {A₀ : Around} {E : Value → Shared → Prop} {s' : Shared} {base g g₀ G : Heap} {outer : List Env} {L a e : Addr} {m : Str → Option Value} {name : Str} {scope : Scope} {cd : Value}
    {b₀ : Stmt} {suite : List Stmt} {pos np : Pos} {rest : List ExceptHandler} {Q : Flow → Shared → Prop} {news : Led} {p : Program} {loose : List Str} {mean : ExcName → Option Value} {mg mb : Str → Option Value} :
    Tag PySem.Challenge.rw_sa0007_01 hd.heap_1 → RaisedSN base G (envOf name scope L a cd :: outer) e (.ref 51) news s'.heap → Fr g L G m → Below A₀ base outer g → G.UpToSlots s'.heap → (hd.heap_1 w.params).In base → Top p loose mean mg mb base →
    KtsDicts (outer.filterMap (·.frame)) g → KtsTurn (outer.filterMap (·.frame)) g₀ g →
    (∀ h' g', KtsTurn (outer.filterMap (·.frame)) g₀ g' → Fr g' L h' m → News g' L h' news → Below A₀ base outer g' → (hd.heap_1 w.params).In g' → Top p loose mean mg mb g' → KtsDicts (outer.filterMap (·.frame)) g' →
      wpAny (model prog w) ((A₀.deeper (envOf name scope L a cd)).mark (some (.ref e))) (execs (b₀ :: suite) (envOf name scope L a cd)) Q E { s' with heap := h' }) →
    scope.kind = .function → (envOf name scope L a cd).kindOf (Str.ofString "AdaRaise") = some .globalImplicit →
    PassesOwnAt (model prog w) ((A₀.deeper (envOf name scope L a cd)).mark (some (.ref e))) (A₀.deeper (envOf name scope L a cd)) (envOf name scope L a cd) E →
    wpAny (model prog w) (A₀.deeper (envOf name scope L a cd)) (noteFrame (.ref e) (envOf name scope L a cd))
      (fun _ s₂ => wpAny (model prog w) (A₀.deeper (envOf name scope L a cd)) (setFlight (.ref e) none) (fun _ s₃ =>
        wpAny (model prog w) (A₀.deeper (envOf name scope L a cd)) (handleBy (.ref e) (envOf name scope L a cd) (.ExceptHandler (some (.Name (Str.ofString "AdaRaise") np)) none (b₀ :: suite) pos :: rest)) Q E s₃) E s₂) E s' := by
  k_fill
  intro _ R F K hsm XB TB D T0 k hk hx hE
  obtain ⟨B, a0, hB, hBG, led, hfl⟩ := R
  have hL : B.get? L = none := by
    obtain ⟨_, ⟨L', _, hf, hn', _⟩, _⟩ := hfl.2.2.1
    obtain rfl : L = L' := Option.some.inj hf
    exact hn'
  refine wpAny_looks_onW (Around.frames_deeper K.stack) rfl hfl fun h₄ hheld₄ sm4 => ?_
  refine wpAny_landsW hheld₄ fun h₅ hheld sm5 => ?_
  obtain ⟨g₅, _, F₅, K₅⟩ := kts_ground K F hBG hheld.1 (hsm.trans (sm4.trans sm5))
  have X₅ : (hd.heap_1 w.params).In g₅ := XB.keeps K₅.stays
  have P₅ : TopRead p loose mg mb g₅ := topRead_of (TB.keeps K₅.stays)
  obtain ⟨ob, hob, hobc⟩ := hheld.there
  refine wpAny_handleBy_cons (codeAny_handlers_test (name_K F₅ X₅ P₅ (x := Str.ofString "AdaRaise") (v := .ref 51) (by k_is) ?_ hk hx (by decide))) (by intro q; cases q)
  have hC := F₅.keep _ _ (X₅ 51 (excClassObj _ _ 51 _ _ _ _ _ _ _ _ _ _ _ _ _ _ _) (by k_is))
  refine wpAny_excMatches_sub_self hC hob hobc (by decide) (codeAny_handlers_suite ?_)
  refine lands_againW hheld fun h₆ hfl₆ sm6 => ?_
  obtain ⟨g₆, T₆, F₆, K₆⟩ := kts_ground K F hBG hfl₆.1 ((hsm.trans (sm4.trans sm5)).trans sm6)
  exact wpAny_passesOwnAt hE (k h₆ g₆ (T0.trans T₆) F₆ (fun q hq => ⟨hfl₆.1 _ _ (led q hq).1, (fun z => by have y := (led q hq).1; rw [z, hL] at y; cases y), T₆.none_ _ (kts_none F.keep (led q hq).2.1)⟩) K₆ (XB.keeps K₆.stays) (TB.keeps K₆.stays) (D.turn T₆))



/-- what a call of the def at `f` does, with `k` frames of room: it comes back with one of the values `val i`, `P i`, the ledger then being `nw i`; or, where `exc`, it raises an AdaRaise -/
abbrev Acts (prog : Program) (w : World) (k : Nat) (f : Addr) (vs : List Value) (news : Led) (B : Heap → Prop) {ι : Type} (nw : ι → Led) (val : ι → Value) (P : ι → Prop) (exc : Prop) : Prop :=
  ∀ (mean : ExcName → Option Value) (mg mb : Str → Option Value) (dp un : Nat) (gd : Option (List Code)) (cn : Str) (cs : Scope) (a : Addr) (ccd : Value) (cl : List (Str × Addr)) (outer : List Env) (A₀ : Around) (base h₀ : Heap) (L : Addr) (m : Str → Option Value) (s : Shared) (Q E : Value → Shared → Prop),
    Below A₀ base outer h₀ → Fr h₀ L s.heap m → (hd.heap_1 w.params).In h₀ → News h₀ L s.heap news → Top viewQ (looseW viewQ []) mean mg mb h₀ → cs.kind = .function → B base → dp + k < 500 → un + 8 * k < 500 →
    (∀ (i : ι) (h' : Heap) (tk' : Nat), Fr h₀ L h' m → News h₀ L h' (nw i) → P i → Q (val i) { s with heap := h', toks := tk' }) →
    (∀ (e : Addr) (g h' : Heap) (tk' : Nat), exc → Fr h₀ L g m → RaisedSN base g (envX cn cs L a ccd cl :: outer) e (.ref 51) news h' → g.UpToSlots h' → E (.ref e) { s with heap := h', toks := tk' }) →
    wpAny (model prog w) (ktrTop dp un gd cn cs L a ccd cl outer) (call (.ref f) vs) Q E s

theorem Acts.go {prog : Program} {w : World} {k : Nat} {f : Addr} {vs : List Value} {news : Led} {B : Heap → Prop} {ι : Type} {nw : ι → Led} {val : ι → Value} {P : ι → Prop} {exc : Prop}
    {mean : ExcName → Option Value} {mg mb : Str → Option Value} {dp un : Nat} {gd : Option (List Code)} {cn : Str} {cs : Scope} {a : Addr} {ccd : Value} {cl : List (Str × Addr)} {outer : List Env} {A₀ : Around} {base h₀ : Heap} {L : Addr} {m : Str → Option Value} {s : Shared} {Q E : Value → Shared → Prop}
    (F : Fr h₀ L s.heap m) (hbel : Below A₀ base outer h₀) (X : (hd.heap_1 w.params).In h₀) (N : News h₀ L s.heap news) (T : Top viewQ (looseW viewQ []) mean mg mb h₀) (hk : cs.kind = .function) (hB : B base) (hd : dp + k < 500) (hu : un + 8 * k < 500) (C : Acts prog w k f vs news B nw val P exc)
    (both : (∀ (i : ι) (h' : Heap) (tk' : Nat), Fr h₀ L h' m → News h₀ L h' (nw i) → P i → Q (val i) { s with heap := h', toks := tk' }) ∧
      (∀ (e : Addr) (g h' : Heap) (tk' : Nat), exc → Fr h₀ L g m → RaisedSN base g (envX cn cs L a ccd cl :: outer) e (.ref 51) news h' → g.UpToSlots h' → E (.ref e) { s with heap := h', toks := tk' })) :
    wpAny (model prog w) (ktrTop dp un gd cn cs L a ccd cl outer) (call (.ref f) vs) Q E s := C _ _ _ _ _ _ _ _ _ _ _ _ _ _ _ _ _ _ _ _ hbel F X N T hk hB hd hu both.1 both.2

theorem Acts.goN {prog : Program} {w : World} {k : Nat} {f : Addr} {vs : List Value} {news : Led} {B : Heap → Prop} {ι : Type} {nw : ι → Led} {val : ι → Value} {P : ι → Prop}
    {mean : ExcName → Option Value} {mg mb : Str → Option Value} {dp un : Nat} {gd : Option (List Code)} {cn : Str} {cs : Scope} {a : Addr} {ccd : Value} {cl : List (Str × Addr)} {outer : List Env} {A₀ : Around} {base h₀ : Heap} {L : Addr} {m : Str → Option Value} {s : Shared} {Q E : Value → Shared → Prop}
    (F : Fr h₀ L s.heap m) (hbel : Below A₀ base outer h₀) (X : (hd.heap_1 w.params).In h₀) (N : News h₀ L s.heap news) (T : Top viewQ (looseW viewQ []) mean mg mb h₀) (hk : cs.kind = .function) (hB : B base) (hd : dp + k < 500) (hu : un + 8 * k < 500) (C : Acts prog w k f vs news B nw val P False)
    (ret : ∀ (i : ι) (h' : Heap) (tk' : Nat), Fr h₀ L h' m → News h₀ L h' (nw i) → P i → Q (val i) { s with heap := h', toks := tk' }) :
    wpAny (model prog w) (ktrTop dp un gd cn cs L a ccd cl outer) (call (.ref f) vs) Q E s := C _ _ _ _ _ _ _ _ _ _ _ _ _ _ _ _ _ _ _ _ hbel F X N T hk hB hd hu ret fun _ _ _ _ x => x.elim

theorem Acts.goE {prog : Program} {w : World} {k : Nat} {f : Addr} {vs : List Value} {news : Led} {B : Heap → Prop} {nw : Empty → Led} {val : Empty → Value} {P : Empty → Prop} {exc : Prop}
    {mean : ExcName → Option Value} {mg mb : Str → Option Value} {dp un : Nat} {gd : Option (List Code)} {cn : Str} {cs : Scope} {a : Addr} {ccd : Value} {cl : List (Str × Addr)} {outer : List Env} {A₀ : Around} {base h₀ : Heap} {L : Addr} {m : Str → Option Value} {s : Shared} {Q E : Value → Shared → Prop}
    (F : Fr h₀ L s.heap m) (hbel : Below A₀ base outer h₀) (X : (hd.heap_1 w.params).In h₀) (N : News h₀ L s.heap news) (T : Top viewQ (looseW viewQ []) mean mg mb h₀) (hk : cs.kind = .function) (hB : B base) (hd : dp + k < 500) (hu : un + 8 * k < 500) (C : Acts prog w k f vs news B nw val P exc)
    (err : ∀ (e : Addr) (g h' : Heap) (tk' : Nat), exc → Fr h₀ L g m → RaisedSN base g (envX cn cs L a ccd cl :: outer) e (.ref 51) news h' → g.UpToSlots h' → E (.ref e) { s with heap := h', toks := tk' }) :
    wpAny (model prog w) (ktrTop dp un gd cn cs L a ccd cl outer) (call (.ref f) vs) Q E s := C _ _ _ _ _ _ _ _ _ _ _ _ _ _ _ _ _ _ _ _ hbel F X N T hk hB hd hu (fun i => i.elim) err

theorem news_tl {h₀ h : Heap} {L : Addr} {q : Addr × Obj} {news : Led} (N : News h₀ L h (q :: news)) : News h₀ L h news := fun p hp => N p (.tail _ hp)
theorem raised_tl {base G h : Heap} {l : List Env} {e : Addr} {c : Value} {q : Addr × Obj} {news : Led} (R : RaisedSN base G l e c (q :: news) h) : RaisedSN base G l e c news h := by
  obtain ⟨B, a0, x1, x2, x3, x4⟩ := R
  exact ⟨B, a0, x1, x2, fun p hp => x3 p (.tail _ hp), x4⟩

section
variable {prog : Program} {w : World} {A₀ A : Around} {s : Shared} {base g₀ h₀ : Heap} {outer : List Env} {L : Addr} {m : Str → Option Value} {env : Env} {news : Led} {K : Frag} {p : Program} {loose : List Str} {mean : ExcName → Option Value} {mg mb : Str → Option Value}
  {R : Result → Shared → Prop} {name qual : Str} {params : Arguments} {body : List Stmt} {scope : Scope} {dV kV doc pm cdv ct oc : Value} {an od : Option Addr} {osl : Array (Option Value)} {f : Addr} {args : Args} {binds : List (Str × Value)}
theorem frame_or {b : Addr} (hf : env.frame = some L) (hm : b ∈ (env :: outer).filterMap (·.frame)) : b = L ∨ b ∈ outer.filterMap (·.frame) := by
  simp only [List.filterMap_cons, hf] at hm
  exact List.mem_cons.mp hm
/-- out of a def that caught: the caller's ghost turned with it -/
theorem turned_back {g : Heap} (hf : env.frame = some L) (B : Below A₀ base outer h₀) (FG : Fr h₀ L g m) (st : h₀.StaysIn g) (XB : K.In base) (TB : Top p loose mean mg mb base) (D : KtsDicts (outer.filterMap (·.frame)) h₀) (T0 : KtsTurn (outer.filterMap (·.frame)) g₀ h₀)
    {v : Value} {s' : Shared} (hl : LeaveS ((env :: outer).filterMap (·.frame)) A₀ base outer K p loose mean mg mb g₀ h₀ L m g R v s') : R (.ok (.ret v)) s' := by
  have nL := kts_self FG
  have up := FG.above
  obtain ⟨oL, es, ep, hLg, hLd, hLk, hLf⟩ := FG.ns
  rcases hl with ⟨L', m', news', F', N', k⟩ | ⟨g', L', m', news', T', F', N', k⟩
  · refine k ⟨⟨oL, es, ep, F'.keep _ _ hLg, hLd, hLk, hLf⟩, fun b o e => F'.keep b o (st b o e), up⟩ fun q hq => ⟨(N' q hq).1, fun e => ?_, kts_none st (N' q hq).2.2⟩
    have z := (N' q hq).2.2
    rw [e, hLg] at z
    cases z
  · have old : ∀ b o, h₀.get? b = some o → ∃ sl, s'.heap.get? b = some { o with slots := sl } := fun b o e => by
      obtain ⟨sl, hs⟩ := T'.up (st b o e)
      exact ⟨sl, F'.keep _ _ hs⟩
    have same : ∀ b o, h₀.get? b = some o → b ∉ outer.filterMap (·.frame) → s'.heap.get? b = some o := fun b o e nm => by
      refine F'.keep b o (T'.other b o (st b o e) fun q => ?_)
      rcases frame_or hf q with rfl | z
      · rw [nL] at e
        cases e
      · exact nm z
    obtain ⟨T₁, S₁⟩ := kts_turn_at (h := s'.heap) (fs := outer.filterMap (·.frame)) (g := h₀) (fun b hb => (B.frames.mem hb).2.imp fun _ z => z.1) same fun b o e _ => old b o e
    have B₁ : Below A₀ base outer (ktsHeap s'.heap (outer.filterMap (·.frame)) h₀) := by
      refine ⟨B.stack, fun b o e => T₁.other b o (B.stays b o e) fun hm => ?_, B.frames.of_keeps fun b o e _ => ?_⟩
      · rw [(B.frames.mem hm).1] at e
        cases e
      · obtain ⟨sl, hs⟩ := T₁.up e
        exact ⟨_, hs, rfl⟩
    obtain ⟨sl, hs⟩ := T'.up hLg
    refine k _ (T0.trans T₁) ⟨⟨_, es, ep, F'.keep _ _ hs, hLd, hLk, hLf⟩, S₁, T₁.size ▸ up⟩ (fun q hq => ⟨(N' q hq).1, fun e => ?_, T₁.none_ _ ?_⟩) B₁ (XB.keeps B₁.stays) (TB.keeps B₁.stays) (D.turn T₁)
    · have z := (N' q hq).2.2
      rw [e, hs] at z
      cases z
    · cases e : h₀.get? q.1 with
      | none => rfl
      | some o =>
        obtain ⟨sl', hs'⟩ := T'.up (st _ _ e)
        have z := (N' q hq).2.2
        rw [hs'] at z
        cases z
theorem dicts_of {g : Heap} (hf : env.frame = some L) (FG : Fr h₀ L g m) (st : h₀.StaysIn g) (D : KtsDicts (outer.filterMap (·.frame)) h₀) : KtsDicts ((env :: outer).filterMap (·.frame)) g := fun b hb => by
  rcases frame_or hf hb with rfl | hb
  · obtain ⟨oL, es, ep, hLg, hLd, _⟩ := FG.ns
    exact ⟨oL, es, ep, hLg, hLd⟩
  · obtain ⟨o, es, n, ho, hd⟩ := D b hb
    exact ⟨o, es, n, st b o ho, hd⟩
/-- into a def that may catch, from any frame -/
theorem code_turn (B : Below A₀ base outer h₀) (F : Fr h₀ L s.heap m) (X₀ : K.In h₀) (N : News h₀ L s.heap news) (T : Top p loose mean mg mb h₀) (XB : K.In base) (TB : Top p loose mean mg mb base) (D : KtsDicts (outer.filterMap (·.frame)) h₀)
    (T0 : KtsTurn (outer.filterMap (·.frame)) g₀ h₀) (hA : A.frames = some (env :: outer)) (hf : env.frame = some L) (hke : env.scope.kind = .function)
    (ho : K.lookup f = some ⟨oc, od, .func (fnOf name qual params body scope dV kV doc pm an cdv ct), osl⟩) (hcd : codeIn K cdv qual = true) (hroom : A.depth < recursionLimit)
    (hbind : BindsTo s (fnOf name qual params body scope dV kV doc pm an cdv ct) args binds) (hloc : ∀ y ∈ binds, scope.names.lookup y.1 = some .local)
    (h : ∀ g L' h₁, Fr h₀ L g m → Fr g L' h₁ (fun y => binds.reverse.lookup y) → News g L' h₁ news → Below A base (env :: outer) g → K.In g → Top p loose mean mg mb g → KtsDicts ((env :: outer).filterMap (·.frame)) g →
      wpAny (model prog w) (A.deeper (envOf qual scope L' f cdv)) (execs body (envOf qual scope L' f cdv))
        (fun fl s' => LeaveS ((env :: outer).filterMap (·.frame)) A₀ base outer K p loose mean mg mb g₀ h₀ L m g R (match fl with | .ret v => v | _ => .none) s')
        (fun e s' => wpAny (model prog w) (A.deeper (envOf qual scope L' f cdv)) (leaving (envOf qual scope L' f cdv) e) (fun _ s'' => R (.error e) s'') (fun e' s'' => R (.error e') s'') s')
        { s with heap := h₁, toks := s.toks + binds.length })
    (hco : scope.isCoroutine = false) (hgen : scope.isGenerator = false) (hk : scope.kind = .function) (hcell : ∀ x ∈ scope.names, x.2 ≠ .cell) : codeAny (model prog w) A (.call (.ref f) args) R s := by
  have X := X₀.keeps F.keep
  obtain ⟨FG, BG, st, _⟩ := groundX (R := R) B F N hA hf hke
  refine codeAny_call_def (fd := fnOf name qual params body scope dV kV doc pm an cdv ct) (body := body) (binds := binds) hroom (X _ _ ho) rfl (T.nolimit.keeps F.keep) (codeRec_of X hcd) rfl hbind hcell hloc (fun h₁ ns k₁ => ?_) hco hgen hk
  refine wpAny_mono (h _ s.heap.objs.size h₁ FG ⟨ns, fun b o e => k₁ b o (of_hideAll _ e), Nat.le_of_eq (hideAll_size _ _)⟩ (fun q hq => ⟨k₁ _ _ (N q hq).1, Nat.ne_of_lt (Heap.lt_size (N q hq).1), hideAll_none _ (List.mem_map_of_mem hq)⟩) BG (X₀.keeps st) (T.keeps st) (dicts_of hf FG st D)) (fun fl s' hl => ?_) fun _ _ y => y
  exact turned_back hf B FG st XB TB D T0 hl
/-- the same, of a def with cells -/
theorem code_turnC (B : Below A₀ base outer h₀) (F : Fr h₀ L s.heap m) (X₀ : K.In h₀) (N : News h₀ L s.heap news) (T : Top p loose mean mg mb h₀) (XB : K.In base) (TB : Top p loose mean mg mb base) (D : KtsDicts (outer.filterMap (·.frame)) h₀)
    (T0 : KtsTurn (outer.filterMap (·.frame)) g₀ h₀) (hA : A.frames = some (env :: outer)) (hf : env.frame = some L) (hke : env.scope.kind = .function)
    (ho : K.lookup f = some ⟨oc, od, .func (fnOf name qual params body scope dV kV doc pm an cdv ct), osl⟩) (hcd : codeIn K cdv qual = true) (hroom : A.depth < recursionLimit)
    (hbind : BindsTo s (fnOf name qual params body scope dV kV doc pm an cdv ct) args binds) (hkind : (binds.all fun y => scope.names.lookup y.1 == some .local || scope.names.lookup y.1 == some .cell) = true)
    (hnd : ((cellsFrom 0 scope.names []).map (·.1)).Nodup)
    (h : ∀ g L' h₁ tk cells, Fr h₀ L g m → Fr g L' h₁ (bindL (envOfC qual scope L' f cdv).kindOf binds fun _ => none) → News g L' h₁ (cells ++ news) →
      CellsAre (bindC (envOfC qual scope L' f cdv).kindOf binds fun _ => none) (cellsFrom (L' + 1) scope.names []) cells → Below A base (env :: outer) g → K.In g → Top p loose mean mg mb g → KtsDicts ((env :: outer).filterMap (·.frame)) g → (∀ p ∈ news, p.1 < L') →
      wpAny (model prog w) (A.deeper (envOfC qual scope L' f cdv)) (execs body (envOfC qual scope L' f cdv))
        (fun fl s' => LeaveS ((env :: outer).filterMap (·.frame)) A₀ base outer K p loose mean mg mb g₀ h₀ L m g R (match fl with | .ret v => v | _ => .none) s')
        (fun e s' => wpAny (model prog w) (A.deeper (envOfC qual scope L' f cdv)) (leaving (envOfC qual scope L' f cdv) e) (fun _ s'' => R (.error e) s'') (fun e' s'' => R (.error e') s'') s')
        { s with heap := h₁, toks := tk })
    (hco : scope.isCoroutine = false) (hgen : scope.isGenerator = false) (hk : scope.kind = .function) : codeAny (model prog w) A (.call (.ref f) args) R s := by
  have X := X₀.keeps F.keep
  obtain ⟨FG, BG, st, _⟩ := groundX (R := R) B F N hA hf hke
  refine codeAny_call_function hroom (X _ _ ho) rfl hco hgen rfl (codeRec_of X hcd) (hbind _ _ _ _ ?_)
  refine wpAny_newFunctionEnv_cells hk (kindsX hkind _) fun env' he s' x => ?_
  subst he
  refine ⟨(T.nolimit.keeps F.keep).keeps x.toInCall.keep, codeAny_func ?_⟩
  obtain ⟨h₁, tk, rfl, _⟩ := x.done
  have k₁ := x.toInCall.keep
  obtain ⟨cells, NC, Y⟩ := Cl.news (h₀ := s.heap) (Nat.le_refl _) fun n c hm => ⟨x.cell n c (lookup_of_mem_nodup (cellsFrom_names scope.names 0 (s.heap.objs.size + 1) [] [] rfl ▸ hnd) hm), x.above n c hm⟩
  refine wpAny_mono (h _ s.heap.objs.size h₁ tk cells FG ⟨x.toInCall.ns, fun b o e => k₁ b o (of_hideAll _ e), Nat.le_of_eq (hideAll_size _ _)⟩ (fun q hq => ?_) Y BG (X₀.keeps st) (T.keeps st) (dicts_of hf FG st D) (fun q hq => Heap.lt_size (N q hq).1)) (fun fl s' hl => ?_) fun _ _ y => y
  · rcases List.mem_append.mp hq with hq | hq
    · exact ⟨(NC q hq).1, (NC q hq).2.1, kts_none (fun b o e => of_hideAll _ e) (NC q hq).2.2⟩
    · exact ⟨k₁ _ _ (N q hq).1, Nat.ne_of_lt (Heap.lt_size (N q hq).1), hideAll_none _ (List.mem_map_of_mem hq)⟩
  · exact turned_back hf B FG st XB TB D T0 hl
end

/-- as Acts, of a def that catches: the frames below may bear new slots behind it; it raises nothing -/
abbrev ActsT (prog : Program) (w : World) (k : Nat) (f : Addr) (vs : List Value) (news : Led) (B : Heap → Prop) {ι : Type} (nw : ι → Led) (val : ι → Value) (P : ι → Prop) : Prop :=
  ∀ (mean : ExcName → Option Value) (mg mb : Str → Option Value) (dp un : Nat) (gd : Option (List Code)) (cn : Str) (cs : Scope) (a : Addr) (ccd : Value) (cl : List (Str × Addr)) (outer : List Env) (A₀ : Around) (base g₀ h₀ : Heap) (L : Addr) (m : Str → Option Value) (s : Shared) (Q E : Value → Shared → Prop),
    Below A₀ base outer h₀ → Fr h₀ L s.heap m → (hd.heap_1 w.params).In h₀ → News h₀ L s.heap news → Top viewQ (looseW viewQ []) mean mg mb h₀ → cs.kind = .function → B base → dp + k < 500 → un + 8 * k < 500 →
    (hd.heap_1 w.params).In base → Top viewQ (looseW viewQ []) mean mg mb base → KtsDicts (outer.filterMap (·.frame)) h₀ → KtsTurn (outer.filterMap (·.frame)) g₀ h₀ →
    (∀ (i : ι) (h₀' h' : Heap) (tk' : Nat), KtsTurn (outer.filterMap (·.frame)) g₀ h₀' → Fr h₀' L h' m → News h₀' L h' (nw i) → Below A₀ base outer h₀' → (hd.heap_1 w.params).In h₀' → Top viewQ (looseW viewQ []) mean mg mb h₀' → KtsDicts (outer.filterMap (·.frame)) h₀' → P i →
      Q (val i) { s with heap := h', toks := tk' }) →
    wpAny (model prog w) (ktrTop dp un gd cn cs L a ccd cl outer) (call (.ref f) vs) Q E s
theorem ActsT.go {prog : Program} {w : World} {k : Nat} {f : Addr} {vs : List Value} {news : Led} {B : Heap → Prop} {ι : Type} {nw : ι → Led} {val : ι → Value} {P : ι → Prop}
    {mean : ExcName → Option Value} {mg mb : Str → Option Value} {dp un : Nat} {gd : Option (List Code)} {cn : Str} {cs : Scope} {a : Addr} {ccd : Value} {cl : List (Str × Addr)} {outer : List Env} {A₀ : Around} {base g₀ h₀ : Heap} {L : Addr} {m : Str → Option Value} {s : Shared} {Q E : Value → Shared → Prop}
    (F : Fr h₀ L s.heap m) (hbel : Below A₀ base outer h₀) (X : (hd.heap_1 w.params).In h₀) (N : News h₀ L s.heap news) (T : Top viewQ (looseW viewQ []) mean mg mb h₀) (hk : cs.kind = .function) (hB : B base) (hdp : dp + k < 500) (hu : un + 8 * k < 500)
    (XB : (hd.heap_1 w.params).In base) (TB : Top viewQ (looseW viewQ []) mean mg mb base) (D : KtsDicts (outer.filterMap (·.frame)) h₀) (T0 : KtsTurn (outer.filterMap (·.frame)) g₀ h₀) (C : ActsT prog w k f vs news B nw val P)
    (ret : ∀ (i : ι) (h₀' h' : Heap) (tk' : Nat), KtsTurn (outer.filterMap (·.frame)) g₀ h₀' → Fr h₀' L h' m → News h₀' L h' (nw i) → Below A₀ base outer h₀' → (hd.heap_1 w.params).In h₀' → Top viewQ (looseW viewQ []) mean mg mb h₀' → KtsDicts (outer.filterMap (·.frame)) h₀' → P i →
      Q (val i) { s with heap := h', toks := tk' }) :
    wpAny (model prog w) (ktrTop dp un gd cn cs L a ccd cl outer) (call (.ref f) vs) Q E s := C _ _ _ _ _ _ _ _ _ _ _ _ _ _ _ _ _ _ _ _ _ hbel F X N T hk hB hdp hu XB TB D T0 ret

abbrev AnyB : Heap → Prop := fun _ => True

local macro_rules | `(tactic| walk_at $s:str) => `(tactic| k_extra $s)
section
theorem refuse_c {prog : Program} {w : World} {x : Str} {tx : Tok} {news : Led} :
    Tag PySem.Challenge.rw_sa0007_01 hd.heap_1 → Acts prog w 6 60 [.str x tx] news AnyB (ι := Empty) (fun _ => news) (fun _ => .none) (fun _ => False) True := by
  k_fill
  intro _ mean mg mb dp un gd cn cs a ccd cl outer A₀ base h₀ L m s Q E B F X N T hk hB hdp hun hret herr
  refine wpAny_call ?_
  k_dflt ktr_enter
  (w_top off; k_with_none; (k_with "exec Raise some none" => (k_here; k_dflt (refine raise_ada tag (by exact rfl) ?_))); (k_with "call ref" => (k_here; (with_reducible show wpAny _ _ (PySem.call (Value.ref 51) _) _ _ _); k_dflt (refine new_ada (by exact rfl) (by ktr_room) (by ktr_units) (by k_in) ?_; k_whole); intro e9 h9 t9 M9)); (k_with "leaving ref" => (k_here; (refine leave_ada (by assumption) (by assumption) (by assumption) (by k_asm) ?_; k_whole); intro h' R' U'; (try dsimp only at R' U' ⊢))); repeat' (first | (k_unfold; (try dsimp only)) | (k_end; wrow_close) | ((first | (with_reducible show wpAny _ _ (exec _ _) _ _ _) | (with_reducible show wpAny _ _ (eval (Expr.Call _ _ _ _) _) _ _ _) | (with_reducible show wpAny _ _ (eval (Expr.Compare _ _ _ _) _) _ _ _) | (with_reducible show wpAny _ _ (eval (Expr.Subscript _ _ _) _) _ _ _) | (with_reducible show wpAny _ _ (eval (Expr.BinOp _ _ _ _) _) _ _ _) | (with_reducible show wpAny _ _ (eval (Expr.ListComp _ _ _ _) _) _ _ _) | (with_reducible show wpAny _ _ (isTrue (Expr.Compare _ _ _ _) _ _) _ _ _)); k_fold) | walk1 | (dsimp only; walk1) | (leave1; (try dsimp only)) | fail "no step"))
  all_goals exact herr _ _ _ _ trivial (by k_asm) (by assumption) (by assumption)
end



abbrev tupO (vs : List Value) : Obj := { cls := .type "tuple", data := .seq vs.toArray }
/-- the quotients, as the text takes them -/
def cutQ (x y : Int) : Int := if x < 0 then -((-x) / y) else x / y
def rndQ (x y : Int) : Int := if x < 0 then -((2 * -x + y) / (2 * y)) else (2 * x + y) / (2 * y)

theorem cut_c {prog : Program} {w : World} {x y : Int} {tx ty : Tok} {news : Led} (hy : 0 < y) (hy2 : y < 1073741824) :
    Tag PySem.Challenge.rw_sa0007_01 hd.heap_1 → Acts prog w 2 109 [.int x tx, .int y ty] news AnyB (ι := Tok) (fun _ => news) (fun t => .int (cutQ x y) t) (fun _ => True) False := by
  k_fill
  intro _ mean mg mb dp un gd cn cs a ccd cl outer A₀ base h₀ L m s Q E B F X N T hk hB hdp hun hret herr
  refine wpAny_call ?_
  k_dflt ktr_enter
  (w_top off; k_with_none; repeat' (first | (k_unfold; (try dsimp only)) | (k_end; wrow_close) | ((first | (with_reducible show wpAny _ _ (exec _ _) _ _ _) | (with_reducible show wpAny _ _ (eval (Expr.Call _ _ _ _) _) _ _ _) | (with_reducible show wpAny _ _ (eval (Expr.Compare _ _ _ _) _) _ _ _) | (with_reducible show wpAny _ _ (eval (Expr.Subscript _ _ _) _) _ _ _) | (with_reducible show wpAny _ _ (eval (Expr.BinOp _ _ _ _) _) _ _ _) | (with_reducible show wpAny _ _ (eval (Expr.ListComp _ _ _ _) _) _ _ _) | (with_reducible show wpAny _ _ (isTrue (Expr.Compare _ _ _ _) _ _) _ _ _)); k_fold) | walk1 | (dsimp only; walk1) | (leave1; (try dsimp only)) | fail "no step"))
  all_goals (
    refine (?_ : Q (.int _ _) _)
    have e : ∀ {a b : Int} {t : Tok} {s' : Shared}, a = b → Q (.int b t) s' → Q (.int a t) s' := fun q z => q ▸ z
    refine e (b := cutQ x y) ?_ (hret _ _ _ (by k_asm) (by k_asm) trivial)
    unfold cutQ
    have h1 : ¬ y < 0 := by omega
    simp only [if_neg h1, Int.fdiv_eq_ediv_of_nonneg _ (Int.le_of_lt hy)])
  · have h2 : x < 0 := by simp_all
    simp only [if_pos h2]
  · have h2 : ¬ x < 0 := by simp_all
    simp only [if_neg h2]

theorem ret_int {Q : Value → Shared → Prop} {a b : Int} {t : Tok} {s : Shared} (q : a = b) (z : Q (.int b t) s) : Q (.int a t) s := q ▸ z

theorem rnd_c {prog : Program} {w : World} {x y : Int} {tx ty : Tok} {news : Led} (hy : 0 < y) (hy2 : y < 500000000) :
    Tag PySem.Challenge.rw_sa0007_01 hd.heap_1 → Acts prog w 2 102 [.int x tx, .int y ty] news AnyB (ι := Tok) (fun _ => news) (fun t => .int (rndQ x y) t) (fun _ => True) False := by
  k_fill
  intro _ mean mg mb dp un gd cn cs a ccd cl outer A₀ base h₀ L m s Q E B F X N T hk hB hdp hun hret herr
  refine wpAny_call ?_
  k_dflt ktr_enter
  (w_top off; k_with_none; repeat' (first | (k_unfold; (try dsimp only)) | (k_end; wrow_close) | ((first | (with_reducible show wpAny _ _ (exec _ _) _ _ _) | (with_reducible show wpAny _ _ (eval (Expr.Call _ _ _ _) _) _ _ _) | (with_reducible show wpAny _ _ (eval (Expr.Compare _ _ _ _) _) _ _ _) | (with_reducible show wpAny _ _ (eval (Expr.Subscript _ _ _) _) _ _ _) | (with_reducible show wpAny _ _ (eval (Expr.BinOp _ _ _ _) _) _ _ _) | (with_reducible show wpAny _ _ (eval (Expr.ListComp _ _ _ _) _) _ _ _) | (with_reducible show wpAny _ _ (isTrue (Expr.Compare _ _ _ _) _ _) _ _ _)); k_fold) | walk1 | (dsimp only; walk1) | (leave1; (try dsimp only)) | fail "no step"))
  all_goals (
    refine ret_int (b := rndQ x y) ?_ (hret _ _ _ (by k_asm) (by k_asm) trivial)
    unfold rndQ
    simp only [Int.fdiv_eq_ediv_of_nonneg _ (show (0:Int) ≤ 2 * y by omega)])
  · have h2 : x < 0 := by simp_all
    simp only [if_pos h2]
  · have h2 : ¬ x < 0 := by simp_all
    simp only [if_neg h2]

/-- a Type of the text's, as the ledger bears it -/
structure Ty where
  dx : Addr
  es : List DictEntry
  n : Nat
  kd : Str
  tk : Tok
  fx : Bool
  lo : Int
  tlo : Tok
  hi : Int
  thi : Tok
  sm : Addr
  a : Int
  ta : Tok
  b : Int
  tb : Tok
structure TyIn (news : Led) (x : Addr) (T : Ty) : Prop where
  inst : (x, instObj 385 T.dx) ∈ news
  dict : (T.dx, dictOf T.es T.n) ∈ news
  kind : getL (Str.ofString "kind") T.es = some (some (.str T.kd T.tk))
  low : getL (Str.ofString "low") T.es = some (some (.int T.lo T.tlo))
  high : getL (Str.ofString "high") T.es = some (some (.int T.hi T.thi))
  small : getL (Str.ofString "small") T.es = some (some (.ref T.sm))
  tup : (T.sm, tupO [.int T.a T.ta, .int T.b T.tb]) ∈ news
  which : (T.fx = true ∧ T.kd = Str.ofString "fixed") ∨ (T.fx = false ∧ (T.kd = Str.ofString "int" ∨ T.kd = Str.ofString "mod") ∧ T.a = 1 ∧ T.b = 1)
  apos : 0 < T.a
  aub : T.a ≤ 1000
  bpos : 0 < T.b
  bub : T.b ≤ 1000
theorem TyIn.mono {news news' : Led} {x : Addr} {T : Ty} (H : TyIn news x T) (hs : ∀ p ∈ news, p ∈ news') : TyIn news' x T :=
  { H with inst := hs _ H.inst, dict := hs _ H.dict, tup := hs _ H.tup }
theorem TyIn.cons {news : Led} {x : Addr} {T : Ty} {q : Addr × Obj} (H : TyIn news x T) : TyIn (q :: news) x T := H.mono fun _ => List.Mem.tail _

local macro_rules | `(tactic| k_room) => `(tactic| ktr_room)
local macro_rules | `(tactic| k_mem) => `(tactic| assumption)
local macro_rules | `(tactic| k_in) => `(tactic| first | with_reducible assumption | exact Frag.In.keeps (by with_reducible assumption) (Fr.keep (by with_reducible assumption)))
section

theorem small_c {prog : Program} {w : World} {x : Addr} {T : Ty} {news : Led} (H : TyIn news x T) :
    Tag PySem.Challenge.rw_sa0007_01 hd.heap_1 → Acts prog w 2 116 [.ref x] news AnyB (ι := Addr × Tok × Tok) (fun i => (i.1, tupO [.int T.a i.2.1, .int T.b i.2.2]) :: news) (fun i => .ref i.1) (fun _ => True) False := by
  k_fill
  intro _ mean mg mb dp un gd cn cs a ccd cl outer A₀ base h₀ L m s Q E B F X N Tp hk hB hdp hun hret herr
  obtain ⟨h1, h2, h3, h4, h5, h6, h7, h8, _, _, _, _⟩ := H
  refine wpAny_call ?_
  k_dflt ktr_enter
  rcases h8 with ⟨_, hf⟩ | ⟨_, hf | hf, ha, hb⟩
  all_goals rw [hf] at h3
  all_goals (w_top off; k_with_none; (k_with "getAttr ref" => (k_here; k_dflt (refine get_own (by k_asm) (by k_asm) (by k_inst) (by k_is) (by k_is) (by k_is) (by k_is) (by assumption) (by k_handed) ?_; k_whole))); repeat' (first | (k_unfold; (try dsimp only)) | (k_end; wrow_close) | ((first | (with_reducible show wpAny _ _ (exec _ _) _ _ _) | (with_reducible show wpAny _ _ (eval (Expr.Call _ _ _ _) _) _ _ _) | (with_reducible show wpAny _ _ (eval (Expr.Compare _ _ _ _) _) _ _ _) | (with_reducible show wpAny _ _ (eval (Expr.Subscript _ _ _) _) _ _ _) | (with_reducible show wpAny _ _ (eval (Expr.BinOp _ _ _ _) _) _ _ _) | (with_reducible show wpAny _ _ (eval (Expr.ListComp _ _ _ _) _) _ _ _) | (with_reducible show wpAny _ _ (isTrue (Expr.Compare _ _ _ _) _ _) _ _ _)); k_fold) | walk1 | (dsimp only; walk1) | (leave1; (try dsimp only)) | fail "no step"))
  · exact hret (T.sm, T.ta, T.tb) _ _ (by k_asm) (fun p hp => (List.mem_cons.mp hp).elim (fun e => by rw [e]; exact (by assumption : News h₀ L _ news) _ h7) fun hp => (by assumption : News h₀ L _ news) _ hp) trivial
  all_goals
    rw [ha, hb] at hret
    exact hret (_, _, _) _ _ (by k_asm) (by k_asm) trivial

theorem base_c {prog : Program} {w : World} {x : Addr} {T : Ty} {news : Led} {v : Int} {tv : Tok} (H : TyIn news x T) :
    Tag PySem.Challenge.rw_sa0007_01 hd.heap_1 → Acts prog w 8 95 [.ref x, .int v tv] news AnyB (ι := Unit) (fun _ => news) (fun _ => .int v tv) (fun _ => T.lo ≤ v ∧ v ≤ T.hi) (¬ (T.lo ≤ v ∧ v ≤ T.hi)) := by
  k_fill
  intro _ mean mg mb dp un gd cn cs a ccd cl outer A₀ base h₀ L m s Q E B F X N Tp hk hB hdp hun hret herr
  obtain ⟨h1, h2, h3, h4, h5, h6, h7, h8, _, _, _, _⟩ := H
  refine wpAny_call ?_
  k_dflt ktr_enter
  (w_top off; k_with_none; (k_with "getAttr ref" => (k_here; k_dflt (refine get_own (by k_asm) (by k_asm) (by k_inst) (by k_is) (by k_is) (by k_is) (by k_is) (by assumption) (by k_handed) ?_; k_whole))); (k_with "call ref" => (k_here; (with_reducible show wpAny _ _ (PySem.call (Value.ref 60) _) _ _ _); k_dflt (refine Acts.goE (by k_asm) (by k_asm) (by k_asm) (by k_asm) (by k_asm) (by first | exact rfl | assumption) (by trivial) (by ktr_room) (by ktr_units) (refuse_c tag) ?_); intro e9 g9 h9 t9 x9 F9 R9 U9; (try dsimp only))); (k_with "leaving ref" => (k_here; (refine leave_onSN (by assumption) (by assumption) (by assumption) (by assumption) ?_; k_whole); intro h' R' U1 U'; clear U1; (try dsimp only at R' U' ⊢))); repeat' (first | (k_unfold; (try dsimp only)) | (k_end; wrow_close) | ((first | (with_reducible show wpAny _ _ (exec _ _) _ _ _) | (with_reducible show wpAny _ _ (eval (Expr.Call _ _ _ _) _) _ _ _) | (with_reducible show wpAny _ _ (eval (Expr.Compare _ _ _ _) _) _ _ _) | (with_reducible show wpAny _ _ (eval (Expr.Subscript _ _ _) _) _ _ _) | (with_reducible show wpAny _ _ (eval (Expr.BinOp _ _ _ _) _) _ _ _) | (with_reducible show wpAny _ _ (eval (Expr.ListComp _ _ _ _) _) _ _ _) | (with_reducible show wpAny _ _ (isTrue (Expr.Compare _ _ _ _) _ _) _ _ _)); k_fold) | walk1 | (dsimp only; walk1) | (leave1; (try dsimp only)) | fail "no step"))
  all_goals first | exact herr _ _ _ _ (by omega) (by k_asm) (by assumption) (by assumption) | exact hret () _ _ (by k_asm) (by k_asm) (by omega)
end



/-- a Subtype of the text's -/
structure Sub where
  dx : Addr
  es : List DictEntry
  n : Nat
  ty : Addr
  T : Ty
  lo : Int
  hi : Int
structure SubIn (news : Led) (x : Addr) (S : Sub) : Prop where
  inst : (x, instObj 406 S.dx) ∈ news
  dict : (S.dx, dictOf S.es S.n) ∈ news
  type : getL (Str.ofString "type") S.es = some (some (.ref S.ty))
  isTy : TyIn news S.ty S.T
  con : (getL (Str.ofString "constraint") S.es = some (some .none) ∧ S.lo = S.T.lo ∧ S.hi = S.T.hi) ∨
    ∃ ct v0 t1 t2, getL (Str.ofString "constraint") S.es = some (some (.ref ct)) ∧ (ct, tupO [v0, .int S.lo t1, .int S.hi t2]) ∈ news

/-- the number that the text converts to -/
def convV (T S : Ty) (v : Int) : Int := if T.fx then cutQ (v * S.a * T.b) (S.b * T.a) else rndQ (v * S.a * T.b) (S.b * T.a)

section

theorem range_c {prog : Program} {w : World} {x : Addr} {S : Sub} {news : Led} {v : Int} {tv : Tok} (H : SubIn news x S) :
    Tag PySem.Challenge.rw_sa0007_01 hd.heap_1 → Acts prog w 9 88 [.ref x, .int v tv] news AnyB (ι := Unit) (fun _ => news) (fun _ => .int v tv) (fun _ => S.lo ≤ v ∧ v ≤ S.hi) (¬ (S.lo ≤ v ∧ v ≤ S.hi)) := by
  k_fill
  intro _ mean mg mb dp un gd cn cs a ccd cl outer A₀ base h₀ L m s Q E B F X N Tp hk hB hdp hun hret herr
  obtain ⟨i1, i2, i3, ⟨h1, h2, h3, h4, h5, h6, h7, h8, _, _, _, _⟩, i4⟩ := H
  refine wpAny_call ?_
  k_dflt ktr_enter
  rcases i4 with ⟨i4, el, eh⟩ | ⟨ct, v0, t1, t2, i4, i5⟩
  · rw [el, eh] at hret herr
    (w_top off; k_with_none; (k_with "getAttr ref" => (k_here; k_dflt (refine get_own (by k_asm) (by k_asm) (by k_inst) (by k_is) (by k_is) (by k_is) (by k_is) (by assumption) (by k_handed) ?_; k_whole))); (k_with "call ref" => (k_here; (with_reducible show wpAny _ _ (PySem.call (Value.ref 60) _) _ _ _); k_dflt (refine Acts.goE (by k_asm) (by k_asm) (by k_asm) (by k_asm) (by k_asm) (by first | exact rfl | assumption) (by trivial) (by ktr_room) (by ktr_units) (refuse_c tag) ?_); intro e9 g9 h9 t9 x9 F9 R9 U9; (try dsimp only))); (k_with "leaving ref" => (k_here; (refine leave_onSN (by assumption) (by assumption) (by assumption) (by assumption) ?_; k_whole); intro h' R' U1 U'; clear U1; (try dsimp only at R' U' ⊢))); repeat' (first | (k_unfold; (try dsimp only)) | (k_end; wrow_close) | ((first | (with_reducible show wpAny _ _ (exec _ _) _ _ _) | (with_reducible show wpAny _ _ (eval (Expr.Call _ _ _ _) _) _ _ _) | (with_reducible show wpAny _ _ (eval (Expr.Compare _ _ _ _) _) _ _ _) | (with_reducible show wpAny _ _ (eval (Expr.Subscript _ _ _) _) _ _ _) | (with_reducible show wpAny _ _ (eval (Expr.BinOp _ _ _ _) _) _ _ _) | (with_reducible show wpAny _ _ (eval (Expr.ListComp _ _ _ _) _) _ _ _) | (with_reducible show wpAny _ _ (isTrue (Expr.Compare _ _ _ _) _ _) _ _ _)); k_fold) | walk1 | (dsimp only; walk1) | (leave1; (try dsimp only)) | fail "no step"))
    all_goals first | exact herr _ _ _ _ (by omega) (by k_asm) (by first | assumption | exact raised_tl (by first | assumption | exact raised_tl (by first | assumption | exact raised_tl (by first | assumption | exact raised_tl (by first | assumption | exact raised_tl (by first | assumption | exact raised_tl (by assumption))))))) (by assumption) | exact hret () _ _ (by k_asm) (by first | k_asm | exact news_tl (by first | k_asm | exact news_tl (by first | k_asm | exact news_tl (by first | k_asm | exact news_tl (by first | k_asm | exact news_tl (by first | k_asm | exact news_tl (by k_asm))))))) (by omega)
  · (w_top off; k_with_none; (k_with "getAttr ref" => (k_here; k_dflt (refine get_own (by k_asm) (by k_asm) (by k_inst) (by k_is) (by k_is) (by k_is) (by k_is) (by assumption) (by k_handed) ?_; k_whole))); (k_with "call ref" => (k_here; (with_reducible show wpAny _ _ (PySem.call (Value.ref 60) _) _ _ _); k_dflt (refine Acts.goE (by k_asm) (by k_asm) (by k_asm) (by k_asm) (by k_asm) (by first | exact rfl | assumption) (by trivial) (by ktr_room) (by ktr_units) (refuse_c tag) ?_); intro e9 g9 h9 t9 x9 F9 R9 U9; (try dsimp only))); (k_with "leaving ref" => (k_here; (refine leave_onSN (by assumption) (by assumption) (by assumption) (by assumption) ?_; k_whole); intro h' R' U1 U'; clear U1; (try dsimp only at R' U' ⊢))); repeat' (first | (k_unfold; (try dsimp only)) | (k_end; wrow_close) | ((first | (with_reducible show wpAny _ _ (exec _ _) _ _ _) | (with_reducible show wpAny _ _ (eval (Expr.Call _ _ _ _) _) _ _ _) | (with_reducible show wpAny _ _ (eval (Expr.Compare _ _ _ _) _) _ _ _) | (with_reducible show wpAny _ _ (eval (Expr.Subscript _ _ _) _) _ _ _) | (with_reducible show wpAny _ _ (eval (Expr.BinOp _ _ _ _) _) _ _ _) | (with_reducible show wpAny _ _ (eval (Expr.ListComp _ _ _ _) _) _ _ _) | (with_reducible show wpAny _ _ (isTrue (Expr.Compare _ _ _ _) _ _) _ _ _)); k_fold) | walk1 | (dsimp only; walk1) | (leave1; (try dsimp only)) | fail "no step"))
    all_goals first | exact herr _ _ _ _ (by omega) (by k_asm) (by first | assumption | exact raised_tl (by first | assumption | exact raised_tl (by first | assumption | exact raised_tl (by first | assumption | exact raised_tl (by first | assumption | exact raised_tl (by first | assumption | exact raised_tl (by assumption))))))) (by assumption) | exact hret () _ _ (by k_asm) (by first | k_asm | exact news_tl (by first | k_asm | exact news_tl (by first | k_asm | exact news_tl (by first | k_asm | exact news_tl (by first | k_asm | exact news_tl (by first | k_asm | exact news_tl (by k_asm))))))) (by omega)
end


theorem conv_den {news : Led} {x y : Addr} {T S : Ty} (HT : TyIn news x T) (HS : TyIn news y S) : 0 < S.b * T.a ∧ S.b * T.a < 500000000 := by
  have h1 := Int.mul_pos HS.bpos HT.apos
  have h2 : S.b * T.a ≤ 1000 * 1000 := Int.mul_le_mul HS.bub HT.aub (Int.le_of_lt HT.apos) (by decide)
  exact ⟨h1, by omega⟩

section
theorem conv_c {prog : Program} {w : World} {x y : Addr} {T S : Ty} {news : Led} {v : Int} {tv : Tok} (HT : TyIn news x T) (HS : TyIn news y S) :
    Tag PySem.Challenge.rw_sa0007_01 hd.heap_1 → Acts prog w 12 123 [.ref x, .ref y, .int v tv] news AnyB (ι := Tok) (fun _ => news) (fun t => .int (convV T S v) t) (fun _ => T.lo ≤ convV T S v ∧ convV T S v ≤ T.hi) (¬ (T.lo ≤ convV T S v ∧ convV T S v ≤ T.hi)) := by
  k_fill
  intro _ mean mg mb dp un gd cn cs a ccd cl outer A₀ base h₀ L m s Q E B F X N Tp hk hB hdp hun hret herr
  obtain ⟨hden, hden2⟩ := conv_den HT HS
  have h1 := HT.inst
  have h2 := HT.dict
  have h3 := HT.kind
  obtain ⟨a1, a2, a3, a4⟩ : 0 < T.a ∧ T.a ≤ 1000 ∧ 0 < T.b ∧ T.b ≤ 1000 := ⟨HT.apos, HT.aub, HT.bpos, HT.bub⟩
  obtain ⟨b1, b2, b3, b4⟩ : 0 < S.a ∧ S.a ≤ 1000 ∧ 0 < S.b ∧ S.b ≤ 1000 := ⟨HS.apos, HS.aub, HS.bpos, HS.bub⟩
  refine wpAny_call ?_
  k_dflt ktr_enter
  rcases HT.which with ⟨e, hf⟩ | ⟨e, hf | hf, _, _⟩
  all_goals rw [hf] at h3
  · have ec : ∀ u, convV T S u = cutQ (u * S.a * T.b) (S.b * T.a) := fun u => by unfold convV; rw [e]; rfl
    rw [ec] at hret herr
    (w_top off; k_with_none; (k_with "getAttr ref" => (k_here; k_dflt (refine get_own (by k_asm) (by k_asm) (by k_inst) (by k_is) (by k_is) (by k_is) (by k_is) (by assumption) (by k_handed) ?_; k_whole))); (k_with "leaving ref" => (k_here; (refine leave_onSN (by assumption) (by assumption) (by assumption) (by assumption) ?_; k_whole); intro h' R' U1 U'; clear U1; (try dsimp only at R' U' ⊢))); (k_with "call ref" => (k_here; (with_reducible show wpAny _ _ (PySem.call (Value.ref 116) _) _ _ _); k_dflt (refine Acts.goN (by k_asm) (by k_asm) (by k_asm) (by k_asm) (by k_asm) (by first | exact rfl | assumption) (by trivial) (by ktr_room) (by ktr_units) (small_c (by first | assumption | exact TyIn.cons (by assumption) | exact TyIn.cons (TyIn.cons (by assumption)) | exact TyIn.cons (TyIn.cons (TyIn.cons (by assumption)))) tag) ?_); intro t9 h9 tk9 F9 N9 P9; (try dsimp only at N9 P9); (try dsimp only); (obtain ⟨a9, t9, u9⟩ := t9); (try dsimp only at N9); (try dsimp only))); (k_with "call ref" => (k_here; (with_reducible show wpAny _ _ (PySem.call (Value.ref 109) _) _ _ _); k_dflt (refine Acts.goN (by k_asm) (by k_asm) (by k_asm) (by k_asm) (by k_asm) (by first | exact rfl | assumption) (by trivial) (by ktr_room) (by ktr_units) (cut_c (by assumption) (by omega) tag) ?_); intro t9 h9 tk9 F9 N9 P9; (try dsimp only at N9 P9); (try dsimp only))); (k_with "call ref" => (k_here; (with_reducible show wpAny _ _ (PySem.call (Value.ref 102) _) _ _ _); k_dflt (refine Acts.goN (by k_asm) (by k_asm) (by k_asm) (by k_asm) (by k_asm) (by first | exact rfl | assumption) (by trivial) (by ktr_room) (by ktr_units) (rnd_c (by assumption) (by assumption) tag) ?_); intro t9 h9 tk9 F9 N9 P9; (try dsimp only at N9 P9); (try dsimp only))); (k_with "call ref" => (k_here; (with_reducible show wpAny _ _ (PySem.call (Value.ref 95) _) _ _ _); k_dflt (refine Acts.go (by k_asm) (by k_asm) (by k_asm) (by k_asm) (by k_asm) (by first | exact rfl | assumption) (by trivial) (by ktr_room) (by ktr_units) (base_c (by first | assumption | exact TyIn.cons (by assumption) | exact TyIn.cons (TyIn.cons (by assumption)) | exact TyIn.cons (TyIn.cons (TyIn.cons (by assumption))) | exact TyIn.cons (TyIn.cons (TyIn.cons (TyIn.cons (by assumption))))) tag) ?_); refine ⟨fun t9 h9 tk9 F9 N9 P9 => ?_, fun e9 g9 h9 t9 x9 F9 R9 U9 => ?_⟩; (all_goals (try dsimp only at N9 P9)); (all_goals (try dsimp only)))); repeat' (first | (k_unfold; (try dsimp only)) | (k_end; wrow_close) | ((first | (with_reducible show wpAny _ _ (exec _ _) _ _ _) | (with_reducible show wpAny _ _ (eval (Expr.Call _ _ _ _) _) _ _ _) | (with_reducible show wpAny _ _ (eval (Expr.Compare _ _ _ _) _) _ _ _) | (with_reducible show wpAny _ _ (eval (Expr.Subscript _ _ _) _) _ _ _) | (with_reducible show wpAny _ _ (eval (Expr.BinOp _ _ _ _) _) _ _ _) | (with_reducible show wpAny _ _ (eval (Expr.ListComp _ _ _ _) _) _ _ _) | (with_reducible show wpAny _ _ (isTrue (Expr.Compare _ _ _ _) _ _) _ _ _)); k_fold) | walk1 | (dsimp only; walk1) | (leave1; (try dsimp only)) | fail "no step"))
    all_goals first | exact herr _ _ _ _ (by assumption) (by k_asm) (by first | assumption | exact raised_tl (by first | assumption | exact raised_tl (by first | assumption | exact raised_tl (by first | assumption | exact raised_tl (by first | assumption | exact raised_tl (by first | assumption | exact raised_tl (by assumption))))))) (by assumption) | exact hret _ _ _ (by k_asm) (by first | k_asm | exact news_tl (by first | k_asm | exact news_tl (by first | k_asm | exact news_tl (by first | k_asm | exact news_tl (by first | k_asm | exact news_tl (by first | k_asm | exact news_tl (by k_asm))))))) (by assumption)
  all_goals
    have ec : ∀ u, convV T S u = rndQ (u * S.a * T.b) (S.b * T.a) := fun u => by unfold convV; rw [e]; rfl
    rw [ec] at hret herr
    (w_top off; k_with_none; (k_with "getAttr ref" => (k_here; k_dflt (refine get_own (by k_asm) (by k_asm) (by k_inst) (by k_is) (by k_is) (by k_is) (by k_is) (by assumption) (by k_handed) ?_; k_whole))); (k_with "leaving ref" => (k_here; (refine leave_onSN (by assumption) (by assumption) (by assumption) (by assumption) ?_; k_whole); intro h' R' U1 U'; clear U1; (try dsimp only at R' U' ⊢))); (k_with "call ref" => (k_here; (with_reducible show wpAny _ _ (PySem.call (Value.ref 116) _) _ _ _); k_dflt (refine Acts.goN (by k_asm) (by k_asm) (by k_asm) (by k_asm) (by k_asm) (by first | exact rfl | assumption) (by trivial) (by ktr_room) (by ktr_units) (small_c (by first | assumption | exact TyIn.cons (by assumption) | exact TyIn.cons (TyIn.cons (by assumption)) | exact TyIn.cons (TyIn.cons (TyIn.cons (by assumption)))) tag) ?_); intro t9 h9 tk9 F9 N9 P9; (try dsimp only at N9 P9); (try dsimp only); (obtain ⟨a9, t9, u9⟩ := t9); (try dsimp only at N9); (try dsimp only))); (k_with "call ref" => (k_here; (with_reducible show wpAny _ _ (PySem.call (Value.ref 109) _) _ _ _); k_dflt (refine Acts.goN (by k_asm) (by k_asm) (by k_asm) (by k_asm) (by k_asm) (by first | exact rfl | assumption) (by trivial) (by ktr_room) (by ktr_units) (cut_c (by assumption) (by omega) tag) ?_); intro t9 h9 tk9 F9 N9 P9; (try dsimp only at N9 P9); (try dsimp only))); (k_with "call ref" => (k_here; (with_reducible show wpAny _ _ (PySem.call (Value.ref 102) _) _ _ _); k_dflt (refine Acts.goN (by k_asm) (by k_asm) (by k_asm) (by k_asm) (by k_asm) (by first | exact rfl | assumption) (by trivial) (by ktr_room) (by ktr_units) (rnd_c (by assumption) (by assumption) tag) ?_); intro t9 h9 tk9 F9 N9 P9; (try dsimp only at N9 P9); (try dsimp only))); (k_with "call ref" => (k_here; (with_reducible show wpAny _ _ (PySem.call (Value.ref 95) _) _ _ _); k_dflt (refine Acts.go (by k_asm) (by k_asm) (by k_asm) (by k_asm) (by k_asm) (by first | exact rfl | assumption) (by trivial) (by ktr_room) (by ktr_units) (base_c (by first | assumption | exact TyIn.cons (by assumption) | exact TyIn.cons (TyIn.cons (by assumption)) | exact TyIn.cons (TyIn.cons (TyIn.cons (by assumption))) | exact TyIn.cons (TyIn.cons (TyIn.cons (TyIn.cons (by assumption))))) tag) ?_); refine ⟨fun t9 h9 tk9 F9 N9 P9 => ?_, fun e9 g9 h9 t9 x9 F9 R9 U9 => ?_⟩; (all_goals (try dsimp only at N9 P9)); (all_goals (try dsimp only)))); repeat' (first | (k_unfold; (try dsimp only)) | (k_end; wrow_close) | ((first | (with_reducible show wpAny _ _ (exec _ _) _ _ _) | (with_reducible show wpAny _ _ (eval (Expr.Call _ _ _ _) _) _ _ _) | (with_reducible show wpAny _ _ (eval (Expr.Compare _ _ _ _) _) _ _ _) | (with_reducible show wpAny _ _ (eval (Expr.Subscript _ _ _) _) _ _ _) | (with_reducible show wpAny _ _ (eval (Expr.BinOp _ _ _ _) _) _ _ _) | (with_reducible show wpAny _ _ (eval (Expr.ListComp _ _ _ _) _) _ _ _) | (with_reducible show wpAny _ _ (isTrue (Expr.Compare _ _ _ _) _ _) _ _ _)); k_fold) | walk1 | (dsimp only; walk1) | (leave1; (try dsimp only)) | fail "no step"))
    all_goals first | exact herr _ _ _ _ (by assumption) (by k_asm) (by first | assumption | exact raised_tl (by first | assumption | exact raised_tl (by first | assumption | exact raised_tl (by first | assumption | exact raised_tl (by first | assumption | exact raised_tl (by first | assumption | exact raised_tl (by assumption))))))) (by assumption) | exact hret _ _ _ (by k_asm) (by first | k_asm | exact news_tl (by first | k_asm | exact news_tl (by first | k_asm | exact news_tl (by first | k_asm | exact news_tl (by first | k_asm | exact news_tl (by first | k_asm | exact news_tl (by k_asm))))))) (by assumption)
end


/-- the number lies in the type's range and in the subtype's -/
abbrev InR (S : Sub) (c : Int) : Prop := (S.T.lo ≤ c ∧ c ≤ S.T.hi) ∧ (S.lo ≤ c ∧ c ≤ S.hi)
def withinV (S : Sub) (Y : Ty) (v : Int) : Option Int := if InR S (convV S.T Y v) then some (convV S.T Y v) else none
def optV : Option Int → Tok → Value
  | some v, t => .int v t
  | none, _ => .none
theorem withinV_some {S : Sub} {Y : Ty} {v : Int} (h : InR S (convV S.T Y v)) : withinV S Y v = some (convV S.T Y v) := if_pos h
theorem withinV_none {S : Sub} {Y : Ty} {v : Int} (h : ¬ InR S (convV S.T Y v)) : withinV S Y v = none := if_neg h

section
theorem convto_c {prog : Program} {w : World} {x y : Addr} {S : Sub} {Y : Ty} {news : Led} {v : Int} {tv : Tok} (HS : SubIn news x S) (HY : TyIn news y Y) :
    Tag PySem.Challenge.rw_sa0007_01 hd.heap_1 → Acts prog w 14 130 [.ref x, .ref y, .int v tv] news AnyB (ι := Tok) (fun _ => news) (fun t => .int (convV S.T Y v) t) (fun _ => InR S (convV S.T Y v)) (¬ InR S (convV S.T Y v)) := by
  k_fill
  intro _ mean mg mb dp un gd cn cs a ccd cl outer A₀ base h₀ L m s Q E B F X N Tp hk hB hdp hun hret herr
  have h1 := HS.inst
  have h2 := HS.dict
  have h3 := HS.type
  refine wpAny_call ?_
  k_dflt ktr_enter
  (w_top off; k_with_none; (k_with "getAttr ref" => (k_here; k_dflt (refine get_own (by k_asm) (by k_asm) (by k_inst) (by k_is) (by k_is) (by k_is) (by k_is) (by assumption) (by k_handed) ?_; k_whole))); (k_with "leaving ref" => (k_here; (refine leave_onSN (by assumption) (by assumption) (by assumption) (by assumption) ?_; k_whole); intro h' R' U1 U'; clear U1; (try dsimp only at R' U' ⊢))); (k_with "call ref" => (k_here; (with_reducible show wpAny _ _ (PySem.call (Value.ref 123) _) _ _ _); k_dflt (refine Acts.go (by k_asm) (by k_asm) (by k_asm) (by k_asm) (by k_asm) (by first | exact rfl | assumption) (by trivial) (by ktr_room) (by ktr_units) (conv_c (by first | assumption | exact SubIn.isTy (by assumption)) (by assumption) tag) ?_); refine ⟨fun t9 h9 tk9 F9 N9 P9 => ?_, fun e9 g9 h9 t9 x9 F9 R9 U9 => ?_⟩; (all_goals (try dsimp only at N9 P9)); (all_goals (try dsimp only)))); (k_with "call ref" => (k_here; (with_reducible show wpAny _ _ (PySem.call (Value.ref 88) _) _ _ _); k_dflt (refine Acts.go (by k_asm) (by k_asm) (by k_asm) (by k_asm) (by k_asm) (by first | exact rfl | assumption) (by trivial) (by ktr_room) (by ktr_units) (range_c (by assumption) tag) ?_); refine ⟨fun t9 h9 tk9 F9 N9 P9 => ?_, fun e9 g9 h9 t9 x9 F9 R9 U9 => ?_⟩; (all_goals (try dsimp only at N9 P9)); (all_goals (try dsimp only)))); repeat' (first | (k_unfold; (try dsimp only)) | (k_end; wrow_close) | ((first | (with_reducible show wpAny _ _ (exec _ _) _ _ _) | (with_reducible show wpAny _ _ (eval (Expr.Call _ _ _ _) _) _ _ _) | (with_reducible show wpAny _ _ (eval (Expr.Compare _ _ _ _) _) _ _ _) | (with_reducible show wpAny _ _ (eval (Expr.Subscript _ _ _) _) _ _ _) | (with_reducible show wpAny _ _ (eval (Expr.BinOp _ _ _ _) _) _ _ _) | (with_reducible show wpAny _ _ (eval (Expr.ListComp _ _ _ _) _) _ _ _) | (with_reducible show wpAny _ _ (isTrue (Expr.Compare _ _ _ _) _ _) _ _ _)); k_fold) | walk1 | (dsimp only; walk1) | (leave1; (try dsimp only)) | fail "no step"))
  all_goals first | exact herr _ _ _ _ (by first | (intro z; exact (by assumption : ¬ _) z.1) | (intro z; exact (by assumption : ¬ _) z.2)) (by k_asm) (by first | assumption | exact raised_tl (by first | assumption | exact raised_tl (by first | assumption | exact raised_tl (by first | assumption | exact raised_tl (by first | assumption | exact raised_tl (by first | assumption | exact raised_tl (by assumption))))))) (by assumption) | exact hret _ _ _ (by k_asm) (by first | k_asm | exact news_tl (by first | k_asm | exact news_tl (by first | k_asm | exact news_tl (by first | k_asm | exact news_tl (by first | k_asm | exact news_tl (by first | k_asm | exact news_tl (by k_asm))))))) (by exact ⟨by assumption, by assumption⟩)
end
section
theorem within_c {prog : Program} {w : World} {x y : Addr} {S : Sub} {Y : Ty} {news : Led} {v : Int} {tv : Tok} (HS : SubIn news x S) (HY : TyIn news y Y) :
    Tag PySem.Challenge.rw_sa0007_01 hd.heap_1 → ActsT prog w 16 459 [.ref x, .ref y, .int v tv] news AnyB (ι := Tok) (fun _ => news) (fun t => optV (withinV S Y v) t) (fun _ => True) := by
  k_fill
  intro _ mean mg mb dp un gd cn cs a ccd cl outer A₀ base g₀ h₀ L m s Q E B F X N Tp hk hB hdp hun XB TB D T0 hret
  refine wpAny_call ?_
  k_dflt (refine' code_turn ?k1 ?k2 ?k3 ?k4 ?k5 ?XB ?TB ?D ?T0 ?kA ?kF ?kK ?k6 ?k7 ?k8 ?k9 ?kB ?_ ?c2 ?c3 ?c4 ?c5; (case kA => exact rfl); (case kF => exact rfl); (case kK => assumption); (case k2 => k_asm); (case k1 => k_asm); (case XB => k_asm); (case TB => k_asm); (case D => k_asm); (case T0 => exact T0); (case k3 => k_asm); (case k4 => k_asm); (case k5 => k_asm); (case k6 => k_is); (case k7 => k_is); (case k8 => ktr_room); (case k9 => exact BindsTo.of_eq rfl); (case kB => exact locs rfl); (case c2 => exact rfl); (case c3 => exact rfl); (case c4 => exact rfl); (case c5 => decide); k_whole; intro g' L' h' FG' F' N' B' X' T' D'; (try dsimp only); (try k_lift B'); (try k_fold))
  (w_top off; k_with_none; (k_with "getAttr ref" => (k_here; k_dflt (refine get_own (by k_asm) (by k_asm) (by k_inst) (by k_is) (by k_is) (by k_is) (by k_is) (by assumption) (by k_handed) ?_; k_whole))); (k_with "leaving ref" => (k_here; (refine leave_onSN (by assumption) (by assumption) (by assumption) (by assumption) ?_; k_whole); intro h' R' U1 U'; clear U1; (try dsimp only at R' U' ⊢))); (k_with "noteFrame ref" => (k_here; k_dflt (refine caught_ada tag (by assumption) (by assumption) (by assumption) (by assumption) (by k_asm) (by k_asm) (by k_asm) (by first | with_reducible assumption | exact KtsTurn.refl | assumption) ?_ (by exact rfl) (by exact rfl) (by passes_own)); intro h' g' T' F' N' B' X' Tp' D'; (try k_lift B'); (try k_sweep))); (k_with "call ref" => (k_here; (with_reducible show wpAny _ _ (PySem.call (Value.ref 130) _) _ _ _); k_dflt (refine Acts.go (by k_asm) (by k_asm) (by k_asm) (by k_asm) (by k_asm) (by first | exact rfl | assumption) (by trivial) (by ktr_room) (by ktr_units) (convto_c (by assumption) (by assumption) tag) ?_); refine ⟨fun t9 h9 tk9 F9 N9 P9 => ?_, fun e9 g9 h9 t9 x9 F9 R9 U9 => ?_⟩; (all_goals (try dsimp only at N9 P9)); (all_goals (try dsimp only)))); repeat' (first | (k_unfold; (try dsimp only)) | (k_end; wrow_close) | ((first | (with_reducible show wpAny _ _ (exec _ _) _ _ _) | (with_reducible show wpAny _ _ (eval (Expr.Call _ _ _ _) _) _ _ _) | (with_reducible show wpAny _ _ (eval (Expr.Compare _ _ _ _) _) _ _ _) | (with_reducible show wpAny _ _ (eval (Expr.Subscript _ _ _) _) _ _ _) | (with_reducible show wpAny _ _ (eval (Expr.BinOp _ _ _ _) _) _ _ _) | (with_reducible show wpAny _ _ (eval (Expr.ListComp _ _ _ _) _) _ _ _) | (with_reducible show wpAny _ _ (isTrue (Expr.Compare _ _ _ _) _ _) _ _ _)); k_fold) | walk1 | (dsimp only; walk1) | (leave1; (try dsimp only)) | fail "no step"))
  all_goals first | (rw [withinV_some (by assumption)] at hret; exact hret _ _ _ _ (by k_asm) (by k_asm) (by first | k_asm | exact news_tl (by first | k_asm | exact news_tl (by first | k_asm | exact news_tl (by first | k_asm | exact news_tl (by first | k_asm | exact news_tl (by first | k_asm | exact news_tl (by k_asm))))))) (by k_asm) (by k_asm) (by k_asm) (by k_asm) (by trivial)) | (rw [withinV_none (by assumption)] at hret; exact hret 0 _ _ _ (by k_asm) (by k_asm) (by first | k_asm | exact news_tl (by first | k_asm | exact news_tl (by first | k_asm | exact news_tl (by first | k_asm | exact news_tl (by first | k_asm | exact news_tl (by first | k_asm | exact news_tl (by k_asm))))))) (by k_asm) (by k_asm) (by k_asm) (by k_asm) (by trivial))
end


/-- the number, converted to a plain type, where it lies in its range -/
def intoV (T Y : Ty) (v : Int) : Option Int := if T.lo ≤ convV T Y v ∧ convV T Y v ≤ T.hi then some (convV T Y v) else none
theorem withinV_plain {dx : Addr} {es : List DictEntry} {n : Nat} {ty : Addr} {T Y : Ty} {v : Int} : withinV ⟨dx, es, n, ty, T, T.lo, T.hi⟩ Y v = intoV T Y v := by
  unfold withinV intoV InR
  simp only [and_self]
theorem sub_plain {news : Led} {x dx tx : Addr} {es : List DictEntry} {n : Nat} {T : Ty} (h1 : (x, instObj 406 dx) ∈ news) (h2 : (dx, dictOf es n) ∈ news) (h3 : getL (Str.ofString "type") es = some (some (.ref tx)))
    (h4 : getL (Str.ofString "constraint") es = some (some .none)) (HT : TyIn news tx T) : SubIn news x ⟨dx, es, n, tx, T, T.lo, T.hi⟩ := ⟨h1, h2, h3, HT, .inl ⟨h4, rfl, rfl⟩⟩

section
theorem into_c {prog : Program} {w : World} {x y : Addr} {T Y : Ty} {news : Led} {v : Int} {tv : Tok} (HT : TyIn news x T) (HY : TyIn news y Y) :
    Tag PySem.Challenge.rw_sa0007_01 hd.heap_1 → ActsT prog w 18 452 [.ref x, .ref y, .int v tv] news AnyB (ι := Tok) (fun _ => news) (fun t => optV (intoV T Y v) t) (fun _ => True) := by
  k_fill
  intro _ mean mg mb dp un gd cn cs a ccd cl outer A₀ base g₀ h₀ L m s Q E B F X N Tp hk hB hdp hun XB TB D T0 hret
  refine wpAny_call ?_
  k_dflt (refine' code_turn ?k1 ?k2 ?k3 ?k4 ?k5 ?XB ?TB ?D ?T0 ?kA ?kF ?kK ?k6 ?k7 ?k8 ?k9 ?kB ?_ ?c2 ?c3 ?c4 ?c5; (case kA => exact rfl); (case kF => exact rfl); (case kK => assumption); (case k2 => k_asm); (case k1 => k_asm); (case XB => k_asm); (case TB => k_asm); (case D => k_asm); (case T0 => exact T0); (case k3 => k_asm); (case k4 => k_asm); (case k5 => k_asm); (case k6 => k_is); (case k7 => k_is); (case k8 => ktr_room); (case k9 => exact BindsTo.of_eq rfl); (case kB => exact locs rfl); (case c2 => exact rfl); (case c3 => exact rfl); (case c4 => exact rfl); (case c5 => decide); k_whole; intro g' L' h' FG' F' N' B' X' T' D'; (try dsimp only); (try k_lift B'); (try k_fold))
  (w_top off; k_with_none; (k_with "leaving ref" => (k_here; (refine leave_onSN (by assumption) (by assumption) (by assumption) (by assumption) ?_; k_whole); intro h' R' U1 U'; clear U1; (try dsimp only at R' U' ⊢))); (k_with "call ref" => (k_here; (with_reducible show wpAny _ _ (PySem.call (Value.ref 459) _) _ _ _); k_dflt (refine ActsT.go (by k_asm) (by k_asm) (by k_asm) (by k_asm) (by k_asm) (by first | exact rfl | assumption) (by trivial) (by ktr_room) (by ktr_units) (by k_asm) (by k_asm) (by k_asm) (by first | with_reducible assumption | exact KtsTurn.refl | assumption) (within_c (by exact sub_plain (by k_mem) (by k_mem) (by k_get) (by k_get) (TyIn.cons (TyIn.cons (by assumption)))) (by exact TyIn.cons (TyIn.cons (by assumption))) tag) ?_); (try (rename Fr _ _ _ _ => o1; clear o1)); (try (rename News _ _ _ _ => o2; clear o2)); (try (rename Below _ _ _ _ => o3; clear o3)); (try (rename KtsDicts _ _ => o4; clear o4)); intro t9 g9 h9 tk9 T9 F9 N9 B9 X9 Tp9 D9 P9; (try dsimp only at N9 P9); (try dsimp only); (try k_lift B9); (try rw [withinV_plain]))); repeat' (first | (k_unfold; (try dsimp only)) | (k_end; wrow_close) | ((first | (with_reducible show wpAny _ _ (exec _ _) _ _ _) | (with_reducible show wpAny _ _ (eval (Expr.Call _ _ _ _) _) _ _ _) | (with_reducible show wpAny _ _ (eval (Expr.Compare _ _ _ _) _) _ _ _) | (with_reducible show wpAny _ _ (eval (Expr.Subscript _ _ _) _) _ _ _) | (with_reducible show wpAny _ _ (eval (Expr.BinOp _ _ _ _) _) _ _ _) | (with_reducible show wpAny _ _ (eval (Expr.ListComp _ _ _ _) _) _ _ _) | (with_reducible show wpAny _ _ (isTrue (Expr.Compare _ _ _ _) _ _) _ _ _)); k_fold) | walk1 | (dsimp only; walk1) | (leave1; (try dsimp only)) | fail "no step"))
  all_goals first | exact hret _ _ _ _ (by k_asm) (by k_asm) (by first | k_asm | exact news_tl (by first | k_asm | exact news_tl (by first | k_asm | exact news_tl (by first | k_asm | exact news_tl (by first | k_asm | exact news_tl (by first | k_asm | exact news_tl (by k_asm))))))) (by k_asm) (by k_asm) (by k_asm) (by k_asm) (by trivial)
end


theorem ft_val {T X Y : Ty} (hT : T.fx = true) (ha : Y.a = 1) (hb : Y.b = 1) (v : Int) : cutQ (v * X.a * 1 * Y.a * T.b) (X.b * Y.b * T.a) = convV T X v := by
  unfold convV; rw [hT, ha, hb, Int.mul_one, Int.mul_one, Int.mul_one]; rfl
theorem fo_val {T X Y : Ty} (hT : T.fx = true) (ha : Y.a = 1) (hb : Y.b = 1) (v : Int) : cutQ (v * X.a * Y.b * T.b) (X.b * 1 * Y.a * T.a) = convV T X v := by
  unfold convV; rw [hT, ha, hb, Int.mul_one, Int.mul_one, Int.mul_one]; rfl
theorem intoV_some {T Y : Ty} {v : Int} (h : T.lo ≤ convV T Y v ∧ convV T Y v ≤ T.hi) : intoV T Y v = some (convV T Y v) := if_pos h
theorem intoV_none {T Y : Ty} {v : Int} (h : ¬ (T.lo ≤ convV T Y v ∧ convV T Y v ≤ T.hi)) : intoV T Y v = none := if_neg h

section
theorem times_c {prog : Program} {w : World} {x y z : Addr} {T X Y : Ty} {news : Led} {v : Int} {tv t1 : Tok} (HT : TyIn news x T) (HX : TyIn news y X) (HY : TyIn news z Y) (hT : T.fx = true) (ha : Y.a = 1) (hb : Y.b = 1) :
    Tag PySem.Challenge.rw_sa0007_01 hd.heap_1 → Acts prog w 12 298 [.ref x, .int v tv, .ref y, .int 1 t1, .ref z] news AnyB (ι := Tok) (fun _ => news) (fun t => .int (convV T X v) t) (fun _ => T.lo ≤ convV T X v ∧ convV T X v ≤ T.hi) (¬ (T.lo ≤ convV T X v ∧ convV T X v ≤ T.hi)) := by
  k_fill
  intro _ mean mg mb dp un gd cn cs a ccd cl outer A₀ base h₀ L m s Q E B F XX N Tp hk hB hdp hun hret herr
  obtain ⟨hden, hden2⟩ := conv_den HT HX
  have hd1 : 0 < X.b * Y.b * T.a := by rw [hb, Int.mul_one]; exact hden
  have hd2 : X.b * Y.b * T.a < 1073741824 := by rw [hb, Int.mul_one]; omega
  obtain ⟨a1, a2, a3, a4⟩ : 0 < T.a ∧ T.a ≤ 1000 ∧ 0 < T.b ∧ T.b ≤ 1000 := ⟨HT.apos, HT.aub, HT.bpos, HT.bub⟩
  obtain ⟨b1, b2, b3, b4⟩ : 0 < X.a ∧ X.a ≤ 1000 ∧ 0 < X.b ∧ X.b ≤ 1000 := ⟨HX.apos, HX.aub, HX.bpos, HX.bub⟩
  rw [← ft_val hT ha hb v] at hret herr
  refine wpAny_call ?_
  k_dflt ktr_enter
  (w_top off; k_with_none; (k_with "getAttr ref" => (k_here; k_dflt (refine get_own (by k_asm) (by k_asm) (by k_inst) (by k_is) (by k_is) (by k_is) (by k_is) (by assumption) (by k_handed) ?_; k_whole))); (k_with "leaving ref" => (k_here; (refine leave_onSN (by assumption) (by assumption) (by assumption) (by assumption) ?_; k_whole); intro h' R' U1 U'; clear U1; (try dsimp only at R' U' ⊢))); (k_with "call ref" => (k_here; (with_reducible show wpAny _ _ (PySem.call (Value.ref 116) _) _ _ _); k_dflt (refine Acts.goN (by k_asm) (by k_asm) (by k_asm) (by k_asm) (by k_asm) (by first | exact rfl | assumption) (by trivial) (by ktr_room) (by ktr_units) (small_c (by first | assumption | exact TyIn.cons (by assumption) | exact TyIn.cons (TyIn.cons (by assumption)) | exact TyIn.cons (TyIn.cons (TyIn.cons (by assumption))) | exact TyIn.cons (TyIn.cons (TyIn.cons (TyIn.cons (by assumption)))) | exact TyIn.cons (TyIn.cons (TyIn.cons (TyIn.cons (TyIn.cons (by assumption)))))) tag) ?_); intro t9 h9 tk9 F9 N9 P9; (try dsimp only at N9 P9); (try dsimp only); (obtain ⟨a9, t9, u9⟩ := t9); (try dsimp only at N9); (try dsimp only))); (k_with "call ref" => (k_here; (with_reducible show wpAny _ _ (PySem.call (Value.ref 109) _) _ _ _); k_dflt (refine Acts.goN (by k_asm) (by k_asm) (by k_asm) (by k_asm) (by k_asm) (by first | exact rfl | assumption) (by trivial) (by ktr_room) (by ktr_units) (cut_c (by assumption) (by assumption) tag) ?_); intro t9 h9 tk9 F9 N9 P9; (try dsimp only at N9 P9); (try dsimp only))); (k_with "call ref" => (k_here; (with_reducible show wpAny _ _ (PySem.call (Value.ref 95) _) _ _ _); k_dflt (refine Acts.go (by k_asm) (by k_asm) (by k_asm) (by k_asm) (by k_asm) (by first | exact rfl | assumption) (by trivial) (by ktr_room) (by ktr_units) (base_c (by exact TyIn.cons (TyIn.cons (TyIn.cons (TyIn.cons (TyIn.cons (TyIn.cons (by assumption))))))) tag) ?_); refine ⟨fun t9 h9 tk9 F9 N9 P9 => ?_, fun e9 g9 h9 t9 x9 F9 R9 U9 => ?_⟩; (all_goals (try dsimp only at N9 P9)); (all_goals (try dsimp only)))); repeat' (first | (k_unfold; (try dsimp only)) | (k_end; wrow_close) | ((first | (with_reducible show wpAny _ _ (exec _ _) _ _ _) | (with_reducible show wpAny _ _ (eval (Expr.Call _ _ _ _) _) _ _ _) | (with_reducible show wpAny _ _ (eval (Expr.Compare _ _ _ _) _) _ _ _) | (with_reducible show wpAny _ _ (eval (Expr.Subscript _ _ _) _) _ _ _) | (with_reducible show wpAny _ _ (eval (Expr.BinOp _ _ _ _) _) _ _ _) | (with_reducible show wpAny _ _ (eval (Expr.ListComp _ _ _ _) _) _ _ _) | (with_reducible show wpAny _ _ (isTrue (Expr.Compare _ _ _ _) _ _) _ _ _)); k_fold) | walk1 | (dsimp only; walk1) | (leave1; (try dsimp only)) | fail "no step"))
  all_goals first | exact herr _ _ _ _ (by assumption) (by k_asm) (by first | assumption | exact raised_tl (by first | assumption | exact raised_tl (by first | assumption | exact raised_tl (by first | assumption | exact raised_tl (by first | assumption | exact raised_tl (by first | assumption | exact raised_tl (by assumption))))))) (by assumption) | exact hret _ _ _ (by k_asm) (by first | k_asm | exact news_tl (by first | k_asm | exact news_tl (by first | k_asm | exact news_tl (by first | k_asm | exact news_tl (by first | k_asm | exact news_tl (by first | k_asm | exact news_tl (by k_asm))))))) (by assumption)
theorem over_c {prog : Program} {w : World} {x y z : Addr} {T X Y : Ty} {news : Led} {v : Int} {tv t1 : Tok} (HT : TyIn news x T) (HX : TyIn news y X) (HY : TyIn news z Y) (hT : T.fx = true) (ha : Y.a = 1) (hb : Y.b = 1) :
    Tag PySem.Challenge.rw_sa0007_01 hd.heap_1 → Acts prog w 12 305 [.ref x, .int v tv, .ref y, .int 1 t1, .ref z] news AnyB (ι := Tok) (fun _ => news) (fun t => .int (convV T X v) t) (fun _ => T.lo ≤ convV T X v ∧ convV T X v ≤ T.hi) (¬ (T.lo ≤ convV T X v ∧ convV T X v ≤ T.hi)) := by
  k_fill
  intro _ mean mg mb dp un gd cn cs a ccd cl outer A₀ base h₀ L m s Q E B F XX N Tp hk hB hdp hun hret herr
  obtain ⟨hden, hden2⟩ := conv_den HT HX
  have hd1 : 0 < X.b * 1 * Y.a * T.a := by rw [ha, Int.mul_one, Int.mul_one]; exact hden
  have hd2 : X.b * 1 * Y.a * T.a < 1073741824 := by rw [ha, Int.mul_one, Int.mul_one]; omega
  obtain ⟨a1, a2, a3, a4⟩ : 0 < T.a ∧ T.a ≤ 1000 ∧ 0 < T.b ∧ T.b ≤ 1000 := ⟨HT.apos, HT.aub, HT.bpos, HT.bub⟩
  obtain ⟨b1, b2, b3, b4⟩ : 0 < X.a ∧ X.a ≤ 1000 ∧ 0 < X.b ∧ X.b ≤ 1000 := ⟨HX.apos, HX.aub, HX.bpos, HX.bub⟩
  rw [← fo_val hT ha hb v] at hret herr
  refine wpAny_call ?_
  k_dflt ktr_enter
  (w_top off; k_with_none; (k_with "getAttr ref" => (k_here; k_dflt (refine get_own (by k_asm) (by k_asm) (by k_inst) (by k_is) (by k_is) (by k_is) (by k_is) (by assumption) (by k_handed) ?_; k_whole))); (k_with "leaving ref" => (k_here; (refine leave_onSN (by assumption) (by assumption) (by assumption) (by assumption) ?_; k_whole); intro h' R' U1 U'; clear U1; (try dsimp only at R' U' ⊢))); (k_with "call ref" => (k_here; (with_reducible show wpAny _ _ (PySem.call (Value.ref 116) _) _ _ _); k_dflt (refine Acts.goN (by k_asm) (by k_asm) (by k_asm) (by k_asm) (by k_asm) (by first | exact rfl | assumption) (by trivial) (by ktr_room) (by ktr_units) (small_c (by first | assumption | exact TyIn.cons (by assumption) | exact TyIn.cons (TyIn.cons (by assumption)) | exact TyIn.cons (TyIn.cons (TyIn.cons (by assumption))) | exact TyIn.cons (TyIn.cons (TyIn.cons (TyIn.cons (by assumption)))) | exact TyIn.cons (TyIn.cons (TyIn.cons (TyIn.cons (TyIn.cons (by assumption)))))) tag) ?_); intro t9 h9 tk9 F9 N9 P9; (try dsimp only at N9 P9); (try dsimp only); (obtain ⟨a9, t9, u9⟩ := t9); (try dsimp only at N9); (try dsimp only))); (k_with "call ref" => (k_here; (with_reducible show wpAny _ _ (PySem.call (Value.ref 109) _) _ _ _); k_dflt (refine Acts.goN (by k_asm) (by k_asm) (by k_asm) (by k_asm) (by k_asm) (by first | exact rfl | assumption) (by trivial) (by ktr_room) (by ktr_units) (cut_c (by assumption) (by assumption) tag) ?_); intro t9 h9 tk9 F9 N9 P9; (try dsimp only at N9 P9); (try dsimp only))); (k_with "call ref" => (k_here; (with_reducible show wpAny _ _ (PySem.call (Value.ref 95) _) _ _ _); k_dflt (refine Acts.go (by k_asm) (by k_asm) (by k_asm) (by k_asm) (by k_asm) (by first | exact rfl | assumption) (by trivial) (by ktr_room) (by ktr_units) (base_c (by exact TyIn.cons (TyIn.cons (TyIn.cons (TyIn.cons (TyIn.cons (TyIn.cons (by assumption))))))) tag) ?_); refine ⟨fun t9 h9 tk9 F9 N9 P9 => ?_, fun e9 g9 h9 t9 x9 F9 R9 U9 => ?_⟩; (all_goals (try dsimp only at N9 P9)); (all_goals (try dsimp only)))); repeat' (first | (k_unfold; (try dsimp only)) | (k_end; wrow_close) | ((first | (with_reducible show wpAny _ _ (exec _ _) _ _ _) | (with_reducible show wpAny _ _ (eval (Expr.Call _ _ _ _) _) _ _ _) | (with_reducible show wpAny _ _ (eval (Expr.Compare _ _ _ _) _) _ _ _) | (with_reducible show wpAny _ _ (eval (Expr.Subscript _ _ _) _) _ _ _) | (with_reducible show wpAny _ _ (eval (Expr.BinOp _ _ _ _) _) _ _ _) | (with_reducible show wpAny _ _ (eval (Expr.ListComp _ _ _ _) _) _ _ _) | (with_reducible show wpAny _ _ (isTrue (Expr.Compare _ _ _ _) _ _) _ _ _)); k_fold) | walk1 | (dsimp only; walk1) | (leave1; (try dsimp only)) | fail "no step"))
  all_goals first | exact herr _ _ _ _ (by assumption) (by k_asm) (by first | assumption | exact raised_tl (by first | assumption | exact raised_tl (by first | assumption | exact raised_tl (by first | assumption | exact raised_tl (by first | assumption | exact raised_tl (by first | assumption | exact raised_tl (by assumption))))))) (by assumption) | exact hret _ _ _ (by k_asm) (by first | k_asm | exact news_tl (by first | k_asm | exact news_tl (by first | k_asm | exact news_tl (by first | k_asm | exact news_tl (by first | k_asm | exact news_tl (by first | k_asm | exact news_tl (by k_asm))))))) (by assumption)
end
section
theorem reckonT_c {prog : Program} {w : World} {x y z : Addr} {T X Y : Ty} {news : Led} {v : Int} {tv : Tok} (HT : TyIn news x T) (HX : TyIn news y X) (HY : TyIn news z Y) (hT : T.fx = true) (ha : Y.a = 1) (hb : Y.b = 1) :
    Tag PySem.Challenge.rw_sa0007_01 hd.heap_1 → ActsT prog w 16 466 [.ref 298, .ref x, .int v tv, .ref y, .ref z] news AnyB (ι := Tok) (fun _ => news) (fun t => optV (intoV T X v) t) (fun _ => True) := by
  k_fill
  intro _ mean mg mb dp un gd cn cs a ccd cl outer A₀ base g₀ h₀ L m s Q E B F XX N Tp hk hB hdp hun XB TB D T0 hret
  refine wpAny_call ?_
  k_dflt (refine' code_turn ?k1 ?k2 ?k3 ?k4 ?k5 ?XB ?TB ?D ?T0 ?kA ?kF ?kK ?k6 ?k7 ?k8 ?k9 ?kB ?_ ?c2 ?c3 ?c4 ?c5; (case kA => exact rfl); (case kF => exact rfl); (case kK => assumption); (case k2 => k_asm); (case k1 => k_asm); (case XB => k_asm); (case TB => k_asm); (case D => k_asm); (case T0 => exact T0); (case k3 => k_asm); (case k4 => k_asm); (case k5 => k_asm); (case k6 => k_is); (case k7 => k_is); (case k8 => ktr_room); (case k9 => exact BindsTo.of_eq rfl); (case kB => exact locs rfl); (case c2 => exact rfl); (case c3 => exact rfl); (case c4 => exact rfl); (case c5 => decide); k_whole; intro g' L' h' FG' F' N' B' X' T' D'; (try dsimp only); (try k_lift B'); (try k_fold))
  (w_top off; k_with_none; (k_with "getAttr ref" => (k_here; k_dflt (refine get_own (by k_asm) (by k_asm) (by k_inst) (by k_is) (by k_is) (by k_is) (by k_is) (by assumption) (by k_handed) ?_; k_whole))); (k_with "leaving ref" => (k_here; (refine leave_onSN (by assumption) (by assumption) (by assumption) (by assumption) ?_; k_whole); intro h' R' U1 U'; clear U1; (try dsimp only at R' U' ⊢))); (k_with "noteFrame ref" => (k_here; k_dflt (refine caught_ada tag (by assumption) (by assumption) (by assumption) (by assumption) (by k_asm) (by k_asm) (by k_asm) (by first | with_reducible assumption | exact KtsTurn.refl | assumption) ?_ (by exact rfl) (by exact rfl) (by passes_own)); intro h' g' T' F' N' B' X' Tp' D'; (try k_lift B'); (try k_sweep))); (k_with "call ref" => (k_here; (with_reducible show wpAny _ _ (PySem.call (Value.ref 298) _) _ _ _); k_dflt (refine Acts.go (by k_asm) (by k_asm) (by k_asm) (by k_asm) (by k_asm) (by first | exact rfl | assumption) (by trivial) (by ktr_room) (by ktr_units) (times_c (by assumption) (by assumption) (by assumption) (by assumption) (by assumption) (by assumption) tag) ?_); refine ⟨fun t9 h9 tk9 F9 N9 P9 => ?_, fun e9 g9 h9 t9 x9 F9 R9 U9 => ?_⟩; (all_goals (try dsimp only at N9 P9)); (all_goals (try dsimp only)))); (k_with "call ref" => (k_here; (with_reducible show wpAny _ _ (PySem.call (Value.ref 305) _) _ _ _); k_dflt (refine Acts.go (by k_asm) (by k_asm) (by k_asm) (by k_asm) (by k_asm) (by first | exact rfl | assumption) (by trivial) (by ktr_room) (by ktr_units) (over_c (by assumption) (by assumption) (by assumption) (by assumption) (by assumption) (by assumption) tag) ?_); refine ⟨fun t9 h9 tk9 F9 N9 P9 => ?_, fun e9 g9 h9 t9 x9 F9 R9 U9 => ?_⟩; (all_goals (try dsimp only at N9 P9)); (all_goals (try dsimp only)))); repeat' (first | (k_unfold; (try dsimp only)) | (k_end; wrow_close) | ((first | (with_reducible show wpAny _ _ (exec _ _) _ _ _) | (with_reducible show wpAny _ _ (eval (Expr.Call _ _ _ _) _) _ _ _) | (with_reducible show wpAny _ _ (eval (Expr.Compare _ _ _ _) _) _ _ _) | (with_reducible show wpAny _ _ (eval (Expr.Subscript _ _ _) _) _ _ _) | (with_reducible show wpAny _ _ (eval (Expr.BinOp _ _ _ _) _) _ _ _) | (with_reducible show wpAny _ _ (eval (Expr.ListComp _ _ _ _) _) _ _ _) | (with_reducible show wpAny _ _ (isTrue (Expr.Compare _ _ _ _) _ _) _ _ _)); k_fold) | walk1 | (dsimp only; walk1) | (leave1; (try dsimp only)) | fail "no step"))
  all_goals first | (rw [intoV_some (by assumption)] at hret; exact hret _ _ _ _ (by k_asm) (by k_asm) (by first | k_asm | exact news_tl (by first | k_asm | exact news_tl (by first | k_asm | exact news_tl (by first | k_asm | exact news_tl (by first | k_asm | exact news_tl (by first | k_asm | exact news_tl (by k_asm))))))) (by k_asm) (by k_asm) (by k_asm) (by k_asm) (by trivial)) | (rw [intoV_none (by assumption)] at hret; exact hret 0 _ _ _ (by k_asm) (by k_asm) (by first | k_asm | exact news_tl (by first | k_asm | exact news_tl (by first | k_asm | exact news_tl (by first | k_asm | exact news_tl (by first | k_asm | exact news_tl (by first | k_asm | exact news_tl (by k_asm))))))) (by k_asm) (by k_asm) (by k_asm) (by k_asm) (by trivial))
theorem reckonO_c {prog : Program} {w : World} {x y z : Addr} {T X Y : Ty} {news : Led} {v : Int} {tv : Tok} (HT : TyIn news x T) (HX : TyIn news y X) (HY : TyIn news z Y) (hT : T.fx = true) (ha : Y.a = 1) (hb : Y.b = 1) :
    Tag PySem.Challenge.rw_sa0007_01 hd.heap_1 → ActsT prog w 16 466 [.ref 305, .ref x, .int v tv, .ref y, .ref z] news AnyB (ι := Tok) (fun _ => news) (fun t => optV (intoV T X v) t) (fun _ => True) := by
  k_fill
  intro _ mean mg mb dp un gd cn cs a ccd cl outer A₀ base g₀ h₀ L m s Q E B F XX N Tp hk hB hdp hun XB TB D T0 hret
  refine wpAny_call ?_
  k_dflt (refine' code_turn ?k1 ?k2 ?k3 ?k4 ?k5 ?XB ?TB ?D ?T0 ?kA ?kF ?kK ?k6 ?k7 ?k8 ?k9 ?kB ?_ ?c2 ?c3 ?c4 ?c5; (case kA => exact rfl); (case kF => exact rfl); (case kK => assumption); (case k2 => k_asm); (case k1 => k_asm); (case XB => k_asm); (case TB => k_asm); (case D => k_asm); (case T0 => exact T0); (case k3 => k_asm); (case k4 => k_asm); (case k5 => k_asm); (case k6 => k_is); (case k7 => k_is); (case k8 => ktr_room); (case k9 => exact BindsTo.of_eq rfl); (case kB => exact locs rfl); (case c2 => exact rfl); (case c3 => exact rfl); (case c4 => exact rfl); (case c5 => decide); k_whole; intro g' L' h' FG' F' N' B' X' T' D'; (try dsimp only); (try k_lift B'); (try k_fold))
  (w_top off; k_with_none; (k_with "getAttr ref" => (k_here; k_dflt (refine get_own (by k_asm) (by k_asm) (by k_inst) (by k_is) (by k_is) (by k_is) (by k_is) (by assumption) (by k_handed) ?_; k_whole))); (k_with "leaving ref" => (k_here; (refine leave_onSN (by assumption) (by assumption) (by assumption) (by assumption) ?_; k_whole); intro h' R' U1 U'; clear U1; (try dsimp only at R' U' ⊢))); (k_with "noteFrame ref" => (k_here; k_dflt (refine caught_ada tag (by assumption) (by assumption) (by assumption) (by assumption) (by k_asm) (by k_asm) (by k_asm) (by first | with_reducible assumption | exact KtsTurn.refl | assumption) ?_ (by exact rfl) (by exact rfl) (by passes_own)); intro h' g' T' F' N' B' X' Tp' D'; (try k_lift B'); (try k_sweep))); (k_with "call ref" => (k_here; (with_reducible show wpAny _ _ (PySem.call (Value.ref 298) _) _ _ _); k_dflt (refine Acts.go (by k_asm) (by k_asm) (by k_asm) (by k_asm) (by k_asm) (by first | exact rfl | assumption) (by trivial) (by ktr_room) (by ktr_units) (times_c (by assumption) (by assumption) (by assumption) (by assumption) (by assumption) (by assumption) tag) ?_); refine ⟨fun t9 h9 tk9 F9 N9 P9 => ?_, fun e9 g9 h9 t9 x9 F9 R9 U9 => ?_⟩; (all_goals (try dsimp only at N9 P9)); (all_goals (try dsimp only)))); (k_with "call ref" => (k_here; (with_reducible show wpAny _ _ (PySem.call (Value.ref 305) _) _ _ _); k_dflt (refine Acts.go (by k_asm) (by k_asm) (by k_asm) (by k_asm) (by k_asm) (by first | exact rfl | assumption) (by trivial) (by ktr_room) (by ktr_units) (over_c (by assumption) (by assumption) (by assumption) (by assumption) (by assumption) (by assumption) tag) ?_); refine ⟨fun t9 h9 tk9 F9 N9 P9 => ?_, fun e9 g9 h9 t9 x9 F9 R9 U9 => ?_⟩; (all_goals (try dsimp only at N9 P9)); (all_goals (try dsimp only)))); repeat' (first | (k_unfold; (try dsimp only)) | (k_end; wrow_close) | ((first | (with_reducible show wpAny _ _ (exec _ _) _ _ _) | (with_reducible show wpAny _ _ (eval (Expr.Call _ _ _ _) _) _ _ _) | (with_reducible show wpAny _ _ (eval (Expr.Compare _ _ _ _) _) _ _ _) | (with_reducible show wpAny _ _ (eval (Expr.Subscript _ _ _) _) _ _ _) | (with_reducible show wpAny _ _ (eval (Expr.BinOp _ _ _ _) _) _ _ _) | (with_reducible show wpAny _ _ (eval (Expr.ListComp _ _ _ _) _) _ _ _) | (with_reducible show wpAny _ _ (isTrue (Expr.Compare _ _ _ _) _ _) _ _ _)); k_fold) | walk1 | (dsimp only; walk1) | (leave1; (try dsimp only)) | fail "no step"))
  all_goals first | (rw [intoV_some (by assumption)] at hret; exact hret _ _ _ _ (by k_asm) (by k_asm) (by first | k_asm | exact news_tl (by first | k_asm | exact news_tl (by first | k_asm | exact news_tl (by first | k_asm | exact news_tl (by first | k_asm | exact news_tl (by first | k_asm | exact news_tl (by k_asm))))))) (by k_asm) (by k_asm) (by k_asm) (by k_asm) (by trivial)) | (rw [intoV_none (by assumption)] at hret; exact hret 0 _ _ _ (by k_asm) (by k_asm) (by first | k_asm | exact news_tl (by first | k_asm | exact news_tl (by first | k_asm | exact news_tl (by first | k_asm | exact news_tl (by first | k_asm | exact news_tl (by first | k_asm | exact news_tl (by k_asm))))))) (by k_asm) (by k_asm) (by k_asm) (by k_asm) (by trivial))
end


abbrev reelO (sc : Addr) (k : Int) (t : Tok) : Obj := listOf #[.ref sc, .int k t] 0
abbrev Script (sc : Addr) (vs : List Value) (ns : List Int) : Heap → Prop := fun base => base.IsList sc vs.toArray ∧ IntsAre vs ns ∧ ns.length < 1000

theorem fm_range {a b : Int} (hb : 0 < b) : 0 ≤ a.fmod b ∧ a.fmod b < b := by
  rw [Int.fmod_eq_emod_of_nonneg _ (Int.le_of_lt hb)]
  exact ⟨Int.emod_nonneg _ (by omega), Int.emod_lt_of_pos _ hb⟩

section
local macro_rules | `(tactic| k_all) => `(tactic| assumption)
theorem wind_c {prog : Program} {w : World} {r sc : Addr} {k : Int} {tk : Tok} {vs : List Value} {ns : List Int} {many : Int} {tm : Tok} {rest : Led} (hk0 : 0 ≤ k) (hk1 : k < 1000) (hm : 0 < many) (hm1 : many < 1000000) (hr : ∀ p ∈ rest, p.1 ≠ r) :
    Tag PySem.Challenge.rw_sa0007_01 hd.heap_1 → Acts prog w 2 445 [.ref r, .int many tm] ((r, reelO sc k tk) :: rest) (Script sc vs ns) (ι := Int × Tok × Tok) (fun i => (r, reelO sc (k + 1) i.2.1) :: rest) (fun i => .int i.1 i.2.2) (fun i => 0 ≤ i.1 ∧ i.1 < many) False := by
  k_fill
  intro _ mean mg mb dp un gd cn cs a ccd cl outer A₀ base h₀ L m s Q E B F X N Tp hk hB hdp hun hret herr
  obtain ⟨hB1, hB2, hB3⟩ := hB
  refine wpAny_call ?_
  k_dflt cell_enter
  (w_top off; k_with_none; (k_with "leaving ref" => (k_here; (refine leave_onSN (by assumption) (by assumption) (by assumption) (by assumption) ?_; k_whole); intro h' R' U1 U'; clear U1; (try dsimp only at R' U' ⊢))); repeat' (first | (k_unfold; (try dsimp only)) | (k_end; wrow_close) | ((first | (with_reducible show wpAny _ _ (exec _ _) _ _ _) | (with_reducible show wpAny _ _ (eval (Expr.Call _ _ _ _) _) _ _ _) | (with_reducible show wpAny _ _ (eval (Expr.Compare _ _ _ _) _) _ _ _) | (with_reducible show wpAny _ _ (eval (Expr.Subscript _ _ _) _) _ _ _) | (with_reducible show wpAny _ _ (eval (Expr.BinOp _ _ _ _) _) _ _ _) | (with_reducible show wpAny _ _ (eval (Expr.ListComp _ _ _ _) _) _ _ _) | (with_reducible show wpAny _ _ (isTrue (Expr.Compare _ _ _ _) _ _) _ _ _)); k_fold) | walk1 | (dsimp only; walk1) | (leave1; (try dsimp only)) | fail "no step"))
  all_goals exact hret (_, _, _) _ _ (by k_asm) (by k_asm) (fm_range hm)
end

theorem upd_old {d : Addr} {o o' : Obj} {l l' : Led} (U : Upd d o o' l l') : (d, o) ∈ l := by
  obtain ⟨pre, post, rfl, _, _, _⟩ := U.split
  exact List.mem_append_right _ (.head _)
theorem upd_new {d : Addr} {o o' : Obj} {l l' : Led} (U : Upd d o o' l l') {p : Addr × Obj} (hp : p ∈ l') : p = (d, o') ∨ (p ∈ l ∧ p.1 ≠ d) := by
  obtain ⟨pre, post, rfl, rfl, h1, h2⟩ := U.split
  rcases List.mem_append.mp hp with q | q
  · exact .inr ⟨List.mem_append_left _ q, h1 p q⟩
  · rcases List.mem_cons.mp q with q | q
    · exact .inl q
    · exact .inr ⟨List.mem_append_right _ (.tail _ q), h2 p q⟩

/-- the same, wherever the reel stands in the ledger -/
theorem windU_c {prog : Program} {w : World} {r sc : Addr} {k : Int} {tk : Tok} {vs : List Value} {ns : List Int} {many : Int} {tm : Tok} {news : Led} {nw : Int → Tok → Led}
    (hU : ∀ k' t, Upd r (reelO sc k tk) (reelO sc k' t) news (nw k' t)) (hk0 : 0 ≤ k) (hk1 : k < 1000) (hm : 0 < many) (hm1 : many < 1000000) :
    Tag PySem.Challenge.rw_sa0007_01 hd.heap_1 → Acts prog w 2 445 [.ref r, .int many tm] news (Script sc vs ns) (ι := Int × Tok × Tok × Int) (fun i => nw i.2.2.2 i.2.1) (fun i => .int i.1 i.2.2.1) (fun i => 0 ≤ i.1 ∧ i.1 < many ∧ i.2.2.2 = k + 1) False := by
  intro _ mean mg mb dp un gd cn cs a ccd cl outer A₀ base h₀ L m s Q E B F X N Tp hk hB hdp hun hret herr
  have hr : ∀ p ∈ news.filter (fun p => Nat.beq p.1 r = false), p.1 ≠ r := fun p hp e => by
    have z := of_decide_eq_true (List.mem_filter.mp hp).2
    rw [e, Nat.beq_refl] at z
    cases z
  refine wind_c (tk := tk) (rest := news.filter (fun p => Nat.beq p.1 r = false)) hk0 hk1 hm hm1 hr tag mean mg mb dp un gd cn cs a ccd cl outer A₀ base h₀ L m s Q E B F X (fun p hp => ?_) Tp hk hB hdp hun (fun i h' tk' F' N' P' => ?_) (fun _ _ _ _ x => x.elim)
  · rcases List.mem_cons.mp hp with rfl | hp
    · exact N _ (upd_old (hU 0 0))
    · exact N _ (List.mem_filter.mp hp).1
  · refine hret (i.1, i.2.1, i.2.2, k + 1) h' tk' F' (fun p hp => ?_) ⟨P'.1, P'.2, rfl⟩
    rcases upd_new (hU (k + 1) i.2.1) hp with rfl | ⟨hp, ne⟩
    · exact N' _ (.head _)
    · refine N' _ (.tail _ (List.mem_filter.mpr ⟨hp, ?_⟩))
      have z : Nat.beq p.1 r = false := by
        cases q : Nat.beq p.1 r with
        | false => rfl
        | true => exact absurd (Nat.eq_of_beq_eq_true q) ne
      exact decide_eq_true z


/-- what the attributes of a Type hold -/
structure Body (T : Ty) : Prop where
  kind : getL (Str.ofString "kind") T.es = some (some (.str T.kd T.tk))
  low : getL (Str.ofString "low") T.es = some (some (.int T.lo T.tlo))
  high : getL (Str.ofString "high") T.es = some (some (.int T.hi T.thi))
  small : getL (Str.ofString "small") T.es = some (some (.ref T.sm))
structure Open (T : Ty) : Prop where
  num : (getL (Str.ofString "number") T.es).isSome = true
  len : T.es.length ≤ 100

theorem putL_length {name : Str} {h : Int} {k v : Value} : ∀ es : List DictEntry, (putL name h k v es).length ≤ es.length + 1
  | [] => Nat.le_refl _
  | e :: r => by
    unfold putL
    split
    · exact Nat.le_succ _
    · exact Nat.succ_le_succ (putL_length r)
theorem getL_put {name other : Str} {h : Int} {k v x : Value} (hne : name ≠ other) : ∀ {es : List DictEntry}, getL other es = some (some x) → getL other (putL name h k v es) = some (some x)
  | [], e => by cases e
  | d :: r, e => by
    have cut : ∀ {l : List DictEntry}, getL other l = some (some x) ↔ ∃ q, l.find? (·.key.isStr other) = some q ∧ q.val = x := by
      intro l
      unfold getL
      constructor
      · intro z
        split at z
        · rename_i q hq; exact ⟨q, hq, Option.some.inj (Option.some.inj z)⟩
        · split at z <;> cases z
      · rintro ⟨q, hq, rfl⟩
        rw [hq]
    rw [cut] at e ⊢
    obtain ⟨q, hq, hv⟩ := e
    unfold putL
    by_cases hk : d.key.isStr name = true
    · rw [if_pos hk]
      have no : d.key.isStr other = false := by
        cases c : d.key with
        | str s t =>
          rw [c] at hk
          have es : s = name := beq_iff_eq.mp hk
          cases z : (Value.str s t).isStr other with
          | false => rfl
          | true => exact absurd (es.symm.trans (beq_iff_eq.mp z)) hne
        | _ => rw [c] at hk; cases hk
      refine ⟨q, ?_, hv⟩
      rw [List.find?_cons] at hq ⊢
      simp only [no] at hq ⊢
      exact hq
    · rw [if_neg hk]
      rw [List.find?_cons] at hq
      split at hq
      · rename_i c
        refine ⟨q, ?_, hv⟩
        rw [List.find?_cons, c]
        exact hq
      · rename_i c
        obtain ⟨q', hq', hv'⟩ := cut.mp (getL_put (h := h) (k := k) (v := v) hne (es := r) (cut.mpr ⟨q, hq, hv⟩))
        refine ⟨q', ?_, hv'⟩
        rw [List.find?_cons, c]
        exact hq'
theorem Body.put {T : Ty} {h : Int} {k v : Value} {n : Nat} (B : Body T) : Body { T with es := putL (Str.ofString "number") h k v T.es, n := n } :=
  ⟨getL_put (by decide) B.kind, getL_put (by decide) B.low, getL_put (by decide) B.high, getL_put (by decide) B.small⟩

/-- the ledger and the facts behind the making of a Type -/
abbrev Fresh (x : Addr) (T : Ty) (news : Led) : Prop := (∀ p ∈ news, p.1 < T.dx) ∧ @LT.lt Nat _ T.dx x
theorem made_news {h₀ h : Heap} {L x dx sm : Addr} {es : List DictEntry} {n : Nat} {a b : Int} {ta tb : Tok} {news led : Led} (N : News h₀ L h led) (m1 : (x, instObj 385 dx) ∈ led) (m2 : (dx, dictOf es n) ∈ led)
    (m3 : (sm, tupO [.int a ta, .int b tb]) ∈ led) (m4 : ∀ p ∈ news, p ∈ led) : News h₀ L h ((x, instObj 385 dx) :: (dx, dictOf es n) :: (sm, tupO [.int a ta, .int b tb]) :: news) := by
  intro p hp
  rcases List.mem_cons.mp hp with rfl | hp
  · exact N _ m1
  · rcases List.mem_cons.mp hp with rfl | hp
    · exact N _ m2
    · rcases List.mem_cons.mp hp with rfl | hp
      · exact N _ m3
      · exact N _ (m4 _ hp)

theorem made_news2 {h₀ h : Heap} {L x dx : Addr} {es : List DictEntry} {n : Nat} {news led : Led} (N : News h₀ L h led) (m1 : (x, instObj 385 dx) ∈ led) (m2 : (dx, dictOf es n) ∈ led)
    (m4 : ∀ p ∈ news, p ∈ led) : News h₀ L h ((x, instObj 385 dx) :: (dx, dictOf es n) :: news) := by
  intro p hp
  rcases List.mem_cons.mp hp with rfl | hp
  · exact N _ m1
  · rcases List.mem_cons.mp hp with rfl | hp
    · exact N _ m2
    · exact N _ (m4 _ hp)

/-- the attribute is there -/
def Has (x : String) (es : List DictEntry) : Prop := ∃ v, getL (Str.ofString x) es = some (some v)
theorem Has.some {x : String} {es : List DictEntry} (H : Has x es) : (getL (Str.ofString x) es).isSome = true := by
  obtain ⟨v, e⟩ := H
  rw [e]; rfl
theorem getL_self {name : Str} {h : Int} {k v : Value} : ∀ {es : List DictEntry} {x : Value}, getL name es = some (some x) → getL name (putL name h k v es) = some (some v)
  | [], _, e => by cases e
  | d :: r, x, e => by
    have cut : ∀ {l : List DictEntry} {x : Value}, getL name l = some (some x) ↔ ∃ q, l.find? (·.key.isStr name) = some q ∧ q.val = x := by
      intro l x
      unfold getL
      constructor
      · intro z
        split at z
        · rename_i q hq; exact ⟨q, hq, Option.some.inj (Option.some.inj z)⟩
        · split at z <;> cases z
      · rintro ⟨q, hq, rfl⟩
        rw [hq]
    rw [cut] at e ⊢
    obtain ⟨q, hq, hv⟩ := e
    unfold putL
    by_cases hk : d.key.isStr name = true
    · rw [if_pos hk]
      exact ⟨_, List.find?_cons_of_pos hk, rfl⟩
    · rw [if_neg hk]
      rw [List.find?_cons_of_neg (by simpa using hk)] at hq
      obtain ⟨q', hq', hv'⟩ := cut.mp (getL_self (h := h) (k := k) (v := v) (es := r) (cut.mpr ⟨q, hq, hv⟩))
      exact ⟨q', (List.find?_cons_of_neg (by simpa using hk)).trans hq', hv'⟩
theorem Has.put {x y : String} {h : Int} {k v : Value} {es : List DictEntry} (H : Has x es) : Has x (putL (Str.ofString y) h k v es) := by
  obtain ⟨u, e⟩ := H
  by_cases q : Str.ofString y = Str.ofString x
  · rw [q]
    exact ⟨v, getL_self e⟩
  · exact ⟨u, getL_put q e⟩
theorem gp (a b : String) (hne : Str.ofString a ≠ Str.ofString b) {h : Int} {k v x : Value} {es : List DictEntry} (e : getL (Str.ofString b) es = some (some x)) : getL (Str.ofString b) (putL (Str.ofString a) h k v es) = some (some x) := getL_put hne e
theorem len_put {name : Str} {h : Int} {k v : Value} {es : List DictEntry} {n : Nat} (H : es.length ≤ n) : (putL name h k v es).length ≤ n + 1 := Nat.le_trans (putL_length es) (Nat.succ_le_succ H)

section
theorem type_c {prog : Program} {w : World} {kd nm : Str} {tk tn : Tok} {news : Led} :
    Tag PySem.Challenge.rw_sa0007_01 hd.heap_1 → Acts prog w 4 385 [.str kd tk, .str nm tn] news AnyB (ι := Addr × Addr × List DictEntry × Nat × Addr × Tok × Tok) (fun i => (i.1, instObj 385 i.2.1) :: (i.2.1, dictOf i.2.2.1 i.2.2.2.1) :: (i.2.2.2.2.1, tupO [.int 1 i.2.2.2.2.2.1, .int 1 i.2.2.2.2.2.2]) :: news) (fun i => .ref i.1)
      (fun i => (getL (Str.ofString "kind") i.2.2.1 = some (some (.str kd tk)) ∧ getL (Str.ofString "small") i.2.2.1 = some (some (.ref i.2.2.2.2.1))) ∧ (Has "low" i.2.2.1 ∧ Has "high" i.2.2.1 ∧ Has "small" i.2.2.1 ∧ Has "number" i.2.2.1 ∧ Has "modulus" i.2.2.1) ∧ i.2.2.1.length ≤ 40 ∧ (∀ p ∈ news, p.1 < i.2.1) ∧ @LT.lt Nat _ i.2.1 i.1 ∧ @LT.lt Nat _ i.1 i.2.2.2.2.1) False := by
  k_fill
  intro _ mean mg mb dp un gd cn cs a ccd cl outer A₀ base h₀ L m s Q E B F X N Tp hk hB hdp hun hret herr
  have fin : ∀ {x dx sm : Addr} {es : List DictEntry} {n : Nat} {ta tb : Tok} {v1 v2 v3 v4 : Value} {h' : Heap} {tk' : Nat} {led : Led}, Fr h₀ L h' m → News h₀ L h' led → (x, instObj 385 dx) ∈ led → (dx, dictOf es n) ∈ led →
      getL (Str.ofString "small") es = some (some (.ref sm)) → (sm, tupO [.int 1 ta, .int 1 tb]) ∈ led → getL (Str.ofString "kind") es = some (some (.str kd tk)) → getL (Str.ofString "low") es = some (some v1) → getL (Str.ofString "high") es = some (some v2) →
      getL (Str.ofString "number") es = some (some v3) → getL (Str.ofString "modulus") es = some (some v4) → es.length ≤ 40 → (∀ p ∈ news, p ∈ led) → (∀ p ∈ news, p.1 < dx) → @LT.lt Nat _ dx x → @LT.lt Nat _ x sm → Q (.ref x) { s with heap := h', toks := tk' } :=
    fun {x dx sm es n ta tb v1 v2 v3 v4 h' tk' led} F N m1 m2 g1 m3 g2 g3 g4 g5 g6 g7 m4 l1 l2 l3 => hret (x, dx, es, n, sm, ta, tb) h' tk' F (made_news N m1 m2 m3 m4) ⟨⟨g2, g1⟩, ⟨⟨_, g3⟩, ⟨_, g4⟩, ⟨_, g1⟩, ⟨_, g5⟩, ⟨_, g6⟩⟩, g7, l1, l2, l3⟩
  k_dflt (refine' call_cls ?k1 ?k2 ?k3 ?k4 ?k5 ?k6 ?_; (case k1 => k_asm); (case k2 => k_asm); (case k3 => k_asm); (case k4 => k_is); (case k5 => k_is); (case k6 => k_is); k_whole; intro x' d' h' F' N' l1 l2; (try k_lt l1); (try k_lt2 l2); (try k_sweep); ktr_enter)
  (w_top off; k_with_none; (k_with "leaving ref" => (k_here; (refine leave_onSN (by assumption) (by assumption) (by assumption) (by assumption) ?_; k_whole); intro h' R' U1 U'; clear U1; (try dsimp only at R' U' ⊢))); repeat' (first | (k_unfold; (try dsimp only)) | (k_end; wrow_close) | ((first | (with_reducible show wpAny _ _ (exec _ _) _ _ _) | (with_reducible show wpAny _ _ (eval (Expr.Call _ _ _ _) _) _ _ _) | (with_reducible show wpAny _ _ (eval (Expr.Compare _ _ _ _) _) _ _ _) | (with_reducible show wpAny _ _ (eval (Expr.Subscript _ _ _) _) _ _ _) | (with_reducible show wpAny _ _ (eval (Expr.BinOp _ _ _ _) _) _ _ _) | (with_reducible show wpAny _ _ (eval (Expr.ListComp _ _ _ _) _) _ _ _) | (with_reducible show wpAny _ _ (isTrue (Expr.Compare _ _ _ _) _ _) _ _ _)); k_fold) | walk1 | (dsimp only; walk1) | (leave1; (try dsimp only)) | fail "no step"))
  k_dflt (refine' fin ?a1 ?a2 ?a3 ?a4 ?a5 ?a6 ?a7 ?a8 ?a9 ?b1 ?c1 ?b2 ?b3 ?b4 ?b5 ?b6; (case a1 => k_asm); (case a2 => k_asm); (case a3 => k_mem); (case a4 => k_mem); (case a5 => k_get); (case a6 => k_mem); (case a7 => k_get); (case a8 => k_get); (case a9 => k_get); (case b1 => k_get); (case c1 => k_get); (case b2 => exact Nat.le_of_ble_eq_true rfl); (case b3 => (intro p hp; (repeat (first | exact hp | refine List.Mem.tail _ ?_)))); (case b4 => assumption); (case b5 => omega); (case b6 => omega))
end
section
local macro_rules | `(tactic| k_all) => `(tactic| exact fun p hp => Nat.ne_of_lt ((by assumption : ∀ p ∈ _, p.1 < _) p hp))
theorem int_c {prog : Program} {w : World} {nm : Str} {tn : Tok} {lo hi : Int} {tl th : Tok} {news : Led} :
    Tag PySem.Challenge.rw_sa0007_01 hd.heap_1 → Acts prog w 6 417 [.str nm tn, .int lo tl, .int hi th] news AnyB (ι := Addr × Ty) (fun i => (i.1, instObj 385 i.2.dx) :: (i.2.dx, dictOf i.2.es i.2.n) :: (i.2.sm, tupO [.int i.2.a i.2.ta, .int i.2.b i.2.tb]) :: news) (fun i => .ref i.1)
      (fun i => Body i.2 ∧ Open i.2 ∧ (i.2.fx = false ∧ i.2.kd = Str.ofString "int" ∧ i.2.lo = lo ∧ i.2.hi = hi ∧ i.2.a = 1 ∧ i.2.b = 1) ∧ Fresh i.1 i.2 news ∧ @LT.lt Nat _ i.1 i.2.sm) False := by
  k_fill
  intro _ mean mg mb dp un gd cn cs a ccd cl outer A₀ base h₀ L m s Q E B F X N Tp hk hB hdp hun hret herr
  refine wpAny_call ?_
  k_dflt ktr_enter
  (w_top off; k_with_none; (k_with "leaving ref" => (k_here; (refine leave_onSN (by assumption) (by assumption) (by assumption) (by assumption) ?_; k_whole); intro h' R' U1 U'; clear U1; (try dsimp only at R' U' ⊢))); (k_with "setAttr ref" => (k_here; k_dflt (refine set_dict (by k_asm) (by k_asm) (by k_asm) (by k_inst) (by exact rfl) (by k_is) (by k_is) (by k_is) (by k_is) (by exact Has.some (by first | assumption | exact Has.put (by assumption) | exact Has.put (Has.put (by assumption)))) (by exact rfl) (by k_upd) (by exact Nat.le_trans (by first | exact len_put (by assumption) | exact len_put (len_put (by assumption)) | exact len_put (len_put (len_put (by assumption)))) (by omega)) ?_; k_whole; intro h' F' N'; (try k_sweep)))); (k_with "call ref" => (k_here; (with_reducible show wpAny _ _ (PySem.call (Value.ref 385) _) _ _ _); k_dflt (refine Acts.goN (by k_asm) (by k_asm) (by k_asm) (by k_asm) (by k_asm) (by first | exact rfl | assumption) (by trivial) (by ktr_room) (by ktr_units) (type_c tag) ?_); intro i9 h9 tk9 F9 N9 P9; (try dsimp only at N9 P9); (try dsimp only); (obtain ⟨x9, d9, e9, n9, s9, t9, u9⟩ := i9); (try dsimp only at N9 P9); (obtain ⟨⟨g1, g2⟩, ⟨b1, b2, b3, b4, b5⟩, ln9, lt9, l9, m9⟩ := P9); (try dsimp only))); repeat' (first | (k_unfold; (try dsimp only)) | (k_end; wrow_close) | ((first | (with_reducible show wpAny _ _ (exec _ _) _ _ _) | (with_reducible show wpAny _ _ (eval (Expr.Call _ _ _ _) _) _ _ _) | (with_reducible show wpAny _ _ (eval (Expr.Compare _ _ _ _) _) _ _ _) | (with_reducible show wpAny _ _ (eval (Expr.Subscript _ _ _) _) _ _ _) | (with_reducible show wpAny _ _ (eval (Expr.BinOp _ _ _ _) _) _ _ _) | (with_reducible show wpAny _ _ (eval (Expr.ListComp _ _ _ _) _) _ _ _) | (with_reducible show wpAny _ _ (isTrue (Expr.Compare _ _ _ _) _ _) _ _ _)); k_fold) | walk1 | (dsimp only; walk1) | (leave1; (try dsimp only)) | fail "no step"))
  obtain ⟨vl, gl⟩ := b1
  obtain ⟨vh, gh⟩ := b2
  exact hret (x9, ⟨d9, _, _, _, _, false, lo, _, hi, _, s9, 1, t9, 1, u9⟩) _ _ (by k_asm) (by k_asm) ⟨⟨(gp "high" "kind" (by decide) (gp "low" "kind" (by decide) g1)), (gp "high" "low" (by decide) (getL_self gl)), (getL_self (gp "low" "high" (by decide) gh)), (gp "high" "small" (by decide) (gp "low" "small" (by decide) g2))⟩, ⟨Has.some (Has.put (Has.put b4)), Nat.le_trans (len_put (len_put ln9)) (by decide)⟩, ⟨rfl, rfl, rfl, rfl, rfl, rfl⟩, ⟨lt9, l9⟩, m9⟩
theorem mod_c {prog : Program} {w : World} {nm : Str} {tn : Tok} {md : Int} {tl : Tok} {news : Led} :
    Tag PySem.Challenge.rw_sa0007_01 hd.heap_1 → Acts prog w 6 424 [.str nm tn, .int md tl] news AnyB (ι := Addr × Ty) (fun i => (i.1, instObj 385 i.2.dx) :: (i.2.dx, dictOf i.2.es i.2.n) :: (i.2.sm, tupO [.int i.2.a i.2.ta, .int i.2.b i.2.tb]) :: news) (fun i => .ref i.1)
      (fun i => Body i.2 ∧ Open i.2 ∧ (i.2.fx = false ∧ i.2.kd = Str.ofString "mod" ∧ i.2.lo = 0 ∧ i.2.hi = md - 1 ∧ i.2.a = 1 ∧ i.2.b = 1) ∧ Fresh i.1 i.2 news ∧ @LT.lt Nat _ i.1 i.2.sm) False := by
  k_fill
  intro _ mean mg mb dp un gd cn cs a ccd cl outer A₀ base h₀ L m s Q E B F X N Tp hk hB hdp hun hret herr
  refine wpAny_call ?_
  k_dflt ktr_enter
  (w_top off; k_with_none; (k_with "leaving ref" => (k_here; (refine leave_onSN (by assumption) (by assumption) (by assumption) (by assumption) ?_; k_whole); intro h' R' U1 U'; clear U1; (try dsimp only at R' U' ⊢))); (k_with "setAttr ref" => (k_here; k_dflt (refine set_dict (by k_asm) (by k_asm) (by k_asm) (by k_inst) (by exact rfl) (by k_is) (by k_is) (by k_is) (by k_is) (by exact Has.some (by first | assumption | exact Has.put (by assumption) | exact Has.put (Has.put (by assumption)))) (by exact rfl) (by k_upd) (by exact Nat.le_trans (by first | exact len_put (by assumption) | exact len_put (len_put (by assumption)) | exact len_put (len_put (len_put (by assumption)))) (by omega)) ?_; k_whole; intro h' F' N'; (try k_sweep)))); (k_with "call ref" => (k_here; (with_reducible show wpAny _ _ (PySem.call (Value.ref 385) _) _ _ _); k_dflt (refine Acts.goN (by k_asm) (by k_asm) (by k_asm) (by k_asm) (by k_asm) (by first | exact rfl | assumption) (by trivial) (by ktr_room) (by ktr_units) (type_c tag) ?_); intro i9 h9 tk9 F9 N9 P9; (try dsimp only at N9 P9); (try dsimp only); (obtain ⟨x9, d9, e9, n9, s9, t9, u9⟩ := i9); (try dsimp only at N9 P9); (obtain ⟨⟨g1, g2⟩, ⟨b1, b2, b3, b4, b5⟩, ln9, lt9, l9, m9⟩ := P9); (try dsimp only))); repeat' (first | (k_unfold; (try dsimp only)) | (k_end; wrow_close) | ((first | (with_reducible show wpAny _ _ (exec _ _) _ _ _) | (with_reducible show wpAny _ _ (eval (Expr.Call _ _ _ _) _) _ _ _) | (with_reducible show wpAny _ _ (eval (Expr.Compare _ _ _ _) _) _ _ _) | (with_reducible show wpAny _ _ (eval (Expr.Subscript _ _ _) _) _ _ _) | (with_reducible show wpAny _ _ (eval (Expr.BinOp _ _ _ _) _) _ _ _) | (with_reducible show wpAny _ _ (eval (Expr.ListComp _ _ _ _) _) _ _ _) | (with_reducible show wpAny _ _ (isTrue (Expr.Compare _ _ _ _) _ _) _ _ _)); k_fold) | walk1 | (dsimp only; walk1) | (leave1; (try dsimp only)) | fail "no step"))
  obtain ⟨vl, gl⟩ := b1
  obtain ⟨vh, gh⟩ := b2
  exact hret (x9, ⟨d9, _, _, _, _, false, 0, _, md - 1, _, s9, 1, t9, 1, u9⟩) _ _ (by k_asm) (by k_asm) ⟨⟨(gp "high" "kind" (by decide) (gp "low" "kind" (by decide) (gp "modulus" "kind" (by decide) g1))), (gp "high" "low" (by decide) (getL_self (gp "modulus" "low" (by decide) gl))), (getL_self (gp "low" "high" (by decide) (gp "modulus" "high" (by decide) gh))), (gp "high" "small" (by decide) (gp "low" "small" (by decide) (gp "modulus" "small" (by decide) g2)))⟩, ⟨Has.some (Has.put (Has.put (Has.put b4))), Nat.le_trans (len_put (len_put (len_put ln9))) (by decide)⟩, ⟨rfl, rfl, rfl, rfl, rfl, rfl⟩, ⟨lt9, l9⟩, m9⟩
theorem fixed_c {prog : Program} {w : World} {nm : Str} {tn : Tok} {lo hi : Int} {tl th : Tok} {sm : Addr} {a1 b1 : Int} {ta tb : Tok} {news : Led} (hsm : (sm, tupO [.int a1 ta, .int b1 tb]) ∈ news) :
    Tag PySem.Challenge.rw_sa0007_01 hd.heap_1 → Acts prog w 6 431 [.str nm tn, .ref sm, .int lo tl, .int hi th] news AnyB (ι := Addr × Ty) (fun i => (i.1, instObj 385 i.2.dx) :: (i.2.dx, dictOf i.2.es i.2.n) :: news) (fun i => .ref i.1)
      (fun i => Body i.2 ∧ Open i.2 ∧ (i.2.fx = true ∧ i.2.kd = Str.ofString "fixed" ∧ i.2.lo = lo ∧ i.2.hi = hi ∧ i.2.a = a1 ∧ i.2.b = b1) ∧ (i.2.sm = sm ∧ i.2.ta = ta ∧ i.2.tb = tb) ∧ Fresh i.1 i.2 news) False := by
  k_fill
  intro _ mean mg mb dp un gd cn cs a ccd cl outer A₀ base h₀ L m s Q E B F X N Tp hk hB hdp hun hret herr
  refine wpAny_call ?_
  k_dflt ktr_enter
  (w_top off; k_with_none; (k_with "leaving ref" => (k_here; (refine leave_onSN (by assumption) (by assumption) (by assumption) (by assumption) ?_; k_whole); intro h' R' U1 U'; clear U1; (try dsimp only at R' U' ⊢))); (k_with "setAttr ref" => (k_here; k_dflt (refine set_dict (by k_asm) (by k_asm) (by k_asm) (by k_inst) (by exact rfl) (by k_is) (by k_is) (by k_is) (by k_is) (by exact Has.some (by first | assumption | exact Has.put (by assumption) | exact Has.put (Has.put (by assumption)))) (by exact rfl) (by k_upd) (by exact Nat.le_trans (by first | exact len_put (by assumption) | exact len_put (len_put (by assumption)) | exact len_put (len_put (len_put (by assumption)))) (by omega)) ?_; k_whole; intro h' F' N'; (try k_sweep)))); (k_with "call ref" => (k_here; (with_reducible show wpAny _ _ (PySem.call (Value.ref 385) _) _ _ _); k_dflt (refine Acts.goN (by k_asm) (by k_asm) (by k_asm) (by k_asm) (by k_asm) (by first | exact rfl | assumption) (by trivial) (by ktr_room) (by ktr_units) (type_c tag) ?_); intro i9 h9 tk9 F9 N9 P9; (try dsimp only at N9 P9); (try dsimp only); (obtain ⟨x9, d9, e9, n9, s9, t9, u9⟩ := i9); (try dsimp only at N9 P9); (obtain ⟨⟨g1, g2⟩, ⟨b1, b2, b3, b4, b5⟩, ln9, lt9, l9, m9⟩ := P9); (try dsimp only))); repeat' (first | (k_unfold; (try dsimp only)) | (k_end; wrow_close) | ((first | (with_reducible show wpAny _ _ (exec _ _) _ _ _) | (with_reducible show wpAny _ _ (eval (Expr.Call _ _ _ _) _) _ _ _) | (with_reducible show wpAny _ _ (eval (Expr.Compare _ _ _ _) _) _ _ _) | (with_reducible show wpAny _ _ (eval (Expr.Subscript _ _ _) _) _ _ _) | (with_reducible show wpAny _ _ (eval (Expr.BinOp _ _ _ _) _) _ _ _) | (with_reducible show wpAny _ _ (eval (Expr.ListComp _ _ _ _) _) _ _ _) | (with_reducible show wpAny _ _ (isTrue (Expr.Compare _ _ _ _) _ _) _ _ _)); k_fold) | walk1 | (dsimp only; walk1) | (leave1; (try dsimp only)) | fail "no step"))
  obtain ⟨vl, gl⟩ := b1
  obtain ⟨vh, gh⟩ := b2
  exact hret (x9, ⟨d9, _, _, _, _, true, lo, _, hi, _, sm, a1, ta, _, tb⟩) _ _ (by k_asm) (made_news2 (by k_asm) (.head _) (.tail _ (.head _)) fun p hp => .tail _ (.tail _ (.tail _ hp))) ⟨⟨(gp "high" "kind" (by decide) (gp "low" "kind" (by decide) (gp "small" "kind" (by decide) g1))), (gp "high" "low" (by decide) (getL_self (gp "small" "low" (by decide) gl))), (getL_self (gp "low" "high" (by decide) (gp "small" "high" (by decide) gh))), (gp "high" "small" (by decide) (gp "low" "small" (by decide) (getL_self g2)))⟩, ⟨Has.some (Has.put (Has.put (Has.put b4))), Nat.le_trans (len_put (len_put (len_put ln9))) (by decide)⟩, ⟨rfl, rfl, rfl, rfl, rfl, rfl⟩, ⟨rfl, rfl, rfl⟩, ⟨lt9, l9⟩⟩
end
section
local macro_rules | `(tactic| k_all) => `(tactic| assumption)
theorem numbered_c {prog : Program} {w : World} {x : Addr} {T : Ty} {num : Int} {tn : Tok} {rest : Led} (HB : Body T) (HO : Open T) (hdx : @LT.lt Nat _ T.dx x) (hr : ∀ p ∈ rest, p.1 ≠ T.dx) :
    Tag PySem.Challenge.rw_sa0007_01 hd.heap_1 → Acts prog w 2 438 [.ref x, .int num tn] ((x, instObj 385 T.dx) :: (T.dx, dictOf T.es T.n) :: rest) AnyB (ι := List DictEntry × Nat) (fun i => (x, instObj 385 T.dx) :: (T.dx, dictOf i.1 i.2) :: rest) (fun _ => .ref x) (fun i => Body { T with es := i.1, n := i.2 }) False := by
  k_fill
  intro _ mean mg mb dp un gd cn cs a ccd cl outer A₀ base h₀ L m s Q E B F X N Tp hk hB hdp hun hret herr
  obtain ⟨ho1, ho2⟩ := HO
  refine wpAny_call ?_
  k_dflt ktr_enter
  (w_top off; k_with_none; (k_with "leaving ref" => (k_here; (refine leave_onSN (by assumption) (by assumption) (by assumption) (by assumption) ?_; k_whole); intro h' R' U1 U'; clear U1; (try dsimp only at R' U' ⊢))); (k_with "setAttr ref" => (k_here; k_dflt (refine set_dict (by k_asm) (by k_asm) (by k_asm) (by k_inst) (by exact rfl) (by k_is) (by k_is) (by k_is) (by k_is) (by assumption) (by exact rfl) (by k_upd) (by exact Nat.le_trans (putL_length _) (by omega)) ?_; k_whole; intro h' F' N'; (try k_sweep)))); repeat' (first | (k_unfold; (try dsimp only)) | (k_end; wrow_close) | ((first | (with_reducible show wpAny _ _ (exec _ _) _ _ _) | (with_reducible show wpAny _ _ (eval (Expr.Call _ _ _ _) _) _ _ _) | (with_reducible show wpAny _ _ (eval (Expr.Compare _ _ _ _) _) _ _ _) | (with_reducible show wpAny _ _ (eval (Expr.Subscript _ _ _) _) _ _ _) | (with_reducible show wpAny _ _ (eval (Expr.BinOp _ _ _ _) _) _ _ _) | (with_reducible show wpAny _ _ (eval (Expr.ListComp _ _ _ _) _) _ _ _) | (with_reducible show wpAny _ _ (isTrue (Expr.Compare _ _ _ _) _ _) _ _ _)); k_fold) | walk1 | (dsimp only; walk1) | (leave1; (try dsimp only)) | fail "no step"))
  all_goals exact hret (_, _) _ _ (by k_asm) (by k_asm) HB.put
end


/-- the six types of the law -/
structure Sorts where
  l : Addr
  p : Addr
  c : Addr
  f : Addr
  r : Addr
  d : Addr
  g : Addr
  P : Ty
  C : Ty
  F : Ty
  R : Ty
  D : Ty
  G : Ty
  led : Led
  tk : Tok
structure SortsOk (i : Sorts) (r0 : Addr) : Prop where
  off : ∀ q ∈ i.led, q.1 ≠ r0
  list : (i.l, listOf #[.ref i.p, .ref i.c, .ref i.f, .ref i.r, .ref i.d, .ref i.g] 0) ∈ i.led
  hP : TyIn i.led i.p i.P
  hC : TyIn i.led i.c i.C
  hF : TyIn i.led i.f i.F
  hR : TyIn i.led i.r i.R
  hD : TyIn i.led i.d i.D
  hG : TyIn i.led i.g i.G
  vP : i.P.fx = false ∧ i.P.lo = -500 ∧ i.P.hi = 500 ∧ i.P.a = 1 ∧ i.P.b = 1
  vC : i.C.fx = true ∧ i.C.lo = -400 ∧ i.C.hi = 400 ∧ i.C.a = 1 ∧ 2 ≤ i.C.b ∧ i.C.b ≤ 10
  vF : i.F.fx = true ∧ i.F.lo = -2000 ∧ i.F.hi = 2000 ∧ i.F.a = 1 ∧ ∃ q, 2 ≤ q ∧ q ≤ 5 ∧ i.F.b = i.C.b * q
  vR : i.R.fx = true ∧ i.R.lo = -400 ∧ i.R.hi = 400 ∧ 1 ≤ i.R.a ∧ i.R.a ≤ 3 ∧ 2 * i.R.a ≤ i.R.b ∧ i.R.b ≤ 2 * i.R.a + 5
  vD : i.D.fx = false ∧ i.D.lo = 0 ∧ i.D.hi = 23 ∧ i.D.a = 1 ∧ i.D.b = 1
  vG : i.G.fx = true ∧ i.G.lo = -60 ∧ i.G.hi = 60 ∧ 2 ≤ i.G.a ∧ i.G.a ≤ 5 ∧ i.G.b = 1
  kP : i.P.kd = Str.ofString "int"

abbrev offOf (r : Addr) (led : Led) : Led := led.filter (fun p => Nat.beq p.1 r = false)
theorem off_ne {r : Addr} {led : Led} : ∀ q ∈ offOf r led, q.1 ≠ r := fun q hq e => by
  have z := of_decide_eq_true (List.mem_filter.mp hq).2
  rw [e, Nat.beq_refl] at z
  cases z
theorem off_keep {h₀ h : Heap} {L r sc : Addr} {k : Int} {t : Tok} {led : Led} (N : News h₀ L h led) (hr : (r, reelO sc k t) ∈ led) {x : Addr} {o : Obj} (hx : (x, o) ∈ led) (ho : o.cls ≠ .type "list") : (x, o) ∈ offOf r led := by
  refine List.mem_filter.mpr ⟨hx, decide_eq_true ?_⟩
  cases q : Nat.beq x r with
  | false => rfl
  | true =>
    have e : x = r := Nat.eq_of_beq_eq_true q
    subst e
    have a := (N _ hx).1
    have b := (N _ hr).1
    rw [a] at b
    exact absurd (congrArg Obj.cls (Option.some.inj b)) ho
theorem ty_off {h₀ h : Heap} {L r sc : Addr} {k : Int} {t : Tok} {led : Led} (N : News h₀ L h led) (hr : (r, reelO sc k t) ∈ led) {x : Addr} {T : Ty} (H : TyIn led x T) : TyIn (offOf r led) x T :=
  { H with inst := off_keep N hr H.inst (show Value.ref 385 ≠ Value.type "list" by decide), dict := off_keep N hr H.dict (show Value.type "dict" ≠ Value.type "list" by decide), tup := off_keep N hr H.tup (show Value.type "tuple" ≠ Value.type "list" by decide) }
theorem ty_made {led : Led} {x sm : Addr} {T : Ty} {e : List DictEntry} {n : Nat} {a b : Int} {ta tb : Tok} (hb : Body { T with es := e, n := n }) (m1 : (x, instObj 385 T.dx) ∈ led) (m2 : (T.dx, dictOf e n) ∈ led) (m3 : (sm, tupO [.int a ta, .int b tb]) ∈ led)
    (es : T.sm = sm ∧ T.ta = ta ∧ T.tb = tb) (ea : T.a = a) (eb : T.b = b) (hw : (T.fx = true ∧ T.kd = Str.ofString "fixed") ∨ (T.fx = false ∧ (T.kd = Str.ofString "int" ∨ T.kd = Str.ofString "mod") ∧ T.a = 1 ∧ T.b = 1))
    (h1 : 0 < a ∧ a ≤ 1000) (h2 : 0 < b ∧ b ≤ 1000) : TyIn led x { T with es := e, n := n } := by
  obtain ⟨rfl, rfl, rfl⟩ := es
  subst ea
  subst eb
  exact ⟨m1, m2, hb.kind, hb.low, hb.high, hb.small, m3, hw, h1.1, h1.2, h2.1, h2.2⟩

theorem sorts_fin {h₀ h : Heap} {L r sc l p c f o d g c1 f1 o1 g1 : Addr} {k : Int} {t : Tok} {led : Led} {P C F R D G : Ty} {pe ce fe re de ge : List DictEntry} {pn cn fn rn dn gn : Nat} {v1 v2 v3 v4 v5 : Int} {ca cb fa fb ra rb ga gb : Tok}
    (N : News h₀ L h led) (hl : (l, listOf #[.ref p, .ref c, .ref f, .ref o, .ref d, .ref g] 0) ∈ led) (hr : (r, reelO sc k t) ∈ led)
    (p1 : (p, instObj 385 P.dx) ∈ led) (p2 : (P.dx, dictOf pe pn) ∈ led) (p3 : (P.sm, tupO [.int P.a P.ta, .int P.b P.tb]) ∈ led)
    (d1 : (d, instObj 385 D.dx) ∈ led) (d2 : (D.dx, dictOf de dn) ∈ led) (d3 : (D.sm, tupO [.int D.a D.ta, .int D.b D.tb]) ∈ led)
    (q1 : (c, instObj 385 C.dx) ∈ led) (q2 : (C.dx, dictOf ce cn) ∈ led) (q3 : (c1, tupO [.int 1 ca, .int (v1 + 2) cb]) ∈ led)
    (f1' : (f, instObj 385 F.dx) ∈ led) (f2' : (F.dx, dictOf fe fn) ∈ led) (f3' : (f1, tupO [.int 1 fa, .int ((v1 + 2) * (v2 + 2)) fb]) ∈ led)
    (r1' : (o, instObj 385 R.dx) ∈ led) (r2' : (R.dx, dictOf re rn) ∈ led) (r3' : (o1, tupO [.int (v3 + 1) ra, .int (2 * (v3 + 1) + v4) rb]) ∈ led)
    (g1' : (g, instObj 385 G.dx) ∈ led) (g2' : (G.dx, dictOf ge gn) ∈ led) (g3' : (g1, tupO [.int (v5 + 2) ga, .int 1 gb]) ∈ led)
    (bP : Body { P with es := pe, n := pn }) (bD : Body { D with es := de, n := dn }) (bC : Body { C with es := ce, n := cn }) (bF : Body { F with es := fe, n := fn }) (bR : Body { R with es := re, n := rn }) (bG : Body { G with es := ge, n := gn })
    (cP : P.fx = false ∧ P.kd = Str.ofString "int" ∧ P.lo = -500 ∧ P.hi = 500 ∧ P.a = 1 ∧ P.b = 1) (cD : D.fx = false ∧ D.kd = Str.ofString "mod" ∧ D.lo = 0 ∧ D.hi = 24 - 1 ∧ D.a = 1 ∧ D.b = 1)
    (cC : C.fx = true ∧ C.kd = Str.ofString "fixed" ∧ C.lo = -400 ∧ C.hi = 400 ∧ C.a = 1 ∧ C.b = v1 + 2) (cF : F.fx = true ∧ F.kd = Str.ofString "fixed" ∧ F.lo = -2000 ∧ F.hi = 2000 ∧ F.a = 1 ∧ F.b = (v1 + 2) * (v2 + 2))
    (cR : R.fx = true ∧ R.kd = Str.ofString "fixed" ∧ R.lo = -400 ∧ R.hi = 400 ∧ R.a = v3 + 1 ∧ R.b = 2 * (v3 + 1) + v4) (cG : G.fx = true ∧ G.kd = Str.ofString "fixed" ∧ G.lo = -60 ∧ G.hi = 60 ∧ G.a = v5 + 2 ∧ G.b = 1)
    (sC : C.sm = c1 ∧ C.ta = ca ∧ C.tb = cb) (sF : F.sm = f1 ∧ F.ta = fa ∧ F.tb = fb) (sR : R.sm = o1 ∧ R.ta = ra ∧ R.tb = rb) (sG : G.sm = g1 ∧ G.ta = ga ∧ G.tb = gb)
    (h1 : 0 ≤ v1) (h1' : v1 < 9) (h2 : 0 ≤ v2) (h2' : v2 < 4) (h3 : 0 ≤ v3) (h3' : v3 < 3) (h4 : 0 ≤ v4) (h4' : v4 < 6) (h5 : 0 ≤ v5) (h5' : v5 < 4) (hk : k = 5) :
    ∃ i : Sorts, i.l = l ∧ News h₀ L h ((r, reelO sc 5 i.tk) :: i.led) ∧ SortsOk i r := by
  subst hk
  obtain ⟨p4, p5, p6, p7, p8, p9⟩ := cP
  obtain ⟨d4, d5, d6, d7, d8, d9⟩ := cD
  obtain ⟨q4, q5, q6, q7, q8, q9⟩ := cC
  obtain ⟨f4, f5, f6, f7, f8, f9⟩ := cF
  obtain ⟨r4, r5, r6, r7, r8, r9⟩ := cR
  obtain ⟨g4, g5, g6, g7, g8, g9⟩ := cG
  have hm : 0 < (v1 + 2) * (v2 + 2) ∧ (v1 + 2) * (v2 + 2) ≤ 1000 := by
    have a := Int.mul_pos (show (0:Int) < v1 + 2 by omega) (show (0:Int) < v2 + 2 by omega)
    have b : (v1 + 2) * (v2 + 2) ≤ 10 * 5 := Int.mul_le_mul (by omega) (by omega) (by omega) (by decide)
    exact ⟨a, by omega⟩
  refine ⟨⟨l, p, c, f, o, d, g, { P with es := pe, n := pn }, { C with es := ce, n := cn }, { F with es := fe, n := fn }, { R with es := re, n := rn }, { D with es := de, n := dn }, { G with es := ge, n := gn }, offOf r led, t⟩, rfl, fun q hq => ?_, ?_⟩
  · rcases List.mem_cons.mp hq with rfl | hq
    · exact N _ hr
    · exact N _ (List.mem_filter.mp hq).1
  refine ⟨off_ne, ?_, ty_off N hr (ty_made bP p1 p2 p3 ⟨rfl, rfl, rfl⟩ rfl rfl (.inr ⟨p4, .inl p5, p8, p9⟩) ⟨by omega, by omega⟩ ⟨by omega, by omega⟩), ty_off N hr (ty_made bC q1 q2 q3 sC q8 q9 (.inl ⟨q4, q5⟩) ⟨by omega, by omega⟩ ⟨by omega, by omega⟩),
    ty_off N hr (ty_made bF f1' f2' f3' sF f8 f9 (.inl ⟨f4, f5⟩) ⟨by omega, by omega⟩ hm), ty_off N hr (ty_made bR r1' r2' r3' sR r8 r9 (.inl ⟨r4, r5⟩) ⟨by omega, by omega⟩ ⟨by omega, by omega⟩),
    ty_off N hr (ty_made bD d1 d2 d3 ⟨rfl, rfl, rfl⟩ rfl rfl (.inr ⟨d4, .inr d5, d8, d9⟩) ⟨by omega, by omega⟩ ⟨by omega, by omega⟩), ty_off N hr (ty_made bG g1' g2' g3' sG g8 g9 (.inl ⟨g4, g5⟩) ⟨by omega, by omega⟩ ⟨by omega, by omega⟩),
    ⟨p4, p6, p7, p8, p9⟩, ⟨q4, q6, q7, q8, by show 2 ≤ C.b; omega, by show C.b ≤ 10; omega⟩, ⟨f4, f6, f7, f8, v2 + 2, by omega, by omega, by show F.b = C.b * (v2 + 2); rw [f9, q9]⟩,
    ⟨r4, r6, r7, by show 1 ≤ R.a; omega, by show R.a ≤ 3; omega, by show 2 * R.a ≤ R.b; omega, by show R.b ≤ 2 * R.a + 5; omega⟩, ⟨d4, d6, d7, d8, d9⟩, ⟨g4, g6, g7, by show 2 ≤ G.a; omega, by show G.a ≤ 5; omega, g9⟩, p5⟩
  refine List.mem_filter.mpr ⟨hl, decide_eq_true ?_⟩
  cases q : Nat.beq l r with
  | false => rfl
  | true =>
    have e : l = r := Nat.eq_of_beq_eq_true q
    subst e
    have a := (N _ hl).1
    have b := (N _ hr).1
    rw [a] at b
    have z := congrArg (fun o : Obj => match o.data with | .seq xs _ => xs.size | _ => 0) (Option.some.inj b)
    cases z

section
theorem sorts_c {prog : Program} {w : World} {r sc : Addr} {tk : Tok} {vs : List Value} {ns : List Int} :
    Tag PySem.Challenge.rw_sa0007_01 hd.heap_1 → Acts prog w 9 480 [.ref r] [(r, reelO sc 0 tk)] (Script sc vs ns) (ι := Sorts) (fun i => (r, reelO sc 5 i.tk) :: i.led) (fun i => .ref i.l) (fun i => SortsOk i r) False := by
  k_fill
  intro _ mean mg mb dp un gd cn cs a ccd cl outer A₀ base h₀ L m s Q E B F X N Tp hk hB hdp hun hret herr
  refine wpAny_call ?_
  k_dflt ktr_enter
  (w_top off; k_with_none; (k_with "leaving ref" => (k_here; (refine leave_onSN (by assumption) (by assumption) (by assumption) (by assumption) ?_; k_whole); intro h' R' U1 U'; clear U1; (try dsimp only at R' U' ⊢))); (k_with "call ref" => (k_here; (with_reducible show wpAny _ _ (PySem.call (Value.ref 445) _) _ _ _); k_dflt (refine Acts.goN (by k_asm) (by k_asm) (by k_asm) (by k_asm) (by k_asm) (by first | exact rfl | assumption) (by assumption) (by ktr_room) (by ktr_units) (windU_c (by (intro k' t; k_upd)) (by omega) (by omega) (by omega) (by omega) tag) ?_); intro i9 h9 tk9 F9 N9 P9; (try dsimp only at N9 P9); (try dsimp only); (obtain ⟨v9, t9, u9, k9⟩ := i9); (try dsimp only at N9 P9); (obtain ⟨p9, q9, e9⟩ := P9); (try dsimp only))); (k_with "call ref" => (k_here; (with_reducible show wpAny _ _ (PySem.call (Value.ref 417) _) _ _ _); k_dflt (refine Acts.goN (by k_asm) (by k_asm) (by k_asm) (by k_asm) (by k_asm) (by first | exact rfl | assumption) (by trivial) (by ktr_room) (by ktr_units) (int_c tag) ?_); intro i9 h9 tk9 F9 N9 P9; (try dsimp only at N9 P9); (try dsimp only); (obtain ⟨x9, T9⟩ := i9); (try dsimp only at N9 P9); (obtain ⟨hb9, ho9, hc9, ⟨l9, m9⟩, n9⟩ := P9); (k_lt l9); (try dsimp only))); (k_with "call ref" => (k_here; (with_reducible show wpAny _ _ (PySem.call (Value.ref 424) _) _ _ _); k_dflt (refine Acts.goN (by k_asm) (by k_asm) (by k_asm) (by k_asm) (by k_asm) (by first | exact rfl | assumption) (by trivial) (by ktr_room) (by ktr_units) (mod_c tag) ?_); intro i9 h9 tk9 F9 N9 P9; (try dsimp only at N9 P9); (try dsimp only); (obtain ⟨x9, T9⟩ := i9); (try dsimp only at N9 P9); (obtain ⟨hb9, ho9, hc9, ⟨l9, m9⟩, n9⟩ := P9); (k_lt l9); (try dsimp only))); (k_with "call ref" => (k_here; (with_reducible show wpAny _ _ (PySem.call (Value.ref 431) _) _ _ _); k_dflt (refine Acts.goN (by k_asm) (by k_asm) (by k_asm) (by k_asm) (by k_asm) (by first | exact rfl | assumption) (by trivial) (by ktr_room) (by ktr_units) (fixed_c (by k_mem) tag) ?_); intro i9 h9 tk9 F9 N9 P9; (try dsimp only at N9 P9); (try dsimp only); (obtain ⟨x9, T9⟩ := i9); (try dsimp only at N9 P9); (obtain ⟨hb9, ho9, hc9, hs9, ⟨l9, m9⟩⟩ := P9); (k_lt l9); (try dsimp only))); (k_with "call ref" => (k_here; (with_reducible show wpAny _ _ (PySem.call (Value.ref 438) _) _ _ _); k_dflt (refine Acts.goN (by k_asm) (by k_asm) (by k_asm) (by k_asm) (by k_asm) (by first | exact rfl | assumption) (by trivial) (by ktr_room) (by ktr_units) (numbered_c (by assumption) (by assumption) (by assumption) (by k_all) tag) ?_); intro i9 h9 tk9 F9 N9 P9; (try dsimp only at N9 P9); (try dsimp only); (obtain ⟨e9, n9⟩ := i9); (try dsimp only at N9 P9); (try dsimp only))); repeat' (first | (k_unfold; (try dsimp only)) | (k_end; wrow_close) | ((first | (with_reducible show wpAny _ _ (exec _ _) _ _ _) | (with_reducible show wpAny _ _ (eval (Expr.Call _ _ _ _) _) _ _ _) | (with_reducible show wpAny _ _ (eval (Expr.Compare _ _ _ _) _) _ _ _) | (with_reducible show wpAny _ _ (eval (Expr.Subscript _ _ _) _) _ _ _) | (with_reducible show wpAny _ _ (eval (Expr.BinOp _ _ _ _) _) _ _ _) | (with_reducible show wpAny _ _ (eval (Expr.ListComp _ _ _ _) _) _ _ _) | (with_reducible show wpAny _ _ (isTrue (Expr.Compare _ _ _ _) _ _) _ _ _)); k_fold) | walk1 | (dsimp only; walk1) | (leave1; (try dsimp only)) | fail "no step"))
  have z := sorts_fin (r := r) (sc := sc) (by assumption) (by k_mem) (by k_mem) (by k_mem) (by k_mem) (by k_mem) (by k_mem) (by k_mem) (by k_mem) (by k_mem) (by k_mem) (by k_mem) (by k_mem) (by k_mem) (by k_mem) (by k_mem) (by k_mem) (by k_mem) (by k_mem) (by k_mem) (by k_mem)
    (by assumption) (by assumption) (by assumption) (by assumption) (by assumption) (by assumption) (by assumption) (by assumption) (by assumption) (by assumption) (by assumption) (by assumption) (by assumption) (by assumption) (by assumption) (by assumption)
    (by assumption) (by assumption) (by assumption) (by assumption) (by assumption) (by assumption) (by assumption) (by assumption) (by assumption) (by assumption) (by omega)
  obtain ⟨i, el, Ni, ok⟩ := z
  rw [← el]
  exact hret i _ _ (by k_asm) Ni ok
end


theorem baseOk_c {prog : Program} {w : World} {x : Addr} {T : Ty} {news : Led} {v : Int} {tv : Tok} (H : TyIn news x T) (hv : T.lo ≤ v ∧ v ≤ T.hi) :
    Tag PySem.Challenge.rw_sa0007_01 hd.heap_1 → Acts prog w 8 95 [.ref x, .int v tv] news AnyB (ι := Unit) (fun _ => news) (fun _ => .int v tv) (fun _ => True) False := by
  intro _ mean mg mb dp un gd cn cs a ccd cl outer A₀ base h₀ L m s Q E B F X N Tp hk hB hdp hun hret herr
  exact base_c H tag mean mg mb dp un gd cn cs a ccd cl outer A₀ base h₀ L m s Q E B F X N Tp hk hB hdp hun (fun i h' tk' F' N' _ => hret i h' tk' F' N' trivial) (fun _ _ _ _ z => absurd hv z)

section
theorem about_c {prog : Program} {w : World} {x : Addr} {T : Ty} {news : Led} {v : Int} {tv : Tok} (H : TyIn news x T) (hk' : T.kd = Str.ofString "int" ∨ T.kd = Str.ofString "fixed") (hv : T.lo ≤ -v ∧ -v ≤ T.hi) :
    Tag PySem.Challenge.rw_sa0007_01 hd.heap_1 → Acts prog w 12 473 [.ref x, .int v tv] news AnyB (ι := Tok) (fun _ => news) (fun t => .int (-v) t) (fun _ => True) False := by
  k_fill
  intro _ mean mg mb dp un gd cn cs a ccd cl outer A₀ base h₀ L m s Q E B F X N Tp hk hB hdp hun hret herr
  have h1 := H.inst
  have h2 := H.dict
  have h3 := H.kind
  refine wpAny_call ?_
  k_dflt ktr_enter
  rcases hk' with e | e
  all_goals rw [e] at h3
  all_goals (w_top off; k_with_none; (k_with "getAttr ref" => (k_here; k_dflt (refine get_own (by k_asm) (by k_asm) (by k_inst) (by k_is) (by k_is) (by k_is) (by k_is) (by assumption) (by k_handed) ?_; k_whole))); (k_with "leaving ref" => (k_here; (refine leave_onSN (by assumption) (by assumption) (by assumption) (by assumption) ?_; k_whole); intro h' R' U1 U'; clear U1; (try dsimp only at R' U' ⊢))); (k_with "call ref" => (k_here; (with_reducible show wpAny _ _ (PySem.call (Value.ref 95) _) _ _ _); k_dflt (refine Acts.goN (by k_asm) (by k_asm) (by k_asm) (by k_asm) (by k_asm) (by first | exact rfl | assumption) (by trivial) (by ktr_room) (by ktr_units) (baseOk_c (by first | assumption | exact TyIn.cons (by assumption) | exact TyIn.cons (TyIn.cons (by assumption)) | exact TyIn.cons (TyIn.cons (TyIn.cons (by assumption)))) (by assumption) tag) ?_); intro t9 h9 tk9 F9 N9 P9; (try dsimp only at N9 P9); (try dsimp only))); repeat' (first | (k_unfold; (try dsimp only)) | (k_end; wrow_close) | ((first | (with_reducible show wpAny _ _ (exec _ _) _ _ _) | (with_reducible show wpAny _ _ (eval (Expr.Call _ _ _ _) _) _ _ _) | (with_reducible show wpAny _ _ (eval (Expr.Compare _ _ _ _) _) _ _ _) | (with_reducible show wpAny _ _ (eval (Expr.Subscript _ _ _) _) _ _ _) | (with_reducible show wpAny _ _ (eval (Expr.BinOp _ _ _ _) _) _ _ _) | (with_reducible show wpAny _ _ (eval (Expr.ListComp _ _ _ _) _) _ _ _) | (with_reducible show wpAny _ _ (isTrue (Expr.Compare _ _ _ _) _ _) _ _ _)); k_fold) | walk1 | (dsimp only; walk1) | (leave1; (try dsimp only)) | fail "no step"))
  all_goals exact hret _ _ _ (by k_asm) (by first | k_asm | exact news_tl (by first | k_asm | exact news_tl (by first | k_asm | exact news_tl (by first | k_asm | exact news_tl (by first | k_asm | exact news_tl (by first | k_asm | exact news_tl (by k_asm))))))) (by trivial)
theorem aboutN_c {prog : Program} {w : World} {x : Addr} {news : Led} :
    Tag PySem.Challenge.rw_sa0007_01 hd.heap_1 → Acts prog w 12 473 [.ref x, .none] news AnyB (ι := Unit) (fun _ => news) (fun _ => .none) (fun _ => True) False := by
  k_fill
  intro _ mean mg mb dp un gd cn cs a ccd cl outer A₀ base h₀ L m s Q E B F X N Tp hk hB hdp hun hret herr
  refine wpAny_call ?_
  k_dflt ktr_enter
  (w_top off; k_with_none; (k_with "getAttr ref" => (k_here; k_dflt (refine get_own (by k_asm) (by k_asm) (by k_inst) (by k_is) (by k_is) (by k_is) (by k_is) (by assumption) (by k_handed) ?_; k_whole))); (k_with "leaving ref" => (k_here; (refine leave_onSN (by assumption) (by assumption) (by assumption) (by assumption) ?_; k_whole); intro h' R' U1 U'; clear U1; (try dsimp only at R' U' ⊢))); (k_with "call ref" => (k_here; (with_reducible show wpAny _ _ (PySem.call (Value.ref 95) _) _ _ _); k_dflt (refine Acts.goN (by k_asm) (by k_asm) (by k_asm) (by k_asm) (by k_asm) (by first | exact rfl | assumption) (by trivial) (by ktr_room) (by ktr_units) (baseOk_c (by first | assumption | exact TyIn.cons (by assumption) | exact TyIn.cons (TyIn.cons (by assumption)) | exact TyIn.cons (TyIn.cons (TyIn.cons (by assumption)))) (by assumption) tag) ?_); intro t9 h9 tk9 F9 N9 P9; (try dsimp only at N9 P9); (try dsimp only))); repeat' (first | (k_unfold; (try dsimp only)) | (k_end; wrow_close) | ((first | (with_reducible show wpAny _ _ (exec _ _) _ _ _) | (with_reducible show wpAny _ _ (eval (Expr.Call _ _ _ _) _) _ _ _) | (with_reducible show wpAny _ _ (eval (Expr.Compare _ _ _ _) _) _ _ _) | (with_reducible show wpAny _ _ (eval (Expr.Subscript _ _ _) _) _ _ _) | (with_reducible show wpAny _ _ (eval (Expr.BinOp _ _ _ _) _) _ _ _) | (with_reducible show wpAny _ _ (eval (Expr.ListComp _ _ _ _) _) _ _ _) | (with_reducible show wpAny _ _ (isTrue (Expr.Compare _ _ _ _) _ _) _ _ _)); k_fold) | walk1 | (dsimp only; walk1) | (leave1; (try dsimp only)) | fail "no step"))
  all_goals exact hret () _ _ (by k_asm) (by first | k_asm | exact news_tl (by first | k_asm | exact news_tl (by first | k_asm | exact news_tl (by first | k_asm | exact news_tl (by first | k_asm | exact news_tl (by first | k_asm | exact news_tl (by k_asm))))))) (by trivial)
theorem add_c {prog : Program} {w : World} {x : Addr} {T : Ty} {news : Led} {u v : Int} {tu tv : Tok} (H : TyIn news x T) (hv : T.lo ≤ u + v ∧ u + v ≤ T.hi) :
    Tag PySem.Challenge.rw_sa0007_01 hd.heap_1 → Acts prog w 10 137 [.ref x, .int u tu, .int v tv] news AnyB (ι := Tok) (fun _ => news) (fun t => .int (u + v) t) (fun _ => True) False := by
  k_fill
  intro _ mean mg mb dp un gd cn cs a ccd cl outer A₀ base h₀ L m s Q E B F X N Tp hk hB hdp hun hret herr
  refine wpAny_call ?_
  k_dflt ktr_enter
  (w_top off; k_with_none; (k_with "getAttr ref" => (k_here; k_dflt (refine get_own (by k_asm) (by k_asm) (by k_inst) (by k_is) (by k_is) (by k_is) (by k_is) (by assumption) (by k_handed) ?_; k_whole))); (k_with "leaving ref" => (k_here; (refine leave_onSN (by assumption) (by assumption) (by assumption) (by assumption) ?_; k_whole); intro h' R' U1 U'; clear U1; (try dsimp only at R' U' ⊢))); (k_with "call ref" => (k_here; (with_reducible show wpAny _ _ (PySem.call (Value.ref 95) _) _ _ _); k_dflt (refine Acts.goN (by k_asm) (by k_asm) (by k_asm) (by k_asm) (by k_asm) (by first | exact rfl | assumption) (by trivial) (by ktr_room) (by ktr_units) (baseOk_c (by first | assumption | exact TyIn.cons (by assumption) | exact TyIn.cons (TyIn.cons (by assumption)) | exact TyIn.cons (TyIn.cons (TyIn.cons (by assumption)))) (by assumption) tag) ?_); intro t9 h9 tk9 F9 N9 P9; (try dsimp only at N9 P9); (try dsimp only))); repeat' (first | (k_unfold; (try dsimp only)) | (k_end; wrow_close) | ((first | (with_reducible show wpAny _ _ (exec _ _) _ _ _) | (with_reducible show wpAny _ _ (eval (Expr.Call _ _ _ _) _) _ _ _) | (with_reducible show wpAny _ _ (eval (Expr.Compare _ _ _ _) _) _ _ _) | (with_reducible show wpAny _ _ (eval (Expr.Subscript _ _ _) _) _ _ _) | (with_reducible show wpAny _ _ (eval (Expr.BinOp _ _ _ _) _) _ _ _) | (with_reducible show wpAny _ _ (eval (Expr.ListComp _ _ _ _) _) _ _ _) | (with_reducible show wpAny _ _ (isTrue (Expr.Compare _ _ _ _) _ _) _ _ _)); k_fold) | walk1 | (dsimp only; walk1) | (leave1; (try dsimp only)) | fail "no step"))
  all_goals exact hret _ _ _ (by k_asm) (by first | k_asm | exact news_tl (by first | k_asm | exact news_tl (by first | k_asm | exact news_tl (by first | k_asm | exact news_tl (by first | k_asm | exact news_tl (by first | k_asm | exact news_tl (by k_asm))))))) (by trivial)
theorem sub_c {prog : Program} {w : World} {x : Addr} {T : Ty} {news : Led} {u v : Int} {tu tv : Tok} (H : TyIn news x T) (hv : T.lo ≤ u - v ∧ u - v ≤ T.hi) :
    Tag PySem.Challenge.rw_sa0007_01 hd.heap_1 → Acts prog w 10 144 [.ref x, .int u tu, .int v tv] news AnyB (ι := Tok) (fun _ => news) (fun t => .int (u - v) t) (fun _ => True) False := by
  k_fill
  intro _ mean mg mb dp un gd cn cs a ccd cl outer A₀ base h₀ L m s Q E B F X N Tp hk hB hdp hun hret herr
  refine wpAny_call ?_
  k_dflt ktr_enter
  (w_top off; k_with_none; (k_with "getAttr ref" => (k_here; k_dflt (refine get_own (by k_asm) (by k_asm) (by k_inst) (by k_is) (by k_is) (by k_is) (by k_is) (by assumption) (by k_handed) ?_; k_whole))); (k_with "leaving ref" => (k_here; (refine leave_onSN (by assumption) (by assumption) (by assumption) (by assumption) ?_; k_whole); intro h' R' U1 U'; clear U1; (try dsimp only at R' U' ⊢))); (k_with "call ref" => (k_here; (with_reducible show wpAny _ _ (PySem.call (Value.ref 95) _) _ _ _); k_dflt (refine Acts.goN (by k_asm) (by k_asm) (by k_asm) (by k_asm) (by k_asm) (by first | exact rfl | assumption) (by trivial) (by ktr_room) (by ktr_units) (baseOk_c (by first | assumption | exact TyIn.cons (by assumption) | exact TyIn.cons (TyIn.cons (by assumption)) | exact TyIn.cons (TyIn.cons (TyIn.cons (by assumption)))) (by assumption) tag) ?_); intro t9 h9 tk9 F9 N9 P9; (try dsimp only at N9 P9); (try dsimp only))); repeat' (first | (k_unfold; (try dsimp only)) | (k_end; wrow_close) | ((first | (with_reducible show wpAny _ _ (exec _ _) _ _ _) | (with_reducible show wpAny _ _ (eval (Expr.Call _ _ _ _) _) _ _ _) | (with_reducible show wpAny _ _ (eval (Expr.Compare _ _ _ _) _) _ _ _) | (with_reducible show wpAny _ _ (eval (Expr.Subscript _ _ _) _) _ _ _) | (with_reducible show wpAny _ _ (eval (Expr.BinOp _ _ _ _) _) _ _ _) | (with_reducible show wpAny _ _ (eval (Expr.ListComp _ _ _ _) _) _ _ _) | (with_reducible show wpAny _ _ (isTrue (Expr.Compare _ _ _ _) _ _) _ _ _)); k_fold) | walk1 | (dsimp only; walk1) | (leave1; (try dsimp only)) | fail "no step"))
  all_goals exact hret _ _ _ (by k_asm) (by first | k_asm | exact news_tl (by first | k_asm | exact news_tl (by first | k_asm | exact news_tl (by first | k_asm | exact news_tl (by first | k_asm | exact news_tl (by first | k_asm | exact news_tl (by k_asm))))))) (by trivial)
end
section
theorem ratioR_c {prog : Program} {w : World} {d : Addr} {news : Led} {u v : Int} {tu tv : Tok} (hd1 : (d, tupO [.int u tu, .int v tv]) ∈ news) (hv : 0 < v) (hv2 : v < 500000000) :
    Tag PySem.Challenge.rw_sa0007_01 hd.heap_1 → Acts prog w 2 368 [.ref d] news AnyB (ι := Tok) (fun _ => news) (fun t => .int (rndQ u v) t) (fun _ => True) False := by
  k_fill
  intro _ mean mg mb dp un gd cn cs a ccd cl outer A₀ base h₀ L m s Q E B F X N Tp hk hB hdp hun hret herr
  refine wpAny_call ?_
  k_dflt ktr_enter
  (w_top off; k_with_none; (k_with "leaving ref" => (k_here; (refine leave_onSN (by assumption) (by assumption) (by assumption) (by assumption) ?_; k_whole); intro h' R' U1 U'; clear U1; (try dsimp only at R' U' ⊢))); (k_with "eval BinOp" => (k_here; dsimp only)); (k_with "eval Subscript" => (k_here; dsimp only)); repeat' (first | (k_unfold; (try dsimp only)) | (k_end; wrow_close) | ((first | (with_reducible show wpAny _ _ (exec _ _) _ _ _) | (with_reducible show wpAny _ _ (eval (Expr.Call _ _ _ _) _) _ _ _) | (with_reducible show wpAny _ _ (eval (Expr.Compare _ _ _ _) _) _ _ _) | (with_reducible show wpAny _ _ (eval (Expr.Subscript _ _ _) _) _ _ _) | (with_reducible show wpAny _ _ (eval (Expr.BinOp _ _ _ _) _) _ _ _) | (with_reducible show wpAny _ _ (eval (Expr.ListComp _ _ _ _) _) _ _ _) | (with_reducible show wpAny _ _ (isTrue (Expr.Compare _ _ _ _) _ _) _ _ _)); k_fold) | walk1 | (dsimp only; walk1) | (leave1; (try dsimp only)) | fail "no step"))
  all_goals (
    refine ret_int (b := rndQ u v) ?_ (hret _ _ _ (by k_asm) (by k_asm) trivial)
    unfold rndQ
    simp only [Int.fdiv_eq_ediv_of_nonneg _ (show (0:Int) ≤ 2 * v by omega)])
  · have h2 : u < 0 := by simp_all
    simp only [if_pos h2]
  · have h2 : ¬ u < 0 := by simp_all
    simp only [if_neg h2]
theorem ratioZ_c {prog : Program} {w : World} {d : Addr} {news : Led} {u v : Int} {tu tv : Tok} (hd1 : (d, tupO [.int u tu, .int v tv]) ∈ news) (hv : 0 < v) (hv2 : v < 500000000) :
    Tag PySem.Challenge.rw_sa0007_01 hd.heap_1 → Acts prog w 2 361 [.ref d] news AnyB (ι := Tok) (fun _ => news) (fun t => .int (cutQ u v) t) (fun _ => True) False := by
  k_fill
  intro _ mean mg mb dp un gd cn cs a ccd cl outer A₀ base h₀ L m s Q E B F X N Tp hk hB hdp hun hret herr
  refine wpAny_call ?_
  k_dflt ktr_enter
  (w_top off; k_with_none; (k_with "leaving ref" => (k_here; (refine leave_onSN (by assumption) (by assumption) (by assumption) (by assumption) ?_; k_whole); intro h' R' U1 U'; clear U1; (try dsimp only at R' U' ⊢))); (k_with "eval BinOp" => (k_here; dsimp only)); (k_with "eval Subscript" => (k_here; dsimp only)); repeat' (first | (k_unfold; (try dsimp only)) | (k_end; wrow_close) | ((first | (with_reducible show wpAny _ _ (exec _ _) _ _ _) | (with_reducible show wpAny _ _ (eval (Expr.Call _ _ _ _) _) _ _ _) | (with_reducible show wpAny _ _ (eval (Expr.Compare _ _ _ _) _) _ _ _) | (with_reducible show wpAny _ _ (eval (Expr.Subscript _ _ _) _) _ _ _) | (with_reducible show wpAny _ _ (eval (Expr.BinOp _ _ _ _) _) _ _ _) | (with_reducible show wpAny _ _ (eval (Expr.ListComp _ _ _ _) _) _ _ _) | (with_reducible show wpAny _ _ (isTrue (Expr.Compare _ _ _ _) _ _) _ _ _)); k_fold) | walk1 | (dsimp only; walk1) | (leave1; (try dsimp only)) | fail "no step"))
  all_goals (
    refine ret_int (b := cutQ u v) ?_ (hret _ _ _ (by k_asm) (by k_asm) trivial)
    unfold cutQ
    simp only [Int.fdiv_eq_ediv_of_nonneg _ (Int.le_of_lt hv)])
  · have h2 : u < 0 := by simp_all
    simp only [if_pos h2]
  · have h2 : ¬ u < 0 := by simp_all
    simp only [if_neg h2]
end


theorem cut_mul {v d : Int} (hd : 0 < d) : cutQ (v * d) d = v := by
  unfold cutQ
  have hne : d ≠ 0 := by omega
  split
  · rw [← Int.neg_mul, Int.mul_ediv_cancel _ hne]; omega
  · exact Int.mul_ediv_cancel _ hne
theorem cut_neg {v d : Int} (hd : 0 < d) : cutQ (-v) d = -(cutQ v d) := by
  unfold cutQ
  rcases Int.lt_trichotomy v 0 with h | h | h
  · rw [if_neg (by omega), if_pos h]; omega
  · subst h; simp
  · rw [if_pos (by omega), if_neg (by omega), Int.neg_neg]
theorem rnd_zero {d : Int} (hd : 0 < d) : rndQ 0 d = 0 := by
  unfold rndQ
  rw [if_neg (by omega)]
  exact Int.ediv_eq_zero_of_lt (by omega) (by omega)
theorem rnd_neg {v d : Int} (hd : 0 < d) : rndQ (-v) d = -(rndQ v d) := by
  rcases Int.lt_trichotomy v 0 with h | h | h
  · unfold rndQ; rw [if_neg (by omega), if_pos h]; omega
  · subst h; rw [Int.neg_zero, rnd_zero hd]; rfl
  · unfold rndQ; rw [if_pos (by omega), if_neg (by omega), Int.neg_neg]
theorem rnd_pos_mul {v d : Int} (hd : 0 < d) : (2 * (v * d) + d) / (2 * d) = v := by
  have e : 2 * (v * d) + d = d + 2 * d * v := by rw [Int.mul_comm v d, ← Int.mul_assoc]; omega
  rw [e, Int.add_mul_ediv_left _ _ (by omega), Int.ediv_eq_zero_of_lt (by omega) (by omega)]; omega
theorem rnd_mul {v d : Int} (hd : 0 < d) : rndQ (v * d) d = v := by
  unfold rndQ
  split
  · rw [← Int.neg_mul, rnd_pos_mul hd]; omega
  · exact rnd_pos_mul hd
theorem mul_sign {v q : Int} (hq : 0 < q) : v * q < 0 ↔ v < 0 := by
  constructor
  · intro h
    rcases Int.lt_or_le v 0 with z | z
    · exact z
    · have := Int.mul_nonneg z (Int.le_of_lt hq); omega
  · intro h
    exact Int.mul_neg_of_neg_of_pos h hq
theorem rnd_scale {v d q : Int} (hd : 0 < d) (hq : 0 < q) : rndQ (v * q) (d * q) = rndQ v d := by
  have key : ∀ u : Int, (2 * (u * q) + d * q) / (2 * (d * q)) = (2 * u + d) / (2 * d) := fun u => by
    rw [show 2 * (u * q) + d * q = (2 * u + d) * q by rw [Int.add_mul, Int.mul_assoc], ← Int.mul_assoc 2 d q]
    exact Int.mul_ediv_mul_of_pos_left _ _ hq
  unfold rndQ
  by_cases h : v < 0
  · rw [if_pos ((mul_sign hq).mpr h), if_pos h, ← Int.neg_mul, key]
  · rw [if_neg fun z => h ((mul_sign hq).mp z), if_neg h, key]

/-- how far the rounded number lies off, from below and above -/
theorem rnd_near {v d : Int} (hd : 0 < d) : (0 ≤ v → -d < 2 * (rndQ v d * d - v) ∧ 2 * (rndQ v d * d - v) ≤ d) ∧ (v < 0 → -d ≤ 2 * (rndQ v d * d - v) ∧ 2 * (rndQ v d * d - v) < d) := by
  have pos : ∀ u : Int, 0 ≤ u → -d < 2 * ((2 * u + d) / (2 * d) * d - u) ∧ 2 * ((2 * u + d) / (2 * d) * d - u) ≤ d := fun u _ => by
    have a := Int.emod_nonneg (2 * u + d) (show 2 * d ≠ 0 by omega)
    have b := Int.emod_lt_of_pos (2 * u + d) (show 0 < 2 * d by omega)
    have c := Int.mul_ediv_add_emod (2 * u + d) (2 * d)
    have e : 2 * d * ((2 * u + d) / (2 * d)) = 2 * ((2 * u + d) / (2 * d) * d) := by rw [Int.mul_assoc, Int.mul_comm d]
    omega
  constructor
  · intro h
    unfold rndQ
    rw [if_neg (by omega)]
    exact pos v h
  · intro h
    unfold rndQ
    rw [if_pos h]
    have z := pos (-v) (by omega)
    rw [Int.neg_mul]
    omega
theorem rnd_small {v d : Int} (hd : 0 < d) (c : Int) (h1 : -c ≤ v) (h2 : v ≤ c) : -c ≤ rndQ v d ∧ rndQ v d ≤ c := by
  have pos : ∀ u : Int, 0 ≤ u → 0 ≤ (2 * u + d) / (2 * d) ∧ (2 * u + d) / (2 * d) ≤ u := fun u hu => by
    refine ⟨Int.ediv_nonneg (by omega) (by omega), ?_⟩
    have e : u ≤ u * d := by
      have z : u * 1 ≤ u * d := Int.mul_le_mul_of_nonneg_left (show 1 ≤ d by omega) hu
      rwa [Int.mul_one] at z
    have f := rnd_pos_mul (v := u) hd
    have g : (2 * u + d) / (2 * d) ≤ (2 * (u * d) + d) / (2 * d) := Int.ediv_le_ediv (by omega) (by omega)
    omega
  unfold rndQ
  split
  · have := pos (-v) (by omega); omega
  · have := pos v (by omega); omega
theorem cut_small {x d : Int} (hd : 0 < d) (c : Int) (h1 : -c ≤ x) (h2 : x ≤ c) : -c ≤ cutQ x d ∧ cutQ x d ≤ c := by
  have pos : ∀ u : Int, 0 ≤ u → 0 ≤ u / d ∧ u / d ≤ u := fun u hu => ⟨Int.ediv_nonneg hu (by omega), Int.ediv_le_self _ hu⟩
  unfold cutQ
  split
  · have := pos (-x) (by omega); omega
  · have := pos x (by omega); omega
theorem there_back {v a b : Int} (ha : 0 < a) (hab : 2 * a ≤ b) : rndQ (cutQ (v * b) a * a) b = v := by
  have hb : 0 < b := by omega
  have pos : ∀ u : Int, 0 ≤ u → rndQ (u * b / a * a) b = u := fun u hu => by
    have h0 : 0 ≤ u * b := Int.mul_nonneg hu (by omega)
    have c := Int.mul_ediv_add_emod (u * b) a
    have m1 := Int.emod_nonneg (u * b) (show a ≠ 0 by omega)
    have m2 := Int.emod_lt_of_pos (u * b) ha
    rw [Int.mul_comm a] at c
    have n : 0 ≤ u * b / a * a := Int.mul_nonneg (Int.ediv_nonneg h0 (by omega)) (by omega)
    unfold rndQ
    rw [if_neg (by omega)]
    have e2 : u * (2 * b) = 2 * (u * b) := Int.mul_left_comm _ _ _
    have e3 : (u + 1) * (2 * b) = 2 * (u * b) + 2 * b := by rw [Int.add_mul, e2, Int.one_mul]
    have lo : (2 * (u * b / a * a) + b) / (2 * b) < u + 1 := Int.ediv_lt_of_lt_mul (by omega) (by rw [e3]; omega)
    have hi : u ≤ (2 * (u * b / a * a) + b) / (2 * b) := (Int.le_ediv_iff_mul_le (by omega)).mpr (by rw [e2]; omega)
    omega
  by_cases h : v < 0
  · have z := pos (-v) (by omega)
    have e : cutQ (v * b) a * a = -((-v) * b / a * a) := by
      unfold cutQ
      rw [if_pos ((mul_sign hb).mpr h), Int.neg_mul, Int.neg_mul]
    rw [e, rnd_neg hb, z]; omega
  · have e : cutQ (v * b) a = v * b / a := by
      unfold cutQ
      rw [if_neg fun z => h ((mul_sign hb).mp z)]
    rw [e]
    exact pos v (by omega)
theorem cut_mono {x y d : Int} (hd : 0 < d) (h : x ≤ y) : cutQ x d ≤ cutQ y d := by
  unfold cutQ
  split
  · split
    · have := Int.ediv_le_ediv hd (show -y ≤ -x by omega); omega
    · have a := Int.ediv_nonneg (show 0 ≤ -x by omega) (Int.le_of_lt hd)
      have b := Int.ediv_nonneg (show 0 ≤ y by omega) (Int.le_of_lt hd)
      omega
  · rw [if_neg (by omega)]
    exact Int.ediv_le_ediv hd h
theorem rnd_mono {x y d : Int} (hd : 0 < d) (h : x ≤ y) : rndQ x d ≤ rndQ y d := by
  unfold rndQ
  split
  · split
    · have := Int.ediv_le_ediv (show 0 < 2 * d by omega) (show 2 * -y + d ≤ 2 * -x + d by omega); omega
    · have a := Int.ediv_nonneg (show 0 ≤ 2 * -x + d by omega) (show 0 ≤ 2 * d by omega)
      have b := Int.ediv_nonneg (show 0 ≤ 2 * y + d by omega) (show 0 ≤ 2 * d by omega)
      omega
  · rw [if_neg (by omega)]
    exact Int.ediv_le_ediv (by omega) (by omega)


theorem conv_fix {T S : Ty} (h : T.fx = true) (v : Int) : convV T S v = cutQ (v * S.a * T.b) (S.b * T.a) := by unfold convV; rw [h]; rfl
theorem conv_whole {T S : Ty} (h : T.fx = false) (v : Int) : convV T S v = rndQ (v * S.a * T.b) (S.b * T.a) := by unfold convV; rw [h]; rfl
theorem into_is {T S : Ty} {v u : Int} (e : convV T S v = u) (h1 : T.lo ≤ u) (h2 : u ≤ T.hi) : intoV T S v = some u := by subst e; exact if_pos ⟨h1, h2⟩
theorem into_in {T S : Ty} {v u : Int} (e : intoV T S v = some u) : T.lo ≤ u ∧ u ≤ T.hi := by
  unfold intoV at e
  split at e
  · rename_i h; cases e; exact h
  · cases e

def qOf (i : Sorts) : Int := i.F.b / i.C.b
section
variable {i : Sorts} {r : Addr}
theorem q_is (ok : SortsOk i r) : i.F.b = i.C.b * qOf i ∧ 2 ≤ qOf i ∧ qOf i ≤ 5 := by
  obtain ⟨_, _, _, _, q, h1, h2, e⟩ := ok.vF
  obtain ⟨_, _, _, _, c1, c2⟩ := ok.vC
  have z : qOf i = q := by
    unfold qOf
    rw [e]
    exact Int.mul_ediv_cancel_left _ (by omega)
  rw [z]
  exact ⟨e, h1, h2⟩
theorem q_range (ok : SortsOk i r) {v : Int} (c : Int) (h1 : -c ≤ v) (h2 : v ≤ c) : -(5 * c) ≤ v * qOf i ∧ v * qOf i ≤ 5 * c := by
  obtain ⟨_, a, b⟩ := q_is ok
  have z : qOf i = 2 ∨ qOf i = 3 ∨ qOf i = 4 ∨ qOf i = 5 := by omega
  rcases z with z | z | z | z <;> rw [z] <;> omega
theorem b_range (ok : SortsOk i r) {v : Int} (c : Int) (h1 : -c ≤ v) (h2 : v ≤ c) : -(10 * c) ≤ v * i.C.b ∧ v * i.C.b ≤ 10 * c := by
  obtain ⟨_, _, _, _, a, b⟩ := ok.vC
  have z : i.C.b = 2 ∨ i.C.b = 3 ∨ i.C.b = 4 ∨ i.C.b = 5 ∨ i.C.b = 6 ∨ i.C.b = 7 ∨ i.C.b = 8 ∨ i.C.b = 9 ∨ i.C.b = 10 := by omega
  rcases z with z | z | z | z | z | z | z | z | z <;> rw [z] <;> omega
theorem rb_range (ok : SortsOk i r) {v : Int} (c : Int) (h1 : -c ≤ v) (h2 : v ≤ c) : -(11 * c) ≤ v * i.R.b ∧ v * i.R.b ≤ 11 * c := by
  obtain ⟨_, _, _, a, b, e, f⟩ := ok.vR
  have z : i.R.b = 2 ∨ i.R.b = 3 ∨ i.R.b = 4 ∨ i.R.b = 5 ∨ i.R.b = 6 ∨ i.R.b = 7 ∨ i.R.b = 8 ∨ i.R.b = 9 ∨ i.R.b = 10 ∨ i.R.b = 11 := by omega
  rcases z with z | z | z | z | z | z | z | z | z | z <;> rw [z] <;> omega

theorem into_FC (ok : SortsOk i r) {v : Int} (h1 : -400 ≤ v) (h2 : v ≤ 400) : intoV i.F i.C v = some (v * qOf i) := by
  obtain ⟨fx, lo, hi, fa, _⟩ := ok.vF
  obtain ⟨_, _, _, ca, c1, c2⟩ := ok.vC
  obtain ⟨e, _⟩ := q_is ok
  have z := q_range ok 400 h1 h2
  refine into_is ?_ (by rw [lo]; omega) (by rw [hi]; omega)
  rw [conv_fix fx, ca, fa, e, Int.mul_one, Int.mul_one, Int.mul_comm i.C.b, ← Int.mul_assoc]
  exact cut_mul (by omega)
theorem into_CF (ok : SortsOk i r) {v : Int} (h1 : -400 ≤ v) (h2 : v ≤ 400) : intoV i.C i.F (v * qOf i) = some v := by
  obtain ⟨_, _, _, fa, _⟩ := ok.vF
  obtain ⟨fx, lo, hi, ca, c1, c2⟩ := ok.vC
  obtain ⟨e, a, _⟩ := q_is ok
  refine into_is ?_ (by rw [lo]; omega) (by rw [hi]; omega)
  rw [conv_fix fx, ca, fa, e, Int.mul_one, Int.mul_one, Int.mul_assoc, Int.mul_comm (qOf i)]
  exact cut_mul (Int.mul_pos (by omega) (by omega))
theorem into_PC (ok : SortsOk i r) {v : Int} (h1 : -400 ≤ v) (h2 : v ≤ 400) : intoV i.P i.C v = some (rndQ v i.C.b) := by
  obtain ⟨fx, lo, hi, pa, pb⟩ := ok.vP
  obtain ⟨_, _, _, ca, c1, c2⟩ := ok.vC
  have z := rnd_small (show 0 < i.C.b by omega) 400 h1 h2
  refine into_is ?_ (by rw [lo]; omega) (by rw [hi]; omega)
  rw [conv_whole fx, ca, pa, pb, Int.mul_one, Int.mul_one, Int.mul_one]
theorem into_PCn (ok : SortsOk i r) {v : Int} (h1 : -400 ≤ v) (h2 : v ≤ 400) : intoV i.P i.C (-v) = some (-(rndQ v i.C.b)) := by
  obtain ⟨_, _, _, _, c1, _⟩ := ok.vC
  rw [into_PC ok (by omega) (by omega), rnd_neg (by omega)]
theorem into_PCm (ok : SortsOk i r) {v : Int} (h1 : -500 ≤ v) (h2 : v ≤ 500) : intoV i.P i.C (v * i.C.b) = some v := by
  obtain ⟨fx, lo, hi, pa, pb⟩ := ok.vP
  obtain ⟨_, _, _, ca, c1, c2⟩ := ok.vC
  refine into_is ?_ (by rw [lo]; omega) (by rw [hi]; omega)
  rw [conv_whole fx, ca, pa, pb, Int.mul_one, Int.mul_one, Int.mul_one]
  exact rnd_mul (by omega)
theorem into_PF (ok : SortsOk i r) {v : Int} (h1 : -400 ≤ v) (h2 : v ≤ 400) : intoV i.P i.F (v * qOf i) = some (rndQ v i.C.b) := by
  obtain ⟨fx, lo, hi, pa, pb⟩ := ok.vP
  obtain ⟨_, _, _, fa, _⟩ := ok.vF
  obtain ⟨_, _, _, ca, c1, c2⟩ := ok.vC
  obtain ⟨e, a, _⟩ := q_is ok
  have z := rnd_small (show 0 < i.C.b by omega) 400 h1 h2
  refine into_is ?_ (by rw [lo]; omega) (by rw [hi]; omega)
  rw [conv_whole fx, fa, pa, pb, Int.mul_one, Int.mul_one, Int.mul_one, e]
  exact rnd_scale (by omega) (by omega)
theorem into_CP (ok : SortsOk i r) {v : Int} (h1 : -400 ≤ v * i.C.b) (h2 : v * i.C.b ≤ 400) : intoV i.C i.P v = some (v * i.C.b) := by
  obtain ⟨_, _, _, pa, pb⟩ := ok.vP
  obtain ⟨fx, lo, hi, ca, c1, c2⟩ := ok.vC
  refine into_is ?_ (by rw [lo]; omega) (by rw [hi]; omega)
  rw [conv_fix fx, ca, pa, pb, Int.mul_one, Int.mul_one]
  have z := cut_mul (v := v * i.C.b) (d := 1) (by decide)
  rwa [Int.mul_one] at z
theorem into_CPn (ok : SortsOk i r) {v : Int} (h1 : -40 ≤ v) (h2 : v ≤ 40) : intoV i.C i.P v = some (v * i.C.b) := by
  have z := b_range ok 40 h1 h2
  exact into_CP ok (by omega) (by omega)
theorem into_CPr (ok : SortsOk i r) {v : Int} (h1 : -350 ≤ v) (h2 : v ≤ 350) : intoV i.C i.P (rndQ v i.C.b) = some (rndQ v i.C.b * i.C.b) := by
  obtain ⟨_, _, _, _, c1, c2⟩ := ok.vC
  have z := rnd_near (v := v) (show 0 < i.C.b by omega)
  exact into_CP ok (by omega) (by omega)
theorem into_RP (ok : SortsOk i r) {v : Int} (h1 : -30 ≤ v) (h2 : v ≤ 30) : intoV i.R i.P v = some (cutQ (v * i.R.b) i.R.a) := by
  obtain ⟨_, _, _, pa, pb⟩ := ok.vP
  obtain ⟨fx, lo, hi, a1, _, _, _⟩ := ok.vR
  have z := rb_range ok 30 h1 h2
  have y := cut_small (x := v * i.R.b) (show 0 < i.R.a by omega) 330 (by omega) (by omega)
  refine into_is ?_ (by rw [lo]; omega) (by rw [hi]; omega)
  rw [conv_fix fx, pa, pb, Int.mul_one, Int.one_mul]
theorem into_PR (ok : SortsOk i r) {v : Int} (h1 : -500 ≤ v) (h2 : v ≤ 500) : intoV i.P i.R (cutQ (v * i.R.b) i.R.a) = some v := by
  obtain ⟨fx, lo, hi, pa, pb⟩ := ok.vP
  obtain ⟨_, _, _, a1, a2, b1, b2⟩ := ok.vR
  refine into_is ?_ (by rw [lo]; omega) (by rw [hi]; omega)
  rw [conv_whole fx, pa, pb, Int.mul_one, Int.mul_one]
  exact there_back (by omega) b1
theorem into_RCn (ok : SortsOk i r) {v : Int} : intoV i.R i.C (-v) = (intoV i.R i.C v).map (- ·) := by
  obtain ⟨fx, lo, hi, a1, a2, b1, b2⟩ := ok.vR
  obtain ⟨_, _, _, ca, c1, c2⟩ := ok.vC
  have e : convV i.R i.C (-v) = -(convV i.R i.C v) := by
    rw [conv_fix fx, conv_fix fx, Int.neg_mul, Int.neg_mul]
    exact cut_neg (Int.mul_pos (by omega) (by omega))
  unfold intoV
  rw [e, lo, hi]
  by_cases h : -400 ≤ convV i.R i.C v ∧ convV i.R i.C v ≤ 400
  · rw [if_pos h, if_pos (by omega)]; rfl
  · rw [if_neg h, if_neg (by omega)]; rfl

theorem tyP (ok : SortsOk i r) {news : Led} (hs : ∀ p ∈ i.led, p ∈ news) : TyIn news i.p i.P := ok.hP.mono hs
theorem tyC (ok : SortsOk i r) {news : Led} (hs : ∀ p ∈ i.led, p ∈ news) : TyIn news i.c i.C := ok.hC.mono hs
theorem tyF (ok : SortsOk i r) {news : Led} (hs : ∀ p ∈ i.led, p ∈ news) : TyIn news i.f i.F := ok.hF.mono hs
theorem tyR (ok : SortsOk i r) {news : Led} (hs : ∀ p ∈ i.led, p ∈ news) : TyIn news i.r i.R := ok.hR.mono hs
end
/-- a conversion whose number is known -/
theorem intoK_c {prog : Program} {w : World} {x y : Addr} {T Y : Ty} {news : Led} {v u : Int} {tv : Tok} (HT : TyIn news x T) (HY : TyIn news y Y) (e : intoV T Y v = some u) :
    Tag PySem.Challenge.rw_sa0007_01 hd.heap_1 → ActsT prog w 18 452 [.ref x, .ref y, .int v tv] news AnyB (ι := Tok) (fun _ => news) (fun t => .int u t) (fun _ => T.lo ≤ u ∧ u ≤ T.hi) := by
  intro _ mean mg mb dp un gd cn cs a ccd cl outer A₀ base g₀ h₀ L m s Q E B F X N Tp hk hB hdp hun XB TB D T0 hret
  exact into_c HT HY tag mean mg mb dp un gd cn cs a ccd cl outer A₀ base g₀ h₀ L m s Q E B F X N Tp hk hB hdp hun XB TB D T0 fun t h₀' h' tk' T1 F1 N1 B1 X1 P1 D1 _ => by
    rw [e]
    exact hret t h₀' h' tk' T1 F1 N1 B1 X1 P1 D1 (into_in e)
/-- a conversion that may be refused, said otherwise -/
theorem intoO_c {prog : Program} {w : World} {x y : Addr} {T Y : Ty} {news : Led} {v : Int} {o : Option Int} {tv : Tok} (HT : TyIn news x T) (HY : TyIn news y Y) (e : intoV T Y v = o) :
    Tag PySem.Challenge.rw_sa0007_01 hd.heap_1 → ActsT prog w 18 452 [.ref x, .ref y, .int v tv] news AnyB (ι := Tok) (fun _ => news) (fun t => optV o t) (fun _ => True) := by
  subst e
  exact into_c HT HY
/-- about, of what a conversion gave -/
theorem aboutO_c {prog : Program} {w : World} {x : Addr} {T : Ty} {news : Led} {o : Option Int} {tv : Tok} (H : TyIn news x T) (hk' : T.kd = Str.ofString "int" ∨ T.kd = Str.ofString "fixed") (hv : ∀ u, o = some u → T.lo ≤ -u ∧ -u ≤ T.hi) :
    Tag PySem.Challenge.rw_sa0007_01 hd.heap_1 → Acts prog w 12 473 [.ref x, optV o tv] news AnyB (ι := Tok) (fun _ => news) (fun t => optV (o.map (- ·)) t) (fun _ => True) False := by
  cases o with
  | some u => exact about_c H hk' (hv u rfl)
  | none =>
    intro _ mean mg mb dp un gd cn cs a ccd cl outer A₀ base h₀ L m s Q E B F X N Tp hk hB hdp hun hret herr
    exact aboutN_c tag mean mg mb dp un gd cn cs a ccd cl outer A₀ base h₀ L m s Q E B F X N Tp hk hB hdp hun (fun _ h' tk' F' N' _ => hret 0 h' tk' F' N' trivial) (fun _ _ _ _ z => z.elim)
theorem kd_int {news : Led} {x : Addr} {T : Ty} (H : TyIn news x T) (h : T.fx = true) : T.kd = Str.ofString "int" ∨ T.kd = Str.ofString "fixed" := by
  rcases H.which with ⟨_, e⟩ | ⟨e, _⟩
  · exact .inr e
  · rw [h] at e; cases e


/-- the end of a turn of a loop whose body turns the ghost: the iterator stands as it did, the ledger's addresses are those of the start -/
def TurnEnd (L I : Addr) (o : Obj) (ads : List Addr) (keep : Led) (s : Shared) (rest : Heap → (Str → Option Value) → Led → Prop) (s₂ : Shared) : Prop :=
  ∃ g' h' tk' m' news', s₂ = { s with heap := h', toks := tk' } ∧ Fr g' L h' m' ∧ News g' L h' ((I, o) :: news') ∧ news'.map (·.1) = ads ∧ SubL keep news' ∧ rest g' m' news'
def TurnPost (L I : Addr) (o : Obj) (ads : List Addr) (keep : Led) (s : Shared) (rest : Heap → (Str → Option Value) → Led → Prop) (Q : Flow → Shared → Prop) (f : Flow) (s₂ : Shared) : Prop :=
  match f with
  | .ret v => Q (.ret v) s₂
  | .brk => Q .next s₂
  | _ => TurnEnd L I o ads keep s rest s₂
/-- what is left of such a loop -/
def Turns (prog : Program) (w : World) (A : Around) (E : Value → Shared → Prop) (env : Env) (target : Expr) (body : List Stmt) (Q : Flow → Shared → Prop) (s : Shared) (I : Addr) (cl : String) (ads : List Addr) (keep : Led) : List (Tok → Value) → Heap → (Str → Option Value) → Led → Prop
  | [], g, m, news => ∀ h tk, Fr g env.locals h m → News g env.locals h news → Q .next { s with heap := h, toks := tk }
  | f :: r, g, m, news => ∀ t o h tk, o.cls = .type cl → Fr g env.locals h m → News g env.locals h ((I, o) :: news) →
      wpAny (model prog w) A (assign target env (f t)) (fun _ s₂ => wpAny (model prog w) A (execs body env) (TurnPost env.locals I o ads keep { s with heap := h, toks := tk } (Turns prog w A E env target body Q s I cl ads keep r) Q) E s₂) E { s with heap := h, toks := tk }
def Loops (prog : Program) (w : World) (A : Around) (env : Env) (target : Expr) (body : List Stmt) (Q : Flow → Shared → Prop) (E : Value → Shared → Prop) (it : Value) (s₂ : Shared) : Prop :=
  codeAny (model prog w) A (.forLoop target it body [] env) (fun r s' => match r with | .ok f => Q f s' | .error e => cameBackBy (model prog w) A env E e s') s₂

theorem locals_C {name : Str} {scope : Scope} {L a : Addr} {cd : Value} : (envOfC name scope L a cd).locals = L := rfl
theorem locals_O {name : Str} {scope : Scope} {L a : Addr} {cd : Value} : (envOf name scope L a cd).locals = L := rfl
section
variable {prog : Program} {w : World} {A : Around} {E : Value → Shared → Prop} {s : Shared} {env : Env} {target : Expr} {body : List Stmt} {Q : Flow → Shared → Prop}
theorem TurnEnd.intro {L I : Addr} {o : Obj} {ads : List Addr} {keep : Led} {rest : Heap → (Str → Option Value) → Led → Prop} {g' h' : Heap} {tk' : Nat} {m' : Str → Option Value} {news' : Led}
    (F : Fr g' L h' m') (N : News g' L h' ((I, o) :: news')) (ha : news'.map (·.1) = ads) (hk : SubL keep news') (r : rest g' m' news') : TurnEnd L I o ads keep s rest { s with heap := h', toks := tk' } :=
  ⟨g', h', tk', m', news', rfl, F, N, ha, hk, r⟩
theorem Turns.one {I : Addr} {cl : String} {ads : List Addr} {keep : Led} {f : Tok → Value} {r : List (Tok → Value)} {g : Heap} {m : Str → Option Value} {news : Led}
    (h : ∀ t o h tk, o.cls = .type cl → Fr g env.locals h m → News g env.locals h ((I, o) :: news) →
      wpAny (model prog w) A (assign target env (f t)) (fun _ s₂ => wpAny (model prog w) A (execs body env) (TurnPost env.locals I o ads keep { s with heap := h, toks := tk } (Turns prog w A E env target body Q s I cl ads keep r) Q) E s₂) E { s with heap := h, toks := tk }) :
    Turns prog w A E env target body Q s I cl ads keep (f :: r) g m news := h
theorem Turns.none {I : Addr} {cl : String} {ads : List Addr} {keep : Led} {g : Heap} {m : Str → Option Value} {news : Led}
    (h : ∀ h tk, Fr g env.locals h m → News g env.locals h news → Q .next { s with heap := h, toks := tk }) : Turns prog w A E env target body Q s I cl ads keep [] g m news := h
theorem for_loops {iter : Expr} {pos : Pos}
    (h : wpAny (model prog w) A (eval iter env) (fun x s₁ => wpAny (model prog w) A (pyIter x) (fun it s₂ => Loops prog w A env target body Q E it s₂) E s₁) E s)
    (hs : ∀ x, foldedSetIterable iter env x = pure x := by intro _; rfl) :
    wpAny (model prog w) A (exec (.For target iter body [] pos) env) Q E s :=
  wpAny_For (wpAny_mono h (fun _ _ h₁ => wpAny_mono h₁ (fun _ _ h₂ => h₂) fun _ _ e => e) fun _ _ e => e) hs

theorem loops_of {I : Addr} {cl : String} {keep : Led} {P Md : Nat → Value → Heap → Prop} {St : Nat → Heap → Prop} {xs : List (Tok → Value)} {m₀ : Str → Option Value} {news₀ : Led} {g₀ hp : Heap} {tk0 : Nat}
    (W : KTurns prog w A target I (I :: keep.map (·.1)) [I] xs.length P Md St) (hP : ∀ i v h, P i v h → ∃ f t, xs[i]? = some f ∧ v = f t)
    (hobj : ∀ i h, St i h → ∃ o, h.get? I = some o ∧ o.cls = .type cl) (hIL : I ≠ env.locals) (hIg : g₀.get? I = none) (hoff : ∀ p ∈ news₀, p.1 ≠ I) (hst : St 0 hp)
    (F : Fr g₀ env.locals hp m₀) (N : News g₀ env.locals hp news₀) (hk : SubL keep news₀) (hE : PassesOwn (model prog w) A env E)
    (rest : Turns prog w A E env target body Q s I cl (news₀.map (·.1)) keep xs g₀ m₀ news₀) : Loops prog w A env target body Q E (.ref I) { s with heap := hp, toks := tk0 } := by
  refine codeAny_forLoop_any
    (fun k s' => ∃ g h tk m news i, s' = { s with heap := h, toks := tk } ∧ St i h ∧ Fr g env.locals h m ∧ News g env.locals h news ∧ g.get? I = none ∧ news.map (·.1) = news₀.map (·.1) ∧ SubL keep news ∧ Turns prog w A E env target body Q s I cl (news₀.map (·.1)) keep (xs.drop i) g m news ∧ i ≤ xs.length ∧ k = xs.length + 1 - i) ?_ (xs.length + 1)
    ⟨g₀, hp, tk0, m₀, news₀, 0, rfl, hst, F, N, hIg, rfl, hk, rest, Nat.zero_le _, rfl⟩
  rintro k s' ⟨g, h, tk, m, news, i, rfl, hst', F', N', hg, ha, hk', hT, hi, rfl⟩
  have off : ∀ p ∈ news, p.1 ≠ I := fun p hp => by
    have z : p.1 ∈ news₀.map (·.1) := ha ▸ List.mem_map_of_mem hp
    obtain ⟨q, hq, e⟩ := List.mem_map.mp z
    exact e ▸ hoff q hq
  have next : ∀ h₁ : Heap, (∀ b o, b ∉ [I] → h.get? b = some o → h₁.get? b = some o) → Fr g env.locals h₁ m ∧ News g env.locals h₁ news := fun h₁ k₁ =>
    ⟨⟨F'.ns.at' fun o e => k₁ _ o (fun z => hIL (List.mem_singleton.mp z).symm) e, fun b o e => k₁ b o (fun z => by rw [List.mem_singleton.mp z, hg] at e; cases e) (F'.keep b o e), F'.above⟩,
      fun p hp => ⟨k₁ _ _ (fun z => off p hp (List.mem_singleton.mp z)) (N' p hp).1, (N' p hp).2⟩⟩
  by_cases hlt : i < xs.length
  · refine W.item i _ _ _ hlt hst' fun v h₁ tk₁ hMd hk₁ => ?_
    refine W.go i v _ _ _ hMd fun h₂ hPv hst₂ hk₂ => ?_
    obtain ⟨F₂, N₂⟩ := next h₂ fun b o hb x => hk₂ b o hb (hk₁ b o hb x)
    obtain ⟨f, t, hf, rfl⟩ := hP i v h₂ hPv
    obtain ⟨o, ho, hc⟩ := hobj _ h₂ hst₂
    have hdrop : xs.drop i = f :: xs.drop (i + 1) := by
      rw [List.drop_eq_getElem_cons hlt]
      congr 1
      rw [List.getElem?_eq_getElem hlt] at hf
      exact Option.some.inj hf
    rw [hdrop] at hT
    have N₃ : News g env.locals h₂ ((I, o) :: news) := fun p hp => by
      rcases List.mem_cons.mp hp with rfl | hp
      · exact ⟨ho, hIL, hg⟩
      · exact N₂ p hp
    have step : ∀ s₃, TurnEnd env.locals I o (news₀.map (·.1)) keep { s with heap := h₂, toks := tk₁ } (Turns prog w A E env target body Q s I cl (news₀.map (·.1)) keep (xs.drop (i + 1))) s₃ →
        ∃ n, n < xs.length + 1 - i ∧ ∃ g h tk m news i, s₃ = { s with heap := h, toks := tk } ∧ St i h ∧ Fr g env.locals h m ∧ News g env.locals h news ∧ g.get? I = none ∧ news.map (·.1) = news₀.map (·.1) ∧ SubL keep news ∧ Turns prog w A E env target body Q s I cl (news₀.map (·.1)) keep (xs.drop i) g m news ∧ i ≤ xs.length ∧ n = xs.length + 1 - i := by
      rintro s₃ ⟨g', h', tk', m', news', rfl, F₄, N₄, ha₄, hk₄, r₄⟩
      refine ⟨xs.length + 1 - (i + 1), by omega, g', h', tk', m', news', i + 1, rfl, ?_, F₄, fun p hp => N₄ p (.tail _ hp), (N₄ _ (.head _)).2.2, ha₄, hk₄, r₄, hlt, rfl⟩
      refine W.frame _ _ _ hst₂ fun b hb q e => ?_
      rcases List.mem_cons.mp hb with rfl | hb
      · rw [ho] at e
        cases e
        exact (N₄ _ (.head _)).1
      · obtain ⟨p, hp, rfl⟩ := List.mem_map.mp hb
        have z := (N₂ _ (hk'.mem p hp)).1
        rw [z] at e
        cases e
        exact (N₄ _ (.tail _ (hk₄.mem p hp))).1
    refine wpAny_mono (hT t o h₂ tk₁ hc F₂ N₃) (fun _ s₂ h₂' => wpAny_mono (wpAny_passesOwn hE h₂') (fun r s₃ h₃ => ?_) fun _ _ e => e) hE
    cases r with
    | ret v => exact h₃
    | brk => exact h₃
    | cont => exact step s₃ h₃
    | next => exact step s₃ h₃
  · have hin : i = xs.length := by omega
    subst hin
    refine W.done _ _ _ hst' fun h₁ tk₁ hk₁ => wpAny_execs_nil ?_
    obtain ⟨F₁, N₁⟩ := next h₁ hk₁
    rw [List.drop_length] at hT
    exact hT h₁ tk₁ F₁ N₁

/-- over a tuple of the ledger -/
theorem loops_tup {ax : Addr} {lo : Obj} {vs : List Value} {n : Nat} {m₀ : Str → Option Value} {news : Led} {g : Heap}
    (hh : A.handled = none) (F : Fr g env.locals s.heap m₀) (N : News g env.locals s.heap news) (hm : (ax, lo) ∈ news) (hc : lo.cls = .type "tuple") (hd : lo.data = .seq vs.toArray n)
    (hE : PassesOwn (model prog w) A env E)
    (rest₀ : ∀ I : Addr, (∀ p ∈ news, p.1 < I) → Turns prog w A E env target body Q s I "tuple_iterator" (news.map (·.1)) [(ax, lo)] (vs.map fun v _ => v) g m₀ news) :
    wpAny (model prog w) A (pyIter (.ref ax)) (fun it s₂ => Loops prog w A env target body Q E it s₂) E s := by
  have hax := N _ hm
  have hl : s.heap.IsTuple ax vs.toArray := ⟨lo, hax.1, hc, n, hd⟩
  have hlt : ax < s.heap.objs.size := Heap.lt_size hax.1
  have hne : ax ≠ s.heap.objs.size := Nat.ne_of_lt hlt
  refine wpAny_pyIter_tuple hl ?_
  have W := KTurns.ofWalks (target := target) (Walks.tuple (prog := prog) (w := w) (A := A) hh s.heap.objs.size ax hne vs.toArray) fun i v s Q E st q => letGo_tupleiter st.1 q
  have e : vs.toArray.size = (vs.map fun (v : Value) (_ : Tok) => v).length := by simp
  rw [e] at W
  refine loops_of (tk0 := s.toks) (keep := [(ax, lo)]) W (fun i v h hp => ?_) (fun i h st => ?_) (fun z => ?_) (next_is_new F) (fun p hp z => ?_) ?_ (F.push _) (fun p hp => ⟨Heap.get?_push_of_some _ (N p hp).1, (N p hp).2⟩) (And.intro hm trivial) hE (rest₀ _ fun p hp => Heap.lt_size (N p hp).1)
  · have hp' : vs.toArray[i]? = some v := hp
    have hp'' : vs[i]? = some v := by simpa using hp'
    exact ⟨fun _ => v, 0, by rw [List.getElem?_map, hp'']; rfl, rfl⟩
  · obtain ⟨it, hit, hic, _⟩ := st.1
    exact ⟨it, hit, hic⟩
  · exact absurd F.ns.lt (z ▸ Nat.lt_irrefl _)
  · exact absurd (Heap.lt_size (N p hp).1) (z ▸ Nat.lt_irrefl _)
  · exact ⟨⟨_, Heap.get?_push_size _ rfl, rfl, rfl⟩, hl.at fun o e => Heap.get?_push_of_some _ e⟩
/-- over a range -/
theorem loops_range {x : Str} {xp : Pos} {ax : Addr} {a b : Int} {n : Nat} {t1 t2 t3 : Tok} {m₀ : Str → Option Value} {news : Led} {g : Heap}
    (hh : A.handled = none) (F : Fr g env.locals s.heap m₀) (N : News g env.locals s.heap news) (hr : IsRange s.heap ax a b 1 t1 t2 t3) (hsm : Builtin.Range.small a b 1 = true) (hn : Builtin.Range.rangeSize a b 1 = ((n : Nat) : Int))
    (hE : PassesOwn (model prog w) A env E)
    (rest₀ : ∀ I : Addr, (∀ p ∈ news, p.1 < I) → Turns prog w A E env (.Name x xp) body Q s I "range_iterator" (news.map (·.1)) [] ((List.range n).map fun (i : Nat) (t : Tok) => Value.int (a + (i : Int)) t) g m₀ news) :
    wpAny (model prog w) A (pyIter (.ref ax)) (fun it s₂ => Loops prog w A env (.Name x xp) body Q E it s₂) E s := by
  refine wpAny_pyIter_range hr hsm ?_
  rw [hn]
  have W := KTurns.ofWalks (target := .Name x xp) (Walks.range (prog := prog) (w := w) (A := A) hh s.heap.objs.size a 1 n).bound fun i v s Q E st q => wpAny_pure q
  have e : n = ((List.range n).map fun (i : Nat) (t : Tok) => Value.int (a + (i : Int)) t).length := by simp
  refine loops_of (tk0 := s.toks) (keep := []) (e ▸ W) (fun i v h hp => ?_) (fun i h st => ?_) (fun z => ?_) (next_is_new F) (fun p hp z => ?_) ?_ (F.push _) (fun p hp => ⟨Heap.get?_push_of_some _ (N p hp).1, (N p hp).2⟩) trivial hE (rest₀ _ fun p hp => Heap.lt_size (N p hp).1)
  · obtain ⟨hi, t, rfl⟩ := hp
    rw [← e] at hi
    exact ⟨fun t => .int (a + (i : Int)) t, t, by rw [List.getElem?_map, List.getElem?_range hi]; rfl, by rw [Int.mul_one]⟩
  · exact ⟨_, st, rfl⟩
  · exact absurd F.ns.lt (z ▸ Nat.lt_irrefl _)
  · exact absurd (Heap.lt_size (N p hp).1) (z ▸ Nat.lt_irrefl _)
  · have z : (s.heap.push { cls := Value.type "range_iterator", data := Data.fields #[rawInt a, rawInt (n : Int), rawInt 1] }).get? s.heap.objs.size = some _ := Heap.get?_push_size _ rfl
    simpa [IsRangeIter] using z
theorem loops_lit (xs : List (Tok → Value)) {x : Str} {xp : Pos} {ax : Addr} {a b : Int} {n : Nat} {t1 t2 t3 : Tok} {m₀ : Str → Option Value} {news : Led} {g : Heap}
    (hh : A.handled = none) (F : Fr g env.locals s.heap m₀) (N : News g env.locals s.heap news) (hr : IsRange s.heap ax a b 1 t1 t2 t3) (hsm : Builtin.Range.small a b 1 = true) (hn : Builtin.Range.rangeSize a b 1 = ((n : Nat) : Int))
    (hE : PassesOwn (model prog w) A env E) (hxs : ((List.range n).map fun (i : Nat) (t : Tok) => Value.int (a + (i : Int)) t) = xs)
    (rest₀ : ∀ I : Addr, (∀ p ∈ news, p.1 < I) → Turns prog w A E env (.Name x xp) body Q s I "range_iterator" (news.map (·.1)) [] xs g m₀ news) :
    wpAny (model prog w) A (pyIter (.ref ax)) (fun it s₂ => Loops prog w A env (.Name x xp) body Q E it s₂) E s := by
  subst hxs
  exact loops_range hh F N hr hsm hn hE rest₀
end


open LCg in
/-- the end of one round of a list comprehension whose rounds turn the ghost -/
def RoundEnd (L : Addr) (m : Str → Option Value) (I : Addr) (oI : Obj) (C : Addr) (oC : Obj) (D : Addr) (oD : Obj) (ads : List Addr) (keep : Led) (s : Shared) (rest : Value → Heap → Led → Prop) (y : Value) (s₂ : Shared) : Prop :=
  ∃ g' h' tk' news', s₂ = { s with heap := h', toks := tk' } ∧ Fr g' L h' m ∧ News g' L h' ((I, oI) :: (C, oC) :: (D, oD) :: news') ∧ news'.map (·.1) = ads ∧ SubL keep news' ∧ rest y g' news'
theorem RoundEnd.intro {L : Addr} {m : Str → Option Value} {I C D : Addr} {oI oC oD : Obj} {ads : List Addr} {keep : Led} {s : Shared} {rest : Value → Heap → Led → Prop} {y : Value} {g' h' : Heap} {tk' : Nat} {news' : Led}
    (F : Fr g' L h' m) (N : News g' L h' ((I, oI) :: (C, oC) :: (D, oD) :: news')) (ha : news'.map (·.1) = ads) (hk : SubL keep news') (r : rest y g' news') : RoundEnd L m I oI C oC D oD ads keep s rest y { s with heap := h', toks := tk' } :=
  ⟨g', h', tk', news', rfl, F, N, ha, hk, r⟩
/-- a test's answer, then the round's end -/
def RoundTest (next skip : Shared → Prop) (b : Bool) (s₂ : Shared) : Prop := if b = true then next s₂ else skip s₂
/-- the rounds left of a list comprehension: over the items, the list so far, the ghost, the ledger -/
def Rounds (prog : Program) (w : World) (A : Around) (L : Addr) (m : Str → Option Value) (env : Env) (elt : Expr) (ct : Option Expr) (x : Str) (scope : Scope) (cl : List (Str × Addr)) (s : Shared) (I C D : Addr) (ads : List Addr) (keep : Led) (Fin : List Value → Heap → Led → Prop) :
    List (Tok → Value) → List Value → Heap → Led → Prop
  | [], ys, g, news => Fin ys g news
  | f :: r, ys, g, news => ∀ t oI oC m₂ h tk (E' : Value → Shared → Prop), LCg.NsObj oC m₂ → m₂ x = some (f t) → Fr g L h m → News g L h ((I, oI) :: (C, oC) :: (D, LCg.lst ys) :: news) →
      match ct with
      | none => wpAny (model prog w) A (eval elt (compEnvC scope cl C env)) (RoundEnd L m I oI C oC D (LCg.lst ys) ads keep { s with heap := h, toks := tk } fun y g' news' => Rounds prog w A L m env elt ct x scope cl s I C D ads keep Fin r (ys ++ [y]) g' news') E' { s with heap := h, toks := tk }
      | some c => wpAny (model prog w) A (isTrue c (compEnvC scope cl C env) (eval c (compEnvC scope cl C env)))
          (RoundTest (wpAny (model prog w) A (eval elt (compEnvC scope cl C env)) (RoundEnd L m I oI C oC D (LCg.lst ys) ads keep { s with heap := h, toks := tk } fun y g' news' => Rounds prog w A L m env elt ct x scope cl s I C D ads keep Fin r (ys ++ [y]) g' news') E')
            (RoundEnd L m I oI C oC D (LCg.lst ys) ads keep { s with heap := h, toks := tk } (fun _ g' news' => Rounds prog w A L m env elt ct x scope cl s I C D ads keep Fin r ys g' news') .none)) E' { s with heap := h, toks := tk }

section
variable {prog : Program} {w : World} {A : Around} {E : Value → Shared → Prop} {s : Shared} {L : Addr} {m : Str → Option Value} {env : Env}
theorem comp_block {elt iter : Expr} {ct : Option Expr} {x : Str} {px : Pos} {scope : Scope} {cl : List (Str × Addr)} {pos : Pos} {I : Addr} {keep : Led} {P : Nat → Value → Prop} {St : Nat → Heap → Prop} {xs : List (Tok → Value)} {g₀ : Heap} {news₀ : Led}
    {Fin : Addr → List Value → Heap → Led → Prop} {RR : Value → Addr → Result → Shared → Prop}
    (W : Walks prog w A I (I :: keep.map (·.1)) [I] xs.length P St) (hP : ∀ i v, P i v → ∃ f t, xs[i]? = some f ∧ v = f t) (hobj : ∀ i h, St i h → ∃ o, h.get? I = some o) (hsz : xs.length ≤ sizeLine)
    (hcell : ∀ y ∈ scope.names, y.2 ≠ .cell) (hkind : scope.kind = .function) (hx : scope.names.lookup x = some .local) (hst : St 0 s.heap) (hI : I < s.heap.objs.size)
    (F : Fr g₀ L s.heap m) (N : News g₀ L s.heap news₀) (hIL : I ≠ L) (hIg : g₀.get? I = none) (hoff : ∀ p ∈ news₀, p.1 ≠ I) (hk : SubL keep news₀)
    (rest : ∀ C D, (∀ p ∈ news₀, p.1 < D) → I < D → D < C → Rounds prog w A L m env elt ct x scope cl s I C D (news₀.map (·.1)) keep (Fin D) xs [] g₀ news₀)
    (hRR : ∀ g D C h tk m' ys news', Fr g L h m → News g L h ((D, LCg.lst ys) :: news') → h.Ns C m' → g.get? C = none → C ≠ L → C ≠ D → (∀ p ∈ news', p.1 ≠ C) → Fin D ys g news' → RR (.ref D) C (.ok .next) { s with heap := h, toks := tk }) :
    wpAny (model prog w) A (newList []) (fun acc s₃ => wpAny (model prog w) A (newFunctionEnv scope env.globals cl [] env.qual none .none (some env)) (fun cenv s₄ =>
      codeAny (model prog w) A (.compStart (.ListComp elt [⟨.Name x px, iter, ct.toList, 0⟩] scope pos) 0 (.ref I) acc { cenv with scope := relabel scope env }) (RR acc cenv.locals) s₄) E s₃) E s := by
  refine wpAny_newObj_type (wpAny_newFunctionEnv hcell (by intro y hy; simp at hy) (fun h₁ ns₁ sb₁ => ?_) hkind)
  dsimp only at ns₁ sb₁ ⊢
  generalize hH2 : s.heap.push { cls := .type "list", dict := none, data := .seq ([] : List Value).toArray } = H2 at ns₁ sb₁ ⊢
  have hC : H2.objs.size = s.heap.objs.size + 1 := by rw [← hH2, Heap.size_push]
  obtain ⟨D, hD⟩ : ∃ D : Addr, s.heap.objs.size = D := ⟨_, rfl⟩
  obtain ⟨C, hCd⟩ : ∃ C : Addr, H2.objs.size = C := ⟨_, rfl⟩
  rw [hCd] at hC ns₁ sb₁ ⊢
  rw [hD] at hC hI ⊢
  have hDC : D ≠ C := by rw [hC]; exact Nat.ne_of_lt (Nat.lt_succ_self _)
  have low : ∀ b, b < D → b ≠ C ∧ b ≠ D := fun b hb => ⟨by rw [hC]; exact Nat.ne_of_lt (Nat.lt_succ_of_lt hb), Nat.ne_of_lt hb⟩
  have old : ∀ b o, s.heap.get? b = some o → h₁.get? b = some o := fun b o e => sb₁.extBut b o (low b (hD ▸ Heap.lt_size e)).1 (Heap.get?_push_of_some _ (hH2 ▸ Heap.get?_push_of_some _ e))
  have acc₁ : h₁.get? D = some (LCg.lst []) := sb₁.extBut _ _ hDC (Heap.get?_push_of_some _ (hH2 ▸ hD ▸ Heap.get?_push_size _ rfl))
  have st₁ : St 0 h₁ := W.frame _ _ _ hst fun b _ o e => old b o e
  have new : ∀ a, D ≤ a → g₀.get? a = none := fun a ha => by
    cases e : g₀.get? a with
    | none => rfl
    | some o => exact absurd (hD ▸ Heap.lt_size (F.keep a o e)) (Nat.not_lt.mpr ha)
  have hCD : D ≤ C := by rw [hC]; exact Nat.le_succ _
  have hL : L < D := hD ▸ F.ns.lt
  have nlt : ∀ p ∈ news₀, p.1 < D := fun p hp => hD ▸ Heap.lt_size (N p hp).1
  have hDL : D ≠ L := (low L hL).2.symm
  have hCL : C ≠ L := (low L hL).1.symm
  have hCI : I ≠ C := (low I hI).1
  have hDI : I ≠ D := (low I hI).2
  have loop : ∀ s₃ : Shared, s₃ = { s with heap := h₁, toks := s.toks + ([] : List (Str × Value)).length } →
      codeAny (model prog w) A (.compLoop (.ListComp elt [⟨.Name x px, iter, ct.toList, 0⟩] scope pos) 0 (.ref I) (.ref D) (compEnvC scope cl C env)) (RR (.ref D) C) s₃ := by
    rintro s₃ rfl
    refine codeAny_compLoop_tests
      (fun k s' => ∃ g h' tk i ys m' news', s' = { s with heap := h', toks := tk } ∧ i ≤ xs.length ∧ k = xs.length + 1 - i ∧ ys.length ≤ i ∧ St i h' ∧ Fr g L h' m ∧ h'.Ns C m' ∧ News g L h' ((D, LCg.lst ys) :: news') ∧ g.get? I = none ∧ g.get? C = none ∧
        news'.map (·.1) = news₀.map (·.1) ∧ SubL keep news' ∧ Rounds prog w A L m env elt ct x scope cl s I C D (news₀.map (·.1)) keep (Fin D) (xs.drop i) ys g news') ?_ (xs.length + 1)
      ⟨g₀, h₁, _, 0, [], _, news₀, rfl, Nat.zero_le _, rfl, Nat.le_refl _, st₁, F.keeps old, ns₁, fun p hp => ?_, hIg, new C hCD, rfl, hk, rest C D nlt hI (Nat.lt_of_le_of_ne hCD hDC)⟩
    · rintro k s' ⟨g, h', tk, i, ys, m', news', rfl, hi, rfl, hyl, st', F', n', N', gI, gC, ha, hk', R'⟩
      have off : ∀ p ∈ news', p.1 ≠ I ∧ p.1 ≠ C ∧ p.1 ≠ D := fun p hp => by
        have z : p.1 ∈ news₀.map (·.1) := ha ▸ List.mem_map_of_mem hp
        obtain ⟨q, hq, e⟩ := List.mem_map.mp z
        exact e ▸ ⟨hoff q hq, low _ (nlt q hq)⟩
      have gD : g.get? D = none := (N' _ (.head _)).2.2
      have next : ∀ h₂ : Heap, (∀ b o, b ∉ [I] → h'.get? b = some o → h₂.get? b = some o) → Fr g L h₂ m ∧ News g L h₂ ((D, LCg.lst ys) :: news') ∧ h₂.Ns C m' := fun h₂ k₂ =>
        ⟨⟨F'.ns.at' fun o e => k₂ _ o (fun z => hIL (List.mem_singleton.mp z).symm) e, fun b o e => k₂ b o (fun z => by rw [List.mem_singleton.mp z, gI] at e; cases e) (F'.keep b o e), F'.above⟩,
          fun p hp => ⟨k₂ _ _ (fun z => by
            rcases List.mem_cons.mp hp with rfl | hp
            · exact hDI (List.mem_singleton.mp z).symm
            · exact (off p hp).1 (List.mem_singleton.mp z)) (N' p hp).1, (N' p hp).2⟩, n'.at' fun o e => k₂ _ o (fun z => hCI (List.mem_singleton.mp z).symm) e⟩
      by_cases hlt : i < xs.length
      · refine W.item i _ _ _ hlt st' fun v h₂ tk₂ hv st₂ k₂ => ?_
        obtain ⟨F₂, N₂, n₂⟩ := next h₂ k₂
        obtain ⟨f, t, hf, rfl⟩ := hP i v hv
        have hdrop : xs.drop i = f :: xs.drop (i + 1) := by
          rw [List.drop_eq_getElem_cons hlt]
          congr 1
          rw [List.getElem?_eq_getElem hlt] at hf
          exact Option.some.inj hf
        rw [hdrop] at R'
        refine wpAny_assign_Name (wpAny_storeName_local (lookup_relabel_local hx) n₂ (fun h₃ n₃ s₃ => ?_) (by simp [compEnvC, relabel, hkind]))
        have st₃ : St (i + 1) h₃ := W.frame _ _ _ st₂ fun b hb o e => s₃.extBut b o (fun q => by
          have q' : b = C := q
          rcases List.mem_cons.mp hb with z | z
          · exact hCI (z ▸ q')
          · obtain ⟨p, hp, rfl⟩ := List.mem_map.mp z
            exact (off p (hk'.mem p hp)).2.1 q') e
        obtain ⟨oI, eI⟩ := hobj _ _ st₃
        obtain ⟨oC, eC, hoC⟩ := LCg.ns_obj n₃
        have F₃ : Fr g L h₃ m := F₂.change s₃ hCL gC
        have N₃ : News g L h₃ ((I, oI) :: (C, oC) :: (D, LCg.lst ys) :: news') := fun p hp => by
          rcases List.mem_cons.mp hp with rfl | hp
          · exact ⟨eI, hIL, gI⟩
          · rcases List.mem_cons.mp hp with rfl | hp
            · exact ⟨eC, hCL, gC⟩
            · refine ⟨s₃.extBut _ _ ?_ (N₂ p hp).1, (N₂ p hp).2⟩
              rcases List.mem_cons.mp hp with rfl | hp
              · exact hDC
              · exact (off p hp).2.1
        have back : ∀ tk₂ y ys' s₄, ys'.length ≤ i + 1 → RoundEnd L m I oI C oC D (LCg.lst ys') (news₀.map (·.1)) keep { s with heap := h₃, toks := tk₂ } (fun _ g' news' => Rounds prog w A L m env elt ct x scope cl s I C D (news₀.map (·.1)) keep (Fin D) (xs.drop (i + 1)) ys' g' news') y s₄ →
            ∃ n, n < xs.length + 1 - i ∧ ∃ g h' tk i ys m' news', s₄ = { s with heap := h', toks := tk } ∧ i ≤ xs.length ∧ n = xs.length + 1 - i ∧ ys.length ≤ i ∧ St i h' ∧ Fr g L h' m ∧ h'.Ns C m' ∧ News g L h' ((D, LCg.lst ys) :: news') ∧ g.get? I = none ∧ g.get? C = none ∧
              news'.map (·.1) = news₀.map (·.1) ∧ SubL keep news' ∧ Rounds prog w A L m env elt ct x scope cl s I C D (news₀.map (·.1)) keep (Fin D) (xs.drop i) ys g news' := by
          rintro tk₂ y ys' s₄ hl ⟨g', h₄, tk₄, news₄, rfl, F₄, N₄, ha₄, hk₄, R₄⟩
          refine ⟨xs.length + 1 - (i + 1), by omega, g', h₄, tk₄, i + 1, ys', _, news₄, rfl, hlt, rfl, hl, ?_, F₄, hoC.ns (N₄ _ (.tail _ (.head _))).1, fun p hp => N₄ p (.tail _ (.tail _ hp)), (N₄ _ (.head _)).2.2, (N₄ _ (.tail _ (.head _))).2.2, ha₄, hk₄, R₄⟩
          refine W.frame _ _ _ st₃ fun b hb q e => ?_
          rcases List.mem_cons.mp hb with rfl | hb
          · rw [eI] at e
            cases e
            exact (N₄ _ (.head _)).1
          · obtain ⟨p, hp, rfl⟩ := List.mem_map.mp hb
            have z := (N₃ _ (.tail _ (.tail _ (.tail _ (hk'.mem p hp))))).1
            rw [z] at e
            cases e
            exact (N₄ _ (.tail _ (.tail _ (.tail _ (hk₄.mem p hp))))).1
        have take : ∀ tk₂ y s₄, RoundEnd L m I oI C oC D (LCg.lst ys) (news₀.map (·.1)) keep { s with heap := h₃, toks := tk₂ } (fun y g' news' => Rounds prog w A L m env elt ct x scope cl s I C D (news₀.map (·.1)) keep (Fin D) (xs.drop (i + 1)) (ys ++ [y]) g' news') y s₄ →
            ∀ E' : Value → Shared → Prop, wpAny (model prog w) A (call (.builtin "list.append") [.ref D, y]) (fun _ s₅ => ∃ n, n < xs.length + 1 - i ∧ ∃ g h' tk i ys m' news', s₅ = { s with heap := h', toks := tk } ∧ i ≤ xs.length ∧ n = xs.length + 1 - i ∧ ys.length ≤ i ∧ St i h' ∧ Fr g L h' m ∧ h'.Ns C m' ∧ News g L h' ((D, LCg.lst ys) :: news') ∧ g.get? I = none ∧ g.get? C = none ∧
              news'.map (·.1) = news₀.map (·.1) ∧ SubL keep news' ∧ Rounds prog w A L m env elt ct x scope cl s I C D (news₀.map (·.1)) keep (Fin D) (xs.drop i) ys g news') E' s₄ := by
          rintro tk₂ y s₄ ⟨g', h₄, tk₄, news₄, rfl, F₄, N₄, ha₄, hk₄, R₄⟩ E'
          have off₄ : ∀ p ∈ news₄, p.1 ≠ D := fun p hp => by
            have z : p.1 ∈ news₀.map (·.1) := ha₄ ▸ List.mem_map_of_mem hp
            obtain ⟨q, hq, e⟩ := List.mem_map.mp z
            exact e ▸ (low _ (nlt q hq)).2
          have zD := N₄ (D, LCg.lst ys) (.tail _ (.tail _ (.head _)))
          refine append_at (hsz := by show ys.toArray.size ≤ sizeLine; rw [List.size_toArray]; exact Nat.le_trans (Nat.le_trans hyl hi) hsz) zD.1 fun h₅ s₅ D₅ => ?_
          refine back tk₂ y (ys ++ [y]) _ (by rw [List.length_append, List.length_singleton]; omega) ⟨g', h₅, tk₄, news₄, rfl, F₄.change s₅ hDL zD.2.2, fun p hp => ?_, ha₄, hk₄, R₄⟩
          rcases List.mem_cons.mp hp with rfl | hp
          · exact ⟨s₅.extBut _ _ hDI (N₄ _ (.head _)).1, (N₄ _ (.head _)).2⟩
          · rcases List.mem_cons.mp hp with rfl | hp
            · exact ⟨s₅.extBut _ _ hDC.symm (N₄ _ (.tail _ (.head _))).1, (N₄ _ (.tail _ (.head _))).2⟩
            · rcases List.mem_cons.mp hp with rfl | hp
              · exact ⟨D₅.trans (congrArg some (LCg.lst_snoc ys y)), zD.2⟩
              · exact ⟨s₅.extBut _ _ (off₄ p hp) (N₄ _ (.tail _ (.tail _ (.tail _ hp)))).1, (N₄ _ (.tail _ (.tail _ (.tail _ hp)))).2⟩
        cases ct with
        | none =>
          refine wpAny_tests_nil ?_
          rw [if_pos rfl]
          exact wpAny_mono (R' t oI oC _ h₃ _ _ hoC (by simp) F₃ N₃) (fun y s₄ h₄ => take _ y s₄ h₄ _) fun _ _ e => e
        | some c =>
          refine wpAny_tests_one ?_
          refine wpAny_mono (R' t oI oC _ h₃ _ _ hoC (by simp) F₃ N₃) (fun b s₄ h₄ => ?_) fun _ _ e => e
          unfold RoundTest at h₄
          cases b with
          | true =>
            rw [if_pos rfl] at h₄ ⊢
            exact wpAny_mono h₄ (fun y s₅ h₅ => take _ y s₅ h₅ _) fun _ _ e => e
          | false =>
            rw [if_neg Bool.false_ne_true] at h₄ ⊢
            exact back _ _ ys _ (Nat.le_succ_of_le hyl) h₄
      · have hin : i = xs.length := Nat.le_antisymm hi (Nat.not_lt.mp hlt)
        subst hin
        rw [List.drop_length] at R'
        refine W.done _ _ _ st' fun h₂ tk₂ k₂ => ?_
        obtain ⟨F₂, N₂, n₂⟩ := next h₂ k₂
        exact hRR g D C h₂ tk₂ _ ys news' F₂ N₂ n₂ gC hCL hDC.symm (fun p hp => (off p hp).2.1) R'
    · rcases List.mem_cons.mp hp with rfl | hp
      · exact ⟨acc₁, hDL, new _ (Nat.le_refl _)⟩
      · exact ⟨old _ _ (N p hp).1, (N p hp).2⟩
  exact codeAny_compStart_list (loop _ rfl) (W.self 0 _ _ _ st₁ (loop _ rfl))

theorem Rounds.one {elt : Expr} {x : Str} {scope : Scope} {cl : List (Str × Addr)} {I C D : Addr} {ads : List Addr} {keep : Led} {Fin : List Value → Heap → Led → Prop} {f : Tok → Value} {r : List (Tok → Value)} {ys : List Value} {g : Heap} {news : Led}
    (h : ∀ t oI oC m₂ h tk (E' : Value → Shared → Prop), LCg.NsObj oC m₂ → m₂ x = some (f t) → Fr g L h m → News g L h ((I, oI) :: (C, oC) :: (D, LCg.lst ys) :: news) →
      wpAny (model prog w) A (eval elt (compEnvC scope cl C env)) (RoundEnd L m I oI C oC D (LCg.lst ys) ads keep { s with heap := h, toks := tk } fun y g' news' => Rounds prog w A L m env elt none x scope cl s I C D ads keep Fin r (ys ++ [y]) g' news') E' { s with heap := h, toks := tk }) :
    Rounds prog w A L m env elt none x scope cl s I C D ads keep Fin (f :: r) ys g news := h
theorem Rounds.test {elt c : Expr} {x : Str} {scope : Scope} {cl : List (Str × Addr)} {I C D : Addr} {ads : List Addr} {keep : Led} {Fin : List Value → Heap → Led → Prop} {f : Tok → Value} {r : List (Tok → Value)} {ys : List Value} {g : Heap} {news : Led}
    (h : ∀ t oI oC m₂ h tk (E' : Value → Shared → Prop), LCg.NsObj oC m₂ → m₂ x = some (f t) → Fr g L h m → News g L h ((I, oI) :: (C, oC) :: (D, LCg.lst ys) :: news) →
      wpAny (model prog w) A (isTrue c (compEnvC scope cl C env) (eval c (compEnvC scope cl C env)))
          (RoundTest (wpAny (model prog w) A (eval elt (compEnvC scope cl C env)) (RoundEnd L m I oI C oC D (LCg.lst ys) ads keep { s with heap := h, toks := tk } fun y g' news' => Rounds prog w A L m env elt (some c) x scope cl s I C D ads keep Fin r (ys ++ [y]) g' news') E')
            (RoundEnd L m I oI C oC D (LCg.lst ys) ads keep { s with heap := h, toks := tk } (fun _ g' news' => Rounds prog w A L m env elt (some c) x scope cl s I C D ads keep Fin r ys g' news') .none)) E' { s with heap := h, toks := tk }) :
    Rounds prog w A L m env elt (some c) x scope cl s I C D ads keep Fin (f :: r) ys g news := h
theorem Rounds.none {elt : Expr} {ct : Option Expr} {x : Str} {scope : Scope} {cl : List (Str × Addr)} {I C D : Addr} {ads : List Addr} {keep : Led} {Fin : List Value → Heap → Led → Prop} {ys : List Value} {g : Heap} {news : Led} (h : Fin ys g news) :
    Rounds prog w A L m env elt ct x scope cl s I C D ads keep Fin [] ys g news := h

/-- what the list made is then worth, to an expression -/
def MadeV (L : Addr) (m : Str → Option Value) (Q : Value → Shared → Prop) (s : Shared) (D : Addr) (ys : List Value) (g : Heap) (news : Led) : Prop :=
  ∀ h tk, Fr g L h m → News g L h ((D, LCg.lst ys) :: news) → Q (.ref D) { s with heap := h, toks := tk }
/-- and to a name -/
def MadeA (L : Addr) (m : Str → Option Value) (y : Str) (Q : Flow → Shared → Prop) (s : Shared) (D : Addr) (ys : List Value) (g : Heap) (news : Led) : Prop :=
  ∀ h tk, Fr g L h (fun z => if z = y then some (.ref D) else m z) → News g L h ((D, LCg.lst ys) :: news) → Q .next { s with heap := h, toks := tk }
def OverL (prog : Program) (w : World) (A : Around) (L : Addr) (m : Str → Option Value) (env : Env) (elt : Expr) (ct : Option Expr) (x : Str) (scope : Scope) (cl : List (Str × Addr)) (Fin : Shared → Addr → List Value → Heap → Led → Prop) (xv : Value) (s₁ : Shared) : Prop :=
  A.handled = .none ∧ ∃ (g : Heap) (news : Led) (ax : Addr) (lo : Obj) (vs : List Value) (n : Nat), Fr g L s₁.heap m ∧ News g L s₁.heap news ∧ xv = .ref ax ∧ (ax, lo) ∈ news ∧ lo.cls = .type "list" ∧ lo.data = .seq vs.toArray n ∧ vs.length ≤ sizeLine ∧
    ∀ hp I C D, (∀ p ∈ news, p.1 < I) → I < D → D < C → Rounds prog w A L m env elt ct x scope cl { s₁ with heap := hp } I C D (news.map (·.1)) [(ax, lo)] (Fin { s₁ with heap := hp } D) (vs.map fun v _ => v) [] g news
def OverR (prog : Program) (w : World) (A : Around) (L : Addr) (m : Str → Option Value) (env : Env) (elt : Expr) (ct : Option Expr) (x : Str) (scope : Scope) (cl : List (Str × Addr)) (Fin : Shared → Addr → List Value → Heap → Led → Prop) (xv : Value) (s₁ : Shared) : Prop :=
  A.handled = .none ∧ ∃ (g : Heap) (news : Led) (ax : Addr) (a b : Int) (n : Nat) (t1 t2 t3 : Tok), Fr g L s₁.heap m ∧ News g L s₁.heap news ∧ xv = .ref ax ∧ IsRange s₁.heap ax a b 1 t1 t2 t3 ∧ Builtin.Range.small a b 1 = true ∧ Builtin.Range.rangeSize a b 1 = ((n : Nat) : Int) ∧ n ≤ sizeLine ∧
    ∀ hp I C D, (∀ p ∈ news, p.1 < I) → I < D → D < C → Rounds prog w A L m env elt ct x scope cl { s₁ with heap := hp } I C D (news.map (·.1)) [] (Fin { s₁ with heap := hp } D) ((List.range n).map fun (i : Nat) (t : Tok) => Value.int (a + (i : Int)) t) [] g news

theorem over_list {elt iter : Expr} {ct : Option Expr} {x : Str} {px : Pos} {scope : Scope} {cl : List (Str × Addr)} {pos : Pos} {Fin : Shared → Addr → List Value → Heap → Led → Prop} {RR : Value → Addr → Result → Shared → Prop} {xv : Value}
    (hcell : ∀ y ∈ scope.names, y.2 ≠ .cell) (hkind : scope.kind = .function) (hx : scope.names.lookup x = some .local) (h : OverL prog w A L m env elt ct x scope cl Fin xv s)
    (hRR : ∀ hp g D C h tk m' ys news', Fr g L h m → News g L h ((D, LCg.lst ys) :: news') → h.Ns C m' → g.get? C = .none → C ≠ L → C ≠ D → (∀ p ∈ news', p.1 ≠ C) → Fin { s with heap := hp } D ys g news' → RR (.ref D) C (.ok .next) { s with heap := h, toks := tk }) :
    wpAny (model prog w) A (pyIter xv) (fun it s₂ => wpAny (model prog w) A (newList []) (fun acc s₃ => wpAny (model prog w) A (newFunctionEnv scope env.globals cl [] env.qual none .none (some env)) (fun cenv s₄ =>
      codeAny (model prog w) A (.compStart (.ListComp elt [⟨.Name x px, iter, ct.toList, 0⟩] scope pos) 0 it acc { cenv with scope := relabel scope env }) (RR acc cenv.locals) s₄) E s₃) E s₂) E s := by
  obtain ⟨hh, g, news, ax, lo, vs, n, F, N, rfl, hm, hc, hd', hsz, rest⟩ := h
  have hax := N _ hm
  have hl : s.heap.IsList ax vs.toArray := ⟨lo, hax.1, hc, n, hd'⟩
  have hlt : ax < s.heap.objs.size := Heap.lt_size hax.1
  refine wpAny_pyIter_list hl ?_
  have up : ∀ b o, s.heap.get? b = some o → (s.heap.push { cls := .type "list_iterator", data := .fields #[.ref ax, .int 0 0] }).get? b = some o := fun b o e => Heap.get?_push_of_some _ e
  have W := Walks.list (prog := prog) (w := w) (A := A) hh s.heap.objs.size ax (Nat.ne_of_lt hlt) vs.toArray
  have e : vs.toArray.size = (vs.map fun (v : Value) (_ : Tok) => v).length := by simp
  rw [e] at W
  refine comp_block (keep := [(ax, lo)]) W (fun i v hp => ?_) (fun i h st => ?_) (by rw [List.length_map]; exact hsz) hcell hkind hx ⟨⟨_, Heap.get?_push_size _ rfl, rfl, rfl⟩, hl.push _⟩ (by show s.heap.objs.size < (s.heap.push _).objs.size; rw [Heap.size_push]; exact Nat.lt_succ_self _)
    (F.keeps up) (N.grown up) (fun z => ?_) (next_is_new F) (fun p hp z => ?_) (And.intro hm trivial) (fun C D _ h1 h2 => rest _ _ C D (fun p hp => Heap.lt_size (N p hp).1) h1 h2) (fun g' D C h tk m' ys news' a b c d e f i j => hRR _ g' D C h tk m' ys news' a b c d e f i j)
  · have hp' : vs.toArray[i]? = some v := hp
    have hp'' : vs[i]? = some v := by simpa using hp'
    exact ⟨fun _ => v, 0, by rw [List.getElem?_map, hp'']; rfl, rfl⟩
  · obtain ⟨it, hit, _⟩ := st.1
    exact ⟨it, hit⟩
  · exact absurd F.ns.lt (z ▸ Nat.lt_irrefl _)
  · exact absurd (Heap.lt_size (N p hp).1) (z ▸ Nat.lt_irrefl _)
theorem over_range {elt iter : Expr} {ct : Option Expr} {x : Str} {px : Pos} {scope : Scope} {cl : List (Str × Addr)} {pos : Pos} {Fin : Shared → Addr → List Value → Heap → Led → Prop} {RR : Value → Addr → Result → Shared → Prop} {xv : Value}
    (hcell : ∀ y ∈ scope.names, y.2 ≠ .cell) (hkind : scope.kind = .function) (hx : scope.names.lookup x = some .local) (h : OverR prog w A L m env elt ct x scope cl Fin xv s)
    (hRR : ∀ hp g D C h tk m' ys news', Fr g L h m → News g L h ((D, LCg.lst ys) :: news') → h.Ns C m' → g.get? C = .none → C ≠ L → C ≠ D → (∀ p ∈ news', p.1 ≠ C) → Fin { s with heap := hp } D ys g news' → RR (.ref D) C (.ok .next) { s with heap := h, toks := tk }) :
    wpAny (model prog w) A (pyIter xv) (fun it s₂ => wpAny (model prog w) A (newList []) (fun acc s₃ => wpAny (model prog w) A (newFunctionEnv scope env.globals cl [] env.qual none .none (some env)) (fun cenv s₄ =>
      codeAny (model prog w) A (.compStart (.ListComp elt [⟨.Name x px, iter, ct.toList, 0⟩] scope pos) 0 it acc { cenv with scope := relabel scope env }) (RR acc cenv.locals) s₄) E s₃) E s₂) E s := by
  obtain ⟨hh, g, news, ax, a, b, n, t1, t2, t3, F, N, rfl, hr, hsm, hn, hsz, rest⟩ := h
  refine wpAny_pyIter_range hr hsm ?_
  rw [hn]
  have up : ∀ c o, s.heap.get? c = some o → (s.heap.push { cls := .type "range_iterator", data := .fields #[rawInt a, rawInt (n : Int), rawInt 1] }).get? c = some o := fun c o e => Heap.get?_push_of_some _ e
  have W := (Walks.range (prog := prog) (w := w) (A := A) hh s.heap.objs.size a 1 n).bound
  have e : n = ((List.range n).map fun (i : Nat) (t : Tok) => Value.int (a + (i : Int)) t).length := by simp
  have z0 : (s.heap.push { cls := Value.type "range_iterator", data := Data.fields #[rawInt a, rawInt (n : Int), rawInt 1] }).get? s.heap.objs.size = some _ := Heap.get?_push_size _ rfl
  refine comp_block (keep := []) (e ▸ W) (fun i v hp => ?_) (fun i h st => ⟨_, st⟩) (e ▸ hsz) hcell hkind hx (by simpa [IsRangeIter] using z0) (by show s.heap.objs.size < (s.heap.push _).objs.size; rw [Heap.size_push]; exact Nat.lt_succ_self _)
    (F.keeps up) (N.grown up) (fun z => ?_) (next_is_new F) (fun p hp z => ?_) trivial (fun C D _ h1 h2 => rest _ _ C D (fun p hp => Heap.lt_size (N p hp).1) h1 h2) (fun g' D C h tk m' ys news' a b c d e f i j => hRR _ g' D C h tk m' ys news' a b c d e f i j)
  · obtain ⟨hi, t, rfl⟩ := hp
    rw [← e] at hi
    exact ⟨fun t => .int (a + (i : Int)) t, t, by rw [List.getElem?_map, List.getElem?_range hi]; rfl, by rw [Int.mul_one]⟩
  · exact absurd F.ns.lt (z ▸ Nat.lt_irrefl _)
  · exact absurd (Heap.lt_size (N p hp).1) (z ▸ Nat.lt_irrefl _)
theorem made_end {g : Heap} {D C : Addr} {h h' : Heap} {ys : List Value} {news' : Led} {m₂ : Str → Option Value} (F : Fr g L h m₂) (N : News g L h ((D, LCg.lst ys) :: news')) (hC : g.get? C = .none) (hCL : C ≠ L) (hCD : C ≠ D) (off : ∀ p ∈ news', p.1 ≠ C) (hs : Heap.SameBut C h h') :
    Fr g L h' m₂ ∧ News g L h' ((D, LCg.lst ys) :: news') := by
  refine ⟨F.change hs hCL hC, fun p hp => ⟨hs.extBut _ _ ?_ (N p hp).1, (N p hp).2⟩⟩
  rcases List.mem_cons.mp hp with rfl | hp
  · exact hCD.symm
  · exact off p hp
/-- a list comprehension over a list of the ledger, as an expression -/
theorem comp_eval {g₀ : Heap} {elt iter : Expr} {x : Str} {px : Pos} {scope : Scope} {cl : List (Str × Addr)} {pos : Pos} {Q : Value → Shared → Prop} (_F₀ : Fr g₀ L s.heap m)
    (hclos : closureFor scope env = pure cl) (hcell : ∀ y ∈ scope.names, y.2 ≠ .cell) (hkind : scope.kind = .function) (hnames : ∀ y ∈ scope.names, y.2 = .local → scope.names.lookup y.1 = some .local) (hx : scope.names.lookup x = some .local)
    (h : wpAny (model prog w) A (eval iter env) (OverL prog w A L m env elt .none x scope cl (MadeV L m Q)) E s) (hs : ∀ x, foldedSetIterable iter env x = pure x := by intro _; rfl) :
    wpAny (model prog w) A (eval (.ListComp elt [⟨.Name x px, iter, [], 0⟩] scope pos) env) Q E s := by
  rw [eval_ListComp]
  refine wpAny_comprehension_free (use := .none) rfl hs hclos hkind hnames (wpAny_mono h (fun xv s₁ h₁ => ?_) fun _ _ e => e)
  refine over_list (ct := .none) hcell hkind hx h₁ fun hp g D C h' tk m' ys news' F' N' ns hC hCL hCD off fin => ?_
  exact ⟨m', ns, fun h'' hs'' => fin h'' tk (made_end F' N' hC hCL hCD off hs'').1 (made_end F' N' hC hCL hCD off hs'').2⟩
/-- one over a range, with a test, to a local name -/
theorem comp_assign {g₀ : Heap} {elt c iter : Expr} {x y : Str} {px py : Pos} {scope : Scope} {cl : List (Str × Addr)} {pos spos : Pos} {Q : Flow → Shared → Prop} (_F₀ : Fr g₀ L s.heap m) (hLe : env.locals = L)
    (hsw : swapsWith (.ListComp elt [⟨.Name x px, iter, [c], 0⟩] scope pos) (some (.Name y py)) spos.line env = pure true)
    (hclos : closureFor scope env = pure cl) (hcell : ∀ z ∈ scope.names, z.2 ≠ .cell) (hkind : scope.kind = .function) (hnames : ∀ z ∈ scope.names, z.2 = .local → scope.names.lookup z.1 = some .local) (hx : scope.names.lookup x = some .local)
    (hy : env.kindOf y = some .local) (hp : (env.scope.kind == .class || (env.scope.kind == .module && env.locals != env.globals)) = false)
    (h : wpAny (model prog w) A (eval iter env) (OverR prog w A L m env elt (some c) x scope cl (MadeA L m y Q)) E s) (hs : ∀ x, foldedSetIterable iter env x = pure x := by intro _; rfl) :
    wpAny (model prog w) A (exec (.Assign [.Name y py] (.ListComp elt [⟨.Name x px, iter, [c], 0⟩] scope pos) spos) env) Q E s := by
  subst hLe
  rw [exec_Assign_Name_used _ _ _ _ hsw]
  refine wpAny_bind (wpAny_standAt (wpAny_bind ?_))
  show wpAny _ A (do let _ ← comprehension (.ListComp elt [⟨.Name x px, iter, [c], 0⟩] scope pos) scope env _ (newList []) false (eval iter env) (some (assign (.Name y py) env))) _ _ s
  refine wpAny_bind (wpAny_mono (wpAny_comprehension_free (use := some (assign (.Name y py) env)) (Q := fun _ s' => Q .next s') rfl hs hclos hkind hnames
    (wpAny_mono h (fun xv s₁ h₁ => ?_) fun _ _ e => e)) (fun _ s' hq => wpAny_pure (wpAny_pure hq)) fun _ _ e => e)
  refine over_range (ct := some c) hcell hkind hx h₁ fun hp' g D C h' tk m' ys news' F' N' ns hC hCL hCD off fin => ?_
  show wpAny _ A (assign (.Name y py) env (.ref D)) _ _ _
  refine wpAny_assign_Name (wpAny_storeName_local hy F'.ns (fun h₂ n₂ s₂ => ?_) hp)
  have F₂ : Fr g env.locals h₂ (fun z => if z = y then some (.ref D) else m z) := F'.set n₂ s₂
  have N₂ : News g env.locals h₂ ((D, LCg.lst ys) :: news') := N'.set s₂
  exact ⟨m', ns.sameBut s₂ hCL, fun h'' hs'' => fin h'' _ (made_end F₂ N₂ hC hCL hCD off hs'').1 (made_end F₂ N₂ hC hCL hCD off hs'').2⟩

theorem OverL.intro {elt : Expr} {ct : Option Expr} {x : Str} {scope : Scope} {cl : List (Str × Addr)} {Fin : Shared → Addr → List Value → Heap → Led → Prop} {g : Heap} {news : Led} {ax : Addr} {lo : Obj} {vs : List Value} {n : Nat}
    (hh : A.handled = .none) (F : Fr g L s.heap m) (N : News g L s.heap news) (hm : (ax, lo) ∈ news) (hc : lo.cls = .type "list") (hd' : lo.data = .seq vs.toArray n) (hsz : vs.length ≤ sizeLine)
    (h : ∀ hp I C D, (∀ p ∈ news, p.1 < I) → I < D → D < C → Rounds prog w A L m env elt ct x scope cl { s with heap := hp } I C D (news.map (·.1)) [(ax, lo)] (Fin { s with heap := hp } D) (vs.map fun v _ => v) [] g news) :
    OverL prog w A L m env elt ct x scope cl Fin (.ref ax) s := ⟨hh, g, news, ax, lo, vs, n, F, N, rfl, hm, hc, hd', hsz, h⟩
theorem OverR.intro {elt : Expr} {ct : Option Expr} {x : Str} {scope : Scope} {cl : List (Str × Addr)} {Fin : Shared → Addr → List Value → Heap → Led → Prop} {g : Heap} {news : Led} {ax : Addr} {a b : Int} {n : Nat} {t1 t2 t3 : Tok}
    (hh : A.handled = .none) (F : Fr g L s.heap m) (N : News g L s.heap news) (hr : IsRange s.heap ax a b 1 t1 t2 t3) (hsm : Builtin.Range.small a b 1 = true) (hn : Builtin.Range.rangeSize a b 1 = ((n : Nat) : Int)) (hsz : n ≤ sizeLine)
    (h : ∀ hp I C D, (∀ p ∈ news, p.1 < I) → I < D → D < C → Rounds prog w A L m env elt ct x scope cl { s with heap := hp } I C D (news.map (·.1)) [] (Fin { s with heap := hp } D) ((List.range n).map fun (i : Nat) (t : Tok) => Value.int (a + (i : Int)) t) [] g news) :
    OverR prog w A L m env elt ct x scope cl Fin (.ref ax) s := ⟨hh, g, news, ax, a, b, n, t1, t2, t3, F, N, rfl, hr, hsm, hn, hsz, h⟩
theorem OverR.lit (xs : List (Tok → Value)) {elt : Expr} {ct : Option Expr} {x : Str} {scope : Scope} {cl : List (Str × Addr)} {Fin : Shared → Addr → List Value → Heap → Led → Prop} {g : Heap} {news : Led} {ax : Addr} {a b : Int} {n : Nat} {t1 t2 t3 : Tok}
    (hh : A.handled = .none) (F : Fr g L s.heap m) (N : News g L s.heap news) (hr : IsRange s.heap ax a b 1 t1 t2 t3) (hsm : Builtin.Range.small a b 1 = true) (hn : Builtin.Range.rangeSize a b 1 = ((n : Nat) : Int)) (hsz : n ≤ sizeLine)
    (hxs : ((List.range n).map fun (i : Nat) (t : Tok) => Value.int (a + (i : Int)) t) = xs)
    (h : ∀ hp I C D, (∀ p ∈ news, p.1 < I) → I < D → D < C → Rounds prog w A L m env elt ct x scope cl { s with heap := hp } I C D (news.map (·.1)) [] (Fin { s with heap := hp } D) xs [] g news) :
    OverR prog w A L m env elt ct x scope cl Fin (.ref ax) s := by
  subst hxs
  exact OverR.intro hh F N hr hsm hn hsz h
theorem lst_at {h₀ : Heap} {news : Led} {value slice : PySem.Expr} {D : Addr} {vs : List Value} {k : Int} {u : Tok} {v : Value} {Q : Value → Shared → Prop} (N : News h₀ L s.heap news) (hm : (D, LCg.lst vs) ∈ news) (h0 : 0 ≤ k) (hhi : k < 2 ^ 63) (hx : vs[k.toNat]? = some v)
    (hs : subscripted slice false (.ref D) (.int k u) = operate [.ref D, .int k u] (getItem (.ref D) (.int k u))) (h : Q v s) : wpAny (model prog w) A (subscriptTail value slice (.ref D) (.int k u)) Q E s :=
  item_litK ⟨_, (N _ hm).1, rfl, _, rfl⟩ h0 hhi hx h hs
theorem row_at {h₀ : Heap} {news : Led} {value slice : PySem.Expr} {D : Addr} {lo : Obj} {a b c d : Value} {n : Nat} {k : Int} {u : Tok} {v : Value} {Q : Value → Shared → Prop} (N : News h₀ L s.heap news) (hm : (D, lo) ∈ news) (hc : lo.cls = .type "list") (hd' : lo.data = .seq [a, b, c, d].toArray n) (h0 : 0 ≤ k) (hhi : k < 2 ^ 63) (hx : [a, b, c, d][k.toNat]? = some v)
    (hs : subscripted slice false (.ref D) (.int k u) = operate [.ref D, .int k u] (getItem (.ref D) (.int k u))) (h : Q v s) : wpAny (model prog w) A (subscriptTail value slice (.ref D) (.int k u)) Q E s :=
  item_litK ⟨_, (N _ hm).1, hc, _, hd'⟩ h0 hhi hx h hs
theorem RoundTest.yes {next skip : Shared → Prop} (h : next s) : RoundTest next skip true s := h
theorem RoundTest.no {next skip : Shared → Prop} (h : skip s) : RoundTest next skip false s := h
theorem MadeA.intro {y : Str} {Q : Flow → Shared → Prop} {D : Addr} {ys : List Value} {g : Heap} {news : Led} (h : ∀ h tk, Fr g L h (fun z => if z = y then some (.ref D) else m z) → News g L h ((D, LCg.lst ys) :: news) → Q .next { s with heap := h, toks := tk }) : MadeA L m y Q s D ys g news := h

theorem min_own {h₀ : Heap} {news : Led} {a b : Int} {t u : Tok} {Q : Value → Shared → Prop} (hh : A.handled = .none) (F : Fr h₀ L s.heap m) (N : News h₀ L s.heap news)
    (h : ∀ h' tk c tc, c ≤ a → c ≤ b → (c = a ∨ c = b) → Fr h₀ L h' m → News h₀ L h' news → Q (.int c tc) { s with heap := h', toks := tk }) : wpAny (model prog w) A (call (.builtin "min") [.int a t, .int b u]) Q E s :=
  min_two_N hh F N fun h' tk F' N' => h h' tk _ _ (by split <;> omega) (by split <;> omega) (by split <;> simp) F' N'
end

/-- which of a row of four are refused, and how the others stand -/
inductive Shape : Option Int → Option Int → Option Int → Option Int → Prop
  | no : Shape none none none none
  | a {x : Int} : Shape (some x) none none none
  | b {x : Int} : Shape none (some x) none none
  | c {x : Int} : Shape none none (some x) none
  | d {x : Int} : Shape none none none (some x)
  | ab {x y : Int} : x ≤ y → Shape (some x) (some y) none none
  | bc {x y : Int} : x ≤ y → Shape none (some x) (some y) none
  | cd {x y : Int} : x ≤ y → Shape none none (some x) (some y)
  | abc {x y z : Int} : x ≤ y → y ≤ z → Shape (some x) (some y) (some z) none
  | bcd {x y z : Int} : x ≤ y → y ≤ z → Shape none (some x) (some y) (some z)
  | all {x y z u : Int} : x ≤ y → y ≤ z → z ≤ u → Shape (some x) (some y) (some z) (some u)
theorem conv_mono {T Y : Ty} {x y : Int} (a1 : 0 < T.a) (b1 : 0 < T.b) (a2 : 0 < Y.a) (b2 : 0 < Y.b) (h : x ≤ y) : convV T Y x ≤ convV T Y y := by
  have hd' : 0 < Y.b * T.a := Int.mul_pos b2 a1
  have hn : x * Y.a * T.b ≤ y * Y.a * T.b := Int.mul_le_mul_of_nonneg_right (Int.mul_le_mul_of_nonneg_right h (Int.le_of_lt a2)) (Int.le_of_lt b1)
  unfold convV
  split
  · exact cut_mono hd' hn
  · exact rnd_mono hd' hn
theorem conv_self {T : Ty} {v : Int} (a1 : 0 < T.a) (b1 : 0 < T.b) : convV T T v = v := by
  have hd' : 0 < T.b * T.a := Int.mul_pos b1 a1
  have e : v * T.a * T.b = v * (T.b * T.a) := by rw [Int.mul_assoc, Int.mul_comm T.a T.b]
  unfold convV
  rw [e]
  split
  · exact cut_mul hd'
  · exact rnd_mul hd'
theorem shape_of {S : Sub} {Y : Ty} {r0 r1 r2 r3 : Int} (a1 : 0 < S.T.a) (b1 : 0 < S.T.b) (a2 : 0 < Y.a) (b2 : 0 < Y.b) (h0 : r0 ≤ r1) (h1 : r1 ≤ r2) (h2 : r2 ≤ r3) :
    Shape (withinV S Y r0) (withinV S Y r1) (withinV S Y r2) (withinV S Y r3) := by
  have m0 := conv_mono (T := S.T) (Y := Y) a1 b1 a2 b2 h0
  have m1 := conv_mono (T := S.T) (Y := Y) a1 b1 a2 b2 h1
  have m2 := conv_mono (T := S.T) (Y := Y) a1 b1 a2 b2 h2
  unfold withinV InR
  generalize convV S.T Y r0 = c0 at *
  generalize convV S.T Y r1 = c1 at *
  generalize convV S.T Y r2 = c2 at *
  generalize convV S.T Y r3 = c3 at *
  by_cases i0 : (S.T.lo ≤ c0 ∧ c0 ≤ S.T.hi) ∧ S.lo ≤ c0 ∧ c0 ≤ S.hi <;> by_cases i1 : (S.T.lo ≤ c1 ∧ c1 ≤ S.T.hi) ∧ S.lo ≤ c1 ∧ c1 ≤ S.hi <;>
    by_cases i2 : (S.T.lo ≤ c2 ∧ c2 ≤ S.T.hi) ∧ S.lo ≤ c2 ∧ c2 ≤ S.hi <;> by_cases i3 : (S.T.lo ≤ c3 ∧ c3 ≤ S.T.hi) ∧ S.lo ≤ c3 ∧ c3 ≤ S.hi <;>
    (first | (exfalso; omega) | ((first | rw [if_pos i0] | rw [if_neg i0]); (first | rw [if_pos i1] | rw [if_neg i1]); (first | rw [if_pos i2] | rw [if_neg i2]); (first | rw [if_pos i3] | rw [if_neg i3]); first | exact .no | exact .a | exact .b | exact .c | exact .d | exact .ab m0 | exact .bc m1 | exact .cd m2 | exact .abc m0 m1 | exact .bcd m1 m2 | exact .all m0 m1 m2))
theorem within_g {prog : Program} {w : World} {x y : Addr} {S : Sub} {Y : Ty} {news : Led} {v : Int} {tv : Tok} (HS : SubIn news x S) (HY : TyIn news y Y) :
    Tag PySem.Challenge.rw_sa0007_01 hd.heap_1 → ActsT prog w 16 459 [.ref x, .ref y, .int v tv] news AnyB (ι := Tok × Option Int) (fun _ => news) (fun i => optV i.2 i.1) (fun i => i.2 = withinV S Y v) := by
  intro _ mean mg mb dp un gd cn cs a ccd cl outer A₀ base g₀ h₀ L m s Q E B F X N Tp hk hB hdp hun XB TB D T0 hret
  exact within_c HS HY tag mean mg mb dp un gd cn cs a ccd cl outer A₀ base g₀ h₀ L m s Q E B F X N Tp hk hB hdp hun XB TB D T0 fun t h₀' h' tk' T1 F1 N1 B1 X1 P1 D1 _ => hret (t, withinV S Y v) h₀' h' tk' T1 F1 N1 B1 X1 P1 D1 rfl
theorem sub_in {news : Led} {x dx tx ct : Addr} {es : List DictEntry} {n : Nat} {T : Ty} {lo hi : Int} {v0 : Value} {t1 t2 : Tok} (h1 : (x, instObj 406 dx) ∈ news) (h2 : (dx, dictOf es n) ∈ news) (h3 : getL (Str.ofString "type") es = some (some (.ref tx)))
    (h4 : getL (Str.ofString "constraint") es = some (some (.ref ct))) (h5 : (ct, tupO [v0, .int lo t1, .int hi t2]) ∈ news) (HT : TyIn news tx T) : SubIn news x ⟨dx, es, n, tx, T, lo, hi⟩ := ⟨h1, h2, h3, HT, .inr ⟨ct, v0, t1, t2, h4, h5⟩⟩
theorem MadeV.four {S : Sub} {Y : Ty} {r0 r1 r2 r3 : Int} {o0 o1 o2 o3 : Option Int} {t0 t1 t2 t3 : Tok} {L : Addr} {m : Str → Option Value} {Q : Value → Shared → Prop} {s : Shared} {D : Addr} {g : Heap} {news : Led}
    (e0 : o0 = withinV S Y r0) (e1 : o1 = withinV S Y r1) (e2 : o2 = withinV S Y r2) (e3 : o3 = withinV S Y r3) (a1 : 0 < S.T.a) (b1 : 0 < S.T.b) (a2 : 0 < Y.a) (b2 : 0 < Y.b) (h0 : r0 ≤ r1) (h1 : r1 ≤ r2) (h2 : r2 ≤ r3)
    (h : ∀ q0 q1 q2 q3, Shape q0 q1 q2 q3 → ∀ h tk, Fr g L h m → News g L h ((D, LCg.lst [optV q0 t0, optV q1 t1, optV q2 t2, optV q3 t3]) :: news) → Q (.ref D) { s with heap := h, toks := tk }) :
    MadeV L m Q s D [optV o0 t0, optV o1 t1, optV o2 t2, optV o3 t3] g news := by
  subst e0 e1 e2 e3
  exact h _ _ _ _ (shape_of a1 b1 a2 b2 h0 h1 h2)


theorem ne_opt {prog : Program} {w : World} {A : Around} {E : Value → Shared → Prop} {s : Shared} {o : Option Int} {t u : Tok} {Q : Value → Shared → Prop} (h : Q (.bool false) s) : wpAny (model prog w) A (compareOp .NotEq (optV o t) (optV o u)) Q E s := by
  cases o with
  | some v =>
    refine ne_int ?_
    rw [bne_self_eq_false]
    exact h
  | none => exact PySem.EqNone.ne_none_none h
theorem ne_self {prog : Program} {w : World} {A : Around} {E : Value → Shared → Prop} {s : Shared} {v : Int} {t u : Tok} {Q : Value → Shared → Prop} (h : Q (.bool false) s) : wpAny (model prog w) A (compareOp .NotEq (.int v t) (.int v u)) Q E s := by
  refine ne_int ?_
  rw [bne_self_eq_false]
  exact h
theorem addF_c {prog : Program} {w : World} {i : Sorts} {r : Addr} (ok : SortsOk i r) {news : Led} (hs : ∀ p ∈ i.led, p ∈ news) {u v : Int} {tu tv : Tok} (h1 : -400 ≤ u + v) (h2 : u + v ≤ 400) :
    Tag PySem.Challenge.rw_sa0007_01 hd.heap_1 → Acts prog w 10 137 [.ref i.f, .int (u * qOf i) tu, .int (v * qOf i) tv] news AnyB (ι := Tok) (fun _ => news) (fun t => .int ((u + v) * qOf i) t) (fun _ => True) False := by
  obtain ⟨_, lo, hi, _⟩ := ok.vF
  have z := q_range ok 400 h1 h2
  rw [Int.add_mul] at z ⊢
  exact add_c (tyF ok hs) ⟨by rw [lo]; omega, by rw [hi]; omega⟩
theorem subF_c {prog : Program} {w : World} {i : Sorts} {r : Addr} (ok : SortsOk i r) {news : Led} (hs : ∀ p ∈ i.led, p ∈ news) {u v : Int} {tu tv : Tok} (h1 : -400 ≤ u - v) (h2 : u - v ≤ 400) :
    Tag PySem.Challenge.rw_sa0007_01 hd.heap_1 → Acts prog w 10 144 [.ref i.f, .int (u * qOf i) tu, .int (v * qOf i) tv] news AnyB (ι := Tok) (fun _ => news) (fun t => .int ((u - v) * qOf i) t) (fun _ => True) False := by
  obtain ⟨_, lo, hi, _⟩ := ok.vF
  have z := q_range ok 400 h1 h2
  rw [Int.sub_mul] at z ⊢
  exact sub_c (tyF ok hs) ⟨by rw [lo]; omega, by rw [hi]; omega⟩

theorem gap_one {v d : Int} (h : d < 2 * if rndQ v d * d - v < 0 then -(rndQ v d * d - v) else rndQ v d * d - v) (hd' : 0 < d) : False := by
  have ⟨n1, n2⟩ := rnd_near (v := v) hd'
  generalize rndQ v d * d = u at h n1 n2
  split at h <;> omega
theorem gap_two {v d : Int} (h : (2 * if rndQ v d * d - v < 0 then -(rndQ v d * d - v) else rndQ v d * d - v) = d) (k : (if rndQ v d * d < 0 then -(rndQ v d * d) else rndQ v d * d) < if v < 0 then -v else v) (hd' : 0 < d) : False := by
  have ⟨n1, n2⟩ := rnd_near (v := v) hd'
  generalize rndQ v d * d = u at h k n1 n2
  split at h <;> split at k <;> split at k <;> omega
/-- a test that tells no, whatever it reads -/
def TellsNo (s : Shared) (b : Bool) (s' : Shared) : Prop := b = false ∧ ∃ tk, s' = { s with toks := tk }
theorem tells_no {M : Model} {A : Around} {E : Value → Shared → Prop} {s : Shared} {e : Expr} {env : Env} {ev : Sem Value} {Q : Bool → Shared → Prop} (h : wpAny M A (isTrue e env ev) (TellsNo s) E s) (k : ∀ tk, Q false { s with toks := tk }) : wpAny M A (isTrue e env ev) Q E s :=
  wpAny_mono h (by rintro _ _ ⟨rfl, tk, rfl⟩; exact k tk) fun _ _ e => e
section
local macro_rules | `(tactic| k_all) => `(tactic| assumption)
theorem back_c {prog : Program} {w : World} {r sc : Addr} {k : Int} {tk : Tok} {vs : List Value} {ns : List Int} {i : Sorts} (hk0 : 0 ≤ k) (hk1 : k < 900) (ok : SortsOk i r) :
    Tag PySem.Challenge.rw_sa0007_01 hd.heap_1 → ActsT prog w 30 487 [.ref r, .ref i.l] ((r, reelO sc k tk) :: i.led) (Script sc vs ns) (ι := Tok) (fun t => (r, reelO sc (k + 1 + 1 + 1) t) :: i.led) (fun _ => .bool true) (fun _ => True) := by
  k_fill
  intro _ mean mg mb dp un gd cn cs a ccd cl outer A₀ base g₀ h₀ L m s Q E B F X N Tp hk hB hdp hun XB TB D T0 hret
  have hoff := ok.off
  have hlist := ok.list
  have mC1 := ok.hC.inst
  have mC2 := ok.hC.dict
  have mC3 := ok.hC.small
  have mC4 := ok.hC.tup
  have mR1 := ok.hR.inst
  have mR2 := ok.hR.dict
  have mR3 := ok.hR.small
  have mR4 := ok.hR.tup
  have kC := ok.hC.kind
  have kF := ok.hF.kind
  have mF1 := ok.hF.inst
  have mF2 := ok.hF.dict
  obtain ⟨vC1, vC2, vC3, vC4, vC5, vC6⟩ := ok.vC
  obtain ⟨vP1, vP2, vP3, vP4, vP5⟩ := ok.vP
  obtain ⟨vR1, vR2, vR3, vR4, vR5, vR6, vR7⟩ := ok.vR
  obtain ⟨vF1, vF2, vF3, vF4, vF5⟩ := ok.vF
  have eC : i.C.kd = Str.ofString "fixed" := by
    rcases ok.hC.which with ⟨_, e⟩ | ⟨e, _⟩
    · exact e
    · rw [vC1] at e; cases e
  have eF : i.F.kd = Str.ofString "fixed" := by
    rcases ok.hF.which with ⟨_, e⟩ | ⟨e, _⟩
    · exact e
    · rw [vF1] at e; cases e
  rw [eC] at kC
  rw [eF] at kF
  refine wpAny_call ?_
  k_dflt (refine' code_turn ?k1 ?k2 ?k3 ?k4 ?k5 ?XB ?TB ?D ?T0 ?kA ?kF ?kK ?k6 ?k7 ?k8 ?k9 ?kB ?_ ?c2 ?c3 ?c4 ?c5; (case kA => exact rfl); (case kF => exact rfl); (case kK => assumption); (case k2 => k_asm); (case k1 => k_asm); (case XB => k_asm); (case TB => k_asm); (case D => k_asm); (case T0 => exact T0); (case k3 => k_asm); (case k4 => k_asm); (case k5 => k_asm); (case k6 => k_is); (case k7 => k_is); (case k8 => ktr_room); (case k9 => exact BindsTo.of_eq rfl); (case kB => exact locs rfl); (case c2 => exact rfl); (case c3 => exact rfl); (case c4 => exact rfl); (case c5 => decide); k_whole; intro g' L' h' FG' F' N' B' X' T' D'; (try dsimp only); (try k_lift B'); (try k_fold))
  (w_top off; k_with_none; (k_with "getAttr ref" => (k_here; k_dflt (refine get_own (by k_asm) (by k_asm) (by k_inst) (by k_is) (by k_is) (by k_is) (by k_is) (by assumption) (by k_handed) ?_; k_whole))); (k_with "leaving ref" => (k_here; (refine leave_onSN (by assumption) (by assumption) (by assumption) (by assumption) ?_; k_whole); intro h' R' U1 U'; clear U1; (try dsimp only at R' U' ⊢))); (k_with "exec For Name Tuple cons nil" => (k_here; (with_unfolding_all refine for_loops ?_); k_whole)); (k_with "exec For Name Call cons nil" => (k_here; (with_unfolding_all refine for_loops ?_); k_whole)); (k_with "pyIter ref" => (k_here; (with_reducible show wpAny _ _ (pyIter (Value.ref _)) (fun it s₂ => Loops _ _ _ _ _ _ _ _ it s₂) _ _); (first | (k_dflt (refine loops_tup (vs := [_, _]) (by exact rfl) (by k_asm) (by k_asm) (by exact .head _) (by exact rfl) (by exact rfl) (by passes_own) ?_; k_whole)) | (k_dflt (refine loops_lit [fun t => Value.int 0 t, fun t => Value.int 1 t, fun t => Value.int 2 t] (a := 0) (b := 3) (n := 3) (by exact rfl) (by k_asm) (by k_asm) (by first | with_reducible assumption | (exact (by assumption : IsRange _ _ 0 3 1 _ _ _))) (by decide +kernel) (by decide +kernel) (by passes_own) (by exact rfl) ?_; k_whole)) | (k_dflt (refine loops_lit [fun t => Value.int 0 t, fun t => Value.int 1 t, fun t => Value.int 2 t, fun t => Value.int 3 t, fun t => Value.int 4 t, fun t => Value.int 5 t] (a := 0) (b := 6) (n := 6) (by exact rfl) (by k_asm) (by k_asm) (by first | with_reducible assumption | (exact (by assumption : IsRange _ _ 0 6 1 _ _ _))) (by decide +kernel) (by decide +kernel) (by passes_own) (by exact rfl) ?_; k_whole))); intro i' l1; (k_lt l1))); (k_with "Turns" => (first | (k_dflt (refine Turns.one ?_; k_whole); intro t' o' h' tk' hc' F' N'; (try dsimp only [locals_C, locals_O] at F' N'); (try dsimp only)) | (k_dflt (refine Turns.none ?_; k_whole); intro h' tk' F' N'; (try dsimp only [locals_C, locals_O] at F' N'); (try dsimp only)))); (k_with "TurnPost" => (dsimp only [TurnPost])); (k_with "TurnEnd" => (k_dflt (refine TurnEnd.intro (by k_asm) (by first | k_asm | exact news_tl (by first | k_asm | exact news_tl (by first | k_asm | exact news_tl (by first | k_asm | exact news_tl (by first | k_asm | exact news_tl (by first | k_asm | exact news_tl (by first | k_asm | exact news_tl (by first | k_asm | exact news_tl (by first | k_asm | exact news_tl (by first | k_asm | exact news_tl (by first | k_asm | exact news_tl (by first | k_asm | exact news_tl (by first | k_asm | exact news_tl (by first | k_asm | exact news_tl (by first | k_asm | exact news_tl (by first | k_asm | exact news_tl (by k_asm))))))))))))))))) (by exact rfl) (by first | exact True.intro | k_subL) ?_; k_whole))); (k_with "call ref" => (k_here; (with_reducible show wpAny _ _ (PySem.call (Value.ref 445) _) _ _ _); k_dflt (refine Acts.goN (by k_asm) (by k_asm) (by k_asm) (by k_asm) (by k_asm) (by first | exact rfl | assumption) (by assumption) (by ktr_room) (by ktr_units) (windU_c (by (intro k' t; k_upd)) (by omega) (by omega) (by omega) (by omega) tag) ?_); intro i9 h9 tk9 F9 N9 P9; (try dsimp only at N9 P9); (try dsimp only); (obtain ⟨v9, t9, u9, k9⟩ := i9); (try dsimp only at N9 P9); (obtain ⟨p9, q9, e9⟩ := P9); (try dsimp only))); (k_with "call ref" => (k_here; (with_reducible show wpAny _ _ (PySem.call (Value.ref 452) [Value.ref (Sorts.f _), Value.ref (Sorts.c _), Value.int _ _]) _ _ _); k_dflt (refine ActsT.go (by k_asm) (by k_asm) (by k_asm) (by k_asm) (by k_asm) (by first | exact rfl | assumption) (by trivial) (by ktr_room) (by ktr_units) (by k_asm) (by k_asm) (by k_asm) (by first | with_reducible assumption | exact KtsTurn.refl | assumption) (intoK_c (tyF (by assumption) (by (intro p hp; (repeat (first | exact hp | refine List.Mem.tail _ ?_))))) (tyC (by assumption) (by (intro p hp; (repeat (first | exact hp | refine List.Mem.tail _ ?_))))) (into_FC (by assumption) (by omega) (by omega)) tag) ?_); (try (rename Fr _ _ _ _ => o1; clear o1)); (try (rename News _ _ _ _ => o2; clear o2)); (try (rename Below _ _ _ _ => o3; clear o3)); (try (rename KtsDicts _ _ => o4; clear o4)); intro t9 g9 h9 tk9 T9 F9 N9 B9 X9 Tp9 D9 P9; (try dsimp only at N9 P9); (try dsimp only); (try k_lift B9))); (k_with "call ref" => (k_here; (with_reducible show wpAny _ _ (PySem.call (Value.ref 452) [Value.ref (Sorts.c _), Value.ref (Sorts.f _), Value.int _ _]) _ _ _); k_dflt (refine ActsT.go (by k_asm) (by k_asm) (by k_asm) (by k_asm) (by k_asm) (by first | exact rfl | assumption) (by trivial) (by ktr_room) (by ktr_units) (by k_asm) (by k_asm) (by k_asm) (by first | with_reducible assumption | exact KtsTurn.refl | assumption) (intoK_c (tyC (by assumption) (by (intro p hp; (repeat (first | exact hp | refine List.Mem.tail _ ?_))))) (tyF (by assumption) (by (intro p hp; (repeat (first | exact hp | refine List.Mem.tail _ ?_))))) (into_CF (by assumption) (by omega) (by omega)) tag) ?_); (try (rename Fr _ _ _ _ => o1; clear o1)); (try (rename News _ _ _ _ => o2; clear o2)); (try (rename Below _ _ _ _ => o3; clear o3)); (try (rename KtsDicts _ _ => o4; clear o4)); intro t9 g9 h9 tk9 T9 F9 N9 B9 X9 Tp9 D9 P9; (try dsimp only at N9 P9); (try dsimp only); (try k_lift B9))); (k_with "call ref" => (k_here; (with_reducible show wpAny _ _ (PySem.call (Value.ref 452) [Value.ref (Sorts.p _), Value.ref (Sorts.f _), Value.int _ _]) _ _ _); k_dflt (refine ActsT.go (by k_asm) (by k_asm) (by k_asm) (by k_asm) (by k_asm) (by first | exact rfl | assumption) (by trivial) (by ktr_room) (by ktr_units) (by k_asm) (by k_asm) (by k_asm) (by first | with_reducible assumption | exact KtsTurn.refl | assumption) (intoK_c (tyP (by assumption) (by (intro p hp; (repeat (first | exact hp | refine List.Mem.tail _ ?_))))) (tyF (by assumption) (by (intro p hp; (repeat (first | exact hp | refine List.Mem.tail _ ?_))))) (into_PF (by assumption) (by omega) (by omega)) tag) ?_); (try (rename Fr _ _ _ _ => o1; clear o1)); (try (rename News _ _ _ _ => o2; clear o2)); (try (rename Below _ _ _ _ => o3; clear o3)); (try (rename KtsDicts _ _ => o4; clear o4)); intro t9 g9 h9 tk9 T9 F9 N9 B9 X9 Tp9 D9 P9; (try dsimp only at N9 P9); (try dsimp only); (try k_lift B9))); (k_with "call ref" => (k_here; (with_reducible show wpAny _ _ (PySem.call (Value.ref 452) [Value.ref (Sorts.p _), Value.ref (Sorts.c _), Value.int _ _]) _ _ _); k_dflt (refine ActsT.go (by k_asm) (by k_asm) (by k_asm) (by k_asm) (by k_asm) (by first | exact rfl | assumption) (by trivial) (by ktr_room) (by ktr_units) (by k_asm) (by k_asm) (by k_asm) (by first | with_reducible assumption | exact KtsTurn.refl | assumption) (intoK_c (tyP (by assumption) (by (intro p hp; (repeat (first | exact hp | refine List.Mem.tail _ ?_))))) (tyC (by assumption) (by (intro p hp; (repeat (first | exact hp | refine List.Mem.tail _ ?_))))) (into_PC (by assumption) (by omega) (by omega)) tag) ?_); (try (rename Fr _ _ _ _ => o1; clear o1)); (try (rename News _ _ _ _ => o2; clear o2)); (try (rename Below _ _ _ _ => o3; clear o3)); (try (rename KtsDicts _ _ => o4; clear o4)); intro t9 g9 h9 tk9 T9 F9 N9 B9 X9 Tp9 D9 P9; (try dsimp only at N9 P9); (try dsimp only); (try k_lift B9))); (k_with "call ref" => (k_here; (with_reducible show wpAny _ _ (PySem.call (Value.ref 452) [Value.ref (Sorts.p _), Value.ref (Sorts.c _), Value.int (- _) _]) _ _ _); k_dflt (refine ActsT.go (by k_asm) (by k_asm) (by k_asm) (by k_asm) (by k_asm) (by first | exact rfl | assumption) (by trivial) (by ktr_room) (by ktr_units) (by k_asm) (by k_asm) (by k_asm) (by first | with_reducible assumption | exact KtsTurn.refl | assumption) (intoK_c (tyP (by assumption) (by (intro p hp; (repeat (first | exact hp | refine List.Mem.tail _ ?_))))) (tyC (by assumption) (by (intro p hp; (repeat (first | exact hp | refine List.Mem.tail _ ?_))))) (into_PCn (by assumption) (by omega) (by omega)) tag) ?_); (try (rename Fr _ _ _ _ => o1; clear o1)); (try (rename News _ _ _ _ => o2; clear o2)); (try (rename Below _ _ _ _ => o3; clear o3)); (try (rename KtsDicts _ _ => o4; clear o4)); intro t9 g9 h9 tk9 T9 F9 N9 B9 X9 Tp9 D9 P9; (try dsimp only at N9 P9); (try dsimp only); (try k_lift B9))); (k_with "call ref" => (k_here; (with_reducible show wpAny _ _ (PySem.call (Value.ref 452) [Value.ref (Sorts.p _), Value.ref (Sorts.c _), Value.int (_ * _) _]) _ _ _); k_dflt (refine ActsT.go (by k_asm) (by k_asm) (by k_asm) (by k_asm) (by k_asm) (by first | exact rfl | assumption) (by trivial) (by ktr_room) (by ktr_units) (by k_asm) (by k_asm) (by k_asm) (by first | with_reducible assumption | exact KtsTurn.refl | assumption) (intoK_c (tyP (by assumption) (by (intro p hp; (repeat (first | exact hp | refine List.Mem.tail _ ?_))))) (tyC (by assumption) (by (intro p hp; (repeat (first | exact hp | refine List.Mem.tail _ ?_))))) (into_PCm (by assumption) (by omega) (by omega)) tag) ?_); (try (rename Fr _ _ _ _ => o1; clear o1)); (try (rename News _ _ _ _ => o2; clear o2)); (try (rename Below _ _ _ _ => o3; clear o3)); (try (rename KtsDicts _ _ => o4; clear o4)); intro t9 g9 h9 tk9 T9 F9 N9 B9 X9 Tp9 D9 P9; (try dsimp only at N9 P9); (try dsimp only); (try k_lift B9))); (k_with "call ref" => (k_here; (with_reducible show wpAny _ _ (PySem.call (Value.ref 452) [Value.ref (Sorts.c _), Value.ref (Sorts.p _), Value.int _ _]) _ _ _); k_dflt (refine ActsT.go (by k_asm) (by k_asm) (by k_asm) (by k_asm) (by k_asm) (by first | exact rfl | assumption) (by trivial) (by ktr_room) (by ktr_units) (by k_asm) (by k_asm) (by k_asm) (by first | with_reducible assumption | exact KtsTurn.refl | assumption) (intoK_c (tyC (by assumption) (by (intro p hp; (repeat (first | exact hp | refine List.Mem.tail _ ?_))))) (tyP (by assumption) (by (intro p hp; (repeat (first | exact hp | refine List.Mem.tail _ ?_))))) (into_CPn (by assumption) (by omega) (by omega)) tag) ?_); (try (rename Fr _ _ _ _ => o1; clear o1)); (try (rename News _ _ _ _ => o2; clear o2)); (try (rename Below _ _ _ _ => o3; clear o3)); (try (rename KtsDicts _ _ => o4; clear o4)); intro t9 g9 h9 tk9 T9 F9 N9 B9 X9 Tp9 D9 P9; (try dsimp only at N9 P9); (try dsimp only); (try k_lift B9))); (k_with "call ref" => (k_here; (with_reducible show wpAny _ _ (PySem.call (Value.ref 452) [Value.ref (Sorts.c _), Value.ref (Sorts.p _), Value.int (rndQ _ _) _]) _ _ _); k_dflt (refine ActsT.go (by k_asm) (by k_asm) (by k_asm) (by k_asm) (by k_asm) (by first | exact rfl | assumption) (by trivial) (by ktr_room) (by ktr_units) (by k_asm) (by k_asm) (by k_asm) (by first | with_reducible assumption | exact KtsTurn.refl | assumption) (intoK_c (tyC (by assumption) (by (intro p hp; (repeat (first | exact hp | refine List.Mem.tail _ ?_))))) (tyP (by assumption) (by (intro p hp; (repeat (first | exact hp | refine List.Mem.tail _ ?_))))) (into_CPr (by assumption) (by omega) (by omega)) tag) ?_); (try (rename Fr _ _ _ _ => o1; clear o1)); (try (rename News _ _ _ _ => o2; clear o2)); (try (rename Below _ _ _ _ => o3; clear o3)); (try (rename KtsDicts _ _ => o4; clear o4)); intro t9 g9 h9 tk9 T9 F9 N9 B9 X9 Tp9 D9 P9; (try dsimp only at N9 P9); (try dsimp only); (try k_lift B9))); (k_with "call ref" => (k_here; (with_reducible show wpAny _ _ (PySem.call (Value.ref 452) [Value.ref (Sorts.r _), Value.ref (Sorts.p _), Value.int _ _]) _ _ _); k_dflt (refine ActsT.go (by k_asm) (by k_asm) (by k_asm) (by k_asm) (by k_asm) (by first | exact rfl | assumption) (by trivial) (by ktr_room) (by ktr_units) (by k_asm) (by k_asm) (by k_asm) (by first | with_reducible assumption | exact KtsTurn.refl | assumption) (intoK_c (tyR (by assumption) (by (intro p hp; (repeat (first | exact hp | refine List.Mem.tail _ ?_))))) (tyP (by assumption) (by (intro p hp; (repeat (first | exact hp | refine List.Mem.tail _ ?_))))) (into_RP (by assumption) (by omega) (by omega)) tag) ?_); (try (rename Fr _ _ _ _ => o1; clear o1)); (try (rename News _ _ _ _ => o2; clear o2)); (try (rename Below _ _ _ _ => o3; clear o3)); (try (rename KtsDicts _ _ => o4; clear o4)); intro t9 g9 h9 tk9 T9 F9 N9 B9 X9 Tp9 D9 P9; (try dsimp only at N9 P9); (try dsimp only); (try k_lift B9))); (k_with "call ref" => (k_here; (with_reducible show wpAny _ _ (PySem.call (Value.ref 452) [Value.ref (Sorts.p _), Value.ref (Sorts.r _), Value.int _ _]) _ _ _); k_dflt (refine ActsT.go (by k_asm) (by k_asm) (by k_asm) (by k_asm) (by k_asm) (by first | exact rfl | assumption) (by trivial) (by ktr_room) (by ktr_units) (by k_asm) (by k_asm) (by k_asm) (by first | with_reducible assumption | exact KtsTurn.refl | assumption) (intoK_c (tyP (by assumption) (by (intro p hp; (repeat (first | exact hp | refine List.Mem.tail _ ?_))))) (tyR (by assumption) (by (intro p hp; (repeat (first | exact hp | refine List.Mem.tail _ ?_))))) (into_PR (by assumption) (by omega) (by omega)) tag) ?_); (try (rename Fr _ _ _ _ => o1; clear o1)); (try (rename News _ _ _ _ => o2; clear o2)); (try (rename Below _ _ _ _ => o3; clear o3)); (try (rename KtsDicts _ _ => o4; clear o4)); intro t9 g9 h9 tk9 T9 F9 N9 B9 X9 Tp9 D9 P9; (try dsimp only at N9 P9); (try dsimp only); (try k_lift B9))); (k_with "call ref" => (k_here; (with_reducible show wpAny _ _ (PySem.call (Value.ref 452) [Value.ref (Sorts.r _), Value.ref (Sorts.c _), Value.int _ _]) _ _ _); k_dflt (refine ActsT.go (by k_asm) (by k_asm) (by k_asm) (by k_asm) (by k_asm) (by first | exact rfl | assumption) (by trivial) (by ktr_room) (by ktr_units) (by k_asm) (by k_asm) (by k_asm) (by first | with_reducible assumption | exact KtsTurn.refl | assumption) (intoO_c (tyR (by assumption) (by (intro p hp; (repeat (first | exact hp | refine List.Mem.tail _ ?_))))) (tyC (by assumption) (by (intro p hp; (repeat (first | exact hp | refine List.Mem.tail _ ?_))))) (rfl) tag) ?_); (try (rename Fr _ _ _ _ => o1; clear o1)); (try (rename News _ _ _ _ => o2; clear o2)); (try (rename Below _ _ _ _ => o3; clear o3)); (try (rename KtsDicts _ _ => o4; clear o4)); intro t9 g9 h9 tk9 T9 F9 N9 B9 X9 Tp9 D9 P9; (try dsimp only at N9 P9); (try dsimp only); (try k_lift B9))); (k_with "call ref" => (k_here; (with_reducible show wpAny _ _ (PySem.call (Value.ref 452) [Value.ref (Sorts.r _), Value.ref (Sorts.c _), Value.int (- _) _]) _ _ _); k_dflt (refine ActsT.go (by k_asm) (by k_asm) (by k_asm) (by k_asm) (by k_asm) (by first | exact rfl | assumption) (by trivial) (by ktr_room) (by ktr_units) (by k_asm) (by k_asm) (by k_asm) (by first | with_reducible assumption | exact KtsTurn.refl | assumption) (intoO_c (tyR (by assumption) (by (intro p hp; (repeat (first | exact hp | refine List.Mem.tail _ ?_))))) (tyC (by assumption) (by (intro p hp; (repeat (first | exact hp | refine List.Mem.tail _ ?_))))) (into_RCn (by assumption)) tag) ?_); (try (rename Fr _ _ _ _ => o1; clear o1)); (try (rename News _ _ _ _ => o2; clear o2)); (try (rename Below _ _ _ _ => o3; clear o3)); (try (rename KtsDicts _ _ => o4; clear o4)); intro t9 g9 h9 tk9 T9 F9 N9 B9 X9 Tp9 D9 P9; (try dsimp only at N9 P9); (try dsimp only); (try k_lift B9))); (k_with "call ref" => (k_here; (with_reducible show wpAny _ _ (PySem.call (Value.ref 473) [Value.ref (Sorts.c _), Value.int _ _]) _ _ _); k_dflt (refine Acts.goN (by k_asm) (by k_asm) (by k_asm) (by k_asm) (by k_asm) (by first | exact rfl | assumption) (by trivial) (by ktr_room) (by ktr_units) (about_c (tyC (by assumption) (by (intro p hp; (repeat (first | exact hp | refine List.Mem.tail _ ?_))))) (by exact kd_int (SortsOk.hC (by assumption)) (by assumption)) (by omega) tag) ?_); intro t9 h9 tk9 F9 N9 P9; (try dsimp only at N9 P9); (try dsimp only))); (k_with "call ref" => (k_here; (with_reducible show wpAny _ _ (PySem.call (Value.ref 473) [Value.ref (Sorts.p _), Value.int _ _]) _ _ _); k_dflt (refine Acts.goN (by k_asm) (by k_asm) (by k_asm) (by k_asm) (by k_asm) (by first | exact rfl | assumption) (by trivial) (by ktr_room) (by ktr_units) (about_c (tyP (by assumption) (by (intro p hp; (repeat (first | exact hp | refine List.Mem.tail _ ?_))))) (by exact Or.inl (SortsOk.kP (by assumption))) (by omega) tag) ?_); intro t9 h9 tk9 F9 N9 P9; (try dsimp only at N9 P9); (try dsimp only))); (k_with "call ref" => (k_here; (with_reducible show wpAny _ _ (PySem.call (Value.ref 473) [Value.ref (Sorts.r _), optV _ _]) _ _ _); k_dflt (refine Acts.goN (by k_asm) (by k_asm) (by k_asm) (by k_asm) (by k_asm) (by first | exact rfl | assumption) (by trivial) (by ktr_room) (by ktr_units) (aboutO_c (tyR (by assumption) (by (intro p hp; (repeat (first | exact hp | refine List.Mem.tail _ ?_))))) (by exact kd_int (SortsOk.hR (by assumption)) (by assumption)) (by (intro u hu; have z9 := into_in hu; omega)) tag) ?_); intro t9 h9 tk9 F9 N9 P9; (try dsimp only at N9 P9); (try dsimp only))); (k_with "call ref" => (k_here; (with_reducible show wpAny _ _ (PySem.call (Value.ref 137) [Value.ref (Sorts.c _), Value.int _ _, Value.int _ _]) _ _ _); k_dflt (refine Acts.goN (by k_asm) (by k_asm) (by k_asm) (by k_asm) (by k_asm) (by first | exact rfl | assumption) (by trivial) (by ktr_room) (by ktr_units) (add_c (tyC (by assumption) (by (intro p hp; (repeat (first | exact hp | refine List.Mem.tail _ ?_))))) (by omega) tag) ?_); intro t9 h9 tk9 F9 N9 P9; (try dsimp only at N9 P9); (try dsimp only))); (k_with "call ref" => (k_here; (with_reducible show wpAny _ _ (PySem.call (Value.ref 144) [Value.ref (Sorts.c _), Value.int _ _, Value.int _ _]) _ _ _); k_dflt (refine Acts.goN (by k_asm) (by k_asm) (by k_asm) (by k_asm) (by k_asm) (by first | exact rfl | assumption) (by trivial) (by ktr_room) (by ktr_units) (sub_c (tyC (by assumption) (by (intro p hp; (repeat (first | exact hp | refine List.Mem.tail _ ?_))))) (by omega) tag) ?_); intro t9 h9 tk9 F9 N9 P9; (try dsimp only at N9 P9); (try dsimp only))); (k_with "call ref" => (k_here; (with_reducible show wpAny _ _ (PySem.call (Value.ref 137) [Value.ref (Sorts.f _), Value.int _ _, Value.int _ _]) _ _ _); k_dflt (refine Acts.goN (by k_asm) (by k_asm) (by k_asm) (by k_asm) (by k_asm) (by first | exact rfl | assumption) (by trivial) (by ktr_room) (by ktr_units) (addF_c (by assumption) (by (intro p hp; (repeat (first | exact hp | refine List.Mem.tail _ ?_)))) (by omega) (by omega) tag) ?_); intro t9 h9 tk9 F9 N9 P9; (try dsimp only at N9 P9); (try dsimp only))); (k_with "call ref" => (k_here; (with_reducible show wpAny _ _ (PySem.call (Value.ref 144) [Value.ref (Sorts.f _), Value.int _ _, Value.int _ _]) _ _ _); k_dflt (refine Acts.goN (by k_asm) (by k_asm) (by k_asm) (by k_asm) (by k_asm) (by first | exact rfl | assumption) (by trivial) (by ktr_room) (by ktr_units) (subF_c (by assumption) (by (intro p hp; (repeat (first | exact hp | refine List.Mem.tail _ ?_)))) (by omega) (by omega) tag) ?_); intro t9 h9 tk9 F9 N9 P9; (try dsimp only at N9 P9); (try dsimp only))); (k_with "call ref" => (k_here; (with_reducible show wpAny _ _ (PySem.call (Value.ref 368) _) _ _ _); k_dflt (refine Acts.goN (by k_asm) (by k_asm) (by k_asm) (by k_asm) (by k_asm) (by first | exact rfl | assumption) (by trivial) (by ktr_room) (by ktr_units) (ratioR_c (by k_mem) (by omega) (by omega) tag) ?_); intro t9 h9 tk9 F9 N9 P9; (try dsimp only at N9 P9); (try dsimp only))); (k_with "call ref" => (k_here; (with_reducible show wpAny _ _ (PySem.call (Value.ref 361) _) _ _ _); k_dflt (refine Acts.goN (by k_asm) (by k_asm) (by k_asm) (by k_asm) (by k_asm) (by first | exact rfl | assumption) (by trivial) (by ktr_room) (by ktr_units) (ratioZ_c (by k_mem) (by omega) (by omega) tag) ?_); intro t9 h9 tk9 F9 N9 P9; (try dsimp only at N9 P9); (try dsimp only))); (k_with "call ref" => (k_here; (with_reducible show wpAny _ _ (PySem.call (Value.ref 466) [Value.ref 298, _, _, _, _]) _ _ _); k_dflt (refine ActsT.go (by k_asm) (by k_asm) (by k_asm) (by k_asm) (by k_asm) (by first | exact rfl | assumption) (by trivial) (by ktr_room) (by ktr_units) (by k_asm) (by k_asm) (by k_asm) (by first | with_reducible assumption | exact KtsTurn.refl | assumption) (reckonT_c (tyR (by assumption) (by (intro p hp; (repeat (first | exact hp | refine List.Mem.tail _ ?_))))) (tyC (by assumption) (by (intro p hp; (repeat (first | exact hp | refine List.Mem.tail _ ?_))))) (tyP (by assumption) (by (intro p hp; (repeat (first | exact hp | refine List.Mem.tail _ ?_))))) (by assumption) (by assumption) (by assumption) tag) ?_); (try (rename Fr _ _ _ _ => o1; clear o1)); (try (rename News _ _ _ _ => o2; clear o2)); (try (rename Below _ _ _ _ => o3; clear o3)); (try (rename KtsDicts _ _ => o4; clear o4)); intro t9 g9 h9 tk9 T9 F9 N9 B9 X9 Tp9 D9 P9; (try dsimp only at N9 P9); (try dsimp only); (try k_lift B9))); (k_with "call ref" => (k_here; (with_reducible show wpAny _ _ (PySem.call (Value.ref 466) [Value.ref 305, _, _, _, _]) _ _ _); k_dflt (refine ActsT.go (by k_asm) (by k_asm) (by k_asm) (by k_asm) (by k_asm) (by first | exact rfl | assumption) (by trivial) (by ktr_room) (by ktr_units) (by k_asm) (by k_asm) (by k_asm) (by first | with_reducible assumption | exact KtsTurn.refl | assumption) (reckonO_c (tyR (by assumption) (by (intro p hp; (repeat (first | exact hp | refine List.Mem.tail _ ?_))))) (tyC (by assumption) (by (intro p hp; (repeat (first | exact hp | refine List.Mem.tail _ ?_))))) (tyP (by assumption) (by (intro p hp; (repeat (first | exact hp | refine List.Mem.tail _ ?_))))) (by assumption) (by assumption) (by assumption) tag) ?_); (try (rename Fr _ _ _ _ => o1; clear o1)); (try (rename News _ _ _ _ => o2; clear o2)); (try (rename Below _ _ _ _ => o3; clear o3)); (try (rename KtsDicts _ _ => o4; clear o4)); intro t9 g9 h9 tk9 T9 F9 N9 B9 X9 Tp9 D9 P9; (try dsimp only at N9 P9); (try dsimp only); (try k_lift B9))); (k_with "compareOp NotEq" => (k_here; (with_reducible show wpAny _ _ (compareOp CmpOp.NotEq (optV _ _) (optV _ _)) _ _ _); (refine ne_opt ?_); (try dsimp only))); (k_with "compareOp NotEq int int" => (k_here; (with_reducible refine ne_self ?_); (try dsimp only))); (k_with "isTrue BoolOp" => (k_here; (with_reducible show wpAny _ _ (isTrue (Expr.BoolOp _ [Expr.Compare (Expr.BinOp _ _ _ _) _ _ _, _] _) _ _) _ _ _); (fail_if_success (with_reducible show wpAny _ _ _ (TellsNo _) _ _)); (k_dflt (refine tells_no ?_ (fun tk' => ?_))); (all_goals (try dsimp only)))); repeat' (first | (k_unfold; (try dsimp only)) | (k_end; wrow_close) | ((first | (with_reducible show wpAny _ _ (exec _ _) _ _ _) | (with_reducible show wpAny _ _ (eval (Expr.Call _ _ _ _) _) _ _ _) | (with_reducible show wpAny _ _ (eval (Expr.Compare _ _ _ _) _) _ _ _) | (with_reducible show wpAny _ _ (eval (Expr.Subscript _ _ _) _) _ _ _) | (with_reducible show wpAny _ _ (eval (Expr.BinOp _ _ _ _) _) _ _ _) | (with_reducible show wpAny _ _ (eval (Expr.ListComp _ _ _ _) _) _ _ _) | (with_reducible show wpAny _ _ (isTrue (Expr.Compare _ _ _ _) _ _) _ _ _)); k_fold) | walk1 | (dsimp only; walk1) | (leave1; (try dsimp only)) | fail "no step"))

  all_goals first
    | exact And.intro rfl ⟨_, rfl⟩
    | exact (gap_one (by assumption) (by omega)).elim
    | exact (gap_two (by assumption) (by assumption) (by omega)).elim
    | (rw [beq_self_eq_true]; rw [show k + 1 + 1 + 1 = k9 by omega] at hret; exact hret _ _ _ _ (by k_asm) (by k_asm) (by first | k_asm | exact news_tl (by first | k_asm | exact news_tl (by first | k_asm | exact news_tl (by first | k_asm | exact news_tl (by first | k_asm | exact news_tl (by first | k_asm | exact news_tl (by first | k_asm | exact news_tl (by first | k_asm | exact news_tl (by first | k_asm | exact news_tl (by first | k_asm | exact news_tl (by first | k_asm | exact news_tl (by first | k_asm | exact news_tl (by first | k_asm | exact news_tl (by first | k_asm | exact news_tl (by first | k_asm | exact news_tl (by first | k_asm | exact news_tl (by k_asm))))))))))))))))) (by k_asm) (by k_asm) (by k_asm) (by k_asm) (by trivial))
end


/-- one of the six types -/
structure OneTy (news : Led) (x : Addr) (T : Ty) : Prop where
  isTy : TyIn news x T
  ne : T.lo ≤ T.hi
  below : -2000 ≤ T.lo
  above : T.hi ≤ 2000
theorem sorts_at {prog : Program} {w : World} {A : Around} {E : Value → Shared → Prop} {s : Shared} {i : Sorts} {r : Addr} {news : Led} {g : Heap} {L : Addr} {value slice : PySem.Expr} {v : Int} {t : Tok} {Q : Value → Shared → Prop}
    (N : News g L s.heap news) (ok : SortsOk i r) (hm : (i.l, listOf #[.ref i.p, .ref i.c, .ref i.f, .ref i.r, .ref i.d, .ref i.g] 0) ∈ news) (h0 : 0 ≤ v) (h1 : v < 6)
    (hs : subscripted slice false (.ref i.l) (.int v t) = operate [.ref i.l, .int v t] (getItem (.ref i.l) (.int v t)))
    (h : ∀ x T, OneTy i.led x T → Q (.ref x) s) : wpAny (model prog w) A (subscriptTail value slice (.ref i.l) (.int v t)) Q E s := by
  have il : s.heap.IsList i.l [Value.ref i.p, .ref i.c, .ref i.f, .ref i.r, .ref i.d, .ref i.g].toArray := ⟨_, (N _ hm).1, rfl, _, rfl⟩
  obtain ⟨_, p1, p2, _, _⟩ := ok.vP
  obtain ⟨_, c1, c2, _, _, _⟩ := ok.vC
  obtain ⟨_, f1, f2, _, _⟩ := ok.vF
  obtain ⟨_, r1, r2, _, _, _, _⟩ := ok.vR
  obtain ⟨_, d1, d2, _, _⟩ := ok.vD
  obtain ⟨_, g1, g2, _, _, _⟩ := ok.vG
  have hv : v = 0 ∨ v = 1 ∨ v = 2 ∨ v = 3 ∨ v = 4 ∨ v = 5 := by omega
  rcases hv with rfl | rfl | rfl | rfl | rfl | rfl
  · exact item_litK il (by decide) (by decide) rfl (h _ _ ⟨ok.hP, by omega, by omega, by omega⟩) hs
  · exact item_litK il (by decide) (by decide) rfl (h _ _ ⟨ok.hC, by omega, by omega, by omega⟩) hs
  · exact item_litK il (by decide) (by decide) rfl (h _ _ ⟨ok.hF, by omega, by omega, by omega⟩) hs
  · exact item_litK il (by decide) (by decide) rfl (h _ _ ⟨ok.hR, by omega, by omega, by omega⟩) hs
  · exact item_litK il (by decide) (by decide) rfl (h _ _ ⟨ok.hD, by omega, by omega, by omega⟩) hs
  · exact item_litK il (by decide) (by decide) rfl (h _ _ ⟨ok.hG, by omega, by omega, by omega⟩) hs

theorem allLt_ne {d e : Addr} : ∀ {l : Led}, AllLt d l → @LE.le Nat _ d e → ∀ p ∈ l, p.1 ≠ e
  | [], _, _, _, h => nomatch h
  | _ :: _, x, hde, p, h => by
    rcases List.mem_cons.mp h with rfl | h
    · exact Nat.ne_of_lt (Nat.lt_of_lt_of_le x.1 hde)
    · exact allLt_ne x.2 hde p h
/-- the list so far, where a test picks -/
def pick (b : Bool) (ys : List Value) (v : Value) : List Value := if b = true then ys ++ [v] else ys
/-- what is told of a row: places that stand side by side, their numbers in order -/
structure Told (V L : List Value) : Prop where
  len : L.length ≤ 4
  turn : ∀ i : Nat, i < L.length - 1 → ∃ (p x y : Int) (t t' tx ty : Tok), L[(1 + (i : Int)).toNat]? = some (.int (p + 1) t) ∧ L[(1 + (i : Int) - 1).toNat]? = some (.int p t') ∧ V[p.toNat]? = some (.int x tx) ∧ V[(p + 1).toNat]? = some (.int y ty) ∧ 0 ≤ p ∧ p < 3 ∧ x ≤ y
theorem told_of {q0 q1 q2 q3 : Option Int} {t0 t1 t2 t3 u0 u1 u2 u3 : Tok} (sh : Shape q0 q1 q2 q3) :
    Told [optV q0 t0, optV q1 t1, optV q2 t2, optV q3 t3] (pick q3.isSome (pick q2.isSome (pick q1.isSome (pick q0.isSome [] (.int 0 u0)) (.int 1 u1)) (.int 2 u2)) (.int 3 u3)) := by
  cases sh with
  | no => exact ⟨Nat.le_of_ble_eq_true rfl, fun i hi => absurd hi (Nat.not_lt_zero i)⟩
  | a => exact ⟨Nat.le_of_ble_eq_true rfl, fun i hi => absurd hi (Nat.not_lt_zero i)⟩
  | b => exact ⟨Nat.le_of_ble_eq_true rfl, fun i hi => absurd hi (Nat.not_lt_zero i)⟩
  | c => exact ⟨Nat.le_of_ble_eq_true rfl, fun i hi => absurd hi (Nat.not_lt_zero i)⟩
  | d => exact ⟨Nat.le_of_ble_eq_true rfl, fun i hi => absurd hi (Nat.not_lt_zero i)⟩
  | ab h => exact ⟨Nat.le_of_ble_eq_true rfl, fun i hi => match i, (hi : i < 1) with | 0, _ => ⟨0, _, _, _, _, _, _, rfl, rfl, rfl, rfl, by decide, by decide, h⟩⟩
  | bc h => exact ⟨Nat.le_of_ble_eq_true rfl, fun i hi => match i, (hi : i < 1) with | 0, _ => ⟨1, _, _, _, _, _, _, rfl, rfl, rfl, rfl, by decide, by decide, h⟩⟩
  | cd h => exact ⟨Nat.le_of_ble_eq_true rfl, fun i hi => match i, (hi : i < 1) with | 0, _ => ⟨2, _, _, _, _, _, _, rfl, rfl, rfl, rfl, by decide, by decide, h⟩⟩
  | abc h1 h2 => exact ⟨Nat.le_of_ble_eq_true rfl, fun i hi => match i, (hi : i < 2) with
    | 0, _ => ⟨0, _, _, _, _, _, _, rfl, rfl, rfl, rfl, by decide, by decide, h1⟩
    | 1, _ => ⟨1, _, _, _, _, _, _, rfl, rfl, rfl, rfl, by decide, by decide, h2⟩⟩
  | bcd h1 h2 => exact ⟨Nat.le_of_ble_eq_true rfl, fun i hi => match i, (hi : i < 2) with
    | 0, _ => ⟨1, _, _, _, _, _, _, rfl, rfl, rfl, rfl, by decide, by decide, h1⟩
    | 1, _ => ⟨2, _, _, _, _, _, _, rfl, rfl, rfl, rfl, by decide, by decide, h2⟩⟩
  | all h1 h2 h3 => exact ⟨Nat.le_of_ble_eq_true rfl, fun i hi => match i, (hi : i < 3) with
    | 0, _ => ⟨0, _, _, _, _, _, _, rfl, rfl, rfl, rfl, by decide, by decide, h1⟩
    | 1, _ => ⟨1, _, _, _, _, _, _, rfl, rfl, rfl, rfl, by decide, by decide, h2⟩
    | 2, _ => ⟨2, _, _, _, _, _, _, rfl, rfl, rfl, rfl, by decide, by decide, h3⟩⟩
theorem range_told : ∀ {k : Nat}, k ≤ 4 → Builtin.Range.small 1 (k : Int) 1 = true ∧ Builtin.Range.rangeSize 1 (k : Int) 1 = ((k - 1 : Nat) : Int)
  | 0, _ => ⟨by decide +kernel, by decide +kernel⟩
  | 1, _ => ⟨by decide +kernel, by decide +kernel⟩
  | 2, _ => ⟨by decide +kernel, by decide +kernel⟩
  | 3, _ => ⟨by decide +kernel, by decide +kernel⟩
  | 4, _ => ⟨by decide +kernel, by decide +kernel⟩
  | k + 5, h => absurd h (by omega)
theorem isNot_opt {M : Model} {A : Around} {E : Value → Shared → Prop} {s : Shared} {o : Option Int} {t : Tok} {Q : Value → Shared → Prop} (h : Q (.bool o.isSome) s) : wpAny M A (compareOp .IsNot (optV o t) .none) Q E s := by
  cases o with
  | none => exact wpAny_isNot_self rfl h
  | some v => exact wpAny_isNot_other rfl (by intro x; cases x) h
theorem RoundTest.both {prog : Program} {w : World} {A : Around} {E' : Value → Shared → Prop} {L : Addr} {m : Str → Option Value} {I C D : Addr} {oI oC oD : Obj} {ads : List Addr} {keep : Led} {s : Shared} {elt : Expr} {cenv : Env} {R : List Value → Heap → Led → Prop} {ys : List Value} {b : Bool} {v : Value} {g' h' : Heap} {tk' : Nat} {news' : Led}
    (el : ∀ Q : Value → Shared → Prop, Q v { s with heap := h', toks := tk' } → wpAny (model prog w) A (eval elt cenv) Q E' { s with heap := h', toks := tk' })
    (F : Fr g' L h' m) (N : News g' L h' ((I, oI) :: (C, oC) :: (D, oD) :: news')) (ha : news'.map (·.1) = ads) (hk : SubL keep news') (r : R (pick b ys v) g' news') :
    RoundTest (wpAny (model prog w) A (eval elt cenv) (RoundEnd L m I oI C oC D oD ads keep s fun y g' news' => R (ys ++ [y]) g' news') E') (RoundEnd L m I oI C oC D oD ads keep s (fun _ g' news' => R ys g' news') .none) b { s with heap := h', toks := tk' } := by
  cases b with
  | true => exact el _ (RoundEnd.intro (rest := fun y g' news' => R (ys ++ [y]) g' news') F N ha hk r)
  | false => exact RoundEnd.intro (y := .none) (rest := fun _ g' news' => R ys g' news') F N ha hk r
theorem MadeA.told {L : Addr} {m : Str → Option Value} {y : Str} {Q : Flow → Shared → Prop} {s : Shared} {D D' : Addr} {g : Heap} {news : Led} {q0 q1 q2 q3 : Option Int} {t0 t1 t2 t3 u0 u1 u2 u3 : Tok} (sh : Shape q0 q1 q2 q3) (_hm : (D', LCg.lst [optV q0 t0, optV q1 t1, optV q2 t2, optV q3 t3]) ∈ news)
    (h : ∀ ls, Told [optV q0 t0, optV q1 t1, optV q2 t2, optV q3 t3] ls → ∀ h tk, Fr g L h (fun z => if z = y then some (.ref D) else m z) → News g L h ((D, LCg.lst ls) :: news) → Q .next { s with heap := h, toks := tk }) :
    MadeA L m y Q s D (pick q3.isSome (pick q2.isSome (pick q1.isSome (pick q0.isSome [] (.int 0 u0)) (.int 1 u1)) (.int 2 u2)) (.int 3 u3)) g news := h _ (told_of sh)
theorem len_told {prog : Program} {w : World} {A : Around} {E : Value → Shared → Prop} {s : Shared} {g : Heap} {L D : Addr} {news : Led} {V ls : List Value} {Q : Value → Shared → Prop} (N : News g L s.heap news) (T : Told V ls) (hm : (D, LCg.lst ls) ∈ news)
    (h : Q (.int (ls.length : Int) (s.toks + 1)) { s with toks := s.toks + 1 + 1 }) : wpAny (model prog w) A (call (.builtin "len") [.ref D]) Q E s := by
  have hl := T.len
  refine len_list (items := ls.toArray) ⟨_, (N _ hm).1, rfl, _, rfl⟩ ?_ ?_
  · rw [List.size_toArray]; omega
  · rw [List.size_toArray]; exact h

/-- a turn that leaves all as it was -/
def SameTurn (g : Heap) (m : Str → Option Value) (news : Led) (g' : Heap) (m' : Str → Option Value) (news' : Led) : Prop := g' = g ∧ m' = m ∧ news' = news
theorem SameTurn.intro {g : Heap} {m : Str → Option Value} {news : Led} : SameTurn g m news g m news := ⟨rfl, rfl, rfl⟩
section
variable {prog : Program} {w : World} {A : Around} {E : Value → Shared → Prop} {s : Shared} {env : Env} {body : List Stmt} {Q : Flow → Shared → Prop}
theorem turns_same {x : Str} {xp : Pos} {I : Addr} {cl : String} {ads : List Addr} {g : Heap} {m₀ : Str → Option Value} {news : Led} {P : (Tok → Value) → Prop}
    (hy : env.kindOf x = some .local) (hp : (env.scope.kind == .class || (env.scope.kind == .module && env.locals != env.globals)) = false)
    (hbody : ∀ f t o h tk, P f → o.cls = .type cl → Fr g env.locals h (fun z => if z = x then some (f t) else m₀ z) → News g env.locals h ((I, o) :: news) →
      wpAny (model prog w) A (execs body env) (TurnPost env.locals I o ads [] { s with heap := h, toks := tk } (SameTurn g (fun z => if z = x then some (f t) else m₀ z) news) Q) E { s with heap := h, toks := tk })
    (hdone : ∀ ov h tk, Fr g env.locals h (fun z => if z = x then ov else m₀ z) → News g env.locals h news → Q .next { s with heap := h, toks := tk }) :
    ∀ (xs : List (Tok → Value)) (_ : ∀ f ∈ xs, P f) (ov : Option Value), Turns prog w A E env (.Name x xp) body Q s I cl ads [] xs g (fun z => if z = x then ov else m₀ z) news
  | [], _, ov => hdone ov
  | f :: r, hP, ov => fun t o h tk hc F N => by
    refine wpAny_assign_Name (wpAny_storeName_local hy F.ns (fun h₂ n₂ s₂ => ?_) hp)
    have F₂ := F.set n₂ s₂
    have e : (fun z => if z = x then some (f t) else if z = x then ov else m₀ z) = fun z => if z = x then some (f t) else m₀ z := by
      funext z
      by_cases q : z = x
      · rw [if_pos q, if_pos q]
      · rw [if_neg q, if_neg q, if_neg q]
    rw [e] at F₂
    refine wpAny_mono (hbody f t o h₂ _ (hP f (.head _)) hc F₂ (N.set s₂)) (fun fl s₃ q => ?_) fun _ _ e => e
    have step : TurnEnd env.locals I o ads [] { s with heap := h₂, toks := tk + 1 } (SameTurn g (fun z => if z = x then some (f t) else m₀ z) news) s₃ →
        TurnEnd env.locals I o ads [] { s with heap := h, toks := tk } (Turns prog w A E env (.Name x xp) body Q s I cl ads [] r) s₃ := by
      rintro ⟨g', h', tk', m', news', rfl, F₃, N₃, ha, hk, rfl, rfl, rfl⟩
      exact ⟨_, h', tk', _, _, rfl, F₃, N₃, ha, hk, turns_same hy hp hbody hdone r (fun f hf => hP f (.tail _ hf)) (some (f t))⟩
    cases fl with
    | ret v => exact q
    | brk => exact q
    | cont => exact step q
    | next => exact step q
/-- over the places told -/
theorem loops_same {x : Str} {xp : Pos} {ax : Addr} {b : Int} {n : Nat} {t1 t2 t3 : Tok} {m₀ : Str → Option Value} {news : Led} {g : Heap}
    (hh : A.handled = none) (F : Fr g env.locals s.heap m₀) (N : News g env.locals s.heap news) (hr : IsRange s.heap ax 1 b 1 t1 t2 t3) (hsm : Builtin.Range.small 1 b 1 = true) (hn : Builtin.Range.rangeSize 1 b 1 = ((n : Nat) : Int))
    (hE : PassesOwn (model prog w) A env E) (hy : env.kindOf x = some .local) (hp : (env.scope.kind == .class || (env.scope.kind == .module && env.locals != env.globals)) = false)
    (hbody : ∀ I, (∀ p ∈ news, p.1 < I) → ∀ (i : Nat) t o h tk, i < n → o.cls = .type "range_iterator" → Fr g env.locals h (fun z => if z = x then some (.int (1 + (i : Int)) t) else m₀ z) → News g env.locals h ((I, o) :: news) →
      wpAny (model prog w) A (execs body env) (TurnPost env.locals I o (news.map (·.1)) [] { s with heap := h, toks := tk } (SameTurn g (fun z => if z = x then some (.int (1 + (i : Int)) t) else m₀ z) news) Q) E { s with heap := h, toks := tk })
    (hdone : ∀ ov h tk, Fr g env.locals h (fun z => if z = x then ov else m₀ z) → News g env.locals h news → Q .next { s with heap := h, toks := tk }) :
    wpAny (model prog w) A (pyIter (.ref ax)) (fun it s₂ => Loops prog w A env (.Name x xp) body Q E it s₂) E s := by
  refine loops_range hh F N hr hsm hn hE fun I hI => ?_
  have e : (fun z => if z = x then m₀ x else m₀ z) = m₀ := by
    funext z
    by_cases q : z = x
    · rw [if_pos q, q]
    · rw [if_neg q]
  have T := turns_same (xp := xp) (cl := "range_iterator") (ads := news.map (·.1)) (P := fun f => ∃ i : Nat, i < n ∧ f = fun t => Value.int (1 + (i : Int)) t) hy hp (fun f t o h tk hf hc F N => by
    obtain ⟨i, hi, rfl⟩ := hf
    exact hbody I hI i t o h tk hi hc F N) hdone ((List.range n).map fun (i : Nat) (t : Tok) => Value.int (1 + (i : Int)) t) (fun f hf => by
    obtain ⟨i, hi, rfl⟩ := List.mem_map.mp hf
    exact ⟨i, List.mem_range.mp hi, rfl⟩) (m₀ x)
  rw [e] at T
  exact T
end

section
theorem holds_c {prog : Program} {w : World} {x y : Int} {t1 t2 t3 : Tok} {news : Led} (h : x ≤ y) :
    Tag PySem.Challenge.rw_sa0007_01 hd.heap_1 → Acts prog w 2 312 [.str (Str.ofString "<=") t1, .int x t2, .int y t3] news AnyB (ι := Tok) (fun _ => news) (fun t => .int 1 t) (fun _ => True) False := by
  k_fill
  intro _ mean mg mb dp un gd cn cs a ccd cl outer A₀ base h₀ L m s Q E B F X N Tp hk hB hdp hun hret herr
  refine wpAny_call ?_
  k_dflt ktr_enter
  (w_top off; k_with_none; repeat' (first | (k_unfold; (try dsimp only)) | (k_end; wrow_close) | ((first | (with_reducible show wpAny _ _ (exec _ _) _ _ _) | (with_reducible show wpAny _ _ (eval (Expr.Call _ _ _ _) _) _ _ _) | (with_reducible show wpAny _ _ (eval (Expr.Compare _ _ _ _) _) _ _ _) | (with_reducible show wpAny _ _ (eval (Expr.Subscript _ _ _) _) _ _ _) | (with_reducible show wpAny _ _ (eval (Expr.BinOp _ _ _ _) _) _ _ _) | (with_reducible show wpAny _ _ (eval (Expr.ListComp _ _ _ _) _) _ _ _) | (with_reducible show wpAny _ _ (isTrue (Expr.Compare _ _ _ _) _ _) _ _ _)); k_fold) | walk1 | (dsimp only; walk1) | (leave1; (try dsimp only)) | fail "no step"))
  all_goals
    rw [if_pos (decide_eq_true h)]
    exact hret _ _ _ (by k_asm) (by k_asm) trivial
end
section
local macro_rules | `(tactic| k_all) => `(tactic| exact allLt_ne (by assumption) (by omega))
local macro_rules | `(tactic| k_all) => `(tactic| assumption)
theorem order_c {prog : Program} {w : World} {r sc : Addr} {k : Int} {tk : Tok} {vs : List Value} {ns : List Int} {i : Sorts} (hk0 : 0 ≤ k) (hk1 : k < 900) (ok : SortsOk i r) :
    Tag PySem.Challenge.rw_sa0007_01 hd.heap_1 → ActsT prog w 30 492 [.ref r, .ref i.l] ((r, reelO sc k tk) :: i.led) (Script sc vs ns) (ι := Tok) (fun t => (r, reelO sc (k + 1 + 1 + 1 + 1 + 1 + 1 + 1 + 1) t) :: i.led) (fun _ => .bool true) (fun _ => True) := by
  k_fill
  intro _ mean mg mb dp un gd cn cs a ccd cl outer A₀ base g₀ h₀ L m s Q E B F X N Tp hk hB hdp hun XB TB D T0 hret
  have hoff := ok.off
  have hlist := ok.list

  refine wpAny_call ?_
  k_dflt (refine' code_turnC ?k1 ?k2 ?k3 ?k4 ?k5 ?XB ?TB ?D ?T0 ?kA ?kF ?kK ?k6 ?k7 ?k8 ?k9 ?kB ?kD ?_ ?c2 ?c3 ?c4; (case kA => exact rfl); (case kF => exact rfl); (case kK => assumption); (case k2 => k_asm); (case k1 => k_asm); (case XB => k_asm); (case TB => k_asm); (case D => k_asm); (case T0 => exact T0); (case k3 => k_asm); (case k4 => k_asm); (case k5 => k_asm); (case k6 => k_is); (case k7 => k_is); (case k8 => ktr_room); (case k9 => exact BindsTo.of_eq rfl); (case kB => exact rfl); (case kD => decide +kernel); (case c2 => exact rfl); (case c3 => exact rfl); (case c4 => exact rfl); k_whole; intro g' L' h' tk' cells' FG' F' N' Y' B' X' T' D' l1; (try k_lt l1); k_cells Y'; (try simp only [List.cons_append, List.nil_append] at N'); (try dsimp only); (try k_lift B'); (try k_fold))
  have hlt := l1.2
  (w_top off; k_with_none; (k_with "getAttr ref" => (k_here; k_dflt (refine get_own (by k_asm) (by k_asm) (by k_inst) (by k_is) (by k_is) (by k_is) (by k_is) (by assumption) (by k_handed) ?_; k_whole))); (k_with "leaving ref" => (k_here; (refine leave_onSN (by assumption) (by assumption) (by assumption) (by assumption) ?_; k_whole); intro h' R' U1 U'; clear U1; (try dsimp only at R' U' ⊢))); (k_with "exec For Name Tuple cons nil" => (k_here; (with_unfolding_all refine for_loops ?_); k_whole)); (k_with "exec For Name Call cons nil" => (k_here; (with_unfolding_all refine for_loops ?_); k_whole)); (k_with "pyIter ref" => (k_here; (with_reducible show wpAny _ _ (pyIter (Value.ref _)) (fun it s₂ => Loops _ _ _ _ _ _ _ _ it s₂) _ _); (first | (k_dflt (refine loops_tup (vs := [_, _]) (by exact rfl) (by k_asm) (by k_asm) (by exact .head _) (by exact rfl) (by exact rfl) (by passes_own) ?_; k_whole)) | (k_dflt (refine loops_lit [fun t => Value.int 0 t, fun t => Value.int 1 t, fun t => Value.int 2 t] (a := 0) (b := 3) (n := 3) (by exact rfl) (by k_asm) (by k_asm) (by first | with_reducible assumption | (exact (by assumption : IsRange _ _ 0 3 1 _ _ _))) (by decide +kernel) (by decide +kernel) (by passes_own) (by exact rfl) ?_; k_whole)) | (k_dflt (refine loops_lit [fun t => Value.int 0 t, fun t => Value.int 1 t, fun t => Value.int 2 t, fun t => Value.int 3 t, fun t => Value.int 4 t, fun t => Value.int 5 t] (a := 0) (b := 6) (n := 6) (by exact rfl) (by k_asm) (by k_asm) (by first | with_reducible assumption | (exact (by assumption : IsRange _ _ 0 6 1 _ _ _))) (by decide +kernel) (by decide +kernel) (by passes_own) (by exact rfl) ?_; k_whole))); intro i' l1; (k_lt l1))); (k_with "Turns" => (first | (k_dflt (refine Turns.one ?_; k_whole); intro t' o' h' tk' hc' F' N'; (try dsimp only [locals_C, locals_O] at F' N'); (try dsimp only)) | (k_dflt (refine Turns.none ?_; k_whole); intro h' tk' F' N'; (try dsimp only [locals_C, locals_O] at F' N'); (try dsimp only)))); (k_with "TurnPost" => (dsimp only [TurnPost])); (k_with "TurnEnd" => (k_dflt (refine TurnEnd.intro (by k_asm) (by first | k_asm | exact news_tl (by first | k_asm | exact news_tl (by first | k_asm | exact news_tl (by first | k_asm | exact news_tl (by first | k_asm | exact news_tl (by first | k_asm | exact news_tl (by first | k_asm | exact news_tl (by first | k_asm | exact news_tl (by first | k_asm | exact news_tl (by first | k_asm | exact news_tl (by first | k_asm | exact news_tl (by first | k_asm | exact news_tl (by first | k_asm | exact news_tl (by first | k_asm | exact news_tl (by first | k_asm | exact news_tl (by first | k_asm | exact news_tl (by k_asm))))))))))))))))) (by exact rfl) (by first | exact True.intro | k_subL) ?_; k_whole))); (k_with "subscriptTail Name Constant ref int" => (k_here; (with_reducible show wpAny _ _ (subscriptTail (Expr.Name (Str.ofString "row") _) _ (Value.ref _) (Value.int 0 _)) _ _ _); k_dflt (refine row_at (by with_reducible assumption) (by (repeat (first | with_reducible exact List.Mem.head _ | refine List.Mem.tail _ ?_))) (by exact rfl) (by exact rfl) (by decide) (by decide) (by exact rfl) (by with_unfolding_all rfl) ?_; k_whole))); (k_with "subscriptTail" => (k_here; (with_reducible show wpAny _ _ (subscriptTail _ _ (Value.ref _) (Value.int _ _)) _ _ _); k_dflt (refine lst_at (by with_reducible assumption) (by (repeat (first | with_reducible exact List.Mem.head _ | refine List.Mem.tail _ ?_))) (by first | decide | omega) (by first | decide | omega) (by first | with_reducible assumption | exact rfl) (by with_unfolding_all rfl) ?_; k_whole))); (k_with "subscriptTail Name Name ref int" => (k_here; (with_reducible show wpAny _ _ (subscriptTail _ _ (Value.ref _) (Value.int _ _)) _ _ _); k_dflt (refine lst_at (by with_reducible assumption) (by (repeat (first | with_reducible exact List.Mem.head _ | refine List.Mem.tail _ ?_))) (by first | decide | omega) (by first | decide | omega) (by first | with_reducible assumption | exact rfl) (by with_unfolding_all rfl) ?_; k_whole))); (k_with "subscriptTail Name BinOp ref int" => (k_here; (with_reducible show wpAny _ _ (subscriptTail _ _ (Value.ref _) (Value.int _ _)) _ _ _); k_dflt (refine lst_at (by with_reducible assumption) (by (repeat (first | with_reducible exact List.Mem.head _ | refine List.Mem.tail _ ?_))) (by first | decide | omega) (by first | decide | omega) (by first | with_reducible assumption | exact rfl) (by with_unfolding_all rfl) ?_; k_whole))); (k_with "subscriptTail Name Subscript ref int" => (k_here; (with_reducible show wpAny _ _ (subscriptTail _ _ (Value.ref _) (Value.int _ _)) _ _ _); k_dflt (refine lst_at (by with_reducible assumption) (by (repeat (first | with_reducible exact List.Mem.head _ | refine List.Mem.tail _ ?_))) (by first | decide | omega) (by first | decide | omega) (by first | with_reducible assumption | exact rfl) (by with_unfolding_all rfl) ?_; k_whole))); (k_with "eval Name" => (k_here; (with_reducible show wpAny _ _ (eval (Expr.Name _ _) (compEnvC _ _ _ _)) _ _ _); k_dflt (refine LCgL.ld_own (by with_reducible assumption) (by (repeat (first | with_reducible exact List.Mem.head _ | refine List.Mem.tail _ ?_))) (by with_reducible assumption) (by with_reducible assumption) ?_ (by rfl) (by rfl) (by decide); k_whole))); (k_with "eval Name" => (k_here; (with_reducible show wpAny _ _ (eval (Expr.Name _ _) (compEnvC _ _ _ _)) _ _ _); k_dflt (refine kcf_cell (by with_reducible assumption) (by rfl) (by (repeat (first | with_reducible exact List.Mem.head _ | refine List.Mem.tail _ ?_))) (by with_reducible assumption) ?_ (by rfl) (by rfl); k_whole))); (k_with "exec Assign cons ListComp" => (k_here; (with_reducible show wpAny _ _ (exec (Stmt.Assign _ (Expr.ListComp (Expr.Call _ _ _ _) _ _ _) _) _) _ _ _); k_dflt (refine wpAny_Assign_Name ?_))); (k_with "exec Assign cons ListComp" => (k_here; (with_reducible show wpAny _ _ (exec (Stmt.Assign _ (Expr.ListComp (Expr.Name _ _) _ _ _) _) _) _ _ _); k_dflt (refine comp_assign (by k_asm) (by exact rfl) (by with_unfolding_all rfl) (by with_unfolding_all rfl) (by decide) (by exact rfl) (by decide) (by exact rfl) (by exact rfl) (by exact rfl) ?_; k_whole))); (k_with "eval ListComp" => (k_here; k_dflt (refine comp_eval (by k_asm) (by with_unfolding_all rfl) (by decide) (by exact rfl) (by decide) (by exact rfl) ?_; k_whole))); (k_with "OverL" => (k_here; (k_dflt (refine OverL.intro (vs := [_, _, _, _]) (by exact rfl) (by k_asm) (by k_asm) (by k_mem) (by exact rfl) (by exact rfl) (by exact Nat.le_of_ble_eq_true rfl) ?_; k_whole)); intro hp' I' C' D' l1 l2 l3; (k_lt l1); (k_lt2 l2); (k_lt2 l3))); (k_with "OverR" => (k_here; (k_dflt (refine OverR.lit [fun t => Value.int 0 t, fun t => Value.int 1 t, fun t => Value.int 2 t, fun t => Value.int 3 t] (a := 0) (b := 4) (n := 4) (by exact rfl) (by k_asm) (by k_asm) (by with_reducible assumption) (by decide +kernel) (by decide +kernel) (by exact Nat.le_of_ble_eq_true rfl) (by exact rfl) ?_; k_whole)); intro hp' I' C' D' l1 l2 l3; (k_lt l1); (k_lt2 l2); (k_lt2 l3))); (k_with "Rounds" => (first | (k_dflt (refine Rounds.one ?_; k_whole); intro t' oI' oC' m' h' tk' E' hC' hx' F' N'; (try dsimp only [locals_C, locals_O] at F' N'); (try dsimp only)) | (k_dflt (refine Rounds.test ?_; k_whole); intro t' oI' oC' m' h' tk' E' hC' hx' F' N'; (try dsimp only [locals_C, locals_O] at F' N'); (try dsimp only)) | (k_dflt (refine Rounds.none ?_; k_whole)))); (k_with "RoundEnd" => (k_dflt (refine RoundEnd.intro (by k_asm) (by first | k_asm | exact news_tl (by first | k_asm | exact news_tl (by first | k_asm | exact news_tl (by first | k_asm | exact news_tl (by first | k_asm | exact news_tl (by first | k_asm | exact news_tl (by first | k_asm | exact news_tl (by first | k_asm | exact news_tl (by first | k_asm | exact news_tl (by first | k_asm | exact news_tl (by first | k_asm | exact news_tl (by first | k_asm | exact news_tl (by first | k_asm | exact news_tl (by first | k_asm | exact news_tl (by first | k_asm | exact news_tl (by first | k_asm | exact news_tl (by k_asm))))))))))))))))) (by exact rfl) (by first | exact True.intro | k_subL) ?_; k_whole))); (k_with "RoundTest" => (first | (with_reducible refine RoundTest.yes ?_) | (with_reducible refine RoundTest.no ?_))); (k_with "MadeA" => (k_dflt (refine MadeA.intro ?_; k_whole); intro h' tk' F' N'; (try dsimp only [locals_C, locals_O] at F' N'); (try dsimp only))); (k_with "call builtin:min" => (k_here; (with_reducible show wpAny _ _ (PySem.call (Value.builtin _) [Value.int _ _, Value.int _ _]) _ _ _); (k_dflt (refine min_own (by exact rfl) (by k_asm) (by k_asm) ?_; k_whole)); intro h9 tk9 c9 tc9 a9 b9 e9 F9 N9; (try k_sweep))); (k_with "call ref" => (k_here; (with_reducible show wpAny _ _ (PySem.call (Value.ref 445) _) _ _ _); k_dflt (refine Acts.goN (by k_asm) (by k_asm) (by k_asm) (by k_asm) (by k_asm) (by first | exact rfl | assumption) (by assumption) (by ktr_room) (by ktr_units) (windU_c (by (intro k' t; k_upd)) (by omega) (by omega) (by omega) (by omega) tag) ?_); intro i9 h9 tk9 F9 N9 P9; (try dsimp only at N9 P9); (try dsimp only); (obtain ⟨v9, t9, u9, k9⟩ := i9); (try dsimp only at N9 P9); (obtain ⟨p9, q9, e9⟩ := P9); (try dsimp only))); (k_with "subscriptTail" => (k_here; (with_reducible show wpAny _ _ (subscriptTail _ _ (Value.ref (Sorts.l _)) (Value.int _ _)) _ _ _); k_dflt (refine sorts_at (by k_asm) (by assumption) (by k_mem) (by omega) (by omega) (by with_unfolding_all rfl) ?_; k_whole); intro x9 T9 O9; (have H9 := O9.isTy); (obtain ⟨⟨m1, m2, m3, m4, m5, m6, m7, m8, m9, m10, m11, m12⟩, n9, b9, a9⟩ := O9))); (k_with "call ref" => (k_here; (with_reducible show wpAny _ _ (PySem.call (Value.ref 459) _) _ _ _); k_dflt (refine ActsT.go (by k_asm) (by k_asm) (by k_asm) (by k_asm) (by k_asm) (by first | exact rfl | assumption) (by trivial) (by ktr_room) (by ktr_units) (by k_asm) (by k_asm) (by k_asm) (by first | with_reducible assumption | exact KtsTurn.refl | assumption) (within_g (by exact sub_in (by k_mem) (by k_mem) (by k_get) (by k_get) (by k_mem) (TyIn.mono (by assumption) (by (intro p hp; (repeat (first | exact hp | refine List.Mem.tail _ ?_)))))) (by exact TyIn.mono (by assumption) (by (intro p hp; (repeat (first | exact hp | refine List.Mem.tail _ ?_))))) tag) ?_); (try (rename Fr _ _ _ _ => o1; clear o1)); (try (rename News _ _ _ _ => o2; clear o2)); (try (rename Below _ _ _ _ => o3; clear o3)); (try (rename KtsDicts _ _ => o4; clear o4)); intro i9 g9 h9 tk9 T9 F9 N9 B9 X9 Tp9 D9 P9; (try dsimp only at N9 P9); (try dsimp only); (try k_lift B9); (obtain ⟨t9, o9⟩ := i9); (try dsimp only at N9 P9); (try dsimp only))); (k_with "call ref" => (k_here; (with_reducible show wpAny _ _ (PySem.call (Value.ref 452) _) _ _ _); k_dflt (refine ActsT.go (by k_asm) (by k_asm) (by k_asm) (by k_asm) (by k_asm) (by first | exact rfl | assumption) (by trivial) (by ktr_room) (by ktr_units) (by k_asm) (by k_asm) (by k_asm) (by first | with_reducible assumption | exact KtsTurn.refl | assumption) (intoK_c (TyIn.mono (by assumption) (by (intro p hp; (repeat (first | exact hp | refine List.Mem.tail _ ?_))))) (TyIn.mono (by assumption) (by (intro p hp; (repeat (first | exact hp | refine List.Mem.tail _ ?_))))) (by exact into_is (conv_self (by assumption) (by assumption)) (by omega) (by omega)) tag) ?_); (try (rename Fr _ _ _ _ => o1; clear o1)); (try (rename News _ _ _ _ => o2; clear o2)); (try (rename Below _ _ _ _ => o3; clear o3)); (try (rename KtsDicts _ _ => o4; clear o4)); intro t9 g9 h9 tk9 T9 F9 N9 B9 X9 Tp9 D9 P9; (try dsimp only at N9 P9); (try dsimp only); (try k_lift B9))); (k_with "call ref" => (k_here; (with_reducible show wpAny _ _ (PySem.call (Value.ref 312) _) _ _ _); k_dflt (refine Acts.goN (by k_asm) (by k_asm) (by k_asm) (by k_asm) (by k_asm) (by first | exact rfl | assumption) (by trivial) (by ktr_room) (by ktr_units) (holds_c (by assumption) tag) ?_); intro t9 h9 tk9 F9 N9 P9; (try dsimp only at N9 P9); (try dsimp only))); (k_with "MadeV" => (k_dflt (refine MadeV.four (by with_reducible assumption) (by with_reducible assumption) (by with_reducible assumption) (by with_reducible assumption) (by assumption) (by assumption) (by assumption) (by assumption) (by omega) (by omega) (by omega) ?_; k_whole); intro q0 q1 q2 q3 sh9 h' tk' F' N')); (k_with "compareOp IsNot none" => (k_here; (with_reducible show wpAny _ _ (compareOp CmpOp.IsNot (optV _ _) Value.none) _ _ _); refine isNot_opt ?_)); (k_with "compareOp IsNot" => (k_here; (with_reducible show wpAny _ _ (compareOp CmpOp.IsNot (optV _ _) Value.none) _ _ _); refine isNot_opt ?_)); (k_with "RoundTest" => (k_dflt (refine RoundTest.both (by (intro Q9 hQ9; refine LCgL.ld_own (by with_reducible assumption) (by (repeat (first | with_reducible exact List.Mem.head _ | refine List.Mem.tail _ ?_))) (by with_reducible assumption) (by with_reducible assumption) hQ9 (by rfl) (by rfl) (by decide))) (by k_asm) (by k_asm) (by exact rfl) (by first | exact True.intro | k_subL) ?_; k_whole))); (k_with "MadeA" => (k_dflt (refine MadeA.told (by assumption) (by (show List.Mem _ _; (repeat (first | with_reducible exact List.Mem.head _ | refine List.Mem.tail _ ?_)))) ?_; k_whole); intro ls' hTold h' tk' F' N'; (try dsimp only [locals_C, locals_O] at F' N'); (try dsimp only))); (k_with "call builtin:len" => (k_here; (with_reducible show wpAny _ _ (PySem.call (Value.builtin "len") [Value.ref _]) _ _ _); (with_reducible rename Told _ _ => hT9); k_dflt (refine len_told (by with_reducible assumption) hT9 (by (show List.Mem _ _; (repeat (first | with_reducible exact List.Mem.head _ | refine List.Mem.tail _ ?_)))) ?_; k_whole))); (k_with "pyIter ref" => (k_here; (with_reducible show wpAny _ _ (pyIter (Value.ref _)) (fun it s₂ => Loops _ _ _ _ _ _ _ _ it s₂) _ _); (with_reducible rename Told _ _ => hT9); k_dflt (refine loops_same (by exact rfl) (by k_asm) (by k_asm) (by with_reducible assumption) (by exact (range_told (Told.len hT9)).1) (by exact (range_told (Told.len hT9)).2) (by passes_own) (by exact rfl) (by exact rfl) ?_ ?_); (intro i' l1 k' t' o' h' tk' hi' hc' F' N'; (k_lt l1); (obtain ⟨p9, x9, y9, t9, u9, v9, w9, c1, c2, c3, c4, c5, c6, c7⟩ := Told.turn hT9 _ hi'); (have c8 := Told.len hT9); (try dsimp only [locals_C, locals_O] at F' N'); (try dsimp only)); rotate_left; (intro ov' h' tk' F' N'; (try dsimp only [locals_C, locals_O] at F' N'); (try dsimp only)); rotate_right)); (k_with "compareOp NotEq int int" => (k_here; (with_reducible refine ne_self ?_); (try dsimp only))); (k_with "SameTurn" => exact SameTurn.intro); repeat' (first | (k_unfold; (try dsimp only)) | (k_end; wrow_close) | ((first | (with_reducible show wpAny _ _ (exec _ _) _ _ _) | (with_reducible show wpAny _ _ (eval (Expr.Call _ _ _ _) _) _ _ _) | (with_reducible show wpAny _ _ (eval (Expr.Compare _ _ _ _) _) _ _ _) | (with_reducible show wpAny _ _ (eval (Expr.Subscript _ _ _) _) _ _ _) | (with_reducible show wpAny _ _ (eval (Expr.BinOp _ _ _ _) _) _ _ _) | (with_reducible show wpAny _ _ (eval (Expr.ListComp _ _ _ _) _) _ _ _) | (with_reducible show wpAny _ _ (isTrue (Expr.Compare _ _ _ _) _ _) _ _ _)); k_fold) | walk1 | (dsimp only; walk1) | (leave1; (try dsimp only)) | fail "no step"))
  all_goals (rw [beq_self_eq_true]; rw [show k + 1 + 1 + 1 + 1 + 1 + 1 + 1 + 1 = k9 by omega] at hret; exact hret _ _ _ _ (by k_asm) (by k_asm) (by first | k_asm | exact news_tl (by first | k_asm | exact news_tl (by first | k_asm | exact news_tl (by first | k_asm | exact news_tl (by first | k_asm | exact news_tl (by first | k_asm | exact news_tl (by first | k_asm | exact news_tl (by first | k_asm | exact news_tl (by first | k_asm | exact news_tl (by first | k_asm | exact news_tl (by first | k_asm | exact news_tl (by first | k_asm | exact news_tl (by first | k_asm | exact news_tl (by first | k_asm | exact news_tl (by first | k_asm | exact news_tl (by first | k_asm | exact news_tl (by k_asm))))))))))))))))) (by k_asm) (by k_asm) (by k_asm) (by k_asm) (by trivial))
end


/-- the six types, the ledger longer by one -/
def Sorts.more (i : Sorts) (q : Addr × Obj) : Sorts := { i with led := q :: i.led }
theorem SortsOk.more {i : Sorts} {r : Addr} (ok : SortsOk i r) {q : Addr × Obj} (hq : q.1 ≠ r) : SortsOk (i.more q) r :=
  { ok with
    off := fun p hp => (List.mem_cons.mp hp).elim (fun e => e ▸ hq) (ok.off p)
    list := .tail _ ok.list
    hP := ok.hP.cons
    hC := ok.hC.cons
    hF := ok.hF.cons
    hR := ok.hR.cons
    hD := ok.hD.cons
    hG := ok.hG.cons }
theorem news_swap {h₀ h : Heap} {L : Addr} {p q : Addr × Obj} {news : Led} (N : News h₀ L h (p :: q :: news)) : News h₀ L h (q :: p :: news) := fun x hx => by
  rcases List.mem_cons.mp hx with rfl | hx
  · exact N _ (.tail _ (.head _))
  · rcases List.mem_cons.mp hx with rfl | hx
    · exact N _ (.head _)
    · exact N _ (.tail _ (.tail _ hx))
theorem swapT {prog : Program} {w : World} {n : Nat} {f : Addr} {vs : List Value} {B : Heap → Prop} {p q : Addr × Obj} {led : Led} {q' : Tok → Addr × Obj} {v : Value}
    (C : ActsT prog w n f vs (q :: p :: led) B (ι := Tok) (fun t => q' t :: p :: led) (fun _ => v) (fun _ => True)) : ActsT prog w n f vs (p :: q :: led) B (ι := Tok) (fun t => p :: q' t :: led) (fun _ => v) (fun _ => True) := by
  intro mean mg mb dp un gd cn cs a ccd cl outer A₀ base g₀ h₀ L m s Q E B F X N Tp hk hB hdp hun XB TB D T0 hret
  exact C mean mg mb dp un gd cn cs a ccd cl outer A₀ base g₀ h₀ L m s Q E B F X (news_swap N) Tp hk hB hdp hun XB TB D T0 fun t h₀' h' tk' T1 F1 N1 B1 X1 P1 D1 z => hret t h₀' h' tk' T1 F1 (news_swap N1) B1 X1 P1 D1 z
theorem back_in {prog : Program} {w : World} {r sc : Addr} {k : Int} {tk : Tok} {vs : List Value} {ns : List Int} {i : Sorts} {p : Addr × Obj} (hk0 : 0 ≤ k) (hk1 : k < 900) (ok : SortsOk i r) (hp : p.1 ≠ r) :
    Tag PySem.Challenge.rw_sa0007_01 hd.heap_1 → ActsT prog w 30 487 [.ref r, .ref i.l] (p :: (r, reelO sc k tk) :: i.led) (Script sc vs ns) (ι := Tok) (fun t => p :: (r, reelO sc (k + 1 + 1 + 1) t) :: i.led) (fun _ => .bool true) (fun _ => True) :=
  fun z => swapT (back_c (i := i.more p) hk0 hk1 (ok.more hp) z)
theorem order_in {prog : Program} {w : World} {r sc : Addr} {k : Int} {tk : Tok} {vs : List Value} {ns : List Int} {i : Sorts} {p : Addr × Obj} (hk0 : 0 ≤ k) (hk1 : k < 900) (ok : SortsOk i r) (hp : p.1 ≠ r) :
    Tag PySem.Challenge.rw_sa0007_01 hd.heap_1 → ActsT prog w 30 492 [.ref r, .ref i.l] (p :: (r, reelO sc k tk) :: i.led) (Script sc vs ns) (ι := Tok) (fun t => p :: (r, reelO sc (k + 1 + 1 + 1 + 1 + 1 + 1 + 1 + 1) t) :: i.led) (fun _ => .bool true) (fun _ => True) :=
  fun z => swapT (order_c (i := i.more p) hk0 hk1 (ok.more hp) z)
theorem dicts_below {A : Around} {b h : Heap} (_ : Below A b [] h) : KtsDicts (([] : List Env).filterMap (·.frame)) h := fun b hb => nomatch hb
theorem fr_base {A : Around} {b g h : Heap} {L : Addr} {m : Str → Option Value} (B : Below A b [] g) (F : Fr g L h m) (hl : @LE.le Nat _ b.objs.size L) : Fr b L h m := ⟨F.ns, fun c o e => F.keep c o (B.stays c o e), hl⟩
theorem post_ok (xs : List Int) : PySem.Challenge.rw_sa0007_01.row.claim.post [ofPy (PyData.list (List.map PyData.int xs))] (WData.bool true) [ofPy (PyData.list (List.map PyData.int xs))] = true := by
  kernel_rfl
theorem none_ok (xs : List Int) (cls : ExcName) : PySem.Challenge.rw_sa0007_01.row.claim.raises [ofPy (PyData.list (List.map PyData.int xs))] cls = false := by
  kernel_rfl
section
local macro_rules | `(tactic| k_qdec) => `(tactic| decide +kernel)
theorem law_holds : PySem.Challenge.rw_sa0007_01.Holds := hd (by
  k_go0
  have hB : Script _ _ _ _ := ⟨by assumption, by assumption, by omega⟩
  have D0 := dicts_below (by assumption)
  all_goals (try k_fold)
  (k_with_none; (k_with "leaving ref" => (k_here; (refine leave_onSN (by assumption) (by assumption) (by assumption) (by assumption) ?_; k_whole); intro h' R' U1 U'; clear U1; (try dsimp only at R' U' ⊢))); (k_with "exec For Name Tuple cons nil" => (k_here; (with_unfolding_all refine for_loops ?_); k_whole)); (k_with "exec For Name Call cons nil" => (k_here; (with_unfolding_all refine for_loops ?_); k_whole)); (k_with "pyIter ref" => (k_here; (with_reducible show wpAny _ _ (pyIter (Value.ref _)) (fun it s₂ => Loops _ _ _ _ _ _ _ _ it s₂) _ _); (first | (k_dflt (refine loops_tup (vs := [_, _]) (by exact rfl) (by k_asm) (by k_asm) (by exact .head _) (by exact rfl) (by exact rfl) (by passes_own) ?_; k_whole)) | (k_dflt (refine loops_lit [fun t => Value.int 0 t, fun t => Value.int 1 t, fun t => Value.int 2 t] (a := 0) (b := 3) (n := 3) (by exact rfl) (by k_asm) (by k_asm) (by first | with_reducible assumption | (exact (by assumption : IsRange _ _ 0 3 1 _ _ _))) (by decide +kernel) (by decide +kernel) (by passes_own) (by exact rfl) ?_; k_whole)) | (k_dflt (refine loops_lit [fun t => Value.int 0 t, fun t => Value.int 1 t, fun t => Value.int 2 t, fun t => Value.int 3 t, fun t => Value.int 4 t, fun t => Value.int 5 t] (a := 0) (b := 6) (n := 6) (by exact rfl) (by k_asm) (by k_asm) (by first | with_reducible assumption | (exact (by assumption : IsRange _ _ 0 6 1 _ _ _))) (by decide +kernel) (by decide +kernel) (by passes_own) (by exact rfl) ?_; k_whole))); intro i' l1; (k_lt l1))); (k_with "Turns" => (first | (k_dflt (refine Turns.one ?_; k_whole); intro t' o' h' tk' hc' F' N'; (try dsimp only [locals_C, locals_O] at F' N'); (try dsimp only)) | (k_dflt (refine Turns.none ?_; k_whole); intro h' tk' F' N'; (try dsimp only [locals_C, locals_O] at F' N'); (try dsimp only)))); (k_with "TurnPost" => (dsimp only [TurnPost])); (k_with "TurnEnd" => (k_dflt (refine TurnEnd.intro (by k_asm) (by first | k_asm | exact news_tl (by first | k_asm | exact news_tl (by first | k_asm | exact news_tl (by first | k_asm | exact news_tl (by first | k_asm | exact news_tl (by first | k_asm | exact news_tl (by first | k_asm | exact news_tl (by first | k_asm | exact news_tl (by first | k_asm | exact news_tl (by first | k_asm | exact news_tl (by first | k_asm | exact news_tl (by first | k_asm | exact news_tl (by first | k_asm | exact news_tl (by first | k_asm | exact news_tl (by first | k_asm | exact news_tl (by first | k_asm | exact news_tl (by k_asm))))))))))))))))) (by exact rfl) (by first | exact True.intro | k_subL) ?_; k_whole))); (k_with "call ref" => (k_here; (with_reducible show wpAny _ _ (PySem.call (Value.ref 480) _) _ _ _); k_dflt (refine Acts.goN (by k_asm) (by k_asm) (by k_asm) (by k_asm) (by k_asm) (by first | exact rfl | assumption) (by assumption) (by ktr_room) (by ktr_units) (sorts_c tag) ?_); intro i9 h9 tk9 F9 N9 P9; (try dsimp only at N9 P9); (try dsimp only))); (k_with "call ref" => (k_here; (with_reducible show wpAny _ _ (PySem.call (Value.ref 487) _) _ _ _); k_dflt (refine ActsT.go (by k_asm) (by k_asm) (by k_asm) (by k_asm) (by k_asm) (by first | exact rfl | assumption) (by assumption) (by ktr_room) (by ktr_units) (by k_asm) (by k_asm) (by k_asm) (by first | with_reducible assumption | exact KtsTurn.refl | assumption) (back_in (by omega) (by omega) (by assumption) (by exact Nat.ne_of_gt (And.left (by assumption))) tag) ?_); (try (rename Fr _ _ _ _ => o1; clear o1)); (try (rename News _ _ _ _ => o2; clear o2)); (try (rename Below _ _ _ _ => o3; clear o3)); (try (rename KtsDicts _ _ => o4; clear o4)); intro t9 g9 h9 tk9 T9 F9 N9 B9 X9 Tp9 D9 P9; (try dsimp only at N9 P9); (try dsimp only); (try k_lift B9))); (k_with "call ref" => (k_here; (with_reducible show wpAny _ _ (PySem.call (Value.ref 492) _) _ _ _); k_dflt (refine ActsT.go (by k_asm) (by k_asm) (by k_asm) (by k_asm) (by k_asm) (by first | exact rfl | assumption) (by assumption) (by ktr_room) (by ktr_units) (by k_asm) (by k_asm) (by k_asm) (by first | with_reducible assumption | exact KtsTurn.refl | assumption) (order_in (by omega) (by omega) (by assumption) (by exact Nat.ne_of_gt (And.left (by assumption))) tag) ?_); (try (rename Fr _ _ _ _ => o1; clear o1)); (try (rename News _ _ _ _ => o2; clear o2)); (try (rename Below _ _ _ _ => o3; clear o3)); (try (rename KtsDicts _ _ => o4; clear o4)); intro t9 g9 h9 tk9 T9 F9 N9 B9 X9 Tp9 D9 P9; (try dsimp only at N9 P9); (try dsimp only); (try k_lift B9))); repeat' (first | (k_unfold; (try dsimp only)) | (k_end; wrow_close) | ((first | (with_reducible show wpAny _ _ (exec _ _) _ _ _) | (with_reducible show wpAny _ _ (eval (Expr.Call _ _ _ _) _) _ _ _) | (with_reducible show wpAny _ _ (eval (Expr.Compare _ _ _ _) _) _ _ _) | (with_reducible show wpAny _ _ (eval (Expr.Subscript _ _ _) _) _ _ _) | (with_reducible show wpAny _ _ (eval (Expr.BinOp _ _ _ _) _) _ _ _) | (with_reducible show wpAny _ _ (eval (Expr.ListComp _ _ _ _) _) _ _ _) | (with_reducible show wpAny _ _ (isTrue (Expr.Compare _ _ _ _) _ _) _ _ _)); k_fold) | walk1 | (dsimp only; walk1) | (leave1; (try dsimp only)) | fail "no step"))
  all_goals (have F0 := fr_base (by assumption) (by assumption) (Nat.le_refl _); (try dsimp only); (with_reducible show GoodW _ _ _ _ _ (.ok (.ret (.bool _))) _); (with_reducible exact goodW_bool F0 (by assumption) (none_ok _) (post_ok _))))
end


end Mine
theorem PySem.Challenge.cw_sa0007_01_holds : PySem.Challenge.rw_sa0007_01.Holds :=
  Mine.law_holds
