import PyProof.Rows.All
import Wide.All
import OpenK.AllK
import Wide.FinOn
import Lean
import PySem.Challenge.RW_pf0184_01
open PySem PySem.W PyProof.Rows PySem.Calls PySem.Spec
set_option Elab.async false
set_option maxRecDepth 100000
set_option maxHeartbeats 40000000
set_option linter.unusedVariables false
set_option compiler.extract_closed false
namespace Mine
-- Hd
noncomputable def stm (i : Nat) : Stmt := (PySem.Challenge.rw_pf0184_01.row.prog).main.body.getD i (.Pass default)
def fA : Stmt → Arguments × List Stmt × Scope
  | .FunctionDef _ a b _ _ _ s _ _ _ => (a, b, s)
  | .ClassDef _ _ _ b _ _ s _ _ _ _ => (Arguments.mk [] [] none [] [] none [], b, s)
  | _ => (Arguments.mk [] [] none [] [] none [], [], default)
def fP (s : Stmt) : Arguments := (fA s).1
def fB (s : Stmt) : List Stmt := (fA s).2.1
def fS (s : Stmt) : Scope := (fA s).2.2
def cB (s : Stmt) : List Stmt := (fA s).2.1
noncomputable def hd.heap_39 : Params → Frag := by
  refine (?f : (pX28 : Arguments) → (fP ((cB (stm 1)).getD 0 (.Pass default)) = pX28) → (bX28 : List Stmt) → (fB ((cB (stm 1)).getD 0 (.Pass default)) = bX28) → (sX28 : Scope) → (fS ((cB (stm 1)).getD 0 (.Pass default)) = sX28) → (pX53 : Arguments) → (fP (stm 4) = pX53) → (bX53 : List Stmt) → (fB (stm 4) = bX53) → (sX53 : Scope) → (fS (stm 4) = sX53) → (pX60 : Arguments) → (fP (stm 5) = pX60) → (bX60 : List Stmt) → (fB (stm 5) = bX60) → (sX60 : Scope) → (fS (stm 5) = sX60) → (pX67 : Arguments) → (fP (stm 6) = pX67) → (bX67 : List Stmt) → (fB (stm 6) = bX67) → (sX67 : Scope) → (fS (stm 6) = sX67) → (pX74 : Arguments) → (fP (stm 7) = pX74) → (bX74 : List Stmt) → (fB (stm 7) = bX74) → (sX74 : Scope) → (fS (stm 7) = sX74) → (pX79 : Arguments) → (fP (stm 8) = pX79) → (bX79 : List Stmt) → (fB (stm 8) = bX79) → (sX79 : Scope) → (fS (stm 8) = sX79) → (pX86 : Arguments) → (fP (stm 9) = pX86) → (bX86 : List Stmt) → (fB (stm 9) = bX86) → (sX86 : Scope) → (fS (stm 9) = sX86) → (pX93 : Arguments) → (fP (stm 10) = pX93) → (bX93 : List Stmt) → (fB (stm 10) = bX93) → (sX93 : Scope) → (fS (stm 10) = sX93) → (pX100 : Arguments) → (fP (stm 11) = pX100) → (bX100 : List Stmt) → (fB (stm 11) = bX100) → (sX100 : Scope) → (fS (stm 11) = sX100) → (pX107 : Arguments) → (fP (stm 13) = pX107) → (bX107 : List Stmt) → (fB (stm 13) = bX107) → (sX107 : Scope) → (fS (stm 13) = sX107) → (pX114 : Arguments) → (fP (stm 14) = pX114) → (bX114 : List Stmt) → (fB (stm 14) = bX114) → (sX114 : Scope) → (fS (stm 14) = sX114) → (pX126 : Arguments) → (fP (stm 16) = pX126) → (bX126 : List Stmt) → (fB (stm 16) = bX126) → (sX126 : Scope) → (fS (stm 16) = sX126) → (pX133 : Arguments) → (fP (stm 17) = pX133) → (bX133 : List Stmt) → (fB (stm 17) = bX133) → (sX133 : Scope) → (fS (stm 17) = sX133) → (pX140 : Arguments) → (fP (stm 18) = pX140) → (bX140 : List Stmt) → (fB (stm 18) = bX140) → (sX140 : Scope) → (fS (stm 18) = sX140) → (pX147 : Arguments) → (fP (stm 19) = pX147) → (bX147 : List Stmt) → (fB (stm 19) = bX147) → (sX147 : Scope) → (fS (stm 19) = sX147) → (pX154 : Arguments) → (fP (stm 20) = pX154) → (bX154 : List Stmt) → (fB (stm 20) = bX154) → (sX154 : Scope) → (fS (stm 20) = sX154) → (pX159 : Arguments) → (fP (stm 21) = pX159) → (bX159 : List Stmt) → (fB (stm 21) = bX159) → (sX159 : Scope) → (fS (stm 21) = sX159) → (pX166 : Arguments) → (fP (stm 22) = pX166) → (bX166 : List Stmt) → (fB (stm 22) = bX166) → (sX166 : Scope) → (fS (stm 22) = sX166) → (pX171 : Arguments) → (fP (stm 23) = pX171) → (bX171 : List Stmt) → (fB (stm 23) = bX171) → (sX171 : Scope) → (fS (stm 23) = sX171) → Params → Frag) _ (by (conv => lhs; whnf) <;> rfl) _ (by (conv => lhs; whnf) <;> rfl) _ (by (conv => lhs; whnf) <;> rfl) _ (by (conv => lhs; whnf) <;> rfl) _ (by (conv => lhs; whnf) <;> rfl) _ (by (conv => lhs; whnf) <;> rfl) _ (by (conv => lhs; whnf) <;> rfl) _ (by (conv => lhs; whnf) <;> rfl) _ (by (conv => lhs; whnf) <;> rfl) _ (by (conv => lhs; whnf) <;> rfl) _ (by (conv => lhs; whnf) <;> rfl) _ (by (conv => lhs; whnf) <;> rfl) _ (by (conv => lhs; whnf) <;> rfl) _ (by (conv => lhs; whnf) <;> rfl) _ (by (conv => lhs; whnf) <;> rfl) _ (by (conv => lhs; whnf) <;> rfl) _ (by (conv => lhs; whnf) <;> rfl) _ (by (conv => lhs; whnf) <;> rfl) _ (by (conv => lhs; whnf) <;> rfl) _ (by (conv => lhs; whnf) <;> rfl) _ (by (conv => lhs; whnf) <;> rfl) _ (by (conv => lhs; whnf) <;> rfl) _ (by (conv => lhs; whnf) <;> rfl) _ (by (conv => lhs; whnf) <;> rfl) _ (by (conv => lhs; whnf) <;> rfl) _ (by (conv => lhs; whnf) <;> rfl) _ (by (conv => lhs; whnf) <;> rfl) _ (by (conv => lhs; whnf) <;> rfl) _ (by (conv => lhs; whnf) <;> rfl) _ (by (conv => lhs; whnf) <;> rfl) _ (by (conv => lhs; whnf) <;> rfl) _ (by (conv => lhs; whnf) <;> rfl) _ (by (conv => lhs; whnf) <;> rfl) _ (by (conv => lhs; whnf) <;> rfl) _ (by (conv => lhs; whnf) <;> rfl) _ (by (conv => lhs; whnf) <;> rfl) _ (by (conv => lhs; whnf) <;> rfl) _ (by (conv => lhs; whnf) <;> rfl) _ (by (conv => lhs; whnf) <;> rfl) _ (by (conv => lhs; whnf) <;> rfl) _ (by (conv => lhs; whnf) <;> rfl) _ (by (conv => lhs; whnf) <;> rfl) _ (by (conv => lhs; whnf) <;> rfl) _ (by (conv => lhs; whnf) <;> rfl) _ (by (conv => lhs; whnf) <;> rfl) _ (by (conv => lhs; whnf) <;> rfl) _ (by (conv => lhs; whnf) <;> rfl) _ (by (conv => lhs; whnf) <;> rfl) _ (by (conv => lhs; whnf) <;> rfl) _ (by (conv => lhs; whnf) <;> rfl) _ (by (conv => lhs; whnf) <;> rfl) _ (by (conv => lhs; whnf) <;> rfl) _ (by (conv => lhs; whnf) <;> rfl) _ (by (conv => lhs; whnf) <;> rfl) _ (by (conv => lhs; whnf) <;> rfl) _ (by (conv => lhs; whnf) <;> rfl) _ (by (conv => lhs; whnf) <;> rfl)
  case f => exact fun pX28 _ bX28 _ sX28 _ pX53 _ bX53 _ sX53 _ pX60 _ bX60 _ sX60 _ pX67 _ bX67 _ sX67 _ pX74 _ bX74 _ sX74 _ pX79 _ bX79 _ sX79 _ pX86 _ bX86 _ sX86 _ pX93 _ bX93 _ sX93 _ pX100 _ bX100 _ sX100 _ pX107 _ bX107 _ sX107 _ pX114 _ bX114 _ sX114 _ pX126 _ bX126 _ sX126 _ pX133 _ bX133 _ sX133 _ pX140 _ bX140 _ sX140 _ pX147 _ bX147 _ sX147 _ pX154 _ bX154 _ sX154 _ pX159 _ bX159 _ sX159 _ pX166 _ bX166 _ sX166 _ pX171 _ bX171 _ sX171 _ => fun P =>
  (nat_lit 2, Obj.mk Value.none none (Data.dict #[DictEntry.mk (PyData.keyHash P (Str.ofString "type.__subclasses__.Exception.0")) (Value.str (Str.ofString "type.__subclasses__.Exception.0") 214) (Value.int 31 0), DictEntry.mk (PyData.keyHash P (Str.ofString "type.__subclasses__.Exception.n")) (Value.str (Str.ofString "type.__subclasses__.Exception.n") 215) (Value.int 1 0)] 2) #[]) ::
  (nat_lit 3, Obj.mk (Value.type "dict") none (Data.dict #[DictEntry.mk (PyData.keyHash P (Str.ofString "__name__")) (Value.str (Str.ofString "__name__") 165) (Value.str (Str.ofString "law_pf0184_01") 322), DictEntry.mk (PyData.keyHash P (Str.ofString "__doc__")) (Value.str (Str.ofString "__doc__") 166) Value.none, DictEntry.mk (PyData.keyHash P (Str.ofString "__package__")) (Value.str (Str.ofString "__package__") 167) Value.none, DictEntry.mk (PyData.keyHash P (Str.ofString "__loader__")) (Value.str (Str.ofString "__loader__") 168) (Value.builtin "__main__.__loader__#opaque"), DictEntry.mk (PyData.keyHash P (Str.ofString "__spec__")) (Value.str (Str.ofString "__spec__") 169) Value.none, DictEntry.mk (PyData.keyHash P (Str.ofString "__annotations__")) (Value.str (Str.ofString "__annotations__") 170) (Value.ref 6), DictEntry.mk (PyData.keyHash P (Str.ofString "__builtins__")) (Value.str (Str.ofString "__builtins__") 171) (Value.ref 4), DictEntry.mk (PyData.keyHash P (Str.ofString "__file__")) (Value.str (Str.ofString "__file__") 173) (Value.str (Str.ofString "/claim/cut.py") 172), DictEntry.mk (PyData.keyHash P (Str.ofString "__cached__")) (Value.str (Str.ofString "__cached__") 174) Value.none, DictEntry.mk (PyData.keyHash P (Str.ofString "MillError")) (Value.str (Str.ofString "MillError") 217) (Value.ref 31), DictEntry.mk (PyData.keyHash P (Str.ofString "SizeFault")) (Value.str (Str.ofString "SizeFault") 233) (Value.ref 44), DictEntry.mk (PyData.keyHash P (Str.ofString "tiles_of")) (Value.str (Str.ofString "tiles_of") 247) (Value.ref 53), DictEntry.mk (PyData.keyHash P (Str.ofString "halves_of")) (Value.str (Str.ofString "halves_of") 262) (Value.ref 60), DictEntry.mk (PyData.keyHash P (Str.ofString "common_tile")) (Value.str (Str.ofString "common_tile") 274) (Value.ref 67), DictEntry.mk (PyData.keyHash P (Str.ofString "clear_of")) (Value.str (Str.ofString "clear_of") 284) (Value.ref 74), DictEntry.mk (PyData.keyHash P (Str.ofString "dots_of")) (Value.str (Str.ofString "dots_of") 290) (Value.ref 79), DictEntry.mk (PyData.keyHash P (Str.ofString "holds")) (Value.str (Str.ofString "holds") 299) (Value.ref 86), DictEntry.mk (PyData.keyHash P (Str.ofString "tile_at")) (Value.str (Str.ofString "tile_at") 309) (Value.ref 93), DictEntry.mk (PyData.keyHash P (Str.ofString "tile_of_box")) (Value.str (Str.ofString "tile_of_box") 321) (Value.ref 100), DictEntry.mk (PyData.keyHash P (Str.ofString "_law_pool")) (Value.str (Str.ofString "_law_pool") 332) (Value.ref 107), DictEntry.mk (PyData.keyHash P (Str.ofString "_law_take")) (Value.str (Str.ofString "_law_take") 341) (Value.ref 114), DictEntry.mk (PyData.keyHash P (Str.ofString "_law_one")) (Value.str (Str.ofString "_law_one") 349) (Value.ref 121), DictEntry.mk (PyData.keyHash P (Str.ofString "_law_dots")) (Value.str (Str.ofString "_law_dots") 355) (Value.ref 126), DictEntry.mk (PyData.keyHash P (Str.ofString "_law_tile")) (Value.str (Str.ofString "_law_tile") 362) (Value.ref 133), DictEntry.mk (PyData.keyHash P (Str.ofString "_law_rows")) (Value.str (Str.ofString "_law_rows") 374) (Value.ref 140), DictEntry.mk (PyData.keyHash P (Str.ofString "_law_cut")) (Value.str (Str.ofString "_law_cut") 389) (Value.ref 147), DictEntry.mk (PyData.keyHash P (Str.ofString "_law_is_refused")) (Value.str (Str.ofString "_law_is_refused") 396) (Value.ref 154), DictEntry.mk (PyData.keyHash P (Str.ofString "_law_rows_right")) (Value.str (Str.ofString "_law_rows_right") 402) (Value.ref 159), DictEntry.mk (PyData.keyHash P (Str.ofString "_law_box_right")) (Value.str (Str.ofString "_law_box_right") 416) (Value.ref 166), DictEntry.mk (PyData.keyHash P (Str.ofString "law")) (Value.str (Str.ofString "law") 422) (Value.ref 171)] 30) #[]) ::
  (nat_lit 15, Obj.mk (Value.type "tuple") none (Data.seq #[Value.type "Exception"]) #[]) ::
  (nat_lit 22, Obj.mk (Value.type "tuple") none (Data.seq #[]) #[]) ::
  (nat_lit 24, Obj.mk (Value.type "tuple") none (Data.seq #[Value.str (Str.ofString "self") 204, Value.str (Str.ofString "message") 205]) #[]) ::
  (nat_lit 25, Obj.mk (Value.type "tuple") none (Data.seq #[]) #[]) ::
  (nat_lit 27, Obj.mk (Value.type "code") none (Data.fields #[Value.str (Str.ofString "__init__") 201, Value.str (Str.ofString "MillError.__init__") 202, Value.str (Str.ofString "/claim/cut.py") 203, Value.int 4 0, Value.int 2 0, Value.int 0 0, Value.int 0 0, Value.int 3 0, Value.ref 22, Value.bool true, Value.int 181 0, Value.ref 23, Value.none, Value.ref 24, Value.ref 25, Value.ref 26, Value.int 206 0, Value.int 4 0, Value.str (Str.ofString "/claim/cut.py") 207]) #[]) ::
  (nat_lit 28, Obj.mk (Value.type "function") none (Data.func (FuncData.mk (Str.ofString "__init__") (Str.ofString "MillError.__init__") pX28 (FuncBody.stmts bX28) sX28 3 [] Value.none Value.none Value.none (Value.str (Str.ofString "outlinemill.errors") 187) none (Value.ref 27) Value.none 0)) #[]) ::
  (nat_lit 29, Obj.mk (Value.type "tuple") none (Data.seq #[Value.str (Str.ofString "message") 209]) #[]) ::
  (nat_lit 30, Obj.mk (Value.type "dict") none (Data.dict #[DictEntry.mk (PyData.keyHash P (Str.ofString "__module__")) (Value.str (Str.ofString "__module__") 196) (Value.str (Str.ofString "outlinemill.errors") 187), DictEntry.mk (PyData.keyHash P (Str.ofString "__firstlineno__")) (Value.str (Str.ofString "__firstlineno__") 200) (Value.int 2 199), DictEntry.mk (PyData.keyHash P (Str.ofString "__init__")) (Value.str (Str.ofString "__init__") 208) (Value.ref 28), DictEntry.mk (PyData.keyHash P (Str.ofString "__static_attributes__")) (Value.str (Str.ofString "__static_attributes__") 210) (Value.ref 29), DictEntry.mk (PyData.keyHash P (Str.ofString "__weakref__")) (Value.str (Str.ofString "__weakref__") 212) (Value.ref 32), DictEntry.mk (PyData.keyHash P (Str.ofString "__doc__")) (Value.str (Str.ofString "__doc__") 213) Value.none] 3) #[]) ::
  (nat_lit 31, Obj.mk (Value.type "type") none (Data.cls (ClassData.mk (Str.ofString "MillError") [Value.type "Exception"] [Value.ref 31, Value.type "Exception", Value.type "BaseException", Value.type "object"] 30 (Str.ofString "MillError") true [] [Value.ref 44] false none false)) #[some (Value.ref 15), none, some (Value.str (Str.ofString "MillError") 189), some (Value.str (Str.ofString "MillError") 197), some (Value.builtin "Exception.__new__"), some (Value.bool true)]) ::
  (nat_lit 32, Obj.mk (Value.type "getset_descriptor") none (Data.fields #[Value.str (Str.ofString "__weakref__") 211, Value.ref 31, Value.builtin "ExceptionGroup.__weakref__", Value.none]) #[]) ::
  (nat_lit 35, Obj.mk (Value.type "tuple") none (Data.seq #[Value.ref 31]) #[]) ::
  (nat_lit 42, Obj.mk (Value.type "tuple") none (Data.seq #[]) #[]) ::
  (nat_lit 43, Obj.mk (Value.type "dict") none (Data.dict #[DictEntry.mk (PyData.keyHash P (Str.ofString "__module__")) (Value.str (Str.ofString "__module__") 225) (Value.str (Str.ofString "outlinemill.errors") 187), DictEntry.mk (PyData.keyHash P (Str.ofString "__firstlineno__")) (Value.str (Str.ofString "__firstlineno__") 229) (Value.int 6 228), DictEntry.mk (PyData.keyHash P (Str.ofString "__static_attributes__")) (Value.str (Str.ofString "__static_attributes__") 230) (Value.ref 42), DictEntry.mk (PyData.keyHash P (Str.ofString "__doc__")) (Value.str (Str.ofString "__doc__") 231) Value.none] 2) #[]) ::
  (nat_lit 44, Obj.mk (Value.type "type") none (Data.cls (ClassData.mk (Str.ofString "SizeFault") [Value.ref 31] [Value.ref 44, Value.ref 31, Value.type "Exception", Value.type "BaseException", Value.type "object"] 43 (Str.ofString "SizeFault") true [] [] false none false)) #[some (Value.ref 35), none, some (Value.str (Str.ofString "SizeFault") 218), some (Value.str (Str.ofString "SizeFault") 226), some (Value.builtin "Exception.__new__"), some (Value.bool true)]) ::
  (nat_lit 47, Obj.mk (Value.type "tuple") none (Data.seq #[]) #[]) ::
  (nat_lit 49, Obj.mk (Value.type "tuple") none (Data.seq #[Value.str (Str.ofString "width") 239, Value.str (Str.ofString "height") 240, Value.str (Str.ofString "size") 241, Value.str (Str.ofString "found") 242, Value.str (Str.ofString "top") 243, Value.str (Str.ofString "left") 244]) #[]) ::
  (nat_lit 50, Obj.mk (Value.type "tuple") none (Data.seq #[]) #[]) ::
  (nat_lit 52, Obj.mk (Value.type "code") none (Data.fields #[Value.str (Str.ofString "tiles_of") 236, Value.str (Str.ofString "tiles_of") 237, Value.str (Str.ofString "/claim/cut.py") 238, Value.int 9 0, Value.int 3 0, Value.int 0 0, Value.int 0 0, Value.int 3 0, Value.ref 47, Value.bool true, Value.int 181 0, Value.ref 48, Value.none, Value.ref 49, Value.ref 50, Value.ref 51, Value.int 245 0, Value.int 9 0, Value.str (Str.ofString "/claim/cut.py") 246]) #[]) ::
  (nat_lit 53, Obj.mk (Value.type "function") none (Data.func (FuncData.mk (Str.ofString "tiles_of") (Str.ofString "tiles_of") pX53 (FuncBody.stmts bX53) sX53 3 [] Value.none Value.none Value.none (Value.str (Str.ofString "outlinemill.tiles") 234) none (Value.ref 52) Value.none 0)) #[]) ::
  (nat_lit 54, Obj.mk (Value.type "tuple") none (Data.seq #[]) #[]) ::
  (nat_lit 56, Obj.mk (Value.type "tuple") none (Data.seq #[Value.str (Str.ofString "tile") 251, Value.str (Str.ofString "most") 252, Value.str (Str.ofString "found") 253, Value.str (Str.ofString "left") 254, Value.str (Str.ofString "x") 255, Value.str (Str.ofString "y") 256, Value.str (Str.ofString "width") 257, Value.str (Str.ofString "height") 258, Value.str (Str.ofString "half") 259]) #[]) ::
  (nat_lit 57, Obj.mk (Value.type "tuple") none (Data.seq #[]) #[]) ::
  (nat_lit 59, Obj.mk (Value.type "code") none (Data.fields #[Value.str (Str.ofString "halves_of") 248, Value.str (Str.ofString "halves_of") 249, Value.str (Str.ofString "/claim/cut.py") 250, Value.int 17 0, Value.int 2 0, Value.int 0 0, Value.int 0 0, Value.int 3 0, Value.ref 54, Value.bool true, Value.int 181 0, Value.ref 55, Value.none, Value.ref 56, Value.ref 57, Value.ref 58, Value.int 260 0, Value.int 17 0, Value.str (Str.ofString "/claim/cut.py") 261]) #[]) ::
  (nat_lit 60, Obj.mk (Value.type "function") none (Data.func (FuncData.mk (Str.ofString "halves_of") (Str.ofString "halves_of") pX60 (FuncBody.stmts bX60) sX60 3 [] Value.none Value.none Value.none (Value.str (Str.ofString "outlinemill.tiles") 234) none (Value.ref 59) Value.none 0)) #[]) ::
  (nat_lit 61, Obj.mk (Value.type "tuple") none (Data.seq #[]) #[]) ::
  (nat_lit 63, Obj.mk (Value.type "tuple") none (Data.seq #[Value.str (Str.ofString "one") 266, Value.str (Str.ofString "other") 267, Value.str (Str.ofString "left") 268, Value.str (Str.ofString "top") 269, Value.str (Str.ofString "right") 270, Value.str (Str.ofString "bottom") 271]) #[]) ::
  (nat_lit 64, Obj.mk (Value.type "tuple") none (Data.seq #[]) #[]) ::
  (nat_lit 66, Obj.mk (Value.type "code") none (Data.fields #[Value.str (Str.ofString "common_tile") 263, Value.str (Str.ofString "common_tile") 264, Value.str (Str.ofString "/claim/cut.py") 265, Value.int 34 0, Value.int 2 0, Value.int 0 0, Value.int 0 0, Value.int 3 0, Value.ref 61, Value.bool true, Value.int 181 0, Value.ref 62, Value.none, Value.ref 63, Value.ref 64, Value.ref 65, Value.int 272 0, Value.int 34 0, Value.str (Str.ofString "/claim/cut.py") 273]) #[]) ::
  (nat_lit 67, Obj.mk (Value.type "function") none (Data.func (FuncData.mk (Str.ofString "common_tile") (Str.ofString "common_tile") pX67 (FuncBody.stmts bX67) sX67 3 [] Value.none Value.none Value.none (Value.str (Str.ofString "outlinemill.tiles") 234) none (Value.ref 66) Value.none 0)) #[]) ::
  (nat_lit 68, Obj.mk (Value.type "tuple") none (Data.seq #[]) #[]) ::
  (nat_lit 70, Obj.mk (Value.type "tuple") none (Data.seq #[Value.str (Str.ofString "tiles") 278, Value.str (Str.ofString "at") 279, Value.str (Str.ofString "one") 280, Value.str (Str.ofString "other") 281]) #[]) ::
  (nat_lit 71, Obj.mk (Value.type "tuple") none (Data.seq #[]) #[]) ::
  (nat_lit 73, Obj.mk (Value.type "code") none (Data.fields #[Value.str (Str.ofString "clear_of") 275, Value.str (Str.ofString "clear_of") 276, Value.str (Str.ofString "/claim/cut.py") 277, Value.int 41 0, Value.int 1 0, Value.int 0 0, Value.int 0 0, Value.int 3 0, Value.ref 68, Value.bool true, Value.int 181 0, Value.ref 69, Value.none, Value.ref 70, Value.ref 71, Value.ref 72, Value.int 282 0, Value.int 41 0, Value.str (Str.ofString "/claim/cut.py") 283]) #[]) ::
  (nat_lit 74, Obj.mk (Value.type "function") none (Data.func (FuncData.mk (Str.ofString "clear_of") (Str.ofString "clear_of") pX74 (FuncBody.stmts bX74) sX74 3 [] Value.none Value.none Value.none (Value.str (Str.ofString "outlinemill.tiles") 234) none (Value.ref 73) Value.none 0)) #[]) ::
  (nat_lit 75, Obj.mk (Value.type "tuple") none (Data.seq #[]) #[]) ::
  (nat_lit 78, Obj.mk (Value.type "code") none (Data.fields #[Value.str (Str.ofString "dots_of") 285, Value.str (Str.ofString "dots_of") 286, Value.str (Str.ofString "/claim/cut.py") 287, Value.int 47 0, Value.int 1 0, Value.int 0 0, Value.int 0 0, Value.int 3 0, Value.ref 75, Value.bool true, Value.int 181 0, Value.ref 76, Value.none, Value.none, Value.none, Value.ref 77, Value.int 288 0, Value.int 47 0, Value.str (Str.ofString "/claim/cut.py") 289]) #[]) ::
  (nat_lit 79, Obj.mk (Value.type "function") none (Data.func (FuncData.mk (Str.ofString "dots_of") (Str.ofString "dots_of") pX79 (FuncBody.stmts bX79) sX79 3 [] Value.none Value.none Value.none (Value.str (Str.ofString "outlinemill.tiles") 234) none (Value.ref 78) Value.none 0)) #[]) ::
  (nat_lit 80, Obj.mk (Value.type "tuple") none (Data.seq #[]) #[]) ::
  (nat_lit 82, Obj.mk (Value.type "tuple") none (Data.seq #[Value.str (Str.ofString "tile") 294, Value.str (Str.ofString "x") 295, Value.str (Str.ofString "y") 296]) #[]) ::
  (nat_lit 83, Obj.mk (Value.type "tuple") none (Data.seq #[]) #[]) ::
  (nat_lit 85, Obj.mk (Value.type "code") none (Data.fields #[Value.str (Str.ofString "holds") 291, Value.str (Str.ofString "holds") 292, Value.str (Str.ofString "/claim/cut.py") 293, Value.int 49 0, Value.int 3 0, Value.int 0 0, Value.int 0 0, Value.int 3 0, Value.ref 80, Value.bool true, Value.int 181 0, Value.ref 81, Value.none, Value.ref 82, Value.ref 83, Value.ref 84, Value.int 297 0, Value.int 49 0, Value.str (Str.ofString "/claim/cut.py") 298]) #[]) ::
  (nat_lit 86, Obj.mk (Value.type "function") none (Data.func (FuncData.mk (Str.ofString "holds") (Str.ofString "holds") pX86 (FuncBody.stmts bX86) sX86 3 [] Value.none Value.none Value.none (Value.str (Str.ofString "outlinemill.tiles") 234) none (Value.ref 85) Value.none 0)) #[]) ::
  (nat_lit 87, Obj.mk (Value.type "tuple") none (Data.seq #[]) #[]) ::
  (nat_lit 89, Obj.mk (Value.type "tuple") none (Data.seq #[Value.str (Str.ofString "tiles") 303, Value.str (Str.ofString "x") 304, Value.str (Str.ofString "y") 305, Value.str (Str.ofString "tile") 306]) #[]) ::
  (nat_lit 90, Obj.mk (Value.type "tuple") none (Data.seq #[]) #[]) ::
  (nat_lit 92, Obj.mk (Value.type "code") none (Data.fields #[Value.str (Str.ofString "tile_at") 300, Value.str (Str.ofString "tile_at") 301, Value.str (Str.ofString "/claim/cut.py") 302, Value.int 51 0, Value.int 3 0, Value.int 0 0, Value.int 0 0, Value.int 3 0, Value.ref 87, Value.bool true, Value.int 181 0, Value.ref 88, Value.none, Value.ref 89, Value.ref 90, Value.ref 91, Value.int 307 0, Value.int 51 0, Value.str (Str.ofString "/claim/cut.py") 308]) #[]) ::
  (nat_lit 93, Obj.mk (Value.type "function") none (Data.func (FuncData.mk (Str.ofString "tile_at") (Str.ofString "tile_at") pX93 (FuncBody.stmts bX93) sX93 3 [] Value.none Value.none Value.none (Value.str (Str.ofString "outlinemill.tiles") 234) none (Value.ref 92) Value.none 0)) #[]) ::
  (nat_lit 94, Obj.mk (Value.type "tuple") none (Data.seq #[]) #[]) ::
  (nat_lit 96, Obj.mk (Value.type "tuple") none (Data.seq #[Value.str (Str.ofString "box") 313, Value.str (Str.ofString "grain") 314, Value.str (Str.ofString "left") 315, Value.str (Str.ofString "top") 316, Value.str (Str.ofString "right") 317, Value.str (Str.ofString "bottom") 318]) #[]) ::
  (nat_lit 97, Obj.mk (Value.type "tuple") none (Data.seq #[]) #[]) ::
  (nat_lit 99, Obj.mk (Value.type "code") none (Data.fields #[Value.str (Str.ofString "tile_of_box") 310, Value.str (Str.ofString "tile_of_box") 311, Value.str (Str.ofString "/claim/cut.py") 312, Value.int 56 0, Value.int 2 0, Value.int 0 0, Value.int 0 0, Value.int 3 0, Value.ref 94, Value.bool true, Value.int 181 0, Value.ref 95, Value.none, Value.ref 96, Value.ref 97, Value.ref 98, Value.int 319 0, Value.int 56 0, Value.str (Str.ofString "/claim/cut.py") 320]) #[]) ::
  (nat_lit 100, Obj.mk (Value.type "function") none (Data.func (FuncData.mk (Str.ofString "tile_of_box") (Str.ofString "tile_of_box") pX100 (FuncBody.stmts bX100) sX100 3 [] Value.none Value.none Value.none (Value.str (Str.ofString "outlinemill.tiles") 234) none (Value.ref 99) Value.none 0)) #[]) ::
  (nat_lit 101, Obj.mk (Value.type "tuple") none (Data.seq #[]) #[]) ::
  (nat_lit 103, Obj.mk (Value.type "tuple") none (Data.seq #[Value.str (Str.ofString "script") 327, Value.str (Str.ofString "script_cell") 328, Value.str (Str.ofString "large") 329]) #[]) ::
  (nat_lit 104, Obj.mk (Value.type "tuple") none (Data.seq #[]) #[]) ::
  (nat_lit 106, Obj.mk (Value.type "code") none (Data.fields #[Value.str (Str.ofString "_law_pool") 324, Value.str (Str.ofString "_law_pool") 325, Value.str (Str.ofString "/claim/cut.py") 326, Value.int 63 0, Value.int 1 0, Value.int 0 0, Value.int 0 0, Value.int 3 0, Value.ref 101, Value.bool true, Value.int 181 0, Value.ref 102, Value.none, Value.ref 103, Value.ref 104, Value.ref 105, Value.int 330 0, Value.int 63 0, Value.str (Str.ofString "/claim/cut.py") 331]) #[]) ::
  (nat_lit 107, Obj.mk (Value.type "function") none (Data.func (FuncData.mk (Str.ofString "_law_pool") (Str.ofString "_law_pool") pX107 (FuncBody.stmts bX107) sX107 3 [] Value.none Value.none Value.none (Value.str (Str.ofString "law_pf0184_01") 322) none (Value.ref 106) Value.none 0)) #[]) ::
  (nat_lit 108, Obj.mk (Value.type "tuple") none (Data.seq #[]) #[]) ::
  (nat_lit 110, Obj.mk (Value.type "tuple") none (Data.seq #[Value.str (Str.ofString "source") 336, Value.str (Str.ofString "top") 337, Value.str (Str.ofString "digit") 338]) #[]) ::
  (nat_lit 111, Obj.mk (Value.type "tuple") none (Data.seq #[]) #[]) ::
  (nat_lit 113, Obj.mk (Value.type "code") none (Data.fields #[Value.str (Str.ofString "_law_take") 333, Value.str (Str.ofString "_law_take") 334, Value.str (Str.ofString "/claim/cut.py") 335, Value.int 67 0, Value.int 2 0, Value.int 0 0, Value.int 0 0, Value.int 3 0, Value.ref 108, Value.bool true, Value.int 181 0, Value.ref 109, Value.none, Value.ref 110, Value.ref 111, Value.ref 112, Value.int 339 0, Value.int 67 0, Value.str (Str.ofString "/claim/cut.py") 340]) #[]) ::
  (nat_lit 114, Obj.mk (Value.type "function") none (Data.func (FuncData.mk (Str.ofString "_law_take") (Str.ofString "_law_take") pX114 (FuncBody.stmts bX114) sX114 3 [] Value.none Value.none Value.none (Value.str (Str.ofString "law_pf0184_01") 322) none (Value.ref 113) Value.none 0)) #[]) ::
  (nat_lit 122, Obj.mk (Value.type "tuple") none (Data.seq #[]) #[]) ::
  (nat_lit 125, Obj.mk (Value.type "code") none (Data.fields #[Value.str (Str.ofString "_law_dots") 350, Value.str (Str.ofString "_law_dots") 351, Value.str (Str.ofString "/claim/cut.py") 352, Value.int 76 0, Value.int 1 0, Value.int 0 0, Value.int 0 0, Value.int 3 0, Value.ref 122, Value.bool true, Value.int 181 0, Value.ref 123, Value.none, Value.none, Value.none, Value.ref 124, Value.int 353 0, Value.int 76 0, Value.str (Str.ofString "/claim/cut.py") 354]) #[]) ::
  (nat_lit 126, Obj.mk (Value.type "function") none (Data.func (FuncData.mk (Str.ofString "_law_dots") (Str.ofString "_law_dots") pX126 (FuncBody.stmts bX126) sX126 3 [] Value.none Value.none Value.none (Value.str (Str.ofString "law_pf0184_01") 322) none (Value.ref 125) Value.none 0)) #[]) ::
  (nat_lit 127, Obj.mk (Value.type "tuple") none (Data.seq #[]) #[]) ::
  (nat_lit 129, Obj.mk (Value.type "tuple") none (Data.seq #[Value.str (Str.ofString "source") 359]) #[]) ::
  (nat_lit 130, Obj.mk (Value.type "tuple") none (Data.seq #[]) #[]) ::
  (nat_lit 132, Obj.mk (Value.type "code") none (Data.fields #[Value.str (Str.ofString "_law_tile") 356, Value.str (Str.ofString "_law_tile") 357, Value.str (Str.ofString "/claim/cut.py") 358, Value.int 78 0, Value.int 1 0, Value.int 0 0, Value.int 0 0, Value.int 3 0, Value.ref 127, Value.bool true, Value.int 181 0, Value.ref 128, Value.none, Value.ref 129, Value.ref 130, Value.ref 131, Value.int 360 0, Value.int 78 0, Value.str (Str.ofString "/claim/cut.py") 361]) #[]) ::
  (nat_lit 133, Obj.mk (Value.type "function") none (Data.func (FuncData.mk (Str.ofString "_law_tile") (Str.ofString "_law_tile") pX133 (FuncBody.stmts bX133) sX133 3 [] Value.none Value.none Value.none (Value.str (Str.ofString "law_pf0184_01") 322) none (Value.ref 132) Value.none 0)) #[]) ::
  (nat_lit 134, Obj.mk (Value.type "tuple") none (Data.seq #[]) #[]) ::
  (nat_lit 136, Obj.mk (Value.type "tuple") none (Data.seq #[Value.str (Str.ofString "width") 366, Value.str (Str.ofString "height") 367, Value.str (Str.ofString "side") 368, Value.str (Str.ofString "found") 369, Value.str (Str.ofString "top") 370, Value.str (Str.ofString "left") 371]) #[]) ::
  (nat_lit 137, Obj.mk (Value.type "tuple") none (Data.seq #[]) #[]) ::
  (nat_lit 139, Obj.mk (Value.type "code") none (Data.fields #[Value.str (Str.ofString "_law_rows") 363, Value.str (Str.ofString "_law_rows") 364, Value.str (Str.ofString "/claim/cut.py") 365, Value.int 80 0, Value.int 3 0, Value.int 0 0, Value.int 0 0, Value.int 3 0, Value.ref 134, Value.bool true, Value.int 181 0, Value.ref 135, Value.none, Value.ref 136, Value.ref 137, Value.ref 138, Value.int 372 0, Value.int 80 0, Value.str (Str.ofString "/claim/cut.py") 373]) #[]) ::
  (nat_lit 140, Obj.mk (Value.type "function") none (Data.func (FuncData.mk (Str.ofString "_law_rows") (Str.ofString "_law_rows") pX140 (FuncBody.stmts bX140) sX140 3 [] Value.none Value.none Value.none (Value.str (Str.ofString "law_pf0184_01") 322) none (Value.ref 139) Value.none 0)) #[]) ::
  (nat_lit 141, Obj.mk (Value.type "tuple") none (Data.seq #[]) #[]) ::
  (nat_lit 143, Obj.mk (Value.type "tuple") none (Data.seq #[Value.str (Str.ofString "tile") 378, Value.str (Str.ofString "most") 379, Value.str (Str.ofString "pieces") 380, Value.str (Str.ofString "turn") 381, Value.str (Str.ofString "longer") 382, Value.str (Str.ofString "x") 383, Value.str (Str.ofString "y") 384, Value.str (Str.ofString "width") 385, Value.str (Str.ofString "height") 386]) #[]) ::
  (nat_lit 144, Obj.mk (Value.type "tuple") none (Data.seq #[]) #[]) ::
  (nat_lit 146, Obj.mk (Value.type "code") none (Data.fields #[Value.str (Str.ofString "_law_cut") 375, Value.str (Str.ofString "_law_cut") 376, Value.str (Str.ofString "/claim/cut.py") 377, Value.int 89 0, Value.int 2 0, Value.int 0 0, Value.int 0 0, Value.int 3 0, Value.ref 141, Value.bool true, Value.int 181 0, Value.ref 142, Value.none, Value.ref 143, Value.ref 144, Value.ref 145, Value.int 387 0, Value.int 89 0, Value.str (Str.ofString "/claim/cut.py") 388]) #[]) ::
  (nat_lit 147, Obj.mk (Value.type "function") none (Data.func (FuncData.mk (Str.ofString "_law_cut") (Str.ofString "_law_cut") pX147 (FuncBody.stmts bX147) sX147 3 [] Value.none Value.none Value.none (Value.str (Str.ofString "law_pf0184_01") 322) none (Value.ref 146) Value.none 0)) #[]) ::
  (nat_lit 148, Obj.mk (Value.type "tuple") none (Data.seq #[]) #[]) ::
  (nat_lit 150, Obj.mk (Value.type "tuple") none (Data.seq #[Value.str (Str.ofString "call") 393]) #[]) ::
  (nat_lit 151, Obj.mk (Value.type "tuple") none (Data.seq #[]) #[]) ::
  (nat_lit 153, Obj.mk (Value.type "code") none (Data.fields #[Value.str (Str.ofString "_law_is_refused") 390, Value.str (Str.ofString "_law_is_refused") 391, Value.str (Str.ofString "/claim/cut.py") 392, Value.int 102 0, Value.int 1 0, Value.int 0 0, Value.int 0 0, Value.int 3 0, Value.ref 148, Value.bool true, Value.int 181 0, Value.ref 149, Value.none, Value.ref 150, Value.ref 151, Value.ref 152, Value.int 394 0, Value.int 102 0, Value.str (Str.ofString "/claim/cut.py") 395]) #[]) ::
  (nat_lit 154, Obj.mk (Value.type "function") none (Data.func (FuncData.mk (Str.ofString "_law_is_refused") (Str.ofString "_law_is_refused") pX154 (FuncBody.stmts bX154) sX154 3 [] Value.none Value.none Value.none (Value.str (Str.ofString "law_pf0184_01") 322) none (Value.ref 153) Value.none 0)) #[]) ::
  (nat_lit 155, Obj.mk (Value.type "tuple") none (Data.seq #[]) #[]) ::
  (nat_lit 158, Obj.mk (Value.type "code") none (Data.fields #[Value.str (Str.ofString "_law_rows_right") 397, Value.str (Str.ofString "_law_rows_right") 398, Value.str (Str.ofString "/claim/cut.py") 399, Value.int 108 0, Value.int 2 0, Value.int 0 0, Value.int 0 0, Value.int 3 0, Value.ref 155, Value.bool true, Value.int 181 0, Value.ref 156, Value.none, Value.none, Value.none, Value.ref 157, Value.int 400 0, Value.int 108 0, Value.str (Str.ofString "/claim/cut.py") 401]) #[]) ::
  (nat_lit 159, Obj.mk (Value.type "function") none (Data.func (FuncData.mk (Str.ofString "_law_rows_right") (Str.ofString "_law_rows_right") pX159 (FuncBody.stmts bX159) sX159 3 [] Value.none Value.none Value.none (Value.str (Str.ofString "law_pf0184_01") 322) none (Value.ref 158) Value.none 0)) #[]) ::
  (nat_lit 160, Obj.mk (Value.type "tuple") none (Data.seq #[]) #[]) ::
  (nat_lit 162, Obj.mk (Value.type "tuple") none (Data.seq #[Value.str (Str.ofString "box") 406, Value.str (Str.ofString "grain") 407, Value.str (Str.ofString "due") 408, Value.str (Str.ofString "y") 409, Value.str (Str.ofString "x") 410, Value.str (Str.ofString "across") 411, Value.str (Str.ofString "down") 412, Value.str (Str.ofString "told") 413]) #[]) ::
  (nat_lit 163, Obj.mk (Value.type "tuple") none (Data.seq #[]) #[]) ::
  (nat_lit 165, Obj.mk (Value.type "code") none (Data.fields #[Value.str (Str.ofString "_law_box_right") 403, Value.str (Str.ofString "_law_box_right") 404, Value.str (Str.ofString "/claim/cut.py") 405, Value.int 123 0, Value.int 2 0, Value.int 0 0, Value.int 0 0, Value.int 3 0, Value.ref 160, Value.bool true, Value.int 181 0, Value.ref 161, Value.none, Value.ref 162, Value.ref 163, Value.ref 164, Value.int 414 0, Value.int 123 0, Value.str (Str.ofString "/claim/cut.py") 415]) #[]) ::
  (nat_lit 166, Obj.mk (Value.type "function") none (Data.func (FuncData.mk (Str.ofString "_law_box_right") (Str.ofString "_law_box_right") pX166 (FuncBody.stmts bX166) sX166 3 [] Value.none Value.none Value.none (Value.str (Str.ofString "law_pf0184_01") 322) none (Value.ref 165) Value.none 0)) #[]) ::
  (nat_lit 167, Obj.mk (Value.type "tuple") none (Data.seq #[]) #[]) ::
  (nat_lit 170, Obj.mk (Value.type "code") none (Data.fields #[Value.str (Str.ofString "law") 417, Value.str (Str.ofString "law") 418, Value.str (Str.ofString "/claim/cut.py") 419, Value.int 133 0, Value.int 1 0, Value.int 0 0, Value.int 0 0, Value.int 3 0, Value.ref 167, Value.bool true, Value.int 181 0, Value.ref 168, Value.none, Value.none, Value.none, Value.ref 169, Value.int 420 0, Value.int 133 0, Value.str (Str.ofString "/claim/cut.py") 421]) #[]) ::
  (nat_lit 171, Obj.mk (Value.type "function") none (Data.func (FuncData.mk (Str.ofString "law") (Str.ofString "law") pX171 (FuncBody.stmts bX171) sX171 3 [] Value.none Value.none Value.none (Value.str (Str.ofString "law_pf0184_01") 322) none (Value.ref 170) Value.none 0)) #[]) :: []
noncomputable def hd.view_39 : Program := by
  refine (?f : (c1 : Stmt) → (stm 1 = c1) → (c2 : Stmt) → (stm 2 = c2) → (c4 : Stmt) → (stm 4 = c4) → (c5 : Stmt) → (stm 5 = c5) → (c6 : Stmt) → (stm 6 = c6) → (c7 : Stmt) → (stm 7 = c7) → (c8 : Stmt) → (stm 8 = c8) → (c9 : Stmt) → (stm 9 = c9) → (c10 : Stmt) → (stm 10 = c10) → (c11 : Stmt) → (stm 11 = c11) → (c13 : Stmt) → (stm 13 = c13) → (c14 : Stmt) → (stm 14 = c14) → (c15 : Stmt) → (stm 15 = c15) → (c16 : Stmt) → (stm 16 = c16) → (c17 : Stmt) → (stm 17 = c17) → (c18 : Stmt) → (stm 18 = c18) → (c19 : Stmt) → (stm 19 = c19) → (c20 : Stmt) → (stm 20 = c20) → (c21 : Stmt) → (stm 21 = c21) → (c22 : Stmt) → (stm 22 = c22) → (c23 : Stmt) → (stm 23 = c23) → Program) _ (by (conv => lhs; whnf) <;> rfl) _ (by (conv => lhs; whnf) <;> rfl) _ (by (conv => lhs; whnf) <;> rfl) _ (by (conv => lhs; whnf) <;> rfl) _ (by (conv => lhs; whnf) <;> rfl) _ (by (conv => lhs; whnf) <;> rfl) _ (by (conv => lhs; whnf) <;> rfl) _ (by (conv => lhs; whnf) <;> rfl) _ (by (conv => lhs; whnf) <;> rfl) _ (by (conv => lhs; whnf) <;> rfl) _ (by (conv => lhs; whnf) <;> rfl) _ (by (conv => lhs; whnf) <;> rfl) _ (by (conv => lhs; whnf) <;> rfl) _ (by (conv => lhs; whnf) <;> rfl) _ (by (conv => lhs; whnf) <;> rfl) _ (by (conv => lhs; whnf) <;> rfl) _ (by (conv => lhs; whnf) <;> rfl) _ (by (conv => lhs; whnf) <;> rfl) _ (by (conv => lhs; whnf) <;> rfl) _ (by (conv => lhs; whnf) <;> rfl) _ (by (conv => lhs; whnf) <;> rfl)
  case f => exact fun c1 _ c2 _ c4 _ c5 _ c6 _ c7 _ c8 _ c9 _ c10 _ c11 _ c13 _ c14 _ c15 _ c16 _ c17 _ c18 _ c19 _ c20 _ c21 _ c22 _ c23 _ => { PySem.Challenge.rw_pf0184_01.row.prog with main := { (PySem.Challenge.rw_pf0184_01.row.prog).main with body := [c1, c2, c4, c5, c6, c7, c8, c9, c10, c11, c13, c14, c15, c16, c17, c18, c19, c20, c21, c22, c23] } }
def asK : List Addr := 2 :: 3 :: 15 :: 22 :: 24 :: 25 :: 27 :: 28 :: 29 :: 30 :: 31 :: 32 :: 35 :: 42 :: 43 :: 44 :: 47 :: 49 :: 50 :: 52 :: 53 :: 54 :: 56 :: 57 :: 59 :: 60 :: 61 :: 63 :: 64 :: 66 :: 67 :: 68 :: 70 :: 71 :: 73 :: 74 :: 75 :: 78 :: 79 :: 80 :: 82 :: 83 :: 85 :: 86 :: 87 :: 89 :: 90 :: 92 :: 93 :: 94 :: 96 :: 97 :: 99 :: 100 :: 101 :: 103 :: 104 :: 106 :: 107 :: 108 :: 110 :: 111 :: 113 :: 114 :: 122 :: 125 :: 126 :: 127 :: 129 :: 130 :: 132 :: 133 :: 134 :: 136 :: 137 :: 139 :: 140 :: 141 :: 143 :: 144 :: 146 :: 147 :: 148 :: 150 :: 151 :: 153 :: 154 :: 155 :: 158 :: 159 :: 160 :: 162 :: 163 :: 165 :: 166 :: 167 :: 170 :: 171 :: []
theorem asK_eq : ∀ P, asK = (hd.heap_39 P).map (·.1) := fun _ => by kernel_rfl
theorem fillK : (fun (_ : OpenLaw) (_ : Params → Frag) => True) PySem.Challenge.rw_pf0184_01 hd.heap_39 := by
  k_fill
  exact trivial
theorem ws : OpenLaw.wellSaid PySem.Challenge.rw_pf0184_01 = true := by decide +kernel
theorem hl : LeftO PySem.Challenge.rw_pf0184_01.row.prog hd.view_39 [] (fun s => xlAt hd.view_39 [] s && recOk (RowW.records PySem.Challenge.rw_pf0184_01.row.toRowW) s) (Hook.obs (kmHook hd.heap_39 asK asK_eq [168])) (Hook.val (kmHook hd.heap_39 asK asK_eq [168])) 2252 := by
  intro w; kernel_rfl
-- B1
abbrev Led := List (Addr × Obj)
abbrev tupO (vs : List Value) (n : Nat) : Obj := { cls := .type "tuple", data := .seq vs.toArray n }
abbrev PRG : Program := PySem.Challenge.rw_pf0184_01.row.prog

abbrev pmax (a b : Int) : Int := if b > a then b else a
abbrev pmin (a b : Int) : Int := if b < a then b else a

theorem room0 {u k c : Nat} (h : u + k < c) : u < c := Nat.lt_of_le_of_lt (Nat.le_add_right u k) h
theorem roomA {u a k c : Nat} (h : u + k < c) (e : Nat.ble a k = true) : u + a < c := Nat.lt_of_le_of_lt (Nat.add_le_add_left (Nat.le_of_ble_eq_true e) u) h
theorem roomB {u a b k c : Nat} (h : u + k < c) (e : Nat.ble (a + b) k = true) : u + a + b < c := Nat.add_assoc u a b ▸ roomA h e
theorem roomC {u a b d k c : Nat} (h : u + k < c) (e : Nat.ble (a + b + d) k = true) : u + a + b + d < c := by
  rw [Nat.add_assoc u a b, Nat.add_assoc u (a + b) d]; exact roomA h e
theorem rng {x lo hi lo' hi' : Int} (h : lo ≤ x ∧ x < hi) (e : decide (lo' ≤ lo ∧ hi ≤ hi' + 1) = true) : lo' ≤ x ∧ x ≤ hi' :=
  ⟨Int.le_trans (of_decide_eq_true e).1 h.1, Int.le_of_lt_add_one (Int.lt_of_lt_of_le h.2 (of_decide_eq_true e).2)⟩
theorem foldG {G : Prop} (h : let q := G; q) : G := h
theorem foldL {α : Type} {M : Model} {A : Around} {t : Sem α} {Q : α → Shared → Prop} {E : Value → Shared → Prop} {s : Shared} (h : let q := Q; wpAny M A t q E s) : wpAny M A t Q E s := h
section
local macro_rules | `(tactic| k_steps) => `(tactic| repeat' (first | (k_unfold; (try (rename (Flow → Shared → Prop) => q8; clear q8)); (try (rename (Value → Shared → Prop) => q8; clear q8)); (try dsimp only)) | (k_end; kc_close) | walk1 | (dsimp only; walk1) | (leave1; walk_say "STEP leave1"; (try dsimp only)) | fail "no step"))
local macro_rules | `(tactic| walk_at "exec Assign") => `(tactic| ((fail_if_success (fail_if_success k_fold)); refine foldL ?_; intro qk; walk1))
local macro_rules | `(tactic| walk_at "exec Expr") => `(tactic| ((fail_if_success (fail_if_success k_fold)); refine foldL ?_; intro qk; walk1))
local macro_rules | `(tactic| walk_at "exec If") => `(tactic| ((fail_if_success (fail_if_success k_fold)); refine foldL ?_; intro qk; walk1))
local macro_rules | `(tactic| walk_at "exec Return") => `(tactic| ((fail_if_success (fail_if_success k_fold)); refine foldL ?_; intro qk; walk1))
local macro_rules | `(tactic| walk_at "eval BinOp") => `(tactic| ((fail_if_success (fail_if_success k_fold)); refine foldL ?_; intro qk; walk1))
local macro_rules | `(tactic| walk_at "eval Call") => `(tactic| ((fail_if_success (fail_if_success k_fold)); refine foldL ?_; intro qk; walk1))
local macro_rules | `(tactic| walk_at "eval Subscript") => `(tactic| ((fail_if_success (fail_if_success k_fold)); refine foldL ?_; intro qk; walk1))
local macro_rules | `(tactic| walk_at "eval Tuple") => `(tactic| ((fail_if_success (fail_if_success k_fold)); refine foldL ?_; intro qk; walk1))
local macro_rules | `(tactic| walk_at "eval List") => `(tactic| ((fail_if_success (fail_if_success k_fold)); refine foldL ?_; intro qk; walk1))
local macro_rules | `(tactic| walk_at "eval Compare") => `(tactic| ((fail_if_success (fail_if_success k_fold)); refine foldL ?_; intro qk; walk1))
local macro_rules | `(tactic| walk_at "isTrue Compare") => `(tactic| ((fail_if_success (fail_if_success k_fold)); refine foldL ?_; intro qk; walk1))
local macro_rules | `(tactic| walk_at "isTrue BoolOp") => `(tactic| ((fail_if_success (fail_if_success k_fold)); refine foldL ?_; intro qk; walk1))
local macro_rules | `(tactic| walk_at "callWith") => `(tactic| ((fail_if_success (fail_if_success k_fold)); refine foldL ?_; intro qk; walk1))
local macro_rules | `(tactic| ktr_room) => `(tactic| first | exact roomB (by assumption) rfl | exact roomC (by assumption) rfl | exact roomA (by assumption) rfl | exact room0 (by assumption) | ((try simp only [depth_under_make, depth_under_kw, depth_in1, depth_deeper, depth_caller]); decide) | ((try simp only [depth_under_make, depth_under_kw, depth_in1, depth_deeper, depth_caller]); (try dsimp only [ktrTop]); first | exact roomB (by assumption) rfl | exact roomC (by assumption) rfl | exact roomA (by assumption) rfl | exact room0 (by assumption) | omega))
local macro_rules | `(tactic| ktr_units) => `(tactic| first | exact roomB (by assumption) rfl | exact roomC (by assumption) rfl | exact roomA (by assumption) rfl | exact room0 (by assumption) | ((try simp only [units_in1, units_deeper, Around.mark_units, units_caller]); (try dsimp only [ktrTop]); first | exact roomB (by assumption) rfl | exact roomC (by assumption) rfl | exact roomA (by assumption) rfl | exact room0 (by assumption) | (have hcL9 := cLine_is; omega)))
local macro_rules | `(tactic| k_mem) => `(tactic| first | exact List.Mem.head _ | with_reducible assumption | (refine List.mem_cons_of_mem _ ?_; k_mem) | (refine List.mem_append_left _ ?_; k_mem) | (refine List.mem_append_right _ ?_; k_mem))
section
local macro_rules | `(tactic| k_all) => `(tactic| first | with_reducible assumption | exact List.forall_mem_append.mpr ⟨by k_all, by k_all⟩)

theorem newsTail {h₀ h : Heap} {L : Addr} {x : Addr × Obj} {news : Led} (N : News h₀ L h (x :: news)) : News h₀ L h news := fun q hq => N q (.tail _ hq)
theorem newsSub {h₀ h : Heap} {L : Addr} {news news' : Led} (N : News h₀ L h news) (hs : ∀ q ∈ news', q ∈ news) : News h₀ L h news' := fun q hq => N q (hs q hq)

section
variable {w : World} {p : Program} {loose : List Str} {mean : ExcName → Option Value} {mg mb : Str → Option Value}
  {dp un : Nat} {gd : Option (List Code)} {cn : Str} {cs : Scope} {a : Addr} {ccd : Value} {cl : List (Str × Addr)} {outer : List Env} {A₀ : Around} {base h₀ : Heap} {L : Addr} {m : Str → Option Value} {news : Led} {s : Shared} {Q E : Value → Shared → Prop}

theorem common_K {t1 t2 : Addr} {x1 y1 w1 h1 x2 y2 w2 h2 : Int} {a1 a2 a3 a4 b1 b2 b3 b4 : Tok} {n1 n2 : Nat}
  (B : Below A₀ base outer h₀) (F : Fr h₀ L s.heap m) (X : (hd.heap_39 w.params).In h₀) (N : News h₀ L s.heap news) (T : Top p loose mean mg mb h₀) (hk : cs.kind = .function)
  (ht1 : (t1, tupO [.int x1 a1, .int y1 a2, .int w1 a3, .int h1 a4] n1) ∈ news) (ht2 : (t2, tupO [.int x2 b1, .int y2 b2, .int w2 b3, .int h2 b4] n2) ∈ news)
  (hd : dp + 1 < recursionLimit) (hu : un + 20 < cLine)
  (hn : ∀ h' tk', (pmin (x1 + w1) (x2 + w2) ≤ pmax x1 x2 ∨ pmin (y1 + h1) (y2 + h2) ≤ pmax y1 y2) → Fr h₀ L h' m → News h₀ L h' news → Q .none {s with heap := h', toks := tk'})
  (hs : ∀ r c1 c2 c3 c4 h' tk', ¬ pmin (x1 + w1) (x2 + w2) ≤ pmax x1 x2 → ¬ pmin (y1 + h1) (y2 + h2) ≤ pmax y1 y2 → Fr h₀ L h' m →
     News h₀ L h' ((r, tupO [.int (pmax x1 x2) c1, .int (pmax y1 y2) c2, .int (pmin (x1 + w1) (x2 + w2) - pmax x1 x2) c3, .int (pmin (y1 + h1) (y2 + h2) - pmax y1 y2) c4] 0) :: news) → Q (.ref r) {s with heap := h', toks := tk'}) :
  wpAny (model PRG w) (ktrTop dp un gd cn cs L a ccd cl outer) (call (.ref 67) [.ref t1, .ref t2]) Q E s := by
  refine wpAny_call ?_
  k_dflt ktr_enter
  k_steps
  all_goals (rename Fr _ _ _ _ => kF; rename News _ _ _ _ => kN)
  · exact hn _ _ (.inl ‹_›) kF (newsTail kN)
  · exact hn _ _ (.inr ‹_›) kF (newsTail kN)
  · exact hs _ _ _ _ _ _ _ ‹_› ‹_› kF (newsSub kN fun q hq => by rcases List.mem_cons.mp hq with rfl | hq; exact .head _; exact .tail _ (.tail _ hq))
end
end
theorem rst1 : True ∧ True := by
  w_top off
  first
  | (walk1; done)
  | exact ⟨trivial, trivial⟩
-- B2
section
local macro_rules | `(tactic| k_all) => `(tactic| first | with_reducible assumption | exact List.forall_mem_append.mpr ⟨by k_all, by k_all⟩)

theorem fmod_bd (e k : Int) (hk : 0 < k) : 0 ≤ e.fmod k ∧ e.fmod k < k := by
  rw [Int.fmod_eq_emod_of_nonneg _ (by omega)]
  exact ⟨Int.emod_nonneg _ (by omega), Int.emod_lt_of_pos _ hk⟩
theorem fdiv_nn (e k : Int) (hk : 0 < k) (he : 0 ≤ e) : 0 ≤ e.fdiv k := by
  rw [Int.fdiv_eq_ediv_of_nonneg _ (by omega)]
  exact Int.ediv_nonneg he (by omega)
theorem take_mul (x e : Int) (i : Nat) (hi : i = 1) : IntMulOk ([x, e.fmod 2147483647].getD i 0) ([x, e.fmod 2147483647].getD i 0) := by
  subst hi
  have := fmod_bd e 2147483647 (by omega)
  exact IntMulOk.of_left (intBits_le_64 (by show -(2 ^ 64) < e.fmod 2147483647; omega) (by show e.fmod 2147483647 < 2 ^ 64; omega))

theorem updF_out {src : Addr} {o : Obj} {news : Led} {g : Obj → Led} (U : UpdF src o news g) : ∃ rest : Led, (∀ q ∈ rest, q.1 ≠ src) ∧ (∀ q ∈ (src, o) :: rest, q ∈ news) ∧ ∀ o', ∀ q ∈ g o', q ∈ (src, o') :: rest := by
  first | (refine foldG ?_; intro qG; obtain ⟨pre, post, rfl, hg, h1, h2⟩ := U.split; k_unfold; clear qG) | obtain ⟨pre, post, rfl, hg, h1, h2⟩ := U.split
  refine ⟨pre ++ post, fun q hq => (List.mem_append.mp hq).elim (h1 q) (h2 q), fun q hq => ?_, fun o' q hq => ?_⟩
  · rcases List.mem_cons.mp hq with rfl | hq
    · exact List.mem_append_right _ (.head _)
    · exact (List.mem_append.mp hq).elim (List.mem_append_left _) fun e => List.mem_append_right _ (.tail _ e)
  · rw [hg] at hq
    rcases List.mem_append.mp hq with e | e
    · exact .tail _ (List.mem_append_left _ e)
    · rcases List.mem_cons.mp e with rfl | e
      · exact .head _
      · exact .tail _ (List.mem_append_right _ e)

section
variable {w : World} {p : Program} {loose : List Str} {mean : ExcName → Option Value} {mg mb : Str → Option Value}
  {dp un : Nat} {gd : Option (List Code)} {cn : Str} {cs : Scope} {a : Addr} {ccd : Value} {cl : List (Str × Addr)} {outer : List Env} {A₀ : Around} {base h₀ : Heap} {L : Addr} {m : Str → Option Value} {news : Led} {s : Shared} {Q E : Value → Shared → Prop}

theorem take_K {src : Addr} {x y top : Int} {tx ty tt : Tok} {n : Nat} {rest : Led}
  (B : Below A₀ base outer h₀) (F : Fr h₀ L s.heap m) (X : (hd.heap_39 w.params).In h₀) (N : News h₀ L s.heap ((src, listOf #[.int x tx, .int y ty] n) :: rest)) (T : Top p loose mean mg mb h₀) (hk : cs.kind = .function)
  (hne : ∀ q ∈ rest, q.1 ≠ src) (hx : 0 ≤ x) (hy : 0 ≤ y) (hy2 : y < 2147483647) (ht : 1 ≤ top) (ht2 : top ≤ 100)
  (hd : dp + 1 < recursionLimit) (hu : un + 20 < cLine)
  (h : ∀ (d : Int) t h' tk' x' y' tx' ty', 0 ≤ d → d < top → 0 ≤ x' → 0 ≤ y' → y' < 2147483647 → Fr h₀ L h' m → News h₀ L h' ((src, listOf #[.int x' tx', .int y' ty'] n) :: rest) → Q (.int d t) {s with heap := h', toks := tk'}) :
  wpAny (model PRG w) (ktrTop dp un gd cn cs L a ccd cl outer) (call (.ref 114) [.ref src, .int top tt]) Q E s := by
  refine wpAny_call ?_
  k_dflt ktr_enter
  k_steps
  · rename Fr _ _ _ _ => kF; rename News _ _ _ _ => kN
    have b1 := fmod_bd x top (by omega)
    exact h _ _ _ _ _ _ _ _ b1.1 b1.2 (fdiv_nn _ _ (by omega) hx) hy hy2 kF kN
  · refine mul_int ?_ (take_mul _ _ _ rfl)
    k_steps
    rename Fr _ _ _ _ => kF; rename News _ _ _ _ => kN
    exact h _ _ _ _ _ _ _ _ (fmod_bd _ top (by omega)).1 (fmod_bd _ top (by omega)).2 hx (fmod_bd (y * 39373 + 7) 2147483647 (by omega)).1 (fmod_bd (y * 39373 + 7) 2147483647 (by omega)).2 kF kN

theorem take_U {src : Addr} {x y top : Int} {tx ty tt : Tok} {n : Nat} {g : Obj → Led}
  (B : Below A₀ base outer h₀) (F : Fr h₀ L s.heap m) (X : (hd.heap_39 w.params).In h₀) (N : News h₀ L s.heap news) (T : Top p loose mean mg mb h₀) (hk : cs.kind = .function)
  (U : UpdF src (listOf #[.int x tx, .int y ty] n) news g) (hx : 0 ≤ x) (hy : 0 ≤ y) (hy2 : y < 2147483647) (ht : 1 ≤ top) (ht2 : top ≤ 100)
  (hd : dp + 1 < recursionLimit) (hu : un + 20 < cLine)
  (h : ∀ (d : Int) t h' tk' x' y' tx' ty', 0 ≤ d → d < top → 0 ≤ x' → 0 ≤ y' → y' < 2147483647 → Fr h₀ L h' m → News h₀ L h' (g (listOf #[.int x' tx', .int y' ty'] n)) → Q (.int d t) {s with heap := h', toks := tk'}) :
  wpAny (model PRG w) (ktrTop dp un gd cn cs L a ccd cl outer) (call (.ref 114) [.ref src, .int top tt]) Q E s := by
  first | (refine foldG ?_; intro qG; obtain ⟨rest, hne, s1, s2⟩ := updF_out U; k_unfold; clear qG) | obtain ⟨rest, hne, s1, s2⟩ := updF_out U
  exact take_K B F X (newsSub N s1) T hk hne hx hy hy2 ht ht2 hd hu fun d t h' tk' x' y' tx' ty' a1 a2 a3 a4 a5 F' N' => h d t h' tk' x' y' tx' ty' a1 a2 a3 a4 a5 F' (newsSub N' (s2 _))
local macro_rules | `(tactic| walk_at "call ref") => `(tactic| (k_here; (with_reducible show wpAny _ _ (call (Value.ref 114) [_, _]) _ _ _); k_dflt (refine' take_U ?k1 ?k2 ?k3 ?k4 ?k5 ?kK ?kU ?kx ?ky ?kz ?kt ?ku ?kd ?kv ?_; (case k1 => k_asm); (case k2 => k_asm); (case k3 => k_asm); (case k4 => k_asm); (case k5 => k_asm); (case kK => first | exact rfl | assumption); (case kU => k_updF); (case kx => assumption); (case ky => assumption); (case kz => assumption); (case kt => omega); (case ku => omega); (case kd => ktr_room); (case kv => ktr_units)); intro d9 t9 h9 tk9 x9 y9 tx9 ty9 ha9 hb9 hc9 hd9 he9 F9 N9; (try dsimp only at N9); (try dsimp only); (try k_fold)))

theorem tile_K {src : Addr} {x y : Int} {tx ty : Tok} {n : Nat} {rest : Led}
  (B : Below A₀ base outer h₀) (F : Fr h₀ L s.heap m) (X : (hd.heap_39 w.params).In h₀) (N : News h₀ L s.heap ((src, listOf #[.int x tx, .int y ty] n) :: rest)) (T : Top p loose mean mg mb h₀) (hk : cs.kind = .function)
  (hne : ∀ q ∈ rest, q.1 ≠ src) (hx : 0 ≤ x) (hy : 0 ≤ y) (hy2 : y < 2147483647)
  (hd : dp + 2 < recursionLimit) (hu : un + 40 < cLine)
  (h : ∀ (r : Addr) (a b c d : Int) t1 t2 t3 t4 h' tk' x' y' tx' ty', -3 ≤ a → a < 4 → -3 ≤ b → b < 4 → 0 ≤ c → c < 4 → 0 ≤ d → d < 4 → 0 ≤ x' → 0 ≤ y' → y' < 2147483647 → Fr h₀ L h' m →
    News h₀ L h' ((r, tupO [.int a t1, .int b t2, .int c t3, .int d t4] 0) :: (src, listOf #[.int x' tx', .int y' ty'] n) :: rest) → Q (.ref r) {s with heap := h', toks := tk'}) :
  wpAny (model PRG w) (ktrTop dp un gd cn cs L a ccd cl outer) (call (.ref 133) [.ref src]) Q E s := by
  refine wpAny_call ?_
  k_dflt ktr_enter
  k_steps
  rename Fr _ _ _ _ => kF; rename News _ _ _ _ => kN
  exact h _ _ _ _ _ _ _ _ _ _ _ _ _ _ _ (by omega) (by omega) (by omega) (by omega) (by omega) (by omega) (by omega) (by omega) (by omega) (by omega) (by omega) kF kN

theorem tile_U {src : Addr} {x y : Int} {tx ty : Tok} {n : Nat} {g : Obj → Led}
  (B : Below A₀ base outer h₀) (F : Fr h₀ L s.heap m) (X : (hd.heap_39 w.params).In h₀) (N : News h₀ L s.heap news) (T : Top p loose mean mg mb h₀) (hk : cs.kind = .function)
  (U : UpdF src (listOf #[.int x tx, .int y ty] n) news g) (hx : 0 ≤ x) (hy : 0 ≤ y) (hy2 : y < 2147483647)
  (hd : dp + 2 < recursionLimit) (hu : un + 40 < cLine)
  (h : ∀ (r : Addr) (a b c d : Int) t1 t2 t3 t4 h' tk' x' y' tx' ty', -3 ≤ a → a < 4 → -3 ≤ b → b < 4 → 0 ≤ c → c < 4 → 0 ≤ d → d < 4 → 0 ≤ x' → 0 ≤ y' → y' < 2147483647 → Fr h₀ L h' m →
    News h₀ L h' ((r, tupO [.int a t1, .int b t2, .int c t3, .int d t4] 0) :: g (listOf #[.int x' tx', .int y' ty'] n)) → Q (.ref r) {s with heap := h', toks := tk'}) :
  wpAny (model PRG w) (ktrTop dp un gd cn cs L a ccd cl outer) (call (.ref 133) [.ref src]) Q E s := by
  first | (refine foldG ?_; intro qG; obtain ⟨rest, hne, s1, s2⟩ := updF_out U; k_unfold; clear qG) | obtain ⟨rest, hne, s1, s2⟩ := updF_out U
  exact tile_K B F X (newsSub N s1) T hk hne hx hy hy2 hd hu fun r a b c d t1 t2 t3 t4 h' tk' x' y' tx' ty' a1 a2 a3 a4 a5 a6 a7 a8 a9 a10 a11 F' N' =>
    h r a b c d t1 t2 t3 t4 h' tk' x' y' tx' ty' a1 a2 a3 a4 a5 a6 a7 a8 a9 a10 a11 F' (newsSub N' fun q hq => by
      rcases List.mem_cons.mp hq with rfl | hq
      · exact .head _
      · exact .tail _ (s2 _ q hq))

end
end
theorem rst2 : True ∧ True := by
  w_top off
  first
  | (walk1; done)
  | exact ⟨trivial, trivial⟩
-- B3
section
local macro_rules | `(tactic| k_all) => `(tactic| first | with_reducible assumption | exact List.forall_mem_append.mpr ⟨by k_all, by k_all⟩)

theorem pool_nn (v : Int) (b : Bool) : 0 ≤ (if -1 - v > v then -1 - v else v) * (if b = true then 1 else 0) := by
  split <;> split <;> omega

section
variable {w : World} {p : Program} {loose : List Str} {mean : ExcName → Option Value} {mg mb : Str → Option Value}
  {dp un : Nat} {gd : Option (List Code)} {cn : Str} {cs : Scope} {a : Addr} {ccd : Value} {cl : List (Str × Addr)} {outer : List Env} {A₀ : Around} {base h₀ : Heap} {L : Addr} {m : Str → Option Value} {news : Led} {s : Shared} {Q E : Value → Shared → Prop}

theorem pool_K {l : Addr} {vs : List Value} {ns : List Int}
  (B : Below A₀ base outer h₀) (F : Fr h₀ L s.heap m) (X : (hd.heap_39 w.params).In h₀) (N : News h₀ L s.heap news) (T : Top p loose mean mg mb h₀) (hk : cs.kind = .function)
  (hl : h₀.IsList l vs.toArray) (hi : IntsAre vs ns) (hlen : ns.length ≤ 63)
  (hd : dp + 1 < recursionLimit) (hu : un + 20 < cLine)
  (h : ∀ (src : Addr) (x y : Int) tx ty n h' tk', 0 ≤ x → 0 ≤ y → y < 2147483647 → (∀ q ∈ news, q.1 ≠ src) → Fr h₀ L h' m → News h₀ L h' ((src, listOf #[.int x tx, .int y ty] n) :: news) → Q (.ref src) {s with heap := h', toks := tk'}) :
  wpAny (model PRG w) (ktrTop dp un gd cn cs L a ccd cl outer) (call (.ref 107) [.ref l]) Q E s := by
  refine wpAny_call ?_
  k_dflt ktr_enter
  rename Fr h₀ _ _ _ => FG
  have hl' := stays_list FG.keep hl
  k_steps
  all_goals (rename Fr _ _ _ _ => kF; rename News _ _ _ _ => kN; rename ∀ p ∈ news, p.1 < _ => hlt)
  all_goals exact h _ _ _ _ _ _ _ _ (pool_nn _ _) (fmod_bd _ _ (by omega)).1 (fmod_bd _ _ (by omega)).2 (fun q hq => Nat.ne_of_lt (hlt q hq)) kF kN

theorem box_K {b : Addr} {l t r u grain : Int} {tl tt tr tu tg : Tok} {n : Nat}
  (B : Below A₀ base outer h₀) (F : Fr h₀ L s.heap m) (X : (hd.heap_39 w.params).In h₀) (N : News h₀ L s.heap news) (T : Top p loose mean mg mb h₀) (hk : cs.kind = .function)
  (hb : (b, tupO [.int l tl, .int t tt, .int r tr, .int u tu] n) ∈ news) (hg : 1 ≤ grain) (hg2 : grain ≤ 100) (l1 : -1000 ≤ l) (l2 : l ≤ 1000) (t1 : -1000 ≤ t) (t2 : t ≤ 1000) (r1 : -1000 ≤ r) (r2 : r ≤ 1000) (u1 : -1000 ≤ u) (u2 : u ≤ 1000)
  (hd : dp + 1 < recursionLimit) (hu : un + 20 < cLine)
  (hn : ∀ h' tk', (r ≤ l ∨ u ≤ t) → Fr h₀ L h' m → News h₀ L h' news → Q .none {s with heap := h', toks := tk'})
  (hs : ∀ q c1 c2 c3 c4 h' tk', ¬ r ≤ l → ¬ u ≤ t → Fr h₀ L h' m →
     News h₀ L h' ((q, tupO [.int (l.fdiv grain) c1, .int (t.fdiv grain) c2, .int (-((-r).fdiv grain) - l.fdiv grain) c3, .int (-((-u).fdiv grain) - t.fdiv grain) c4] 0) :: news) → Q (.ref q) {s with heap := h', toks := tk'}) :
  wpAny (model PRG w) (ktrTop dp un gd cn cs L a ccd cl outer) (call (.ref 100) [.ref b, .int grain tg]) Q E s := by
  refine wpAny_call ?_
  k_dflt ktr_enter
  k_steps
  all_goals (rename Fr _ _ _ _ => kF; rename News _ _ _ _ => kN)
  · exact hn _ _ (.inl ‹_›) kF kN
  · exact hn _ _ (.inr ‹_›) kF kN
  · exact hs _ _ _ _ _ _ _ ‹_› ‹_› kF (newsSub kN fun q hq => by rcases List.mem_cons.mp hq with rfl | hq <;> repeat (first | exact List.Mem.head _ | assumption | apply List.Mem.tail))
end
end
theorem rst3 : True ∧ True := by
  w_top off
  first
  | (walk1; done)
  | exact ⟨trivial, trivial⟩
-- B4
def Halt (P : Prop) : Prop := P
theorem halt {P : Prop} (h : Halt P) : P := h
theorem Halt.out {P : Prop} (h : P) : Halt P := h

abbrev fstA (d : Led) : Addr := match d with | (a, _) :: _ => a | [] => 0

def NoSeq (o : Obj) : Prop := o.cls ≠ .type "tuple" ∧ o.cls ≠ .type "list"

def TurnPost (h₀ : Heap) (L I : Addr) (oI : Obj) (cst : Led) (J : (Str → Option Value) → Led → Prop) (s : Shared) (Q : Flow → Shared → Prop) (f : Flow) (s₂ : Shared) : Prop :=
  match f with
  | .ret v => Q (.ret v) s₂
  | .brk => Q .next s₂
  | _ => ∃ h' tk m₂ dyn, s₂ = { s with heap := h', toks := tk } ∧ Fr h₀ L h' m₂ ∧ News h₀ L h' ((I, oI) :: (dyn ++ cst)) ∧ (∀ p ∈ dyn, p.1 ≠ I) ∧ J m₂ dyn

theorem TurnPost.intro {h₀ : Heap} {L I : Addr} {oI : Obj} {cst dyn : Led} {J : (Str → Option Value) → Led → Prop} {s : Shared} {Q : Flow → Shared → Prop} {h' : Heap} {tk : Nat} {m₂ : Str → Option Value}
    (F : Fr h₀ L h' m₂) (N : News h₀ L h' ((I, oI) :: (dyn ++ cst))) (hI : ∀ p ∈ dyn, p.1 ≠ I) (hJ : J m₂ dyn) : TurnPost h₀ L I oI cst J s Q .next { s with heap := h', toks := tk } := ⟨h', tk, m₂, dyn, rfl, F, N, hI, hJ⟩

section
variable {prog : Program} {w : World} {A : Around} {E : Value → Shared → Prop} {s s₂ : Shared} {env : Env} {h₀ : Heap} {x : Str} {body : List Stmt} {Q : Flow → Shared → Prop} {m₀ : Str → Option Value} {dyn₀ cst : Led}
theorem loopV_of {I : Addr} {fp : List Addr} {n : Nat} {P : Nat → Value → Prop} {St : Nat → Heap → Prop} (J : Nat → (Str → Option Value) → Led → Prop)
    (W : Walks prog w A I fp [I] n P St) (hfp : ∀ b ∈ fp, b = I ∨ (∃ o, h₀.get? b = some o) ∨ ∃ o, (b, o) ∈ cst) (hLf : env.locals ∉ fp) (hI0 : h₀.get? I = none) (hd0 : ∀ p ∈ dyn₀ ++ cst, p.1 ≠ I)
    (hst : St 0 s₂.heap) (hlive : ∀ i h, St i h → ∃ o, h.get? I = some o ∧ NoSeq o) (F : Fr h₀ env.locals s₂.heap m₀) (N : News h₀ env.locals s₂.heap (dyn₀ ++ cst)) (h0 : J 0 m₀ dyn₀)
    (turn : ∀ i v m₁ dyn oI h tk, i < n → P i v → J i m₁ dyn → NoSeq oI → (∀ p ∈ dyn, p.1 ≠ I) → (∀ p ∈ cst, p.1 ≠ I) → Fr h₀ env.locals h (fun y => if y = x then some v else m₁ y) → News h₀ env.locals h ((I, oI) :: (dyn ++ cst)) →
      wpAny (model prog w) A (execs body env) (TurnPost h₀ env.locals I oI cst (J (i + 1)) { s₂ with heap := h, toks := tk } Q) E { s₂ with heap := h, toks := tk })
    (done : ∀ m₁ dyn h tk, J n m₁ dyn → Fr h₀ env.locals h m₁ → News h₀ env.locals h (dyn ++ cst) → Q .next { s₂ with heap := h, toks := tk }) :
    LoopAtV prog w A h₀ env x body Q E (.ref I) s₂ := by
  have hcst : ∀ p ∈ cst, p.1 ≠ I := fun p hp => hd0 p (List.mem_append_right _ hp)
  have hIn : I ∈ fp := W.sub I (.head _)
  refine ⟨I, fp, [I], n, P, St, m₀, dyn₀ ++ cst, (fun i m news => ∃ dyn, news = dyn ++ cst ∧ J i m dyn), rfl, W, hLf, ?_, ?_, hst, F, N, ⟨dyn₀, rfl, h0⟩, ?_, ?_⟩
  · intro b hb; rw [List.mem_singleton.mp hb]; exact hI0
  · intro p hp hI; exact hd0 p hp (List.mem_singleton.mp hI)
  · intro i v m₁ news₁ s₁ own hP0 hi hP hP1 hoff hsub hget hall hst₁ F₁ N₁
    first | (refine foldG ?_; intro qG; obtain ⟨hh, tk, rfl⟩ := hP0; k_unfold; clear qG) | obtain ⟨hh, tk, rfl⟩ := hP0
    first | (refine foldG ?_; intro qG; obtain ⟨dyn, rfl, hJ⟩ := hP1; k_unfold; clear qG) | obtain ⟨dyn, rfl, hJ⟩ := hP1
    first | (refine foldG ?_; intro qG; obtain ⟨oI, hoI, hns⟩ := hlive _ _ hst₁; k_unfold; clear qG) | obtain ⟨oI, hoI, hns⟩ := hlive _ _ hst₁
    have hIown : (I, oI) ∈ own := hall I hIn hI0 oI hoI
    have hdyn : ∀ p ∈ dyn, p.1 ≠ I := fun p hp e => hoff p (List.mem_append_left _ hp) (by rw [e]; exact .head _)
    have N₂ : News h₀ env.locals hh ((I, oI) :: (dyn ++ cst)) := fun p hp => by
      rcases List.mem_cons.mp hp with rfl | hp
      · exact N₁ _ (List.mem_append_left _ hIown)
      · exact N₁ _ (List.mem_append_right _ hp)
    refine wpAny_mono (turn i v m₁ dyn oI hh tk hi hP hJ hns hdyn hcst F₁ N₂) (fun f s₃ h₃ => ?_) fun _ _ e => e
    have fin : (∃ h' tk' m₂ dyn₂, s₃ = { ({ s₂ with heap := hh, toks := tk } : Shared) with heap := h', toks := tk' } ∧ Fr h₀ env.locals h' m₂ ∧ News h₀ env.locals h' ((I, oI) :: (dyn₂ ++ cst)) ∧ (∀ p ∈ dyn₂, p.1 ≠ I) ∧ J (i + 1) m₂ dyn₂) →
        LoopStepU h₀ env.locals [I] own (fun m news => ∃ dyn, news = dyn ++ cst ∧ J (i + 1) m dyn) { s₂ with heap := hh, toks := tk } .next s₃ := by
      intro hP0
      first | (refine foldG ?_; intro qG; obtain ⟨h', tk', m₂, dyn₂, rfl, F₂, N₃, hd₂, hJ₂⟩ := hP0; k_unfold; clear qG) | obtain ⟨h', tk', m₂, dyn₂, rfl, F₂, N₃, hd₂, hJ₂⟩ := hP0
      refine ⟨rfl, h', tk', m₂, dyn₂ ++ cst, rfl, F₂, fun p hp => ?_, fun p hp hI => ?_, dyn₂, rfl, hJ₂⟩
      · rcases List.mem_append.mp hp with hp | hp
        · have g1 := hget p hp
          rcases hfp p.1 (hsub p hp) with e | ⟨o, e⟩ | ⟨o, e⟩
          · have : p = (I, oI) := by
              first | (refine foldG ?_; intro qG; obtain ⟨pa, po⟩ := p; k_unfold; clear qG) | obtain ⟨pa, po⟩ := p
              dsimp only at e g1
              subst e
              have g2 : hh.get? pa = some oI := hoI
              have g3 : hh.get? pa = some po := g1
              rw [g2] at g3; cases g3; rfl
            rw [this]; exact N₃ _ (.head _)
          · have := (N₁ p (List.mem_append_left _ hp)).2.2
            rw [e] at this; cases this
          · have g2 := (N₂ _ (.tail _ (List.mem_append_right dyn e))).1
            have g3 : hh.get? p.1 = some p.2 := g1
            have g4 : hh.get? p.1 = some o := g2
            rw [g4] at g3
            have e2 : (p.1, o) = p := by rw [Option.some.inj g3]
            exact N₃ p (.tail _ (List.mem_append_right _ (e2 ▸ e)))
        · exact N₃ p (.tail _ hp)
      · have hI' := List.mem_singleton.mp hI
        rcases List.mem_append.mp hp with hp | hp
        · exact hd₂ p hp hI'
        · exact hcst p hp hI'
    cases f with
    | ret v => exact .ret h₃
    | brk => exact .brk h₃
    | next => exact .next (fin h₃)
    | cont => exact .cont (fin h₃)
  · intro h' tk m' news' F' N' hoff hP0
    first | (refine foldG ?_; intro qG; obtain ⟨dyn, rfl, hJ⟩ := hP0; k_unfold; clear qG) | obtain ⟨dyn, rfl, hJ⟩ := hP0
    exact done m' dyn h' tk hJ F' N'

theorem iter_range {r : Addr} {a b c : Int} {ta tb tc : Tok} {n : Nat} (J : (Str → Option Value) → Led → Nat → (Str → Option Value) → Led → Prop)
    (hh : A.handled = none) (hr : IsRange s.heap r a b c ta tb tc) (hsmall : Builtin.Range.small a b c = true) (hn : Builtin.Range.rangeSize a b c = (n : Int))
    (F : Fr h₀ env.locals s.heap m₀) (N : News h₀ env.locals s.heap (dyn₀ ++ cst)) (h0 : J m₀ dyn₀ 0 m₀ dyn₀)
    (turn : ∀ i t m₁ dyn I oI h tk, i < n → J m₀ dyn₀ i m₁ dyn → NoSeq oI → (∀ p ∈ dyn, p.1 ≠ I) → (∀ p ∈ cst, p.1 ≠ I) → Fr h₀ env.locals h (fun y => if y = x then some (.int (a + i * c) t) else m₁ y) → News h₀ env.locals h ((I, oI) :: (dyn ++ cst)) →
      wpAny (model prog w) A (execs body env) (TurnPost h₀ env.locals I oI cst (J m₀ dyn₀ (i + 1)) { s with heap := h, toks := tk } Q) E { s with heap := h, toks := tk })
    (done : ∀ m₁ dyn h tk, J m₀ dyn₀ n m₁ dyn → Fr h₀ env.locals h m₁ → News h₀ env.locals h (dyn ++ cst) → Q .next { s with heap := h, toks := tk }) :
    wpAny (model prog w) A (pyIter (.ref r)) (fun it s₂ => LoopAtV prog w A h₀ env x body Q E it s₂) E s := by
  refine wpAny_pyIter_range hr hsmall ?_
  refine loopV_of (J m₀ dyn₀) (Walks.range hh s.heap.objs.size a c n) (fun b hb => .inl (List.mem_singleton.mp hb)) (fun hm => absurd F.ns.lt ((List.mem_singleton.mp hm) ▸ Nat.lt_irrefl _)) (next_is_new F)
    (fun p hp => Nat.ne_of_lt (Heap.lt_size (N p hp).1)) (by show IsRangeIter _ _ _ _ _; rw [hn]; simpa using Heap.get?_push_size _ rfl) (fun i h st => ⟨_, st, by show Value.type "range_iterator" ≠ Value.type "tuple" ∧ Value.type "range_iterator" ≠ Value.type "list"; decide⟩) (F.push _) (fun p hp => ⟨Heap.get?_push_of_some _ (N p hp).1, (N p hp).2⟩) h0 ?_ done
  intro i v m₁ dyn oI h tk hi hP0 hJ hn hd hc F₁ N₁
  first | (refine foldG ?_; intro qG; obtain ⟨t, rfl⟩ := hP0; k_unfold; clear qG) | obtain ⟨t, rfl⟩ := hP0
  exact turn i t m₁ dyn _ oI h tk hi hJ hn hd hc F₁ N₁

theorem iter_list {l : Addr} {vs : List Value} {k : Nat} (J : (Str → Option Value) → Led → Nat → (Str → Option Value) → Led → Prop)
    (hh : A.handled = none) (hl : (l, listOf vs.toArray k) ∈ cst)
    (F : Fr h₀ env.locals s.heap m₀) (N : News h₀ env.locals s.heap (dyn₀ ++ cst)) (h0 : J m₀ dyn₀ 0 m₀ dyn₀)
    (turn : ∀ i v m₁ dyn I oI h tk, vs[i]? = some v → J m₀ dyn₀ i m₁ dyn → NoSeq oI → (∀ p ∈ dyn, p.1 ≠ I) → (∀ p ∈ cst, p.1 ≠ I) → Fr h₀ env.locals h (fun y => if y = x then some v else m₁ y) → News h₀ env.locals h ((I, oI) :: (dyn ++ cst)) →
      wpAny (model prog w) A (execs body env) (TurnPost h₀ env.locals I oI cst (J m₀ dyn₀ (i + 1)) { s with heap := h, toks := tk } Q) E { s with heap := h, toks := tk })
    (done : ∀ m₁ dyn h tk, J m₀ dyn₀ vs.length m₁ dyn → Fr h₀ env.locals h m₁ → News h₀ env.locals h (dyn ++ cst) → Q .next { s with heap := h, toks := tk }) :
    wpAny (model prog w) A (pyIter (.ref l)) (fun it s₂ => LoopAtV prog w A h₀ env x body Q E it s₂) E s := by
  have hls : s.heap.IsList l vs.toArray := N.isList (List.mem_append_right _ hl)
  have hlt : l < s.heap.objs.size := Heap.lt_size (N _ (List.mem_append_right _ hl)).1
  have hlL : l ≠ env.locals := (N _ (List.mem_append_right dyn₀ hl)).2.1
  refine wpAny_pyIter_list hls ?_
  have W := Walks.list (prog := prog) (w := w) hh s.heap.objs.size l (Nat.ne_of_lt hlt) vs.toArray
  have hz : vs.toArray.size = vs.length := by simp
  rw [hz] at W
  refine loopV_of (J m₀ dyn₀) W (fun b hb => ?_) (fun hm => ?_) (next_is_new F)
    (fun p hp => Nat.ne_of_lt (Heap.lt_size (N p hp).1)) ⟨⟨_, Heap.get?_push_size _ rfl, rfl, rfl⟩, hls.at fun o e => Heap.get?_push_of_some _ e⟩ (fun i h st => ?_) (F.push _) (fun p hp => ⟨Heap.get?_push_of_some _ (N p hp).1, (N p hp).2⟩) h0 ?_ done
  · rcases List.mem_cons.mp hb with e | hb
    · exact .inl e
    · rw [List.mem_singleton.mp hb]; exact .inr (.inr ⟨_, hl⟩)
  · rcases List.mem_cons.mp hm with e | hm
    · exact absurd F.ns.lt (e ▸ Nat.lt_irrefl _)
    · exact hlL (List.mem_singleton.mp hm).symm
  · first | (refine foldG ?_; intro qG; obtain ⟨⟨o, e, e2, _⟩, _⟩ := st; exact ⟨o, e, by rw [NoSeq, e2]; decide⟩; k_unfold; clear qG) | obtain ⟨⟨o, e, e2, _⟩, _⟩ := st; exact ⟨o, e, by rw [NoSeq, e2]; decide⟩
  · rintro i v m₁ dyn oI h tk hi hv hJ hn hd hc F₁ N₁
    exact turn i v m₁ dyn _ oI h tk (by simpa using hv) hJ hn hd hc F₁ N₁

theorem while_J {test : Expr} {pos : Pos} {m : Str → Option Value} {news : Led} {L : Addr} (J : (Str → Option Value) → Nat → (Str → Option Value) → Led → Prop) (n₀ : Nat)
    (F : Fr h₀ L s.heap m) (N : News h₀ L s.heap news) (hJ : J m n₀ m news)
    (turn : ∀ n m₁ news₁ h₁ tk₁, Fr h₀ L h₁ m₁ → News h₀ L h₁ news₁ → J m n m₁ news₁ →
      wpAny (model prog w) A (isTrue test env (eval test env)) (fun b s₂ =>
        if b = true then wpAny (model prog w) A (execs body env) (WhileStep2 h₀ L s (J m) Q n) (fun _ _ => False) s₂ else Q .next s₂) (fun _ _ => False) { s with heap := h₁, toks := tk₁ }) :
    wpAny (model prog w) A (exec (.While test body [] pos) env) Q E s :=
  wpAny_noRaise (While_inv2 (J m) F N hJ turn PassesOwn.never)
theorem whileStep {L : Addr} {J : Nat → (Str → Option Value) → Led → Prop} {n n' tk : Nat} {h' : Heap} {m₂ : Str → Option Value} {news₂ : Led} (F : Fr h₀ L h' m₂) (N : News h₀ L h' news₂) (hn : n' < n) (hJ : J n' m₂ news₂) :
    WhileStep2 h₀ L s J Q n .next { s with heap := h', toks := tk } := ⟨h', tk, m₂, news₂, n', rfl, F, N, hn, hJ⟩

/-- the ledger without the entry of l -/
inductive Out (l : Addr) (o : Obj) : Led → Led → Prop
  | head {r : Led} : (∀ q ∈ r, q.1 ≠ l) → Out l o ((l, o) :: r) r
  | tail {q : Addr × Obj} {r r' : Led} : q.1 ≠ l → Out l o r r' → Out l o (q :: r) (q :: r')
theorem Out.mem {l : Addr} {o : Obj} {r r' : Led} (h : Out l o r r') : (l, o) ∈ r := by
  induction h with
  | head _ => exact .head _
  | tail _ _ ih => exact .tail _ ih
theorem Out.sub {l : Addr} {o : Obj} {r r' : Led} (h : Out l o r r') : ∀ q ∈ r', q ∈ r := by
  induction h with
  | head _ => exact fun q hq => .tail _ hq
  | tail _ _ ih =>
    intro q hq
    rcases List.mem_cons.mp hq with rfl | hq
    · exact .head _
    · exact .tail _ (ih q hq)
theorem Out.ne {l : Addr} {o : Obj} {r r' : Led} (h : Out l o r r') : ∀ q ∈ r', q.1 ≠ l := by
  induction h with
  | head hn => exact hn
  | tail h1 _ ih =>
    intro q hq
    rcases List.mem_cons.mp hq with rfl | hq
    · exact h1
    · exact ih q hq

/-- append to a list of the ledger; the rest of the ledger lies apart from it -/
theorem app_O {l : Addr} {v : Value} {vs : List Value} {n : Nat} {L : Addr} {m : Str → Option Value} {news rest : Led} {Q : Value → Shared → Prop} (F : Fr h₀ L s.heap m) (N : News h₀ L s.heap news) (U : Out l (listOf vs.toArray n) news rest)
    (hz : vs.length ≤ 100000)
    (h : ∀ h', Fr h₀ L h' m → News h₀ L h' ((l, listOf (vs ++ [v]).toArray (n + 1)) :: rest) → Q .none { s with heap := h' }) :
    wpAny (model prog w) A (call (.builtin "list.append") [.ref l, v]) Q E s := by
  have z := N _ U.mem
  refine append_at (hsz := by rw [List.size_toArray, sizeLine_eq]; omega) z.1 fun h' hs ho' => h h' (F.change hs z.2.1 z.2.2) fun q hq => ?_
  rcases List.mem_cons.mp hq with rfl | hq
  · refine ⟨?_, z.2⟩
    rw [ho']
    simp
  · have y := N q (U.sub q hq)
    exact ⟨(hs.2 _ (U.ne q hq)).trans y.1, y.2⟩
end
-- B5
/-- the values are int tuples of the ledger, row by row -/
inductive ITups (N : Led) : List Value → List (List Int) → Prop
  | nil : ITups N [] []
  | cons {a : Addr} {vs : List Value} {n : Nat} {ns : List Int} {rest : List Value} {rows : List (List Int)} : (a, tupO vs n) ∈ N → IntsAre vs ns → ITups N rest rows → ITups N (.ref a :: rest) (ns :: rows)
theorem ITups.mono {N N' : Led} {vs : List Value} {rows : List (List Int)} (h : ITups N vs rows) (hs : ∀ q ∈ N, q ∈ N') : ITups N' vs rows := by
  induction h with
  | nil => exact .nil
  | cons hm hi _ ih => exact .cons (hs _ hm) hi ih
theorem ITups.append {N : Led} {vs ws : List Value} {rows rows' : List (List Int)} (h : ITups N vs rows) (h' : ITups N ws rows') : ITups N (vs ++ ws) (rows ++ rows') := by
  induction h with
  | nil => exact h'
  | cons hm hi _ ih => exact .cons hm hi ih
theorem ITups.length {N : Led} {vs : List Value} {rows : List (List Int)} (h : ITups N vs rows) : vs.length = rows.length := by
  induction h with
  | nil => rfl
  | cons _ _ _ ih => simp [ih]
theorem ITups.one {N : Led} {a : Addr} {vs : List Value} {n : Nat} {ns : List Int} (hm : (a, tupO vs n) ∈ N) (hi : IntsAre vs ns) : ITups N [.ref a] [ns] := .cons hm hi .nil
theorem ITups.get {N : Led} {vs : List Value} {rows : List (List Int)} (h : ITups N vs rows) {i : Nat} {v : Value} (hv : vs[i]? = some v) : ∃ a ws n ns, v = .ref a ∧ (a, tupO ws n) ∈ N ∧ IntsAre ws ns ∧ rows[i]? = some ns := by
  induction h generalizing i with
  | nil => simp at hv
  | cons hm hi _ ih =>
    cases i with
    | zero => simp at hv; subst hv; exact ⟨_, _, _, _, rfl, hm, hi, rfl⟩
    | succ i => simpa using ih (by simpa using hv)
def AllTup (N : Led) : Prop := ∀ q ∈ N, q.2.cls = .type "tuple"
theorem AllTup.nil : AllTup [] := fun _ h => nomatch h
theorem AllTup.cons {a : Addr} {o : Obj} {N : Led} (h : o.cls = .type "tuple") (hn : AllTup N) : AllTup ((a, o) :: N) := fun q hq => by
  rcases List.mem_cons.mp hq with rfl | hq
  · exact h
  · exact hn q hq
theorem AllTup.append {N N' : Led} (h : AllTup N) (h' : AllTup N') : AllTup (N ++ N') := fun q hq => (List.mem_append.mp hq).elim (h q) (h' q)
/-- tuples lie apart from what is no tuple -/
theorem AllTup.apart {h₀ h : Heap} {L a : Addr} {o : Obj} {tl news : Led} (ht : AllTup tl) (N : News h₀ L h news) (hs : ∀ q ∈ tl, q ∈ news) (hm : (a, o) ∈ news) (hc : o.cls ≠ .type "tuple") : ∀ q ∈ tl, q.1 ≠ a := fun q hq =>
  News.twoPlaces N (hs q hq) hm fun e => hc (by rw [show o = q.2 from e.symm]; exact ht q hq)

theorem AllTup.apartL {h₀ h : Heap} {L a : Addr} {its : Array Value} {n : Nat} {tl news : Led} (ht : AllTup tl) (N : News h₀ L h news) (hs : ∀ q ∈ tl, q ∈ news) (hm : (a, listOf its n) ∈ news) : ∀ q ∈ tl, q.1 ≠ a :=
  ht.apart N hs hm (by show Value.type "list" ≠ Value.type "tuple"; decide)

section
variable {h₀ h : Heap} {L : Addr} {m m0 : Str → Option Value} {x a b c d e : Str} {v : Option Value}
theorem frx0 (hm : ∀ y, y ≠ x → m y = m0 y) (F : Fr h₀ L h (fun y => if y = x then v else m y)) : Fr h₀ L h (fun y => if y = x then v else m0 y) := by
  have : (fun y => if y = x then v else m y) = fun y => if y = x then v else m0 y := by
    funext y
    by_cases h1 : y = x
    · simp [h1]
    · simp [h1, hm y h1]
  exact this ▸ F
theorem frx1 (hm : ∀ y, y ≠ x → y ≠ a → m y = m0 y) (F : Fr h₀ L h (fun y => if y = x then v else m y)) : ∃ u, Fr h₀ L h (fun y => if y = x then v else if y = a then u else m0 y) := by
  refine ⟨m a, ?_⟩
  have : (fun y => if y = x then v else m y) = fun y => if y = x then v else if y = a then m a else m0 y := by
    funext y
    by_cases h1 : y = x
    · simp [h1]
    · by_cases h2 : y = a
      · subst h2; simp [h1]
      · simp [h1, h2, hm y h1 h2]
  exact this ▸ F
theorem fr1 (hm : ∀ y, y ≠ a → m y = m0 y) (F : Fr h₀ L h m) : ∃ u, Fr h₀ L h (fun y => if y = a then u else m0 y) := by
  refine ⟨m a, ?_⟩
  have : m = fun y => if y = a then m a else m0 y := by
    funext y
    by_cases h1 : y = a
    · simp [h1]
    · simp [h1, hm y h1]
  exact this ▸ F
theorem fr2 (hm : ∀ y, y ≠ a → y ≠ b → m y = m0 y) (F : Fr h₀ L h m) : ∃ u u', Fr h₀ L h (fun y => if y = a then u else if y = b then u' else m0 y) := by
  refine ⟨m a, m b, ?_⟩
  have : m = fun y => if y = a then m a else if y = b then m b else m0 y := by
    funext y
    by_cases h1 : y = a
    · simp [h1]
    · by_cases h2 : y = b
      · subst h2; simp [h1]
      · simp [h1, h2, hm y h1 h2]
  exact this ▸ F
end
-- B6
local macro_rules | `(tactic| k_ne) => `(tactic| first | assumption | (refine Ne.symm ?_; assumption))
local macro_rules | `(tactic| k_sub) => `(tactic| first | ((with_reducible refine List.forall_mem_cons.mpr ⟨?_, ?_⟩); (focus k_mem); k_sub) | ((with_reducible refine List.forall_mem_append.mpr ⟨?_, ?_⟩) <;> k_sub) | (with_reducible exact List.forall_mem_nil _) | (intro q9 hq9; k_mem))
local macro_rules | `(tactic| k_all) => `(tactic| first | (with_reducible assumption) | (with_reducible exact List.forall_mem_nil _) | ((with_reducible refine List.forall_mem_append.mpr ⟨?_, ?_⟩) <;> k_all) | ((with_reducible refine List.forall_mem_cons.mpr ⟨?_, ?_⟩); (focus k_ne); k_all))
local macro_rules | `(tactic| k_updF) => `(tactic| first | ((with_reducible refine' Out.head ?oa); (case oa => k_all)) | ((with_reducible refine' Out.tail ?oa ?ob); (case oa => k_ne); (case ob => k_updF)))
local macro_rules | `(tactic| walk_at "call builtin:list.append") => `(tactic| (k_here; (with_reducible show wpAny _ _ (call (Value.builtin _) [Value.ref _, _]) _ _ _); k_dflt (refine' app_O ?kF ?kN ?kU ?kz ?_; (case kF => k_asm); (case kN => k_asm); (case kU => k_updF); (case kz => omega); k_whole); intro h' F' N'; (try k_sweep)))
section
section
variable {w : World} {p : Program} {loose : List Str} {mean : ExcName → Option Value} {mg mb : Str → Option Value}
  {dp un : Nat} {gd : Option (List Code)} {cn : Str} {cs : Scope} {a : Addr} {ccd : Value} {cl : List (Str × Addr)} {outer : List Env} {A₀ : Around} {base h₀ : Heap} {L : Addr} {m : Str → Option Value} {news : Led} {s : Shared} {Q E : Value → Shared → Prop}

theorem rangeSize_nn (a b c : Int) (hc : 0 < c) : 0 ≤ Builtin.Range.rangeSize a b c := by
  unfold Builtin.Range.rangeSize
  rw [if_pos hc]
  split
  · have := Int.ediv_nonneg (a := b - a - 1) (b := c) (by omega) (by omega); omega
  · omega
theorem rangeSize_le (a b c : Int) (hc : 0 < c) : Builtin.Range.rangeSize a b c ≤ max 0 (b - a) := by
  unfold Builtin.Range.rangeSize
  rw [if_pos hc]
  split
  · have h1 := Int.ediv_le_self (b := c) (a := b - a - 1) (by omega)
    omega
  · omega
theorem small_any {a b c : Int} (h1 : -1000000 ≤ a) (h2 : a ≤ 1000000) (h3 : -1000000 ≤ b) (h4 : b ≤ 1000000) (h5 : 1 ≤ c) (h6 : c ≤ 1000000) : Builtin.Range.small a b c = true := by
  have e1 := rangeSize_nn a b c (by omega)
  have e2 := rangeSize_le a b c (by omega)
  unfold Builtin.Range.small
  simp only [Builtin.Range.rangeFitsLong, Bool.and_eq_true, Bool.or_eq_true, decide_eq_true_eq, beq_iff_eq, show c > 0 by omega, if_true]
  omega

def rowT (w h s top left : Int) : List Int := [left, top, pmin s (w - left), pmin s (h - top)]
def rowsIn (w h s top : Int) (n : Nat) : List (List Int) := (List.range n).map fun (j : Nat) => rowT w h s top (0 + (j : Int) * s)
theorem rowsIn_succ (w h s top : Int) (n : Nat) : rowsIn w h s top (n + 1) = rowsIn w h s top n ++ [rowT w h s top (0 + (n : Int) * s)] := by
  simp [rowsIn, List.range_succ]
def rowsOf (w h s : Int) (nh nw : Nat) : List (List Int) := (List.range nh).flatMap fun (i : Nat) => rowsIn w h s (0 + (i : Int) * s) nw

local macro_rules | `(tactic| walk_at "exec For Name Call cons nil") => `(tactic| refine halt ?_)
local macro_rules | `(tactic| walk_at "pyIter ref") => `(tactic| refine halt ?_)
/-- the row of tiles so far -/
inductive TlJ (fnd : Addr) (R : List (List Int)) (b : Nat) (P : Prop) : Led → Prop
  | mk {vs : List Value} {n : Nat} {tl : Led} (hm : P) (hl : vs.length ≤ b) (ht : AllTup tl) (hv : ITups tl vs R) : TlJ fnd R b P ((fnd, listOf vs.toArray n) :: tl)
def rowsTo (w h s : Int) (i nw j : Nat) : List (List Int) := (List.range i).flatMap (fun (i : Nat) => rowsIn w h s (0 + (i : Int) * s) nw) ++ rowsIn w h s (0 + (i : Int) * s) j
theorem rowsTo_zero (w h s : Int) (i nw : Nat) : rowsTo w h s i nw 0 = (List.range i).flatMap fun (i : Nat) => rowsIn w h s (0 + (i : Int) * s) nw := List.append_nil _
theorem rowsTo_succ (w h s : Int) (i nw j : Nat) : rowsTo w h s i nw (j + 1) = rowsTo w h s i nw j ++ [rowT w h s (0 + (i : Int) * s) (0 + (j : Int) * s)] := by
  rw [rowsTo, rowsTo, rowsIn_succ, List.append_assoc]
theorem rowsTo_end (w h s : Int) (i nw : Nat) : rowsTo w h s i nw nw = (List.range (i + 1)).flatMap fun (i : Nat) => rowsIn w h s (0 + (i : Int) * s) nw := by
  rw [List.range_succ, List.flatMap_append, List.flatMap_cons, List.flatMap_nil, List.append_nil, rowsTo]
theorem TlJ.more {fnd : Addr} {R : List (List Int)} {b : Nat} {P : Prop} {vs : List Value} {n : Nat} {tl : Led} {D : Addr} {its : List Value} {k : Nat} {r : List Int} (hl : vs.length ≤ b) (ht : AllTup tl) (hv : ITups tl vs R) (hi : IntsAre its r) (hm : P) :
    TlJ fnd (R ++ [r]) (b + 1) P ((fnd, listOf (vs ++ [Value.ref D]).toArray n) :: (D, tupO its k) :: tl) :=
  .mk hm (by rw [List.length_append]; exact Nat.succ_le_succ hl) (AllTup.cons rfl ht) ((hv.mono fun q hq => .tail _ hq).append (ITups.one (.head _) hi))

theorem tiles_K {wd ht sz : Int} {tw th ts : Tok}
  (B : Below A₀ base outer h₀) (F : Fr h₀ L s.heap m) (X : (hd.heap_39 w.params).In h₀) (N : News h₀ L s.heap news) (T : Top p loose mean mg mb h₀) (hk : cs.kind = .function)
  (hw0 : 0 ≤ wd) (hw1 : wd ≤ 10) (hh0 : 0 ≤ ht) (hh1 : ht ≤ 10) (hs0 : 1 ≤ sz) (hs1 : sz ≤ 10)
  (hd : dp + 1 < recursionLimit) (hu : un + 20 < cLine)
  (h : ∀ l vs n tl h' tk', AllTup tl → ITups tl vs (rowsOf wd ht sz (Builtin.Range.rangeSize 0 ht sz).toNat (Builtin.Range.rangeSize 0 wd sz).toNat) → Fr h₀ L h' m → News h₀ L h' ((l, listOf vs.toArray n) :: (tl ++ news)) → Q (.ref l) {s with heap := h', toks := tk'}) :
  wpAny (model PRG w) (ktrTop dp un gd cn cs L a ccd cl outer) (call (.ref 53) [.int wd tw, .int ht th, .int sz ts]) Q E s := by
  refine wpAny_call ?_
  k_dflt ktr_enter
  k_steps
  rename_i fnd hA l1f hB F0 N0
  have nw1 := rangeSize_le 0 wd sz (by omega)
  have nh1 := rangeSize_le 0 ht sz (by omega)
  refine Halt.out ?_
  refine wpAny_noRaise ?_
  rename Fr _ _ _ _ => lF'
  with_unfolding_all refine' For_invVF lF' ?k1 ?k2 ?_
  case k1 => exact rfl
  case k2 => exact rfl
  k_steps
  refine Halt.out ?_
  rename IsRange _ _ _ _ _ _ _ _ => hr
  rename Fr _ _ _ _ => kF
  rename News _ _ _ _ => kN
  refine iter_range (n := (Builtin.Range.rangeSize 0 ht sz).toNat) (cst := news) (dyn₀ := [(fnd, listOf #[] 0)]) (fun m₀ dyn₀ i m dyn => TlJ fnd ((List.range i).flatMap fun (i : Nat) => rowsIn wd ht sz (0 + (i : Int) * sz) (Builtin.Range.rangeSize 0 wd sz).toNat) (i * 10) (∀ y, y ≠ Str.ofString "top" → y ≠ Str.ofString "left" → m y = m₀ y) dyn) rfl hr ?_ ?_ kF kN ?_ ?_ ?_
  · exact small_any (by decide) (by decide) (by omega) (by omega) hs0 (by omega)
  · exact (Int.toNat_of_nonneg (rangeSize_nn _ _ _ hs0)).symm
  · exact TlJ.mk (vs := []) (fun _ _ _ => rfl) (Nat.zero_le _) AllTup.nil ITups.nil
  · intro i t m₁ dyn I oI h1 tk1 hi hJ hnI hdI hcI F1 N1
    refine foldG ?_
    intro qG
    obtain @⟨vs, n, tl, hm, hvl, htl, hvs⟩ := hJ
    obtain ⟨u1, F2⟩ := frx1 hm F1
    k_unfold
    clear qG
    clear F1
    try dsimp only at F2
    simp only [List.cons_append] at N1
    refine wpAny_execs_cons ?_
    rename Fr _ _ _ _ => lF'
    with_unfolding_all refine' For_invVF lF' ?k1 ?k2 ?_
    case k1 => exact rfl
    case k2 => exact rfl
    k_steps
    refine Halt.out ?_
    rename IsRange _ _ _ _ _ _ _ _ => hr2
    rename Fr _ _ _ _ => kF2
    rename News _ _ _ _ => kN2
    refine iter_range (n := (Builtin.Range.rangeSize 0 wd sz).toNat) (cst := (I, oI) :: news) (dyn₀ := (fnd, listOf vs.toArray n) :: tl) (fun m₀ dyn₀ j m dyn => TlJ fnd (rowsTo wd ht sz i (Builtin.Range.rangeSize 0 wd sz).toNat j) (i * 10 + j) (∀ y, y ≠ Str.ofString "left" → m y = m₀ y) dyn) rfl hr2 ?_ ?_ kF2 (newsSub kN2 ?_) ?_ ?_ ?_
    · exact small_any (by decide) (by decide) (by omega) (by omega) hs0 (by omega)
    · exact (Int.toNat_of_nonneg (rangeSize_nn _ _ _ hs0)).symm
    · k_sub
    · exact TlJ.mk (fun _ _ => rfl) hvl htl ((rowsTo_zero wd ht sz i _).symm ▸ hvs)
    · intro j t2 m2 dyn2 J oJ h2 tk2 hj hJ hnJ hdJ hcJ F3 N3
      refine foldG ?_
      intro qG
      obtain @⟨vs2, n2, tl2, hm2, hvl2, htl2, hvs2⟩ := hJ
      k_unfold
      clear qG
      have F4 := frx0 hm2 F3
      clear F3
      try dsimp only at F4
      simp only [List.cons_append] at N3
      have a0 : vs2.length ≤ 1000 := by omega
      have a1 : fnd ≠ J := hdJ _ (.head _)
      have a2 : ∀ q ∈ tl2, q.1 ≠ fnd := htl2.apartL N3 (fun q hq => .tail _ (.tail _ (List.mem_append_left _ hq))) (.tail _ (.head _))
      have a3 : fnd ≠ I := hdI _ (.head _)
      have a4 : ∀ q ∈ news, q.1 ≠ fnd := fun q hq => Nat.ne_of_lt (l1f q hq)
      have a5 : ∀ q ∈ tl2, q.1 ≠ J := fun q hq => hdJ q (.tail _ hq)
      k_steps
      rename_i D3 h3 l3 h4 F5 N5
      refine TurnPost.intro (dyn := (fnd, listOf (vs2 ++ [Value.ref D3]).toArray (n2 + 1)) :: (D3, _) :: tl2) F5 (newsSub N5 (by k_sub)) (by k_all) ?_
      rw [rowsTo_succ]
      exact TlJ.more hvl2 htl2 hvs2 (.cons _ _ (.cons _ _ (.cons _ _ (.cons _ _ .nil)))) fun y hy => if_neg hy
    · intro m2 dyn2 h2 tk2 hJ F3 N3
      refine foldG ?_
      intro qG
      obtain @⟨vs2, n2, tl2, hm2, hvl2, htl2, hvs2⟩ := hJ
      k_unfold
      clear qG
      k_steps
      have a3 : fnd ≠ I := hdI _ (.head _)
      have a5 : ∀ q ∈ tl2, q.1 ≠ I := by
        refine htl2.apart N3 (fun q hq => List.mem_append_left _ (.tail _ hq)) (List.mem_append_right _ (.head _)) hnI.1
      refine TurnPost.intro (dyn := (fnd, listOf vs2.toArray n2) :: tl2) F3 (newsSub N3 (by k_sub)) (by k_all) (TlJ.mk (fun y h1 h2 => ?_) (by show vs2.length ≤ (i + 1) * 10; omega) htl2 ((rowsTo_end wd ht sz i _) ▸ hvs2))
      exact (hm2 y h2).trans ((if_neg h1).trans (if_neg h2))
  · intro m₁ dyn h1 tk1 hJ F1 N1
    refine foldG ?_
    intro qG
    obtain @⟨vs, n, tl, hm, hvl, htl, hvs⟩ := hJ
    obtain ⟨u1, u2, F2⟩ := fr2 hm F1
    k_unfold
    clear qG
    clear F1
    try dsimp only at F2
    simp only [List.cons_append] at N1
    k_steps
    rename Fr _ _ _ _ => kF
    rename News _ _ _ _ => kN
    exact h _ _ _ _ _ _ htl hvs kF kN
end
end
theorem rst4 : True ∧ True := by
  w_top off
  first
  | (walk1; done)
  | exact ⟨trivial, trivial⟩
-- B7
section
section
variable {w : World} {p : Program} {loose : List Str} {mean : ExcName → Option Value} {mg mb : Str → Option Value}
  {dp un : Nat} {gd : Option (List Code)} {cn : Str} {cs : Scope} {a : Addr} {ccd : Value} {cl : List (Str × Addr)} {outer : List Env} {A₀ : Around} {base h₀ : Heap} {L : Addr} {m : Str → Option Value} {news : Led} {s : Shared} {Q E : Value → Shared → Prop}

theorem fr2' {h : Heap} {m0 : Str → Option Value} {x b : Str} {va : Option Value} (hm : ∀ y, y ≠ x → y ≠ b → m y = m0 y) (ha : m x = va) (F : Fr h₀ L h m) : ∃ u, Fr h₀ L h (fun y => if y = x then va else if y = b then u else m0 y) := by
  refine ⟨m b, ?_⟩
  have : m = fun y => if y = x then va else if y = b then m b else m0 y := by
    funext y
    by_cases h1 : y = x
    · subst h1; simp [ha]
    · by_cases h2 : y = b
      · subst h2; simp [h1]
      · simp [h1, h2, hm y h1 h2]
  exact this ▸ F
theorem pmin_le (a b : Int) : pmin a b = if a ≤ b then a else b := by
  by_cases h : a ≤ b
  · rw [if_pos h]; exact if_neg (Int.not_lt.mpr h)
  · rw [if_neg h]; exact if_pos (Int.not_le.mp h)
theorem pmin_if (w s left : Int) : pmin s (w - left) = if left + s ≤ w then s else w - left := by
  rw [pmin_le]
  by_cases h : left + s ≤ w
  · rw [if_pos h, if_pos (by omega)]
  · rw [if_neg h, if_neg (by omega)]
theorem rowT_if (w h s top left : Int) : rowT w h s top left = [left, top, if left + s ≤ w then s else w - left, if top + s ≤ h then s else h - top] := by
  rw [rowT, pmin_if, pmin_if]
theorem z0 (s : Int) : 0 + ((0 : Nat) : Int) * s = 0 := (Int.zero_add _).trans (Int.zero_mul s)
theorem nxt (j : Nat) (s : Int) : 0 + ((j + 1 : Nat) : Int) * s = 0 + (j : Int) * s + s := by rw [Int.natCast_add, Int.add_mul, Int.add_assoc]; exact congrArg (fun z => 0 + ((j : Int) * s + z)) (Int.one_mul s)
/-- a loop of _law_rows: the tiles so far -/
inductive RwJ (news : Led) (fnd : Addr) (R : List (List Int)) (b N i : Nat) (P : Prop) : Nat → Led → Prop
  | mk {vs : List Value} {k : Nat} {tl : Led} (hi : i ≤ N) (hm : P) (hl : vs.length ≤ b) (ht : AllTup tl) (hv : ITups tl vs R) : RwJ news fnd R b N i P (N - i) ((fnd, listOf vs.toArray k) :: (tl ++ news))
inductive RwO (news : Led) (fnd : Addr) (wd ht sz : Int) (NH NW : Nat) (m₀ : Str → Option Value) (n : Nat) (m : Str → Option Value) (l : Led) : Prop
  | mk {i : Nat} {t : Tok} (hmt : m (Str.ofString "top") = some (.int (0 + (i : Int) * sz) t)) (h : RwJ news fnd (rowsTo wd ht sz i NW 0) (i * 10) NH i (∀ y, y ≠ Str.ofString "top" → y ≠ Str.ofString "left" → m y = m₀ y) n l) : RwO news fnd wd ht sz NH NW m₀ n m l
inductive RwI (news : Led) (fnd : Addr) (wd ht sz : Int) (i NW : Nat) (m₀ : Str → Option Value) (n : Nat) (m : Str → Option Value) (l : Led) : Prop
  | mk {j : Nat} {t : Tok} (hmt : m (Str.ofString "left") = some (.int (0 + (j : Int) * sz) t)) (h : RwJ news fnd (rowsTo wd ht sz i NW j) (i * 10 + j) NW j (∀ y, y ≠ Str.ofString "left" → m y = m₀ y) n l) : RwI news fnd wd ht sz i NW m₀ n m l
theorem RwI.more {news : Led} {fnd D : Addr} {wd ht sz : Int} {i NW j : Nat} {m₀ m : Str → Option Value} {vs its : List Value} {k n : Nat} {t : Tok} {tl : Led} {r : List Int} (hj : j < NW) (hl : vs.length ≤ i * 10 + j) (htl : AllTup tl) (hv : ITups tl vs (rowsTo wd ht sz i NW j)) (hi : IntsAre its r)
    (e : rowT wd ht sz (0 + (i : Int) * sz) (0 + (j : Int) * sz) = r) (hm : ∀ y, y ≠ Str.ofString "left" → m y = m₀ y) (hml : m (Str.ofString "left") = some (.int (0 + (j : Int) * sz + sz) t)) :
    RwI news fnd wd ht sz i NW m₀ (NW - (j + 1)) m ((fnd, listOf (vs ++ [Value.ref D]).toArray k) :: (((D, tupO its n) :: tl) ++ news)) := by
  refine .mk (j := j + 1) (t := t) (by rw [nxt]; exact hml) (.mk (tl := (D, tupO its n) :: tl) hj hm (by rw [List.length_append]; exact Nat.succ_le_succ hl) (AllTup.cons rfl htl) ?_)
  rw [rowsTo_succ, e]
  exact (hv.mono fun q hq => .tail _ hq).append (ITups.one (.head _) hi)
theorem RwO.more {news : Led} {fnd : Addr} {wd ht sz : Int} {i NH NW : Nat} {m₀ m : Str → Option Value} {vs : List Value} {k : Nat} {t : Tok} {tl : Led} (hi : i < NH) (hw : NW ≤ 10) (hl : vs.length ≤ i * 10 + NW) (htl : AllTup tl) (hv : ITups tl vs (rowsTo wd ht sz i NW NW))
    (hm : ∀ y, y ≠ Str.ofString "top" → y ≠ Str.ofString "left" → m y = m₀ y) (hmt : m (Str.ofString "top") = some (.int (0 + (i : Int) * sz + sz) t)) :
    RwO news fnd wd ht sz NH NW m₀ (NH - (i + 1)) m ((fnd, listOf vs.toArray k) :: (tl ++ news)) := by
  refine .mk (i := i + 1) (t := t) (by rw [nxt]; exact hmt) (.mk hi hm (by rw [Nat.succ_mul]; exact Nat.le_trans hl (Nat.add_le_add_left hw _)) htl ?_)
  rw [rowsTo_zero, ← rowsTo_end]
  exact hv
theorem fr1' {h : Heap} {m0 : Str → Option Value} {x : Str} {va : Option Value} (hm : ∀ y, y ≠ x → m y = m0 y) (ha : m x = va) (F : Fr h₀ L h m) : Fr h₀ L h (fun y => if y = x then va else m0 y) := by
  have : m = fun y => if y = x then va else m0 y := by
    funext y
    by_cases h1 : y = x
    · subst h1; simp [ha]
    · simp [h1, hm y h1]
  exact this ▸ F
theorem lt_size (i : Nat) (h s : Int) (hs : 1 ≤ s) : (0 + (i : Int) * s < h) ↔ i < (Builtin.Range.rangeSize 0 h s).toNat := by
  unfold Builtin.Range.rangeSize
  rw [if_pos (by omega)]
  split
  · rename_i hp
    have h0 : 0 ≤ (h - 0 - 1) / s := Int.ediv_nonneg (by omega) (by omega)
    have : (i : Int) ≤ (h - 0 - 1) / s ↔ (i : Int) * s ≤ h - 0 - 1 := Int.le_ediv_iff_mul_le (by omega)
    omega
  · have := Int.mul_nonneg (show (0 : Int) ≤ i by omega) (show 0 ≤ s by omega)
    omega

local macro_rules | `(tactic| walk_at "exec While Compare cons nil") => `(tactic| refine halt ?_)
theorem rows_K {wd ht sz : Int} {tw th ts : Tok}
  (B : Below A₀ base outer h₀) (F : Fr h₀ L s.heap m) (X : (hd.heap_39 w.params).In h₀) (N : News h₀ L s.heap news) (T : Top p loose mean mg mb h₀) (hk : cs.kind = .function)
  (hw0 : 0 ≤ wd) (hw1 : wd ≤ 10) (hh0 : 0 ≤ ht) (hh1 : ht ≤ 10) (hs0 : 1 ≤ sz) (hs1 : sz ≤ 10)
  (hd : dp + 1 < recursionLimit) (hu : un + 20 < cLine)
  (h : ∀ l vs n tl h' tk', AllTup tl → ITups tl vs (rowsOf wd ht sz (Builtin.Range.rangeSize 0 ht sz).toNat (Builtin.Range.rangeSize 0 wd sz).toNat) → Fr h₀ L h' m → News h₀ L h' ((l, listOf vs.toArray n) :: (tl ++ news)) → Q (.ref l) {s with heap := h', toks := tk'}) :
  wpAny (model PRG w) (ktrTop dp un gd cn cs L a ccd cl outer) (call (.ref 140) [.int wd tw, .int ht th, .int sz ts]) Q E s := by
  refine wpAny_call ?_
  k_dflt ktr_enter
  k_steps
  rename_i fnd hA l1f D2 hB l2 hC hD hE F0 N0
  refine Halt.out ?_
  have nw1 : (Builtin.Range.rangeSize 0 wd sz).toNat ≤ 10 := by
    have := rangeSize_le 0 wd sz hs0
    omega
  have nh1 : (Builtin.Range.rangeSize 0 ht sz).toNat ≤ 10 := by
    have := rangeSize_le 0 ht sz hs0
    omega
  refine foldG ?_
  intro qG
  obtain ⟨NH, eNH⟩ : ∃ n, n = (Builtin.Range.rangeSize 0 ht sz).toNat := ⟨_, rfl⟩
  obtain ⟨NW, eNW⟩ : ∃ n, n = (Builtin.Range.rangeSize 0 wd sz).toNat := ⟨_, rfl⟩
  k_unfold
  clear qG
  have sH := fun i => lt_size i ht sz hs0
  have sW := fun i => lt_size i wd sz hs0
  rw [← eNH] at nh1 sH h
  rw [← eNW] at nw1 sW h
  clear eNH eNW
  refine while_J (RwO news fnd wd ht sz NH NW) NH F0 (newsSub N0 (news' := (fnd, listOf [].toArray 0) :: ([] ++ news)) (by simp only [List.nil_append]; k_sub)) (.mk (i := 0) (by rw [z0]; rfl) (.mk (Nat.zero_le _) (fun _ _ _ => rfl) (Nat.zero_le _) AllTup.nil ITups.nil)) ?_
  intro n m1 news1 h1 tk1 F1 N1 hJ
  obtain @⟨i, t, hmt, @⟨vs, k, tl, hi, hm, hvl, htl, hvs⟩⟩ := hJ
  refine foldG ?_
  intro qG
  obtain ⟨u, F2⟩ := fr2' hm hmt F1
  k_unfold
  clear qG
  clear F1
  k_steps
  · rename Fr _ _ _ _ => kF
    rename News _ _ _ _ => kN
    rename 0 + (i : Int) * sz < ht => hlt
    have hi2 := (sH i).mp hlt
    refine Halt.out ?_
    refine while_J (RwI news fnd wd ht sz i NW) NW kF kN (.mk (j := 0) (by rw [z0]; rfl) (.mk (Nat.zero_le _) (fun _ _ => rfl) hvl htl hvs)) ?_
    intro n m2 news2 h2 tk2 F3 N3 hJ
    obtain @⟨j, t2, hmt2, @⟨vs2, k2, tl2, hj, hm2, hvl2, htl2, hvs2⟩⟩ := hJ
    have F4 := fr1' hm2 hmt2 F3
    clear F3
    have a2 : ∀ q ∈ tl2, q.1 ≠ fnd := htl2.apartL N3 (fun q hq => .tail _ (List.mem_append_left _ hq)) (.head _)
    have a4 : ∀ q ∈ news, q.1 ≠ fnd := fun q hq => Nat.ne_of_lt (l1f q hq)
    have a6 : vs2.length ≤ 10000 := by omega
    k_steps
    iterate 4 (
      focus
        rename Fr _ _ _ _ => F5
        rename News _ _ _ _ => N5
        rename 0 + (j : Int) * sz < wd => hlt2
        have hj2 := (sW j).mp hlt2
        refine whileStep (n' := NW - (j + 1)) F5 N5 (Nat.sub_succ_lt_self _ _ hj2) (RwI.more hj2 hvl2 htl2 hvs2 (.cons _ _ (.cons _ _ (.cons _ _ (.cons _ _ .nil)))) ?_ (fun y hy => ?_) rfl)
        rotate_left 1
        · repeat (refine (if_neg hy).trans ?_)
          repeat (refine Eq.trans ?_ (if_neg hy).symm)
          rfl
        rw [rowT_if]
        first | rw [if_pos ‹0 + (j : Int) * sz + sz ≤ wd›] | rw [if_neg ‹¬ 0 + (j : Int) * sz + sz ≤ wd›]
        first | rw [if_pos ‹0 + (i : Int) * sz + sz ≤ ht›] | rw [if_neg ‹¬ 0 + (i : Int) * sz + sz ≤ ht›])
    rename Fr _ _ _ _ => F5
    rename News _ _ _ _ => N5
    rename ¬ 0 + (j : Int) * sz < wd => hlt2
    have hj3 : j = NW := Nat.le_antisymm hj (Nat.not_lt.mp (mt (sW j).mpr hlt2))
    rw [hj3] at hvl2 hvs2
    refine whileStep (n' := NH - (i + 1)) F5 N5 (Nat.sub_succ_lt_self _ _ hi2) (RwO.more hi2 nw1 hvl2 htl2 hvs2 (fun y h1 h2 => ?_) rfl)
    repeat (first | refine (if_neg h1).trans ?_ | refine (if_neg h2).trans ?_)
    repeat (first | refine Eq.trans ?_ (if_neg h1).symm | refine Eq.trans ?_ (if_neg h2).symm)
    rfl
  · rename Fr _ _ _ _ => kF
    rename News _ _ _ _ => kN
    rename ¬ 0 + (i : Int) * sz < ht => hlt
    have e : i = NH := Nat.le_antisymm hi (Nat.not_lt.mp (mt (sH i).mpr hlt))
    rw [rowsTo_zero, e] at hvs
    exact h _ _ _ _ _ _ htl hvs kF kN
end
end
theorem rst5 : True ∧ True := by
  w_top off
  first
  | (walk1; done)
  | exact ⟨trivial, trivial⟩
-- B9
def Offs (I C D : Addr) (l : Led) : Prop := ∀ p ∈ l, p.1 ≠ I ∧ p.1 ≠ C ∧ p.1 ≠ D

/-- a namespace that tells a name -/
inductive NsV (o : Obj) (x : Str) (v : Option Value) : Prop
  | mk {mm : Str → Option Value} (h : LCg.NsObj o mm) (e : mm x = v) : NsV o x v
theorem NsV.of {o : Obj} {x : Str} {v : Option Value} {mc : Str → Option Value} (h : LCg.NsObj o (fun y => if y = x then v else mc y)) : NsV o x v := ⟨h, if_pos rfl⟩
theorem two_get {a b v : Value} {i : Nat} (h : [a, b][i]? = some v) : v = a ∨ v = b := (List.mem_cons.mp (List.mem_of_getElem? h)).imp_right List.mem_singleton.mp

/-- an iterator at its first item -/
def IterAt (prog : Program) (w : World) (A : Around) (cst : Led) (n : Nat) (P : Nat → Value → Prop) (I : Addr) (h : Heap) : Prop :=
  ∃ fp St, Walks prog w A I fp [I] n P St ∧ (∀ b ∈ fp, b = I ∨ ∃ o, (b, o) ∈ cst) ∧ St 0 h ∧ (∀ i h, St i h → ∃ o, h.get? I = some o ∧ NoSeq o)

/-- the heap and the ledger in a list comprehension -/
def CAt (h₀ : Heap) (L : Addr) (m : Str → Option Value) (C D : Addr) (base : Led) (cst : Led) (J : (Str → Option Value) → List Value → Led → Prop) (s₀ s : Shared) : Prop :=
  ∃ h tk oC mc ys k dyn, s = { s₀ with heap := h, toks := tk } ∧ Fr h₀ L h m ∧ News h₀ L h (base ++ (C, oC) :: (D, listOf ys.toArray k) :: (dyn ++ cst)) ∧ LCg.NsObj oC mc ∧ J mc ys dyn

inductive CEnd (h₀ : Heap) (L : Addr) (m : Str → Option Value) (I : Addr) (oI : Obj) (C D : Addr) (cst : Led) (J : (Str → Option Value) → List Value → Led → Prop) (s : Shared) : Shared → Prop
  | intro {h : Heap} {tk : Nat} {oC : Obj} {mc : Str → Option Value} {ys : List Value} {k : Nat} {dyn : Led} (F : Fr h₀ L h m) (N : News h₀ L h ((I, oI) :: (C, oC) :: (D, listOf ys.toArray k) :: (dyn ++ cst))) (hC : LCg.NsObj oC mc) (ho : Offs I C D dyn) (hJ : J mc ys dyn) : CEnd h₀ L m I oI C D cst J s { s with heap := h, toks := tk }
inductive CElt (h₀ : Heap) (L : Addr) (m : Str → Option Value) (I : Addr) (oI : Obj) (C D : Addr) (cst : Led) (J : (Str → Option Value) → List Value → Led → Prop) (s : Shared) (y : Value) : Shared → Prop
  | intro {h : Heap} {tk : Nat} {oC : Obj} {mc : Str → Option Value} {ys : List Value} {k : Nat} {dyn : Led} (F : Fr h₀ L h m) (N : News h₀ L h ((I, oI) :: (C, oC) :: (D, listOf ys.toArray k) :: (dyn ++ cst))) (hC : LCg.NsObj oC mc) (ho : Offs I C D dyn) (hz : ys.length ≤ 100000) (hJ : J mc (ys ++ [y]) dyn) : CElt h₀ L m I oI C D cst J s y { s with heap := h, toks := tk }
/-- a comprehension's loop, some turns left -/
inductive CLoop (h₀ : Heap) (L : Addr) (m : Str → Option Value) (C D : Addr) (cst : Led) (J : Nat → (Str → Option Value) → List Value → Led → Prop) (n : Nat) (St : Nat → Heap → Prop) (I : Addr) (s : Shared) : Nat → Shared → Prop
  | intro {h : Heap} {tk i : Nat} {oC : Obj} {mc : Str → Option Value} {ys : List Value} {k : Nat} {dyn : Led} (hi : i ≤ n) (hS : St i h) (F : Fr h₀ L h m) (N : News h₀ L h ((C, oC) :: (D, listOf ys.toArray k) :: (dyn ++ cst))) (hC : LCg.NsObj oC mc) (ho : Offs I C D dyn) (hJ : J i mc ys dyn) : CLoop h₀ L m C D cst J n St I s (n + 1 - i) { s with heap := h, toks := tk }

/-- the shape of a turn -/
def TurnIs (e : Expr) (depth : Nat) (target iter : Expr) (ifs : List Expr) (rest : Value → Env → Sem PySem.Fin → Sem PySem.Fin) : Prop := ∀ it acc env, compTurn e depth it acc env = (do
      standAt iter.pos
      match ← pyNext it with
      | none => pure (.done .next)
      | some v =>
        letOwnedTupleGo target it v
        assign target env v
        let mut ok := true
        for c in ifs do
          if ok then ok ← isTrue c env (eval c env)
        if ok then rest acc env (again (.compLoop e depth it acc env)) else again (.compLoop e depth it acc env))

def RestOk (prog : Program) (w : World) (A : Around) (rest : Value → Env → Sem PySem.Fin → Sem PySem.Fin) (acc : Value) (env : Env) (Post : Shared → Prop) (s : Shared) : Prop :=
  ∀ (k : Sem PySem.Fin) (G : PySem.Fin → Shared → Prop) (E : Value → Shared → Prop), (∀ s₄, Post s₄ → wpAny (model prog w) A k G E s₄) → wpAny (model prog w) A (rest acc env k) G E s

section
variable {prog : Program} {w : World} {A : Around} {R : Result → Shared → Prop} {s : Shared} {h₀ : Heap} {L I C D : Addr} {m : Str → Option Value} {oI : Obj} {cst dyn₀ : Led} {e : Expr} {depth : Nat}
  {scope : Scope} {cl : List (Str × Addr)} {env : Env} {x : Str}

theorem comp_core {pos : Pos} {body : Value → Sem PySem.Fin} {n : Nat} {P : Nat → Value → Prop} {fp : List Addr} {St : Nat → Heap → Prop} {oC₀ : Obj} {mc₀ : Str → Option Value} {ys₀ : List Value} {k₀ : Nat}
    (J : Nat → (Str → Option Value) → List Value → Led → Prop)
    (hT : compTurn e depth (.ref I) (.ref D) (compEnvC scope cl C env) = (do
      standAt pos
      match ← pyNext (.ref I) with
      | none => pure (.done .next)
      | some v => body v))
    (hfr : Code.isFrame (.compLoop e depth (.ref I) (.ref D) (compEnvC scope cl C env)) = false) (hq : Code.quiet (.compLoop e depth (.ref I) (.ref D) (compEnvC scope cl C env)) = true)
    (hun : A.under (.compLoop e depth (.ref I) (.ref D) (compEnvC scope cl C env)) = A)
    (W : Walks prog w A I fp [I] n P St) (hfp : ∀ b ∈ fp, b = I ∨ ∃ o, (b, o) ∈ cst) (hst₀ : St 0 s.heap) (hlive : ∀ i h, St i h → ∃ o, h.get? I = some o ∧ NoSeq o) (hIL : I ≠ L) (hI₀ : h₀.get? I = none) (hcst : Offs I C D cst) (hIC : I ≠ C) (hID : I ≠ D)
    (F : Fr h₀ L s.heap m) (N : News h₀ L s.heap ((C, oC₀) :: (D, listOf ys₀.toArray k₀) :: (dyn₀ ++ cst))) (hC₀ : LCg.NsObj oC₀ mc₀) (hd₀ : Offs I C D dyn₀) (h0 : J 0 mc₀ ys₀ dyn₀)
    (turn : ∀ i v mc oI oC ys k dyn h tk, i < n → P i v → St (i + 1) h → J i mc ys dyn → NoSeq oI → Offs I C D dyn → LCg.NsObj oC mc → Fr h₀ L h m → News h₀ L h ((I, oI) :: (C, oC) :: (D, listOf ys.toArray k) :: (dyn ++ cst)) → ∀ G : PySem.Fin → Shared → Prop, (∀ s₄, CEnd h₀ L m I oI C D cst (J (i + 1)) s s₄ → G (.again (.compLoop e depth (.ref I) (.ref D) (compEnvC scope cl C env))) s₄) →
      ∀ E, wpAny (model prog w) A (body v) G E { s with heap := h, toks := tk })
    (done : ∀ mc oC ys k dyn h tk, J n mc ys dyn → Fr h₀ L h m → News h₀ L h ((C, oC) :: (D, listOf ys.toArray k) :: (dyn ++ cst)) → LCg.NsObj oC mc → Offs I C D dyn → R (.ok .next) { s with heap := h, toks := tk }) :
    codeAny (model prog w) A (.compLoop e depth (.ref I) (.ref D) (compEnvC scope cl C env)) R s := by
  refine codeAny_loop hq (CLoop h₀ L m C D cst J n St I s) ?_ (n + 1) (CLoop.intro (tk := s.toks) (Nat.zero_le n) hst₀ F N hC₀ hd₀ h0)
  intro k s' hcl
  obtain @⟨h', tk, i, oC, mc, ys, kk, dyn, hi, hst', F', N', hoC, hoff, hJ⟩ := hcl
  have hden : (model prog w).den (.compLoop e depth (.ref I) (.ref D) (compEnvC scope cl C env)) = (compTurn e depth (.ref I) (.ref D) (compEnvC scope cl C env)).onRaise (fun x => do noteFrame x (compEnvC scope cl C env); theTreesLotGoes x) := by
    show (if Code.isFrame (.compLoop e depth (.ref I) (.ref D) (compEnvC scope cl C env)) then _ else _) = _
    rw [hfr]; rfl
  rw [hden, hun]
  refine wpAny_noted ?_
  rw [hT]
  refine wpAny_bind (wpAny_standAt (wpAny_bind ?_))
  have offN : ∀ p ∈ (C, oC) :: (D, listOf ys.toArray kk) :: (dyn ++ cst), p.1 ≠ I := List.forall_mem_cons.mpr ⟨hIC.symm, List.forall_mem_cons.mpr ⟨hID.symm, List.forall_mem_append.mpr ⟨fun p hp => (hoff p hp).1, fun p hp => (hcst p hp).1⟩⟩⟩
  by_cases hlt : i < n
  · refine W.item i _ _ _ hlt hst' fun v h₂ tk₂ hPv hst₂ hk₂ => ?_
    have N₂ := LCg.news_but N' hk₂ offN
    refine foldG ?_
    intro qG
    obtain ⟨oI, heI, hns⟩ := hlive _ _ hst₂
    k_unfold
    clear qG
    have N₃ : News h₀ L h₂ ((I, oI) :: (C, oC) :: (D, listOf ys.toArray kk) :: (dyn ++ cst)) := List.forall_mem_cons.mpr ⟨⟨heI, hIL, hI₀⟩, N₂⟩
    refine turn i v mc oI oC ys kk dyn h₂ tk₂ hlt hPv hst₂ hJ hns hoff hoC (LCg.fr_but F' hk₂ (Ne.symm hIL) hI₀) N₃ _ (fun s₄ hE => ⟨rfl, n + 1 - (i + 1), Nat.sub_succ_lt_self _ _ (Nat.lt_succ_of_lt hlt), ?_⟩) _
    obtain @⟨h₄, tk₄, oC₄, mc₄, ys₄, k₄, dyn₄, F₄, N₄, hoC₄, hoff₄, hJ₄⟩ := hE
    refine CLoop.intro hlt (W.frame _ _ _ hst₂ fun b hb o e => ?_) F₄ (fun p hp => N₄ p (.tail _ hp)) hoC₄ hoff₄ hJ₄
    rcases hfp b hb with rfl | ⟨o1, e1⟩
    · exact (Option.some.inj (heI.symm.trans e)) ▸ (N₄ _ (.head _)).1
    · have z1 : h₂.get? b = some o1 := (N₃ _ (.tail _ (.tail _ (.tail _ (List.mem_append_right dyn e1))))).1
      exact (Option.some.inj (z1.symm.trans e)) ▸ (N₄ _ (.tail _ (.tail _ (.tail _ (List.mem_append_right dyn₄ e1))))).1
  · obtain rfl : i = n := Nat.le_antisymm hi (Nat.not_lt.mp hlt)
    refine W.done _ _ _ hst' fun h₂ tk₂ hk₂ => wpAny_pure ?_
    exact done mc oC ys kk dyn h₂ tk₂ hJ (LCg.fr_but F' hk₂ (Ne.symm hIL) hI₀) (LCg.news_but N' hk₂ offN) hoC hoff
theorem comp_loop {px : Pos} {iter : Expr} {ifs : List Expr} {rest : Value → Env → Sem PySem.Fin → Sem PySem.Fin} {n : Nat} {P : Nat → Value → Prop} {oC₀ : Obj} {mc₀ : Str → Option Value} {ys₀ : List Value} {k₀ : Nat}
    (J : Nat → (Str → Option Value) → List Value → Led → Prop)
    (hT : TurnIs e depth (.Name x px) iter ifs rest) (hfr : ∀ it acc env', Code.isFrame (.compLoop e depth it acc env') = false) (hq : ∀ it acc env', Code.quiet (.compLoop e depth it acc env') = true)
    (hun : ∀ it acc env', A.under (.compLoop e depth it acc env') = A) (hx : scope.names.lookup x = some .local) (hkind : scope.kind = .function)
    (hI : IterAt prog w A cst n P I s.heap) (hIL : I ≠ L) (hI₀ : h₀.get? I = none) (hcst : Offs I C D cst) (hIC : I ≠ C) (hID : I ≠ D) (hCD : C ≠ D)
    (F : Fr h₀ L s.heap m) (N : News h₀ L s.heap ((C, oC₀) :: (D, listOf ys₀.toArray k₀) :: (dyn₀ ++ cst))) (hC₀ : LCg.NsObj oC₀ mc₀) (hd₀ : Offs I C D dyn₀) (h0 : J 0 mc₀ ys₀ dyn₀)
    (turn : ∀ i v mc oI oC ys k dyn h tk, i < n → P i v → J i mc ys dyn → NoSeq oI → Offs I C D dyn → LCg.NsObj oC (fun y => if y = x then some v else mc y) → Fr h₀ L h m → News h₀ L h ((I, oI) :: (C, oC) :: (D, listOf ys.toArray k) :: (dyn ++ cst)) →
      wpAny (model prog w) A (forIn ifs true fun c r => if r = true then do let ok ← isTrue c (compEnvC scope cl C env) (eval c (compEnvC scope cl C env)); pure (ForInStep.yield ok) else pure (ForInStep.yield r))
        (fun ok s₃ => if ok = true then RestOk prog w A rest (.ref D) (compEnvC scope cl C env) (CEnd h₀ L m I oI C D cst (J (i + 1)) s) s₃ else CEnd h₀ L m I oI C D cst (J (i + 1)) s s₃) (fun _ _ => False) { s with heap := h, toks := tk })
    (done : ∀ mc oC ys k dyn h tk, J n mc ys dyn → Fr h₀ L h m → News h₀ L h ((C, oC) :: (D, listOf ys.toArray k) :: (dyn ++ cst)) → LCg.NsObj oC mc → Offs I C D dyn → R (.ok .next) { s with heap := h, toks := tk }) :
    codeAny (model prog w) A (.compLoop e depth (.ref I) (.ref D) (compEnvC scope cl C env)) R s := by
  obtain ⟨fp, St, W, hfp, hst₀, hlive⟩ := hI
  refine comp_core (pos := iter.pos) (body := fun v => do
    letOwnedTupleGo (.Name x px) (.ref I) v
    assign (.Name x px) (compEnvC scope cl C env) v
    let mut ok := true
    for c in ifs do
      if ok then ok ← isTrue c (compEnvC scope cl C env) (eval c (compEnvC scope cl C env))
    if ok then rest (.ref D) (compEnvC scope cl C env) (again (.compLoop e depth (.ref I) (.ref D) (compEnvC scope cl C env))) else again (.compLoop e depth (.ref I) (.ref D) (compEnvC scope cl C env))) J (hT _ _ _) (hfr _ _ _) (hq _ _ _) (hun _ _ _) W hfp hst₀ hlive hIL hI₀ hcst hIC hID F N hC₀ hd₀ h0 ?_ done
  intro i v mc oI oC ys k dyn h tk hi hPv hst₂ hJ hns hoff hoC F₂ N₂ G hG E
  have hCm := N₂ _ (.tail _ (.head _))
  refine wpAny_bind (wpAny_of_eq (show letOwnedTupleGo (.Name x px) (.ref I) v = pure () from rfl) ?_)
  refine wpAny_bind (wpAny_assign_Name (wpAny_storeName_local (lookup_relabel_local hx) (hoC.ns hCm.1) (fun h₃ hn₃ hs₃ => ?_) (by simp [compEnvC, relabel, hkind])))
  have hs₃' : Heap.SameBut C h h₃ := hs₃
  refine foldG ?_
  intro qG
  obtain ⟨oC₃, heC, hoC₃⟩ := LCg.ns_obj hn₃
  k_unfold
  clear qG
  have N₃ : News h₀ L h₃ ((I, oI) :: (C, oC₃) :: (D, listOf ys.toArray k) :: (dyn ++ cst)) := by
    have keep : ∀ p ∈ (I, oI) :: (D, listOf ys.toArray k) :: (dyn ++ cst), p.1 ≠ C := List.forall_mem_cons.mpr ⟨hIC, List.forall_mem_cons.mpr ⟨hCD.symm, List.forall_mem_append.mpr ⟨fun p hp => (hoff p hp).2.1, fun p hp => (hcst p hp).2.1⟩⟩⟩
    have old : ∀ p ∈ (I, oI) :: (D, listOf ys.toArray k) :: (dyn ++ cst), h₃.get? p.1 = some p.2 ∧ p.1 ≠ L ∧ h₀.get? p.1 = none := fun p hp => by
      have z := N₂ p ((List.mem_cons.mp hp).elim (fun q => q ▸ .head _) fun q => .tail _ (.tail _ q))
      exact ⟨hs₃'.extBut _ _ (keep p hp) z.1, z.2⟩
    exact List.forall_mem_cons.mpr ⟨old _ (.head _), List.forall_mem_cons.mpr ⟨⟨heC, hCm.2⟩, fun p hp => old p (.tail _ hp)⟩⟩
  refine wpAny_bind (wpAny_mono (turn i v mc oI oC₃ ys k dyn h₃ (tk + 1) hi hPv hJ hns hoff hoC₃ (F₂.change hs₃' hCm.2.1 hCm.2.2) N₃) (fun ok s₃ h₃ => ?_) fun _ _ e => e.elim)
  cases ok with
  | false => exact wpAny_pure (hG _ (by simpa using h₃))
  | true =>
    rw [if_pos rfl] at h₃
    exact h₃ _ _ _ fun s₄ h₄ => wpAny_pure (hG _ h₄)
end
-- B10
def leafRest (elt : Expr) (acc : Value) (env : Env) (k : Sem PySem.Fin) : Sem PySem.Fin := do
  (do let _ ← call (.builtin "list.append") [acc, ← eval elt env])
  k
def nestRest (e : Expr) (iter : Expr) (acc : Value) (env : Env) (k : Sem PySem.Fin) : Sem PySem.Fin := do
  let x ← eval iter env
  standAt iter.pos
  let x ← foldedSetIterable iter env x
  let _ ← runOwn (.compStart e 1 (← holding [x] (pyIter x)) acc env) env
  k

theorem turn_leaf1 (elt target iter : Expr) (ifs : List Expr) (scope : Scope) (pos : Pos) : TurnIs (.ListComp elt [⟨target, iter, ifs, 0⟩] scope pos) 0 target iter ifs (leafRest elt) := fun _ _ _ => rfl
theorem turn_nest (elt target iter target₂ iter₂ : Expr) (ifs ifs₂ : List Expr) (scope : Scope) (pos : Pos) : TurnIs (.ListComp elt [⟨target, iter, ifs, 0⟩, ⟨target₂, iter₂, ifs₂, 0⟩] scope pos) 0 target iter ifs (nestRest (.ListComp elt [⟨target, iter, ifs, 0⟩, ⟨target₂, iter₂, ifs₂, 0⟩] scope pos) iter₂) := fun _ _ _ => rfl
theorem turn_leaf2 (elt target iter target₂ iter₂ : Expr) (ifs ifs₂ : List Expr) (scope : Scope) (pos : Pos) : TurnIs (.ListComp elt [⟨target, iter, ifs, 0⟩, ⟨target₂, iter₂, ifs₂, 0⟩] scope pos) 1 target₂ iter₂ ifs₂ (leafRest elt) := fun _ _ _ => rfl

section
variable {prog : Program} {w : World} {A : Around} {R : Result → Shared → Prop} {s s₀ : Shared} {h₀ : Heap} {L I C D : Addr} {m : Str → Option Value} {oI : Obj} {cst dyn₀ news : Led} {e : Expr} {depth : Nat}
  {scope : Scope} {cl : List (Str × Addr)} {env : Env} {x : Str} {E : Value → Shared → Prop} {J : (Str → Option Value) → List Value → Led → Prop}

theorem rest_leaf {elt : Expr} (hcst : Offs I C D cst) (hIC : I ≠ C) (hID : I ≠ D) (hCD : C ≠ D) (h : wpAny (model prog w) A (eval elt env) (CElt h₀ L m I oI C D cst J s₀) (fun _ _ => False) s) :
    RestOk prog w A (leafRest elt) (.ref D) env (CEnd h₀ L m I oI C D cst J s₀) s := by
  intro kk G E' hk
  unfold leafRest
  refine wpAny_bind (wpAny_bind (wpAny_mono h (fun y s₄ h₄ => ?_) fun _ _ e => e.elim))
  first | (refine foldG ?_; intro qG; obtain @⟨h₄, tk₄, oC, mc, ys, k, dyn, F₄, N₄, hoC, ho, hz, hJ⟩ := h₄; k_unfold; clear qG) | obtain @⟨h₄, tk₄, oC, mc, ys, k, dyn, F₄, N₄, hoC, ho, hz, hJ⟩ := h₄
  refine wpAny_bind (app_O F₄ N₄ (rest := (I, oI) :: (C, oC) :: (dyn ++ cst)) (.tail hID (.tail hCD (.head (List.forall_mem_append.mpr ⟨fun q hq => (ho q hq).2.2, fun q hq => (hcst q hq).2.2⟩)))) hz fun h' F' N' => wpAny_pure (hk _ (CEnd.intro (k := k + 1) F' (List.forall_mem_cons.mpr ⟨N' _ (.tail _ (.head _)), List.forall_mem_cons.mpr ⟨N' _ (.tail _ (.tail _ (.head _))), List.forall_mem_cons.mpr ⟨N' _ (.head _), fun p hp => N' p (.tail _ (.tail _ (.tail _ hp)))⟩⟩⟩) hoC ho hJ)))

theorem rest_nest {iter : Expr} {G : Shared → Prop} (hs : ∀ x, foldedSetIterable iter env x = pure x) (h : wpAny (model prog w) A (eval iter env) (fun xv s₁ => wpAny (model prog w) A (pyIter xv) (fun it s₂ =>
      codeAny (model prog w) A (.compStart e 1 it (.ref D) env) (fun r s₃ => r = .ok .next ∧ G s₃) s₂) (fun _ _ => False) s₁) (fun _ _ => False) s) :
    RestOk prog w A (nestRest e iter) (.ref D) env G s := by
  intro kk G' E' hk
  unfold nestRest
  refine wpAny_bind (wpAny_mono h (fun xv s₁ h₁ => wpAny_bind (wpAny_standAt (wpAny_bind (wpAny_of_eq (hs xv) (wpAny_bind (wpAny_holding (wpAny_mono h₁ (fun it s₂ h₂ => ?_) fun _ _ e => e.elim)))))))  fun _ _ e => e.elim)
  refine wpAny_bind (wpAny_runOwn (codeAny_mono h₂ fun r s₃ h₃ => ?_))
  first | (refine foldG ?_; intro qG; obtain ⟨rfl, h₃⟩ := h₃; k_unfold; clear qG) | obtain ⟨rfl, h₃⟩ := h₃
  exact hk _ h₃

theorem start_K {elt : Expr} {gens : List Comprehension} {pos : Pos} {target iter : Expr} {ifs : List Expr} {n : Nat} {P : Nat → Value → Prop} {acc : Value}
    (hg : gens[depth]? = some ⟨target, iter, ifs, 0⟩) (hI : IterAt prog w A cst n P I s.heap)
    (hun : A.under (.compStart (.ListComp elt gens scope pos) depth (.ref I) acc env) = A)
    (h : codeAny (model prog w) A (.compLoop (.ListComp elt gens scope pos) depth (.ref I) acc env) R s) :
    codeAny (model prog w) A (.compStart (.ListComp elt gens scope pos) depth (.ref I) acc env) R s := by
  first | (refine foldG ?_; intro qG; obtain ⟨fp, St, W, hfp, hst₀, hlive⟩ := hI; k_unfold; clear qG) | obtain ⟨fp, St, W, hfp, hst₀, hlive⟩ := hI
  refine codeAny_of_tree ?_
  show wpAny _ _ ((compStart (.ListComp elt gens scope pos) depth (.ref I) acc env).onRaise (fun x => do noteFrame x env; standAt theWindowsPlace)) _ _ s
  rw [hun]
  refine wpAny_notedAt ?_
  unfold compStart
  rw [show clausesOf (.ListComp elt gens scope pos) = gens from rfl, hg]
  show wpAny _ _ (ask >>= _) _ _ s
  refine wpAny_bind (wpAny_askSetting (wpAny_ite ?_))
  split
  · first
      | exact wpAny_bind (wpAny_pure (wpAny_pure (And.intro rfl h)))
      | exact wpAny_pure (And.intro rfl h)
  · refine wpAny_bind (wpAny_rule ?_)
    show wpAny _ _ (standAt iter.pos >>= _) _ _ s
    exact wpAny_bind (wpAny_standAt (wpAny_bind (W.self 0 _ _ _ hst₀ (wpAny_pure (And.intro rfl h)))))

theorem IterAt.grow {n : Nat} {P : Nat → Value → Prop} {h h' : Heap} (hI : IterAt prog w A cst n P I h) (hk : ∀ b o, h.get? b = some o → h'.get? b = some o) : IterAt prog w A cst n P I h' := by
  first | (refine foldG ?_; intro qG; obtain ⟨fp, St, W, hfp, hst₀, hlive⟩ := hI; k_unfold; clear qG) | obtain ⟨fp, St, W, hfp, hst₀, hlive⟩ := hI
  exact ⟨fp, St, W, hfp, W.frame _ _ _ hst₀ fun b _ o e => hk b o e, hlive⟩

theorem pyIter_range_K {r : Addr} {a b c : Int} {ta tb tc : Tok} {n : Nat} {G : Value → Shared → Prop} (hh : A.handled = none) (hr : IsRange s.heap r a b c ta tb tc) (hsmall : Builtin.Range.small a b c = true) (hn : Builtin.Range.rangeSize a b c = (n : Int))
    (F : Fr h₀ L s.heap m) (N : News h₀ L s.heap news)
    (h : ∀ I h₂, I ≠ L → h₀.get? I = none → (∀ p ∈ news, p.1 ≠ I) → Fr h₀ L h₂ m → News h₀ L h₂ news → (∃ o, h₂.get? I = some o) → (∀ cst, IterAt prog w A cst n (fun i v => ∃ t, v = .int (a + i * c) t) I h₂) → G (.ref I) { s with heap := h₂ }) :
    wpAny (model prog w) A (pyIter (.ref r)) G E s := by
  refine wpAny_pyIter_range hr hsmall ?_
  have hlive : ∀ i h, (fun (i : Nat) h => IsRangeIter h s.heap.objs.size (a + (i : Nat) * c) ((n : Int) - (i : Nat)) c) i h → ∃ o, h.get? s.heap.objs.size = some o ∧ NoSeq o :=
    fun i h st => ⟨_, st, by show Value.type "range_iterator" ≠ Value.type "tuple" ∧ Value.type "range_iterator" ≠ Value.type "list"; decide⟩
  exact h _ _ (Nat.ne_of_gt F.ns.lt) (next_is_new F) (fun p hp => Nat.ne_of_lt (Heap.lt_size (N p hp).1)) (F.push _) (fun p hp => ⟨Heap.get?_push_of_some _ (N p hp).1, (N p hp).2⟩)
    ⟨_, Heap.get?_push_size _ rfl⟩ fun cst => ⟨_, _, Walks.range hh s.heap.objs.size a c n, fun b hb => .inl (List.mem_singleton.mp hb), by show IsRangeIter _ _ _ _ _; rw [hn]; simpa using Heap.get?_push_size _ rfl, hlive⟩

/-- an iterator over a list at its first item -/
def IterL (prog : Program) (w : World) (A : Around) (cst : Led) (n : Nat) (P : Nat → Value → Prop) (I : Addr) (h : Heap) : Prop :=
  ∃ fp St, Walks prog w A I fp [I] n P St ∧ (∀ b ∈ fp, b = I ∨ ∃ o, (b, o) ∈ cst) ∧ St 0 h ∧ (∀ i h, St i h → ∃ o, h.get? I = some o ∧ NoSeq o) ∧ (∀ i h, St i h → ∃ l j, h.IsListIter I l j)
theorem IterL.toAt {n : Nat} {P : Nat → Value → Prop} {h : Heap} (x : IterL prog w A cst n P I h) : IterAt prog w A cst n P I h := by
  first | (refine foldG ?_; intro qG; obtain ⟨fp, St, a, b, c, d, -⟩ := x; k_unfold; clear qG) | obtain ⟨fp, St, a, b, c, d, -⟩ := x
  exact ⟨fp, St, a, b, c, d⟩
theorem IterL.grow {n : Nat} {P : Nat → Value → Prop} {h h' : Heap} (hI : IterL prog w A cst n P I h) (hk : ∀ b o, h.get? b = some o → h'.get? b = some o) : IterL prog w A cst n P I h' := by
  first | (refine foldG ?_; intro qG; obtain ⟨fp, St, W, hfp, hst₀, hlive⟩ := hI; k_unfold; clear qG) | obtain ⟨fp, St, W, hfp, hst₀, hlive⟩ := hI
  exact ⟨fp, St, W, hfp, W.frame _ _ _ hst₀ fun b _ o e => hk b o e, hlive⟩
theorem IterAt.mono {n : Nat} {P : Nat → Value → Prop} {h : Heap} {cst' : Led} (hI : IterAt prog w A cst n P I h) (hc : ∀ q ∈ cst, q ∈ cst') : IterAt prog w A cst' n P I h := by
  first | (refine foldG ?_; intro qG; obtain ⟨fp, St, W, hfp, hst₀, hlive⟩ := hI; k_unfold; clear qG) | obtain ⟨fp, St, W, hfp, hst₀, hlive⟩ := hI
  exact ⟨fp, St, W, fun b hb => (hfp b hb).imp id fun ⟨o, e⟩ => ⟨o, hc _ e⟩, hst₀, hlive⟩

theorem pyIter_list_K {l : Addr} {vs : List Value} {k : Nat} {G : Value → Shared → Prop} (hh : A.handled = none) (hl : (l, listOf vs.toArray k) ∈ news)
    (F : Fr h₀ L s.heap m) (N : News h₀ L s.heap news)
    (h : ∀ I h₂, I ≠ L → h₀.get? I = none → (∀ p ∈ news, p.1 ≠ I) → Fr h₀ L h₂ m → News h₀ L h₂ news → (∃ o, h₂.get? I = some o) → (∀ cst, (l, listOf vs.toArray k) ∈ cst → IterL prog w A cst vs.length (fun i v => vs[i]? = some v) I h₂) → G (.ref I) { s with heap := h₂ }) :
    wpAny (model prog w) A (pyIter (.ref l)) G E s := by
  have hls : s.heap.IsList l vs.toArray := N.isList hl
  have hlt : l < s.heap.objs.size := Heap.lt_size (N _ hl).1
  refine wpAny_pyIter_list hls ?_
  have W := Walks.list (prog := prog) (w := w) hh s.heap.objs.size l (Nat.ne_of_lt hlt) vs.toArray
  have hz : vs.toArray.size = vs.length := by simp
  rw [hz] at W
  refine h _ _ (Nat.ne_of_gt F.ns.lt) (next_is_new F) (fun p hp => Nat.ne_of_lt (Heap.lt_size (N p hp).1)) (F.push _) (fun p hp => ⟨Heap.get?_push_of_some _ (N p hp).1, (N p hp).2⟩)
    ⟨_, Heap.get?_push_size _ rfl⟩ fun cst hc => ⟨_, _, { W with item := fun i s Q E hi st hQ => W.item i s Q E hi st fun v h' tk hP => hQ v h' tk (by simpa using hP) }, fun b hb => ?_, ⟨⟨_, Heap.get?_push_size _ rfl, rfl, rfl⟩, hls.at fun o e => Heap.get?_push_of_some _ e⟩, fun i h st => ?_, fun i h st => ?_⟩
  · rcases List.mem_cons.mp hb with e | hb
    · exact .inl e
    · rw [List.mem_singleton.mp hb]; exact .inr ⟨_, hc⟩
  · first | (refine foldG ?_; intro qG; obtain ⟨⟨o, e, e2, _⟩, _⟩ := st; exact ⟨o, e, by rw [NoSeq, e2]; decide⟩; k_unfold; clear qG) | obtain ⟨⟨o, e, e2, _⟩, _⟩ := st; exact ⟨o, e, by rw [NoSeq, e2]; decide⟩
  · exact ⟨_, _, st.1⟩

def LoopR (h₀ : Heap) (L : Addr) (m : Str → Option Value) (C D : Addr) (Q : Value → Shared → Prop) (r : Result) (s : Shared) : Prop :=
  r = .ok .next ∧ ∃ (oC : Obj) (mc : Str → Option Value) (ys : List Value) (k : Nat) (news : Led), Fr h₀ L s.heap m ∧ News h₀ L s.heap ((C, oC) :: (D, listOf ys.toArray k) :: news) ∧ LCg.NsObj oC mc ∧ C ≠ D ∧ (∀ p ∈ news, p.1 ≠ C) ∧
    ∀ h', Fr h₀ L h' m → News h₀ L h' ((D, listOf ys.toArray k) :: news) → Q (.ref D) { s with heap := h' }

def CompIn (prog : Program) (w : World) (A : Around) (h₀ : Heap) (L : Addr) (m : Str → Option Value) (e : Expr) (scope : Scope) (cl : List (Str × Addr)) (env : Env) (Q : Value → Shared → Prop) (it : Value) (s₂ : Shared) : Prop :=
  ∃ I cst, ∃ It : Heap → Prop, it = .ref I ∧ Fr h₀ L s₂.heap m ∧ News h₀ L s₂.heap cst ∧ (∃ o, s₂.heap.get? I = some o) ∧ (∀ p ∈ cst, p.1 ≠ I) ∧ It s₂.heap ∧ (∀ h h', It h → (∀ b o, h.get? b = some o → h'.get? b = some o) → It h') ∧
    ∀ C D oC h tk, I ≠ C → I ≠ D → C ≠ D → Offs I C D cst → Fr h₀ L h m → News h₀ L h ((C, oC) :: (D, listOf [].toArray 0) :: cst) → (∃ mc, LCg.NsObj oC mc) → It h →
      codeAny (model prog w) A (.compStart e 0 (.ref I) (.ref D) (compEnvC scope cl C env)) (LoopR h₀ L m C D Q) { s₂ with heap := h, toks := tk }

theorem CompIn.ofAt {cst : Led} {n : Nat} {P : Nat → Value → Prop} {Q : Value → Shared → Prop} (F : Fr h₀ L s.heap m) (N : News h₀ L s.heap cst) (hI : ∃ o, s.heap.get? I = some o) (hc : ∀ p ∈ cst, p.1 ≠ I) (hIt : IterAt prog w A cst n P I s.heap)
    (h : ∀ C D oC h tk, I ≠ C → I ≠ D → C ≠ D → Offs I C D cst → Fr h₀ L h m → News h₀ L h ((C, oC) :: (D, listOf [].toArray 0) :: cst) → (∃ mc, LCg.NsObj oC mc) → IterAt prog w A cst n P I h →
      codeAny (model prog w) A (.compStart e 0 (.ref I) (.ref D) (compEnvC scope cl C env)) (LoopR h₀ L m C D Q) { s with heap := h, toks := tk }) : CompIn prog w A h₀ L m e scope cl env Q (.ref I) s :=
  ⟨I, cst, _, rfl, F, N, hI, hc, hIt, fun _ _ => IterAt.grow, h⟩
theorem CompIn.ofL {cst : Led} {n : Nat} {P : Nat → Value → Prop} {Q : Value → Shared → Prop} (F : Fr h₀ L s.heap m) (N : News h₀ L s.heap cst) (hI : ∃ o, s.heap.get? I = some o) (hc : ∀ p ∈ cst, p.1 ≠ I) (hIt : IterL prog w A cst n P I s.heap)
    (h : ∀ C D oC h tk, I ≠ C → I ≠ D → C ≠ D → Offs I C D cst → Fr h₀ L h m → News h₀ L h ((C, oC) :: (D, listOf [].toArray 0) :: cst) → (∃ mc, LCg.NsObj oC mc) → IterL prog w A cst n P I h →
      codeAny (model prog w) A (.compStart e 0 (.ref I) (.ref D) (compEnvC scope cl C env)) (LoopR h₀ L m C D Q) { s with heap := h, toks := tk }) : CompIn prog w A h₀ L m e scope cl env Q (.ref I) s :=
  ⟨I, cst, _, rfl, F, N, hI, hc, hIt, fun _ _ => IterL.grow, h⟩
theorem ListComp_K {elt iter : Expr} {target : Expr} {ifs : List Expr} {gs : List Comprehension} {pos : Pos} {Q : Value → Shared → Prop}
    (F₀ : Fr h₀ L s.heap m) (hclos : closureFor scope env = pure cl) (hcell : ∀ y ∈ scope.names, y.2 ≠ .cell) (hkind : scope.kind = .function)
    (hnames : ∀ y ∈ scope.names, y.2 = .local → scope.names.lookup y.1 = some .local)
    (hs : ∀ x, foldedSetIterable iter env x = pure x)
    (h : wpAny (model prog w) A (eval iter env) (fun xv s₁ => wpAny (model prog w) A (pyIter xv) (CompIn prog w A h₀ L m (.ListComp elt (⟨target, iter, ifs, 0⟩ :: gs) scope pos) scope cl env Q) E s₁) E s) :
    wpAny (model prog w) A (eval (.ListComp elt (⟨target, iter, ifs, 0⟩ :: gs) scope pos) env) Q E s := by
  rw [eval_ListComp]
  refine wpAny_comprehension_free (use := none) rfl hs hclos hkind hnames (wpAny_mono h (fun xv s₁ h₁ => wpAny_mono h₁ (fun it s₂ h₂ => ?_) fun _ _ e => e) fun _ _ e => e)
  first | (refine foldG ?_; intro qG; obtain ⟨I, cst, It, rfl, F, N, ⟨oI, hoI⟩, hcI, hIt, hgrow, hbody⟩ := h₂; k_unfold; clear qG) | obtain ⟨I, cst, It, rfl, F, N, ⟨oI, hoI⟩, hcI, hIt, hgrow, hbody⟩ := h₂
  refine wpAny_newObj_type (wpAny_newFunctionEnv hcell (by intro y hy; simp at hy) (fun h₁ hns₁ hsb₁ => ?_) hkind)
  dsimp only at hns₁ hsb₁ ⊢
  generalize hH2 : s₂.heap.push { cls := .type "list", dict := none, data := .seq ([] : List Value).toArray } = H2 at hns₁ hsb₁ ⊢
  have hC : H2.objs.size = s₂.heap.objs.size + 1 := by rw [← hH2, Heap.size_push]
  have hDC : s₂.heap.objs.size ≠ H2.objs.size := by rw [hC]; exact Nat.ne_of_lt (Nat.lt_succ_self _)
  have below : ∀ b, b < s₂.heap.objs.size → b ≠ H2.objs.size ∧ b ≠ s₂.heap.objs.size := fun b hb => ⟨by rw [hC]; exact Nat.ne_of_lt (Nat.lt_succ_of_lt hb), Nat.ne_of_lt hb⟩
  have old : ∀ b o, s₂.heap.get? b = some o → h₁.get? b = some o := fun b o e => hsb₁.extBut b o (below b (Heap.lt_size e)).1 (Heap.get?_push_of_some _ (hH2 ▸ Heap.get?_push_of_some _ e))
  have hacc : h₁.get? s₂.heap.objs.size = some (listOf ([] : List Value).toArray 0) := hsb₁.extBut _ _ hDC (Heap.get?_push_of_some _ (hH2 ▸ Heap.get?_push_size _ rfl))
  have fresh₀ : ∀ a, s₂.heap.objs.size ≤ a → h₀.get? a = none := fun a ha => by
    cases e : h₀.get? a with
    | none => rfl
    | some o' => exact absurd (Heap.lt_size (F.keep a o' e)) (Nat.not_lt.mpr ha)
  have hLlt : L < s₂.heap.objs.size := F.ns.lt
  have hDL : s₂.heap.objs.size ≠ L := Ne.symm (below L hLlt).2
  have hCL : H2.objs.size ≠ L := Ne.symm (below L hLlt).1
  have hIlt := Heap.lt_size hoI
  have hC₀ : h₀.get? H2.objs.size = none := fresh₀ _ (by rw [hC]; exact Nat.le_succ _)
  have hD₀ : h₀.get? s₂.heap.objs.size = none := fresh₀ _ (Nat.le_refl _)
  first | (refine foldG ?_; intro qG; obtain ⟨oC, heC, hoC⟩ := LCg.ns_obj hns₁; k_unfold; clear qG) | obtain ⟨oC, heC, hoC⟩ := LCg.ns_obj hns₁
  have R := hbody H2.objs.size s₂.heap.objs.size oC h₁ (s₂.toks + ([] : List (Str × Value)).length) (below I hIlt).1 (below I hIlt).2 (Ne.symm hDC) (fun p hp => ⟨hcI p hp, (below _ (Heap.lt_size (N p hp).1)).1, (below _ (Heap.lt_size (N p hp).1)).2⟩)
    (F.keeps old) (fun p hp => by
      rcases List.mem_cons.mp hp with rfl | hp
      · exact ⟨heC, hCL, hC₀⟩
      · rcases List.mem_cons.mp hp with rfl | hp
        · exact ⟨hacc, hDL, hD₀⟩
        · exact ⟨old _ _ (N p hp).1, (N p hp).2⟩) ⟨_, hoC⟩ (hgrow _ _ hIt old)
  refine codeAny_mono R fun r s' hr => ?_
  first | (refine foldG ?_; intro qG; obtain ⟨rfl, oC', mc', ys, k, news', F', N', hoC', hCD', hoff, fin⟩ := hr; k_unfold; clear qG) | obtain ⟨rfl, oC', mc', ys, k, news', F', N', hoC', hCD', hoff, fin⟩ := hr
  refine ⟨mc', hoC'.ns (N' _ (.head _)).1, fun h'' hs'' => fin h'' (F'.change hs'' hCL hC₀) fun p hp => ⟨hs''.extBut _ _ ?_ (N' p (.tail _ hp)).1, (N' p (.tail _ hp)).2⟩⟩
  rcases List.mem_cons.mp hp with rfl | hp
  · exact hCD'.symm
  · exact hoff p hp
theorem comp_leaf0 {px : Pos} {iter : Expr} {elt : Expr} {n : Nat} {P : Nat → Value → Prop} {oC₀ : Obj} {mc₀ : Str → Option Value} {ys₀ : List Value} {k₀ : Nat}
    (J : Nat → (Str → Option Value) → List Value → Led → Prop)
    (hT : TurnIs e depth (.Name x px) iter [] (leafRest elt)) (hfr : ∀ it acc env', Code.isFrame (.compLoop e depth it acc env') = false) (hq : ∀ it acc env', Code.quiet (.compLoop e depth it acc env') = true)
    (hun : ∀ it acc env', A.under (.compLoop e depth it acc env') = A) (hx : scope.names.lookup x = some .local) (hkind : scope.kind = .function)
    (hI : IterAt prog w A cst n P I s.heap) (hIL : I ≠ L) (hI₀ : h₀.get? I = none) (hcst : Offs I C D cst) (hIC : I ≠ C) (hID : I ≠ D) (hCD : C ≠ D)
    (F : Fr h₀ L s.heap m) (N : News h₀ L s.heap ((C, oC₀) :: (D, listOf ys₀.toArray k₀) :: (dyn₀ ++ cst))) (hC₀ : LCg.NsObj oC₀ mc₀) (hd₀ : Offs I C D dyn₀) (h0 : J 0 mc₀ ys₀ dyn₀)
    (turn : ∀ i v mc oI oC ys k dyn h tk, i < n → P i v → J i mc ys dyn → NoSeq oI → Offs I C D dyn → LCg.NsObj oC (fun y => if y = x then some v else mc y) → Fr h₀ L h m → News h₀ L h ((I, oI) :: (C, oC) :: (D, listOf ys.toArray k) :: (dyn ++ cst)) →
      wpAny (model prog w) A (eval elt (compEnvC scope cl C env)) (CElt h₀ L m I oI C D cst (J (i + 1)) s) (fun _ _ => False) { s with heap := h, toks := tk })
    (done : ∀ mc oC ys k dyn h tk, J n mc ys dyn → Fr h₀ L h m → News h₀ L h ((C, oC) :: (D, listOf ys.toArray k) :: (dyn ++ cst)) → LCg.NsObj oC mc → Offs I C D dyn → R (.ok .next) { s with heap := h, toks := tk }) :
    codeAny (model prog w) A (.compLoop e depth (.ref I) (.ref D) (compEnvC scope cl C env)) R s :=
  comp_loop J hT hfr hq hun hx hkind hI hIL hI₀ hcst hIC hID hCD F N hC₀ hd₀ h0 (fun i v mc oI oC ys k dyn h tk a b c d e f g hh => wpAny_tests_nil (by
    rw [if_pos rfl]
    exact rest_leaf hcst hIC hID hCD (turn i v mc oI oC ys k dyn h tk a b c d e f g hh))) done
theorem comp_leafT {px : Pos} {iter : Expr} {elt c : Expr} {n : Nat} {P : Nat → Value → Prop} {oC₀ : Obj} {mc₀ : Str → Option Value} {ys₀ : List Value} {k₀ : Nat}
    (J : Nat → (Str → Option Value) → List Value → Led → Prop)
    (hT : TurnIs e depth (.Name x px) iter [c] (leafRest elt)) (hfr : ∀ it acc env', Code.isFrame (.compLoop e depth it acc env') = false) (hq : ∀ it acc env', Code.quiet (.compLoop e depth it acc env') = true)
    (hun : ∀ it acc env', A.under (.compLoop e depth it acc env') = A) (hx : scope.names.lookup x = some .local) (hkind : scope.kind = .function)
    (hI : IterAt prog w A cst n P I s.heap) (hIL : I ≠ L) (hI₀ : h₀.get? I = none) (hcst : Offs I C D cst) (hIC : I ≠ C) (hID : I ≠ D) (hCD : C ≠ D)
    (F : Fr h₀ L s.heap m) (N : News h₀ L s.heap ((C, oC₀) :: (D, listOf ys₀.toArray k₀) :: (dyn₀ ++ cst))) (hC₀ : LCg.NsObj oC₀ mc₀) (hd₀ : Offs I C D dyn₀) (h0 : J 0 mc₀ ys₀ dyn₀)
    (turn : ∀ i v mc oI oC ys k dyn h tk, i < n → P i v → J i mc ys dyn → NoSeq oI → Offs I C D dyn → LCg.NsObj oC (fun y => if y = x then some v else mc y) → Fr h₀ L h m → News h₀ L h ((I, oI) :: (C, oC) :: (D, listOf ys.toArray k) :: (dyn ++ cst)) →
      wpAny (model prog w) A (isTrue c (compEnvC scope cl C env) (eval c (compEnvC scope cl C env))) (fun ok s₃ => if ok = true then wpAny (model prog w) A (eval elt (compEnvC scope cl C env)) (CElt h₀ L m I oI C D cst (J (i + 1)) s) (fun _ _ => False) s₃ else CEnd h₀ L m I oI C D cst (J (i + 1)) s s₃) (fun _ _ => False) { s with heap := h, toks := tk })
    (done : ∀ mc oC ys k dyn h tk, J n mc ys dyn → Fr h₀ L h m → News h₀ L h ((C, oC) :: (D, listOf ys.toArray k) :: (dyn ++ cst)) → LCg.NsObj oC mc → Offs I C D dyn → R (.ok .next) { s with heap := h, toks := tk }) :
    codeAny (model prog w) A (.compLoop e depth (.ref I) (.ref D) (compEnvC scope cl C env)) R s :=
  comp_loop J hT hfr hq hun hx hkind hI hIL hI₀ hcst hIC hID hCD F N hC₀ hd₀ h0 (fun i v mc oI oC ys k dyn h tk a b c d e f g hh => wpAny_tests_one (wpAny_mono (turn i v mc oI oC ys k dyn h tk a b c d e f g hh) (fun ok s₃ h₃ => by
    cases ok with
    | false => exact h₃
    | true => exact rest_leaf hcst hIC hID hCD h₃) fun _ _ e => e)) done
theorem comp_nest0 {px : Pos} {iter : Expr} {iter₂ : Expr} {n : Nat} {P : Nat → Value → Prop} {oC₀ : Obj} {mc₀ : Str → Option Value} {ys₀ : List Value} {k₀ : Nat}
    (J : Nat → (Str → Option Value) → List Value → Led → Prop)
    (hT : TurnIs e depth (.Name x px) iter [] (nestRest e iter₂)) (hfr : ∀ it acc env', Code.isFrame (.compLoop e depth it acc env') = false) (hq : ∀ it acc env', Code.quiet (.compLoop e depth it acc env') = true)
    (hun : ∀ it acc env', A.under (.compLoop e depth it acc env') = A) (hx : scope.names.lookup x = some .local) (hkind : scope.kind = .function) (hs : ∀ x, foldedSetIterable iter₂ (compEnvC scope cl C env) x = pure x)
    (hI : IterAt prog w A cst n P I s.heap) (hIL : I ≠ L) (hI₀ : h₀.get? I = none) (hcst : Offs I C D cst) (hIC : I ≠ C) (hID : I ≠ D) (hCD : C ≠ D)
    (F : Fr h₀ L s.heap m) (N : News h₀ L s.heap ((C, oC₀) :: (D, listOf ys₀.toArray k₀) :: (dyn₀ ++ cst))) (hC₀ : LCg.NsObj oC₀ mc₀) (hd₀ : Offs I C D dyn₀) (h0 : J 0 mc₀ ys₀ dyn₀)
    (turn : ∀ i v mc oI oC ys k dyn h tk, i < n → P i v → J i mc ys dyn → NoSeq oI → Offs I C D dyn → LCg.NsObj oC (fun y => if y = x then some v else mc y) → Fr h₀ L h m → News h₀ L h ((I, oI) :: (C, oC) :: (D, listOf ys.toArray k) :: (dyn ++ cst)) →
      wpAny (model prog w) A (eval iter₂ (compEnvC scope cl C env)) (fun xv s₁ => wpAny (model prog w) A (pyIter xv) (fun it s₂ => codeAny (model prog w) A (.compStart e 1 it (.ref D) (compEnvC scope cl C env)) (fun r s₃ => r = .ok .next ∧ CEnd h₀ L m I oI C D cst (J (i + 1)) s s₃) s₂) (fun _ _ => False) s₁) (fun _ _ => False) { s with heap := h, toks := tk })
    (done : ∀ mc oC ys k dyn h tk, J n mc ys dyn → Fr h₀ L h m → News h₀ L h ((C, oC) :: (D, listOf ys.toArray k) :: (dyn ++ cst)) → LCg.NsObj oC mc → Offs I C D dyn → R (.ok .next) { s with heap := h, toks := tk }) :
    codeAny (model prog w) A (.compLoop e depth (.ref I) (.ref D) (compEnvC scope cl C env)) R s :=
  comp_loop J hT hfr hq hun hx hkind hI hIL hI₀ hcst hIC hID hCD F N hC₀ hd₀ h0 (fun i v mc oI oC ys k dyn h tk a b c d e f g hh => wpAny_tests_nil (by
    rw [if_pos rfl]
    exact rest_nest hs (turn i v mc oI oC ys k dyn h tk a b c d e f g hh))) done
end
-- B11
section
section
variable {w : World} {p : Program} {loose : List Str} {mean : ExcName → Option Value} {mg mb : Str → Option Value}
  {dp un : Nat} {gd : Option (List Code)} {cn : Str} {cs : Scope} {a : Addr} {ccd : Value} {cl : List (Str × Addr)} {outer : List Env} {A₀ : Around} {base h₀ : Heap} {L : Addr} {m : Str → Option Value} {news : Led} {s : Shared} {Q E : Value → Shared → Prop}
local macro_rules | `(tactic| ktr_enter) => `(tactic| (refine' code_defC ?k1 ?k2 ?k3 ?k4 ?k5 ?kA ?kF ?kK ?k6 ?k7 ?k8 ?k9 ?kB ?kD ?_ ?c2 ?c3 ?c4; (case kA => exact rfl); (case kF => exact rfl); (case kK => assumption); (case k1 => k_asm); (case k2 => k_asm); (case k3 => k_asm); (case k4 => k_asm); (case k5 => k_asm); (case k6 => k_is); (case k7 => k_is); (case k8 => ktr_room); (case k9 => exact BindsTo.of_eq rfl); (case kB => exact rfl); (case kD => decide +kernel); (case c2 => exact rfl); (case c3 => exact rfl); (case c4 => exact rfl); k_whole; intro g' L' h' tk' cells' FG' F' N' Y' B' X' T' l1; (try k_lt l1); k_cells Y'; (try simp only [List.cons_append, List.nil_append] at N'); (try dsimp only); (try k_fold)))

theorem rangeSize_one (x : Int) (n : Int) (h : 0 ≤ n) : Builtin.Range.rangeSize x (x + n) 1 = (n.toNat : Int) := by
  unfold Builtin.Range.rangeSize
  rw [if_pos (by decide)]
  split
  · rw [Int.ediv_one]; omega
  · omega
def dotRow (x : Int) (y : Int) (n : Nat) : List (List Int) := (List.range n).map fun (i : Nat) => [x + (i : Int) * 1, y]
def dotsOf (x y : Int) (wd ht : Nat) : List (List Int) := (List.range ht).flatMap fun (j : Nat) => dotRow x (y + (j : Int) * 1) wd
theorem dotRow_succ (x y : Int) (n : Nat) : dotRow x y (n + 1) = dotRow x y n ++ [[x + (n : Int) * 1, y]] := by simp [dotRow, List.range_succ]
theorem dotsOf_succ (x y : Int) (wd ht : Nat) : dotsOf x y wd (ht + 1) = dotsOf x y wd ht ++ dotRow x (y + (ht : Int) * 1) wd := by simp [dotsOf, List.range_succ]

local macro_rules | `(tactic| walk_at "eval ListComp") => `(tactic| refine halt ?_)
local macro_rules | `(tactic| walk_at "pyIter ref") => `(tactic| refine halt ?_)
theorem dots_KF {t : Addr} {x y wd ht : Int} {t1 t2 t3 t4 : Tok} {n : Nat}
  (B : Below A₀ base outer h₀) (F : Fr h₀ L s.heap m) (X : (hd.heap_39 w.params).In h₀) (N : News h₀ L s.heap news) (T : Top p loose mean mg mb h₀) (hk : cs.kind = .function)
  (hm : (t, tupO [.int x t1, .int y t2, .int wd t3, .int ht t4] n) ∈ news)
  (hx : -1000 ≤ x ∧ x ≤ 1000) (hy : -1000 ≤ y ∧ y ≤ 1000) (hw : 0 ≤ wd ∧ wd ≤ 20) (hh : 0 ≤ ht ∧ ht ≤ 20)
  (hd : dp + 1 < recursionLimit) (hu : un + 20 < cLine)
  (h : ∀ l vs n tl h' tk', AllTup tl → ITups tl vs (dotsOf x y wd.toNat ht.toNat) → (∀ q ∈ news, q.1 ≠ l) → Fr h₀ L h' m → News h₀ L h' ((l, listOf vs.toArray n) :: (tl ++ news)) → Q (.ref l) {s with heap := h', toks := tk'}) :
  wpAny (model PRG w) (ktrTop dp un gd cn cs L a ccd cl outer) (call (.ref 126) [.ref t]) Q E s := by
  refine wpAny_call ?_
  k_dflt ktr_enter
  rename_i g L' h' tk' FG' F' B' X' T' l1 o' d1' N'
  have d1 : o'.data = .cell (some (.ref t)) := d1'
  clear d1'
  k_steps
  refine Halt.out ?_
  (with_unfolding_all refine' ListComp_K (by assumption) ?hclos ?hcell ?hkind ?hnames ?hs ?_)
  case hclos => exact rfl
  case hcell => decide
  case hkind => rfl
  case hnames => decide
  case hs => intro _; rfl
  k_steps
  rename IsRange _ _ _ _ _ _ _ _ => R1
  rename Fr _ L' _ _ => F1
  rename News _ L' _ _ => N1
  refine Halt.out ?_
  refine pyIter_range_K (n := ht.toNat) rfl R1 (small_any (by omega) (by omega) (by omega) (by omega) (by omega) (by omega)) (rangeSize_one _ _ hh.1) F1 N1 ?_
  intro I h2 hIL hI0 hIa F2 N2 heI hIt
  refine CompIn.ofAt F2 N2 heI hIa (hIt _) ?_
  intro C D oC h3 tk3 hIC hID hCD hoff F3 N3 hoC hIt3
  first | (refine foldG ?_; intro qG; obtain ⟨mc0, hoC⟩ := hoC; k_unfold; clear qG) | obtain ⟨mc0, hoC⟩ := hoC
  refine start_K (depth := 0) rfl hIt3 rfl ?_
  refine' comp_nest0 (dyn₀ := []) (fun i mc ys dyn => AllTup dyn ∧ ITups dyn ys (dotsOf x y wd.toNat i) ∧ ys.length ≤ i * 20) (turn_nest _ _ _ _ _ _ _ _ _) (fun _ _ _ => rfl) (fun _ _ _ => rfl) (fun _ _ _ => rfl) rfl rfl (fun _ => rfl) hIt3 hIL hI0 hoff hIC hID hCD F3 N3 hoC (fun _ h => nomatch h) ⟨AllTup.nil, ITups.nil, Nat.zero_le _⟩ ?turn ?done
  case done =>
    intro mc oC ys k dyn h9 tk hP0 F4 N4 hoC4 ho4
    first | (refine foldG ?_; intro qG; obtain ⟨J1, J2, J3⟩ := hP0; k_unfold; clear qG) | obtain ⟨J1, J2, J3⟩ := hP0
    refine ⟨rfl, oC, mc, ys, k, dyn ++ (L' + 1, o') :: news, F4, N4, hoC4, hCD, ?_, ?_⟩
    · intro p hp
      rcases List.mem_append.mp hp with hp | hp
      · exact (ho4 p hp).2.1
      · exact (hoff p hp).2.1
    · intro h5 F5 N5
      k_steps
      rename Fr h₀ _ _ _ => F6
      rename News h₀ _ _ _ => N6
      exact h _ _ _ _ _ _ J1 J2 (fun q hq => (hoff q (by k_mem)).2.2) F6 (newsSub N6 (by k_sub))
  case turn =>
    intro i v mc oI oC ys k dyn h4 tk4 hi hP0 hP1 hns hoff4 hoC4 F4 N4
    first | (refine foldG ?_; intro qG; obtain ⟨ty, rfl⟩ := hP0; k_unfold; clear qG) | obtain ⟨ty, rfl⟩ := hP0
    first | (refine foldG ?_; intro qG; obtain ⟨J1, J2, J3⟩ := hP1; k_unfold; clear qG) | obtain ⟨J1, J2, J3⟩ := hP1
    k_steps
    rename IsRange _ _ _ _ _ _ _ _ => R5
    rename Fr _ L' _ _ => F5
    rename News _ L' _ _ => N5
    refine Halt.out ?_
    refine pyIter_range_K (n := wd.toNat) rfl R5 (small_any (by omega) (by omega) (by omega) (by omega) (by omega) (by omega)) (rangeSize_one _ _ hw.1) F5 N5 ?_
    intro I2 h6 hIL2 hI02 hIa2 F6 N6 heI2 hIt2
    have hI2a : ∀ p ∈ dyn, p.1 ≠ I2 := fun p hp => hIa2 p (.tail _ (.tail _ (.tail _ (List.mem_append_left _ hp))))
    have hI2b : ∀ p ∈ (L' + 1, o') :: news, p.1 ≠ I2 := fun p hp => hIa2 p (.tail _ (.tail _ (.tail _ (List.mem_append_right _ hp))))
    have hI2I : I2 ≠ I := Ne.symm (hIa2 (I, oI) (.head _))
    have hI2C : I2 ≠ C := Ne.symm (hIa2 (C, oC) (.tail _ (.head _)))
    have hI2D : I2 ≠ D := Ne.symm (hIa2 (D, listOf ys.toArray k) (.tail _ (.tail _ (.head _))))
    first | (refine foldG ?_; intro qG; obtain ⟨mm, hoC5, hym⟩ : ∃ mm, LCg.NsObj oC mm ∧ mm (Str.ofString "y") = some (.int (y + (i : Int) * 1) ty) := ⟨_, hoC4, by simp⟩; k_unfold; clear qG) | obtain ⟨mm, hoC5, hym⟩ : ∃ mm, LCg.NsObj oC mm ∧ mm (Str.ofString "y") = some (.int (y + (i : Int) * 1) ty) := ⟨_, hoC4, by simp⟩
    have hoff6 : Offs I2 C D ((I, oI) :: (L' + 1, o') :: news) := by
      intro p hp
      rcases List.mem_cons.mp hp with rfl | hp
      · exact ⟨hI2I.symm, hIC, hID⟩
      · exact ⟨hI2b p hp, (hoff p hp).2⟩
    refine start_K (depth := 1) rfl (hIt2 ((I, oI) :: (L' + 1, o') :: news)) rfl ?_
    refine' comp_leaf0 (dyn₀ := dyn) (fun j mc ys dyn => AllTup dyn ∧ ITups dyn ys (dotsOf x y wd.toNat i ++ dotRow x (y + (i : Int) * 1) j) ∧ ys.length ≤ i * 20 + j ∧ mc (Str.ofString "y") = some (.int (y + (i : Int) * 1) ty) ∧ ∀ p ∈ dyn, p.1 ≠ I) (turn_leaf2 _ _ _ _ _ _ _ _ _) (fun _ _ _ => rfl) (fun _ _ _ => rfl) (fun _ _ _ => rfl) rfl rfl (hIt2 _) hIL2 hI02 hoff6 hI2C hI2D hCD F6 (newsSub N6 (by k_sub)) hoC5 (fun p hp => ⟨hI2a p hp, (hoff4 p hp).2⟩) ⟨J1, by simpa [dotRow] using J2, by omega, hym, fun p hp => (hoff4 p hp).1⟩ ?turn2 ?done2
    case done2 =>
      intro mc2 oC2 ys2 k2 dyn2 h7 tk7 hP0 F7 N7 hoC7 ho7
      first | (refine foldG ?_; intro qG; obtain ⟨J4, J5, J6, J7, J8⟩ := hP0; k_unfold; clear qG) | obtain ⟨J4, J5, J6, J7, J8⟩ := hP0
      refine ⟨rfl, CEnd.intro F7 (newsSub N7 (by k_sub)) hoC7 (fun p hp => ⟨J8 p hp, (ho7 p hp).2⟩) ⟨J4, ?_, ?_⟩⟩
      · rw [dotsOf_succ]; exact J5
      · omega
    case turn2 =>
      intro j v2 mc2 oI2 oC2 ys2 k2 dyn2 h7 tk7 hj hP0 hP1 hns2 hoff7 hoC7 F7 N7
      first | (refine foldG ?_; intro qG; obtain ⟨tx, rfl⟩ := hP0; k_unfold; clear qG) | obtain ⟨tx, rfl⟩ := hP0
      first | (refine foldG ?_; intro qG; obtain ⟨J4, J5, J6, J7, J8⟩ := hP1; k_unfold; clear qG) | obtain ⟨J4, J5, J6, J7, J8⟩ := hP1
      first | (refine foldG ?_; intro qG; obtain ⟨mm2, hoC8, hym2, hxm2⟩ : ∃ mm, LCg.NsObj oC2 mm ∧ mm (Str.ofString "y") = some (.int (y + (i : Int) * 1) ty) ∧ mm (Str.ofString "x") = some (.int (x + (j : Int) * 1) tx) := ⟨_, hoC7, (by rw [if_neg (by decide)]; exact J7), (by simp)⟩; k_unfold; clear qG) | obtain ⟨mm2, hoC8, hym2, hxm2⟩ : ∃ mm, LCg.NsObj oC2 mm ∧ mm (Str.ofString "y") = some (.int (y + (i : Int) * 1) ty) ∧ mm (Str.ofString "x") = some (.int (x + (j : Int) * 1) tx) := ⟨_, hoC7, (by rw [if_neg (by decide)]; exact J7), (by simp)⟩
      clear hoC7
      k_steps
      rename Fr _ L' _ _ => F8
      rename News _ L' _ _ => N8
      rename _ ∧ _ => l8
      rename Addr => D8
      have nI : D8 ≠ I := News.twoPlaces N8 (.head _) (.tail _ (.tail _ (.tail _ (.tail _ (List.mem_append_right _ (.head _)))))) (fun e => hns.1 (by have e2 : _ = oI := e; rw [← e2]))
      refine CElt.intro (dyn := (D8, _) :: dyn2) F8 (newsSub N8 (by k_sub)) hoC8 (fun p hp => ?_) (by omega) ⟨AllTup.cons rfl J4, ?_, by simp; omega, hym2, fun p hp => ?_⟩
      · rcases List.mem_cons.mp hp with rfl | hp
        · exact ⟨Nat.ne_of_gt l8.1, Nat.ne_of_gt l8.2.1, Nat.ne_of_gt l8.2.2.1⟩
        · exact hoff7 p hp
      · rw [dotRow_succ, ← List.append_assoc]
        exact (J5.mono fun q hq => .tail _ hq).append (ITups.one (.head _) (.cons _ _ (.cons _ _ .nil)))
      · rcases List.mem_cons.mp hp with rfl | hp
        · exact nI
        · exact J8 p hp
theorem dots_K {t : Addr} {x y wd ht : Int} {t1 t2 t3 t4 : Tok} {n : Nat}
  (B : Below A₀ base outer h₀) (F : Fr h₀ L s.heap m) (X : (hd.heap_39 w.params).In h₀) (N : News h₀ L s.heap news) (T : Top p loose mean mg mb h₀) (hk : cs.kind = .function)
  (hm : (t, tupO [.int x t1, .int y t2, .int wd t3, .int ht t4] n) ∈ news)
  (hx : -1000 ≤ x ∧ x ≤ 1000) (hy : -1000 ≤ y ∧ y ≤ 1000) (hw : 0 ≤ wd ∧ wd ≤ 20) (hh : 0 ≤ ht ∧ ht ≤ 20)
  (hd : dp + 1 < recursionLimit) (hu : un + 20 < cLine)
  (h : ∀ l vs n tl h' tk', AllTup tl → ITups tl vs (dotsOf x y wd.toNat ht.toNat) → Fr h₀ L h' m → News h₀ L h' ((l, listOf vs.toArray n) :: (tl ++ news)) → Q (.ref l) {s with heap := h', toks := tk'}) :
  wpAny (model PRG w) (ktrTop dp un gd cn cs L a ccd cl outer) (call (.ref 126) [.ref t]) Q E s :=
  dots_KF B F X N T hk hm hx hy hw hh hd hu fun l vs n tl h' tk' a b _ c d => h l vs n tl h' tk' a b c d
theorem dotsN_K
  (B : Below A₀ base outer h₀) (F : Fr h₀ L s.heap m) (X : (hd.heap_39 w.params).In h₀) (N : News h₀ L s.heap news) (T : Top p loose mean mg mb h₀) (hk : cs.kind = .function)
  (hd : dp + 1 < recursionLimit) (hu : un + 20 < cLine)
  (h : ∀ l vs n tl h' tk', AllTup tl → ITups tl vs [] → Fr h₀ L h' m → News h₀ L h' ((l, listOf vs.toArray n) :: (tl ++ news)) → Q (.ref l) {s with heap := h', toks := tk'}) :
  wpAny (model PRG w) (ktrTop dp un gd cn cs L a ccd cl outer) (call (.ref 126) [.none]) Q E s := by
  refine wpAny_call ?_
  k_dflt ktr_enter
  rename_i g L' h' tk' FG' F' B' X' T' l1 o' d1' N'
  have d1 : o'.data = .cell (some .none) := d1'
  clear d1'
  k_steps
  rename Fr h₀ _ _ _ => F6
  rename News h₀ _ _ _ => N6
  exact h _ [] _ [] _ _ AllTup.nil .nil F6 (newsSub N6 (by k_sub))
end
end
theorem rst6 : True ∧ True := by
  w_top off
  first
  | (walk1; done)
  | exact ⟨trivial, trivial⟩
-- B12
section
section
variable {w : World} {p : Program} {loose : List Str} {mean : ExcName → Option Value} {mg mb : Str → Option Value}
  {dp un : Nat} {gd : Option (List Code)} {cn : Str} {cs : Scope} {a : Addr} {ccd : Value} {cl : List (Str × Addr)} {outer : List Env} {A₀ : Around} {base h₀ : Heap} {L : Addr} {m : Str → Option Value} {news : Led} {s : Shared} {Q E : Value → Shared → Prop}

theorem holds_K {t : Addr} {x y ww hh : Int} {t1 t2 t3 t4 : Tok} {u v : Int} {tu tv : Tok} {n : Nat}
  (B : Below A₀ base outer h₀) (F : Fr h₀ L s.heap m) (X : (hd.heap_39 w.params).In h₀) (N : News h₀ L s.heap news) (T : Top p loose mean mg mb h₀) (hk : cs.kind = .function)
  (hm : (t, tupO [.int x t1, .int y t2, .int ww t3, .int hh t4] n) ∈ news)
  (hd : dp + 1 < recursionLimit) (hu : un + 20 < cLine)
  (h : ∀ b h' tk', b = decide (x ≤ u ∧ u < x + ww ∧ y ≤ v ∧ v < y + hh) → Fr h₀ L h' m → News h₀ L h' news → Q (.bool b) {s with heap := h', toks := tk'}) :
  wpAny (model PRG w) (ktrTop dp un gd cn cs L a ccd cl outer) (call (.ref 86) [.ref t, .int u tu, .int v tv]) Q E s := by
  refine wpAny_call ?_
  k_dflt ktr_enter
  k_steps
  all_goals (rename Fr h₀ _ _ _ => kF; rename News h₀ _ _ _ => kN; exact h _ _ _ (decide_eq_decide.mpr (by omega)) kF kN)

theorem ITups.get4 {N : Led} {vs : List Value} {rows : List (List Int)} (h : ITups N vs rows) (h4 : ∀ r ∈ rows, r.length = 4) {i : Nat} {v : Value} (hv : vs[i]? = some v) :
    ∃ a x y wd ht t1 t2 t3 t4 n, v = .ref a ∧ (a, tupO [.int x t1, .int y t2, .int wd t3, .int ht t4] n) ∈ N ∧ rows[i]? = some [x, y, wd, ht] := by
  first | (refine foldG ?_; intro qG; obtain ⟨a, ws, n, ns, rfl, hm, hi, hr⟩ := h.get hv; k_unfold; clear qG) | obtain ⟨a, ws, n, ns, rfl, hm, hi, hr⟩ := h.get hv
  have hl := h4 ns (List.mem_of_getElem? hr)
  match ns, hl, hi with
  | [x, y, wd, ht], _, hi =>
    cases hi with | cons _ t1 hi => cases hi with | cons _ t2 hi => cases hi with | cons _ t3 hi => cases hi with | cons _ t4 hi => cases hi with | nil =>
      exact ⟨a, x, y, wd, ht, t1, t2, t3, t4, n, rfl, hm, hr⟩

def holdB (u v : Int) (r : List Int) : Bool := decide (r.getD 0 0 ≤ u ∧ u < r.getD 0 0 + r.getD 2 0 ∧ r.getD 1 0 ≤ v ∧ v < r.getD 1 0 + r.getD 3 0)
theorem holdB_4 (u v x y wd ht : Int) : holdB u v [x, y, wd, ht] = decide (x ≤ u ∧ u < x + wd ∧ y ≤ v ∧ v < y + ht) := rfl
def firstV (u v : Int) : List Value → List (List Int) → Value
  | x :: vs, r :: rows => if holdB u v r then x else firstV u v vs rows
  | _, _ => .none
theorem firstV_at {u v : Int} : ∀ {vs : List Value} {rows : List (List Int)} {i : Nat} {x : Value} {r : List Int}, vs[i]? = some x → rows[i]? = some r → holdB u v r = true → (∀ j r, j < i → rows[j]? = some r → holdB u v r = false) → firstV u v vs rows = x
  | y :: vs, q :: rows, 0, x, r, h1, h2, h3, _ => by
    simp at h1 h2; subst h1; subst h2; simp [firstV, h3]
  | y :: vs, q :: rows, i + 1, x, r, h1, h2, h3, h4 => by
    have : holdB u v q = false := h4 0 q (by omega) (by simp)
    simp only [firstV, this]
    exact firstV_at (i := i) (by simpa using h1) (by simpa using h2) h3 (fun j r hj hr => h4 (j + 1) r (by omega) (by simpa using hr))
  | [], _, i, _, _, h1, _, _, _ => by simp at h1
  | _ :: _, [], i, _, _, _, h2, _, _ => by simp at h2
theorem firstV_none {u v : Int} : ∀ {vs : List Value} {rows : List (List Int)}, (∀ (j : Nat) (r : List Int), rows[j]? = some r → holdB u v r = false) → firstV u v vs rows = .none
  | y :: vs, q :: rows, h4 => by
    have : holdB u v q = false := h4 0 q (by simp)
    simp only [firstV, this]
    exact firstV_none (fun j r hr => h4 (j + 1) r (by simpa using hr))
  | [], _, _ => by simp [firstV]
  | _ :: _, [], _ => by simp [firstV]
local macro_rules | `(tactic| walk_at "call ref") => `(tactic| (k_here; (with_reducible show wpAny _ _ (call (Value.ref 86) [_, _, _]) _ _ _); k_dflt (refine' holds_K ?k1 ?k2 ?k3 ?k4 ?k5 ?kK ?km ?kd ?kv ?_; (case k1 => k_asm); (case k2 => k_asm); (case k3 => k_asm); (case k4 => k_asm); (case k5 => k_asm); (case kK => first | exact rfl | assumption); (case km => k_mem); (case kd => ktr_room); (case kv => ktr_units)); intro b9 h9 tk9 e9 F9 N9; (try dsimp only); (try k_fold)))

local macro_rules | `(tactic| walk_at "exec For Name Name cons nil") => `(tactic| refine halt ?_)
local macro_rules | `(tactic| walk_at "pyIter ref") => `(tactic| refine halt ?_)
theorem tile_at_K {l : Addr} {vs : List Value} {k : Nat} {rows : List (List Int)} {u v : Int} {tu tv : Tok}
  (B : Below A₀ base outer h₀) (F : Fr h₀ L s.heap m) (X : (hd.heap_39 w.params).In h₀) (N : News h₀ L s.heap news) (T : Top p loose mean mg mb h₀) (hk : cs.kind = .function)
  (hl : (l, listOf vs.toArray k) ∈ news) (hv : ITups news vs rows) (h4 : ∀ r ∈ rows, r.length = 4)
  (hd : dp + 2 < recursionLimit) (hu : un + 40 < cLine)
  (h : ∀ h' tk', Fr h₀ L h' m → News h₀ L h' news → Q (firstV u v vs rows) {s with heap := h', toks := tk'}) :
  wpAny (model PRG w) (ktrTop dp un gd cn cs L a ccd cl outer) (call (.ref 93) [.ref l, .int u tu, .int v tv]) Q E s := by
  refine wpAny_call ?_
  k_dflt ktr_enter
  k_steps
  refine Halt.out ?_
  refine wpAny_noRaise ?_
  rename Fr _ _ _ _ => lF'
  with_unfolding_all refine' For_invVF lF' ?k1 ?k2 ?_
  case k1 => exact rfl
  case k2 => exact rfl
  k_steps
  refine Halt.out ?_
  rename Fr _ _ _ _ => F1
  rename News _ _ _ _ => N1
  refine iter_list (l := l) (vs := vs) (k := k) (cst := news) (dyn₀ := []) (fun m₀ _ i m dyn => dyn = [] ∧ (∀ y, y ≠ Str.ofString "tile" → m y = m₀ y) ∧ ∀ j r, j < i → rows[j]? = some r → holdB u v r = false) rfl hl F1 N1 ⟨rfl, fun _ _ => rfl, fun j r hj => absurd hj (Nat.not_lt_zero _)⟩ ?_ ?_
  · intro i x m1 dyn I oI h2 tk2 hx hP0 hns hdI hcI F2 N2
    first | (refine foldG ?_; intro qG; obtain ⟨rfl, hm1, hJ⟩ := hP0; k_unfold; clear qG) | obtain ⟨rfl, hm1, hJ⟩ := hP0
    first | (refine foldG ?_; intro qG; obtain ⟨q, x1, y1, w1, h1, t1, t2, t3, t4, n, rfl, hq, hr⟩ := hv.get4 h4 hx; k_unfold; clear qG) | obtain ⟨q, x1, y1, w1, h1, t1, t2, t3, t4, n, rfl, hq, hr⟩ := hv.get4 h4 hx
    obtain F3 := frx0 hm1 F2
    clear F2
    k_steps
    · rename _ = decide _ => e9
      have hb : holdB u v [x1, y1, w1, h1] = true := by rw [holdB_4, ← e9]; assumption
      rw [TurnPost]
      k_steps
      rename Fr h₀ _ _ _ => F6
      rename News h₀ _ _ _ => N6
      have e := firstV_at hx hr hb hJ
      rw [← e]
      exact h _ _ F6 (newsSub N6 (by k_sub))
    · rename _ = decide _ => e9
      rename Fr _ _ _ _ => F6
      rename News _ _ _ _ => N6
      have hb : holdB u v [x1, y1, w1, h1] = false := by rw [holdB_4, ← e9]; assumption
      refine TurnPost.intro (dyn := []) F6 N6 hdI ⟨rfl, fun y hy => by simp only [if_neg hy], fun j r hj hr2 => ?_⟩
      by_cases hji : j = i
      · subst hji; rw [hr] at hr2; cases hr2; exact hb
      · exact hJ j r (by omega) hr2
  · intro m1 dyn h2 tk2 hP0 F2 N2
    first | (refine foldG ?_; intro qG; obtain ⟨rfl, hm1, hJ⟩ := hP0; k_unfold; clear qG) | obtain ⟨rfl, hm1, hJ⟩ := hP0
    k_steps
    rename Fr h₀ _ _ _ => F6
    rename News h₀ _ _ _ => N6
    have e : firstV u v vs rows = .none := firstV_none fun j r hr => hJ j r (by
      have := (List.getElem?_eq_some_iff.mp hr).1
      rw [hv.length]; exact this) hr
    rw [e] at h
    exact h _ _ F6 (newsSub N6 (by k_sub))
end
end
theorem rst7 : True ∧ True := by
  w_top off
  first
  | (walk1; done)
  | exact ⟨trivial, trivial⟩
-- B14
section
variable {prog : Program} {w : World} {A : Around} {E : Value → Shared → Prop} {s : Shared} {env : Env} {h₀ : Heap} {target : Expr} {body : List Stmt} {Q : Flow → Shared → Prop}
theorem allObj_of : ∀ {ws : List (Addr × String)} {k : Led → Prop}, (∀ its, Objs ws its → k its) → AllObj ws k
  | [], k, h => h [] trivial
  | w :: r, k, h => fun o hc => allObj_of fun its hi => h ((w.1, o) :: its) ⟨⟨rfl, hc⟩, hi⟩
theorem subL_app {d c : Led} : ∀ {k : Led}, SubL k c → SubL k (d ++ c)
  | [], _ => trivial
  | _ :: _, h => ⟨List.mem_append_right _ h.1, subL_app h.2⟩
/-- a turn's end -/
abbrev ItEnd (h₀ : Heap) (env : Env) (its : Led) (cst : Led) (J : (Str → Option Value) → Led → Prop) (Q : Flow → Shared → Prop) (s : Shared) : Flow → Shared → Prop :=
  UnrPostW h₀ env.locals s its (fun m' n' => ∃ dyn, n' = dyn ++ cst ∧ J m' dyn) Q
theorem items_of {ws : List (Addr × String)} {keep cst : Led} (all : List Itm) (J : Nat → (Str → Option Value) → Led → Prop) (hk : SubL keep cst) (hcst : ∀ p ∈ cst, p.1 ∉ ws.map (·.1))
    (turn : ∀ i a v m dyn h tk its, all[i]? = some a → a.Is v h → J i m dyn → (∀ p ∈ dyn, ∀ q ∈ its, p.1 ≠ q.1) → (∀ p ∈ cst, ∀ q ∈ its, p.1 ≠ q.1) → Objs ws its → Fr h₀ env.locals h m → News h₀ env.locals h (its ++ (dyn ++ cst)) →
      wpAny (model prog w) A (assign target env v) (fun _ s₂ => wpAny (model prog w) A (execs body env) (ItEnd h₀ env its cst (J (i + 1)) Q { s with heap := h, toks := tk }) E s₂) E { s with heap := h, toks := tk })
    (done : ∀ m dyn h tk, J all.length m dyn → Fr h₀ env.locals h m → News h₀ env.locals h (dyn ++ cst) → Q .next { s with heap := h, toks := tk }) :
    ∀ (k i : Nat) (m : Str → Option Value) (dyn : Led), k = all.length - i → i ≤ all.length → J i m dyn → (∀ p ∈ dyn, p.1 ∉ ws.map (·.1)) → ItemsRest prog w A E h₀ env target body Q s ws keep (all.drop i) m (dyn ++ cst)
  | 0, i, m, dyn, hki, hi, hJ, hd => by
    have : i = all.length := by omega
    subst this
    rw [List.drop_length]
    exact fun h tk F N => done m dyn h tk hJ F N
  | k + 1, i, m, dyn, hki, hi, hJ, hd => by
    have hlt : i < all.length := by omega
    rw [List.drop_eq_getElem_cons hlt]
    intro v h tk hv F
    refine allObj_of fun its hits N => ?_
    have hmap := hits.map
    have apart : ∀ l : Led, (∀ p ∈ l, p.1 ∉ ws.map (·.1)) → ∀ p ∈ l, ∀ q ∈ its, p.1 ≠ q.1 := fun l hl p hp q hq e => hl p hp (by rw [← hmap, e]; exact List.mem_map.mpr ⟨q, hq, rfl⟩)
    refine wpAny_mono (turn i _ v m dyn h tk its (List.getElem?_eq_getElem hlt) hv hJ (apart _ hd) (apart _ hcst) hits F N) (fun _ s₂ h₂ => wpAny_mono h₂ (fun f s₃ hf => ?_) fun _ _ e => e) fun _ _ e => e
    have fin : UnrEndW h₀ env.locals { s with heap := h, toks := tk } its (fun m' n' => ∃ dyn, n' = dyn ++ cst ∧ J (i + 1) m' dyn) s₃ →
        UnrEndW h₀ env.locals { s with heap := h, toks := tk } its (fun m' n' => SubL keep n' ∧ ItemsRest prog w A E h₀ env target body Q s ws keep (all.drop (i + 1)) m' n') s₃ := by
      intro hP0
      first | (refine foldG ?_; intro qG; obtain ⟨h', tk', m', n', rfl, F', N', ho, dyn', rfl, hJ'⟩ := hP0; k_unfold; clear qG) | obtain ⟨h', tk', m', n', rfl, F', N', ho, dyn', rfl, hJ'⟩ := hP0
      refine ⟨h', tk', m', dyn' ++ cst, rfl, F', N', ho, ?_, items_of all J hk hcst turn done k (i + 1) m' dyn' (by omega) hlt hJ' fun p hp hw => ?_⟩
      · exact subL_app hk
      · rw [← hmap] at hw
        first | (refine foldG ?_; intro qG; obtain ⟨q, hq, e⟩ := List.mem_map.mp hw; k_unfold; clear qG) | obtain ⟨q, hq, e⟩ := List.mem_map.mp hw
        exact ho p (List.mem_append_left _ hp) q hq e.symm
    cases f with
    | ret v => exact hf
    | brk => exact hf
    | next => exact fin hf
    | cont => exact fin hf

theorem not_one {I q : Addr} {t : String} (h : q < I) : q ∉ [(I, t)].map (·.1) := fun hm => Nat.lt_irrefl _ ((List.mem_singleton.mp hm) ▸ h)
theorem objs_one {I : Addr} {t : String} : ∀ {its : Led}, Objs [(I, t)] its → ∃ oI, its = [(I, oI)] ∧ oI.cls = .type t
  | [], h => (show False from h).elim
  | (I', oI) :: [], h => ⟨oI, by have : I' = I := h.1.1; rw [this], h.1.2⟩
  | _ :: _ :: _, h => (show False from h.2).elim
theorem noSeq_it {o : Obj} (h : o.cls = .type "list_iterator") : NoSeq o := by rw [NoSeq, h]; decide
theorem for_list {l : Addr} {vs : List Value} {k : Nat} {m₀ : Str → Option Value} {dyn₀ cst : Led} (J : (Str → Option Value) → Nat → (Str → Option Value) → Led → Prop)
    (hh : A.handled = none) (hl : (l, listOf vs.toArray k) ∈ cst) (F : Fr h₀ env.locals s.heap m₀) (N : News h₀ env.locals s.heap (dyn₀ ++ cst)) (h0 : J m₀ 0 m₀ dyn₀)
    (turn : ∀ i v m dyn I oI h tk, vs[i]? = some v → J m₀ i m dyn → NoSeq oI → (∀ p ∈ dyn, p.1 ≠ I) → (∀ p ∈ cst, p.1 ≠ I) → Fr h₀ env.locals h m → News h₀ env.locals h ((I, oI) :: (dyn ++ cst)) →
      wpAny (model prog w) A (assign target env v) (fun _ s₂ => wpAny (model prog w) A (execs body env) (ItEnd h₀ env [(I, oI)] cst (J m₀ (i + 1)) Q { s with heap := h, toks := tk }) E s₂) E { s with heap := h, toks := tk })
    (done : ∀ m dyn h tk, J m₀ vs.length m dyn → Fr h₀ env.locals h m → News h₀ env.locals h (dyn ++ cst) → Q .next { s with heap := h, toks := tk }) :
    wpAny (model prog w) A (pyIter (.ref l)) (fun it s₂ => TurnsAt prog w A h₀ env target body Q E it s₂) E s := by
  refine iter_listTurns (lo := listOf vs.toArray k) hh F N (List.mem_append_right _ hl) rfl rfl fun I hI => ?_
  have := items_of (prog := prog) (w := w) (A := A) (E := E) (s := s) (env := env) (h₀ := h₀) (target := target) (body := body) (Q := Q) (ws := [(I, "list_iterator")]) (keep := [(l, listOf vs.toArray k)]) (cst := cst) (vs.map .val) (J m₀) ⟨hl, trivial⟩ (fun p hp => not_one (hI p (List.mem_append_right _ hp)))
    (fun i a v m dyn h tk its ha hv hJ hd hc hits F' N' => by
      obtain ⟨x, hx, rfl⟩ : ∃ x, vs[i]? = some x ∧ a = .val x := by
        rw [List.getElem?_map] at ha
        cases e : vs[i]? with
        | none => rw [e] at ha; cases ha
        | some x => rw [e] at ha; exact ⟨x, rfl, (Option.some.inj ha).symm⟩
      have hv' : v = x := hv
      subst hv'
      first | (refine foldG ?_; intro qG; obtain ⟨oI, rfl, e3⟩ := objs_one hits; k_unfold; clear qG) | obtain ⟨oI, rfl, e3⟩ := objs_one hits
      exact turn i v m dyn I oI h tk hx hJ (noSeq_it e3) (fun p hp => hd p hp _ (.head _)) (fun p hp => hc p hp _ (.head _)) F' N')
    (fun m dyn h tk hJ F' N' => done m dyn h tk (by simpa using hJ) F' N') ((vs.map Itm.val).length - 0) 0 m₀ dyn₀ rfl (Nat.zero_le _) h0 (fun p hp => not_one (hI p (List.mem_append_left _ hp)))
  exact this

theorem itNext {I : Addr} {oI : Obj} {cst dyn : Led} {J : (Str → Option Value) → Led → Prop} {h' : Heap} {tk : Nat} {m₂ : Str → Option Value} (F : Fr h₀ env.locals h' m₂) (N : News h₀ env.locals h' ((I, oI) :: (dyn ++ cst))) (hI : ∀ p ∈ dyn, p.1 ≠ I) (hc : ∀ p ∈ cst, p.1 ≠ I) (hJ : J m₂ dyn) :
    ItEnd h₀ env [(I, oI)] cst J Q s .next { s with heap := h', toks := tk } :=
  ⟨h', tk, m₂, dyn ++ cst, rfl, F, N, fun p hp q hq => (List.mem_singleton.mp hq) ▸ (List.mem_append.mp hp).elim (hI p) (hc p), dyn, rfl, hJ⟩

theorem enumItems_at : ∀ (vs : List Value) (j i : Nat) (a : Itm), (enumItems j vs)[i]? = some a → ∃ x, vs[i]? = some x ∧ a = .pair (fun t => .int ((j + i : Nat) : Int) t) x
  | [], j, i, a, h => by simp [enumItems] at h
  | x :: r, j, 0, a, h => by
    simp [enumItems] at h
    exact ⟨x, by simp, h.symm⟩
  | x :: r, j, i + 1, a, h => by
    have h' : (enumItems (j + 1) r)[i]? = some a := by simpa [enumItems] using h
    first | (refine foldG ?_; intro qG; obtain ⟨y, hy, e⟩ := enumItems_at r (j + 1) i a h'; k_unfold; clear qG) | obtain ⟨y, hy, e⟩ := enumItems_at r (j + 1) i a h'
    exact ⟨y, by simpa using hy, by rw [e, show j + 1 + i = j + (i + 1) by omega]⟩

theorem for_enum {elts : List Expr} {kk : Nat} {pos : Pos} {l : Addr} {vs : List Value} {k : Nat} {m₀ : Str → Option Value} {dyn₀ cst : Led} (J : (Str → Option Value) → Nat → (Str → Option Value) → Led → Prop)
    (hh : A.handled = none) (hl : (l, listOf vs.toArray k) ∈ cst) (F : Fr h₀ env.locals s.heap m₀) (N : News h₀ env.locals s.heap (dyn₀ ++ cst)) (h0 : J m₀ 0 m₀ dyn₀)
    (turn : ∀ (i : Nat) x m dyn T t its h tk, vs[i]? = some x → IsTup h T #[.int (i : Int) t, x] → J m₀ i m dyn → (∀ p ∈ dyn, ∀ q ∈ its, p.1 ≠ q.1) → (∀ p ∈ cst, ∀ q ∈ its, p.1 ≠ q.1) → Fr h₀ env.locals h m → News h₀ env.locals h (its ++ (dyn ++ cst)) →
      wpAny (model prog w) A (assign (.Tuple elts kk pos) env (.ref T)) (fun _ s₂ => wpAny (model prog w) A (execs body env) (ItEnd h₀ env its cst (J m₀ (i + 1)) Q { s with heap := h, toks := tk }) E s₂) E { s with heap := h, toks := tk })
    (done : ∀ m dyn h tk, J m₀ vs.length m dyn → Fr h₀ env.locals h m → News h₀ env.locals h (dyn ++ cst) → Q .next { s with heap := h, toks := tk }) :
    wpAny (model prog w) A (call (.type "enumerate") [.ref l]) (fun xv s₁ => wpAny (model prog w) A (pyIter xv) (fun it s₂ => TurnsAt prog w A h₀ env (.Tuple elts kk pos) body Q E it s₂) E s₁) E s := by
  refine ktu_enum (lo := listOf vs.toArray k) (xs := enumItems 0 vs) hh F N (List.mem_append_right _ hl) rfl rfl rfl fun I hI => ?_
  have hws : ∀ q : Nat, q < I → q ∉ [(I + 1, "enumerate"), (I, "list_iterator")].map (·.1) := fun q hq => by
    simp only [List.map_cons, List.map_nil, List.mem_cons, List.not_mem_nil, or_false, not_or]
    exact ⟨by intro e; exact absurd (e ▸ hq) (by show ¬ (I + 1 : Nat) < (I : Nat); omega), Nat.ne_of_lt hq⟩
  have := items_of (prog := prog) (w := w) (A := A) (E := E) (s := s) (env := env) (h₀ := h₀) (target := .Tuple elts kk pos) (body := body) (Q := Q) (ws := [(I + 1, "enumerate"), (I, "list_iterator")]) (keep := [(l, listOf vs.toArray k)]) (cst := cst) (enumItems 0 vs) (J m₀) ⟨hl, trivial⟩ (fun p hp => hws _ (hI p (List.mem_append_right _ hp)))
    (fun i a v m dyn h tk its ha hv hJ hd hc hits F' N' => by
      first | (refine foldG ?_; intro qG; obtain ⟨x, hx, rfl⟩ := enumItems_at _ _ _ _ ha; k_unfold; clear qG) | obtain ⟨x, hx, rfl⟩ := enumItems_at _ _ _ _ ha
      first | (refine foldG ?_; intro qG; obtain ⟨T, t, rfl, hT⟩ := hv; k_unfold; clear qG) | obtain ⟨T, t, rfl, hT⟩ := hv
      rw [Nat.zero_add] at hT
      exact turn i x m dyn T t its h tk hx hT hJ hd hc F' N')
    (fun m dyn h tk hJ F' N' => done m dyn h tk (by rw [enumItems_length] at hJ; exact hJ) F' N') ((enumItems 0 vs).length - 0) 0 m₀ dyn₀ rfl (Nat.zero_le _) h0 (fun p hp => hws _ (hI p (List.mem_append_left _ hp)))
  exact this
end
-- B13
section
section
variable {w : World} {p : Program} {loose : List Str} {mean : ExcName → Option Value} {mg mb : Str → Option Value}
  {dp un : Nat} {gd : Option (List Code)} {cn : Str} {cs : Scope} {a : Addr} {ccd : Value} {cl : List (Str × Addr)} {outer : List Env} {A₀ : Around} {base h₀ : Heap} {L : Addr} {m : Str → Option Value} {news : Led} {s : Shared} {Q E : Value → Shared → Prop}
local macro_rules | `(tactic| walk_at "call ref") => `(tactic| (k_here; (with_reducible show wpAny _ _ (call (Value.ref 67) [_, _]) _ _ _); k_dflt (refine' common_K ?k1 ?k2 ?k3 ?k4 ?k5 ?kK ?km ?kn ?kd ?kv ?_ ?_; (case k1 => k_asm); (case k2 => k_asm); (case k3 => k_asm); (case k4 => k_asm); (case k5 => k_asm); (case kK => first | exact rfl | assumption); (case km => k_mem); (case kn => k_mem); (case kd => ktr_room); (case kv => ktr_units)); rotate_left 1; (intro r9 ca9 cb9 cc9 cd9 h9 tk9 nx9 ny9 F9 N9; (try dsimp only); (try k_fold)); rotate_left 1; (intro h9 tk9 or9 F9 N9; (try dsimp only); (try k_fold))))

def meet4 (x1 y1 w1 h1 x2 y2 w2 h2 : Int) : Bool := decide (¬ pmin (x1 + w1) (x2 + w2) ≤ pmax x1 x2 ∧ ¬ pmin (y1 + h1) (y2 + h2) ≤ pmax y1 y2)
def meetB (r q : List Int) : Bool := meet4 (r.getD 0 0) (r.getD 1 0) (r.getD 2 0) (r.getD 3 0) (q.getD 0 0) (q.getD 1 0) (q.getD 2 0) (q.getD 3 0)
theorem meetB_4 (x1 y1 w1 h1 x2 y2 w2 h2 : Int) : meetB [x1, y1, w1, h1] [x2, y2, w2, h2] = decide (¬ pmin (x1 + w1) (x2 + w2) ≤ pmax x1 x2 ∧ ¬ pmin (y1 + h1) (y2 + h2) ≤ pmax y1 y2) := rfl
theorem fr3n {h₀ h : Heap} {L : Addr} {m m0 : Str → Option Value} {a b c : Str} (hm : ∀ y, y ≠ a → y ≠ b → y ≠ c → m y = m0 y) (F : Fr h₀ L h m) : ∃ u u' u'', Fr h₀ L h (fun y => if y = a then u else if y = b then u' else if y = c then u'' else m0 y) := by
  refine ⟨m a, m b, m c, ?_⟩
  have : m = fun y => if y = a then m a else if y = b then m b else if y = c then m c else m0 y := by
    funext y
    by_cases h1 : y = a
    · simp [h1]
    · by_cases h2 : y = b
      · subst h2; simp [h1]
      · by_cases h3 : y = c
        · subst h3; simp [h1, h2]
        · simp [h1, h2, h3, hm y h1 h2 h3]
  exact this ▸ F
theorem pick_take (vs : List Value) (i : Nat) : (slicePick vs.toArray none (some (i : Int)) none).toList = vs.take i := by
  have e : sliceBounds none (some (i : Int)) none vs.toArray.size = (((0 : Nat) : Int), ((min i vs.toArray.size : Nat) : Int), 1) := by
    simp only [sliceBounds, Option.getD_none, show (1 : Int) > 0 by decide, if_true, if_neg (show ¬ ((i : Int) < 0) by omega)]
    congr 1
    congr 1
    omega
  rw [kmk_pick_nat _ e]
  show (vs.drop 0).take (min i vs.toArray.size - 0) = _
  rw [List.drop_zero, Nat.sub_zero, List.size_toArray, kmk_take_min]
theorem haltV {prog : Program} {A : Around} {v : Value} {env : Env} {x : Str} {body : List Stmt} {Q' : Flow → Shared → Prop} {E' : Value → Shared → Prop} (h : Halt (wpAny (model prog w) A (pyIter v) (fun it s₂ => LoopAtV prog w A h₀ env x body Q' E' it s₂) E s)) : wpAny (model prog w) A (pyIter v) (fun it s₂ => LoopAtV prog w A h₀ env x body Q' E' it s₂) E s := h
local macro_rules | `(tactic| walk_at "exec For Name Subscript cons nil") => `(tactic| refine halt ?_)
local macro_rules | `(tactic| walk_at "exec For Tuple Call cons nil") => `(tactic| refine halt ?_)
local macro_rules | `(tactic| walk_at "pyIter ref") => `(tactic| (with_reducible refine haltV ?_))
local macro_rules | `(tactic| walk_at "subscriptTail Name Slice ref ref") => `(tactic| refine halt ?_)
local macro_rules | `(tactic| walk_at "call type:enumerate") => `(tactic| refine halt ?_)
theorem clear_K  {l : Addr} {k : Nat} {vs : List Value} {rows : List (List Int)}
  (B : Below A₀ base outer h₀) (F : Fr h₀ L s.heap m) (X : (hd.heap_39 w.params).In h₀) (N : News h₀ L s.heap news) (T : Top p loose mean mg mb h₀) (hk : cs.kind = .function)
  (hl : (l, listOf vs.toArray k) ∈ news) (hv : ITups news vs rows) (h4 : ∀ r ∈ rows, r.length = 4) (hn : vs.length ≤ 1000)
  (hd : dp + 2 < recursionLimit) (hu : un + 40 < cLine)
  (h : ∀ b h' tk', (b = true ↔ ∀ (i j : Nat) r r', j < i → rows[i]? = some r → rows[j]? = some r' → meetB r r' = false) → Fr h₀ L h' m → News h₀ L h' news → Q (.bool b) {s with heap := h', toks := tk'}) :
  wpAny (model PRG w) (ktrTop dp un gd cn cs L a ccd cl outer) (call (.ref 74) [.ref l]) Q E s := by
  refine wpAny_call ?_
  k_dflt ktr_enter
  k_steps
  refine Halt.out ?_
  refine wpAny_noRaise ?_
  rename Fr _ _ _ _ => lF'
  with_unfolding_all refine' For_turns lF' ?_
  k_steps
  refine Halt.out ?_
  rename Fr _ _ _ _ => F1
  rename News _ _ _ _ => N1
  refine for_enum (l := l) (vs := vs) (k := k) (cst := news) (dyn₀ := []) (fun m₀ i m dyn => dyn = [] ∧ (∀ y, y ≠ Str.ofString "at" → y ≠ Str.ofString "one" → y ≠ Str.ofString "other" → m y = m₀ y) ∧ ∀ (i' j : Nat) r r', i' < i → j < i' → rows[i']? = some r → rows[j]? = some r' → meetB r r' = false) rfl hl F1 N1 ⟨rfl, fun _ _ _ _ => rfl, fun i' j r r' hi => absurd hi (Nat.not_lt_zero _)⟩ ?_ ?_
  · intro i x m1 dyn T t its h2 tk2 hx hT hP0 hdI hcI F2 N2
    first | (refine foldG ?_; intro qG; obtain ⟨rfl, hm1, hJ⟩ := hP0; k_unfold; clear qG) | obtain ⟨rfl, hm1, hJ⟩ := hP0
    first | (refine foldG ?_; intro qG; obtain ⟨q, x1, y1, w1, h1, t1, t2, t3, t4, n, rfl, hq, hr⟩ := hv.get4 h4 hx; k_unfold; clear qG) | obtain ⟨q, x1, y1, w1, h1, t1, t2, t3, t4, n, rfl, hq, hr⟩ := hv.get4 h4 hx
    first | (refine foldG ?_; intro qG; obtain ⟨ua, ub, uc, F3⟩ := fr3n hm1 F2; k_unfold; clear qG) | obtain ⟨ua, ub, uc, F3⟩ := fr3n hm1 F2
    clear F2
    k_steps
    refine Halt.out ?_
    rename Fr _ _ _ _ => lF'
    with_unfolding_all refine' For_invVF lF' ?k1 ?k2 ?_
    case k1 => exact rfl
    case k2 => exact rfl
    k_steps
    refine Halt.out ?_
    rename Fr _ _ _ _ => F4
    rename News _ _ _ _ => N4
    refine kmk_slice_lit (its := vs.toArray) (zs := vs.take i) F4 N4 (N4.isList (List.mem_append_right _ (List.mem_append_right _ hl))) IsPart.none (IsPart.int _ _) (pick_take vs i) ?_ (by with_unfolding_all rfl) (by intro _; with_unfolding_all rfl) (by rw [sizeLine_eq]; simp; omega)
    intro D h5 F5 N5 lD
    k_steps
    refine Halt.out ?_
    refine iter_list (l := D) (vs := vs.take i) (k := 0) (cst := (D, listOf (vs.take i).toArray 0) :: (its ++ ([] ++ news))) (dyn₀ := []) (fun m₀ _ j m dyn => dyn = [] ∧ (∀ y, y ≠ Str.ofString "other" → m y = m₀ y) ∧ ∀ (j' : Nat) r', j' < j → rows[j']? = some r' → meetB [x1, y1, w1, h1] r' = false) rfl (.head _) F5 N5 ⟨rfl, fun _ _ => rfl, fun j r hj => absurd hj (Nat.not_lt_zero _)⟩ ?_ ?_
    · intro j x' m1 dyn I oI h6 tk6 hx' hP0 hns hdI6 hcI6 F6 N6
      first | (refine foldG ?_; intro qG; obtain ⟨rfl, hm6, hJ6⟩ := hP0; k_unfold; clear qG) | obtain ⟨rfl, hm6, hJ6⟩ := hP0
      have hj : j < i := by
        have := (List.getElem?_eq_some_iff.mp hx').1
        simp at this; omega
      rw [List.getElem?_take_of_lt hj] at hx'
      first | (refine foldG ?_; intro qG; obtain ⟨q', x2, y2, w2, h2, t1', t2', t3', t4', n', rfl, hq', hr'⟩ := hv.get4 h4 hx'; k_unfold; clear qG) | obtain ⟨q', x2, y2, w2, h2, t1', t2', t3', t4', n', rfl, hq', hr'⟩ := hv.get4 h4 hx'
      obtain F7 := frx0 hm6 F6
      clear F6
      k_steps
      · rename _ ∨ _ => or9
        rename Fr _ _ _ _ => F9
        rename News _ _ _ _ => N9
        refine TurnPost.intro (dyn := []) F9 N9 hdI6 ⟨rfl, fun y hy => by simp only [if_neg hy], fun j' r' hj' hr2 => ?_⟩
        by_cases hji : j' = j
        · subst hji
          rw [hr'] at hr2; cases hr2
          rw [meetB_4, decide_eq_false_iff_not]
          intro hP0
          first | (refine foldG ?_; intro qG; obtain ⟨n1, n2⟩ := hP0; k_unfold; clear qG) | obtain ⟨n1, n2⟩ := hP0
          exact or9.elim n1 n2
        · exact hJ6 j' r' (by omega) hr2
      · rename ¬ pmin (x1 + w1) (x2 + w2) ≤ pmax x1 x2 => nn1
        rename ¬ pmin (y1 + h1) (y2 + h2) ≤ pmax y1 y2 => nn2
        rw [TurnPost]
        k_steps
        rw [ItEnd, UnrPostW]
        k_steps
        rename Fr h₀ _ _ _ => F10
        rename News h₀ _ _ _ => N10
        refine h false _ _ ⟨fun e => absurd e (by decide), fun hall => ?_⟩ F10 (newsSub N10 (by k_sub))
        have e := hall i j _ _ hj hr hr'
        rw [meetB_4, decide_eq_false_iff_not] at e
        exact absurd ⟨nn1, nn2⟩ e
    · intro m1 dyn h6 tk6 hP0 F6 N6
      first | (refine foldG ?_; intro qG; obtain ⟨rfl, hm6, hJ6⟩ := hP0; k_unfold; clear qG) | obtain ⟨rfl, hm6, hJ6⟩ := hP0
      k_steps
      rename Fr _ _ _ _ => F9
      rename News _ _ _ _ => N9
      refine ⟨_, _, _, [] ++ news, rfl, F9, newsSub N9 (by k_sub), fun p hp => hcI p hp, [], rfl, rfl, fun y ha hb hc => ?_, fun i' j r r' hi' hj hr1 hr2 => ?_⟩
      · rw [hm6 y hc]
        simp only [if_neg ha, if_neg hb, if_neg hc]
      · by_cases hii : i' = i
        · subst hii
          rw [hr] at hr1; cases hr1
          refine hJ6 j r' ?_ hr2
          have := (List.getElem?_eq_some_iff.mp hx).1
          simp; omega
        · exact hJ i' j r r' (by omega) hj hr1 hr2
  · intro m1 dyn h2 tk2 hP0 F2 N2
    first | (refine foldG ?_; intro qG; obtain ⟨rfl, hm1, hJ⟩ := hP0; k_unfold; clear qG) | obtain ⟨rfl, hm1, hJ⟩ := hP0
    k_steps
    rename Fr h₀ _ _ _ => F10
    rename News h₀ _ _ _ => N10
    refine h _ _ _ ⟨fun _ i j r r' hj h1 h2 => hJ i j r r' ?_ hj h1 h2, fun _ => rfl⟩ F10 (newsSub N10 (by k_sub))
    rw [hv.length]; exact (List.getElem?_eq_some_iff.mp h1).1
end
end
theorem rst8 : True ∧ True := by
  w_top off
  first
  | (walk1; done)
  | exact ⟨trivial, trivial⟩
-- B15
section
section
variable {prog : Program} {w : World} {A : Around} {R : Result → Shared → Prop} {s s₀ : Shared} {h₀ : Heap} {L I C D : Addr} {m : Str → Option Value} {oI oC : Obj} {cst dyn₀ rest : Led} {e : Expr} {depth : Nat}
  {scope : Scope} {cl : List (Str × Addr)} {env : Env} {x : Str} {mc : Str → Option Value} {v : Value}

theorem storeC {px : Pos} {G : Unit → Shared → Prop} {E : Value → Shared → Prop} (hx : scope.names.lookup x = some .local) (hkind : scope.kind = .function) (F : Fr h₀ L s.heap m) (N : News h₀ L s.heap ((C, oC) :: rest)) (ho : ∀ p ∈ rest, p.1 ≠ C) (hoC : LCg.NsObj oC mc)
    (h : ∀ h' tk oC', Fr h₀ L h' m → News h₀ L h' ((C, oC') :: rest) → LCg.NsObj oC' (fun y => if y = x then some v else mc y) → G () { s with heap := h', toks := tk }) :
    wpAny (model prog w) A (assign (.Name x px) (compEnvC scope cl C env) v) G E s := by
  have z := N _ (.head _)
  refine wpAny_assign_Name (wpAny_storeName_local (lookup_relabel_local hx) (hoC.ns z.1) (fun h₃ hn₃ hs₃ => ?_) (by simp [compEnvC, relabel, hkind]))
  first | (refine foldG ?_; intro qG; obtain ⟨oC₃, heC, hoC₃⟩ := LCg.ns_obj hn₃; k_unfold; clear qG) | obtain ⟨oC₃, heC, hoC₃⟩ := LCg.ns_obj hn₃
  have hs₃' : Heap.SameBut C s.heap h₃ := hs₃
  refine h h₃ _ oC₃ (F.change hs₃' z.2.1 z.2.2) (fun p hp => ?_) hoC₃
  rcases List.mem_cons.mp hp with rfl | hp
  · exact ⟨heC, z.2⟩
  · exact ⟨hs₃'.extBut _ _ (ho p hp) (N p (.tail _ hp)).1, (N p (.tail _ hp)).2⟩

theorem assign4 {a b c d : Str} {pa pb pc pd pos : Pos} {k : Nat} {t : Addr} {v1 v2 v3 v4 : Value} {n : Nat} {G : Unit → Shared → Prop} {E : Value → Shared → Prop} (hh : A.handled = none) (ha : scope.names.lookup a = some .local) (hb : scope.names.lookup b = some .local) (hc : scope.names.lookup c = some .local) (hd : scope.names.lookup d = some .local)
    (hkind : scope.kind = .function) (F : Fr h₀ L s.heap m) (N : News h₀ L s.heap ((C, oC) :: rest)) (ho : ∀ p ∈ rest, p.1 ≠ C) (hoC : LCg.NsObj oC mc) (ht : (t, tupO [v1, v2, v3, v4] n) ∈ rest)
    (h : ∀ h' tk oC', Fr h₀ L h' m → News h₀ L h' ((C, oC') :: rest) → LCg.NsObj oC' (fun y => if y = d then some v4 else if y = c then some v3 else if y = b then some v2 else if y = a then some v1 else mc y) → G () { s with heap := h', toks := tk }) :
    wpAny (model prog w) A (assign (.Tuple [.Name a pa, .Name b pb, .Name c pc, .Name d pd] k pos) (compEnvC scope cl C env) (.ref t)) G E s := by
  have hT : IsTup s.heap t #[v1, v2, v3, v4] := N.isTup (.tail _ ht)
  refine assign_Tuple_tuple hh hT rfl rfl fun h₅ he => ?_
  have up : ∀ b o, s.heap.get? b = some o → h₅.get? b = some o := fun b o e => he b o (Nat.ne_of_lt (Heap.lt_size e)) e
  refine assignInOrder_cons (storeC (s := { s with heap := h₅ }) ha hkind (F.keeps up) (N.grown up) ho hoC fun h1 tk1 oC1 F1 N1 hC1 => ?_)
  refine assignInOrder_cons (storeC (s := { s with heap := h1, toks := tk1 }) hb hkind F1 N1 ho hC1 fun h2 tk2 oC2 F2 N2 hC2 => ?_)
  refine assignInOrder_cons (storeC (s := { s with heap := h2, toks := tk2 }) hc hkind F2 N2 ho hC2 fun h3 tk3 oC3 F3 N3 hC3 => ?_)
  refine assignInOrder_cons (storeC (s := { s with heap := h3, toks := tk3 }) hd hkind F3 N3 ho hC3 fun h4 tk4 oC4 F4 N4 hC4 => ?_)
  exact assignInOrder_nil (h h4 tk4 oC4 F4 N4 hC4)

/-- a comprehension over a list, any target, one clause, no test -/
theorem comp_loopT {target iter elt : Expr} {n : Nat} {P : Nat → Value → Prop} {oC₀ : Obj} {mc₀ : Str → Option Value} {ys₀ : List Value} {k₀ : Nat}
    (J : Nat → (Str → Option Value) → List Value → Led → Prop)
    (hT : TurnIs e depth target iter [] (leafRest elt)) (hfr : ∀ it acc env', Code.isFrame (.compLoop e depth it acc env') = false) (hq : ∀ it acc env', Code.quiet (.compLoop e depth it acc env') = true)
    (hun : ∀ it acc env', A.under (.compLoop e depth it acc env') = A)
    (hI : IterL prog w A cst n P I s.heap) (hIL : I ≠ L) (hI₀ : h₀.get? I = none) (hcst : Offs I C D cst) (hIC : I ≠ C) (hID : I ≠ D) (hCD : C ≠ D)
    (F : Fr h₀ L s.heap m) (N : News h₀ L s.heap ((C, oC₀) :: (D, listOf ys₀.toArray k₀) :: (dyn₀ ++ cst))) (hC₀ : LCg.NsObj oC₀ mc₀) (hd₀ : Offs I C D dyn₀) (h0 : J 0 mc₀ ys₀ dyn₀)
    (turn : ∀ i v mc oI oC ys k dyn h tk, i < n → P i v → J i mc ys dyn → NoSeq oI → Offs I C D dyn → LCg.NsObj oC mc → Fr h₀ L h m → News h₀ L h ((I, oI) :: (C, oC) :: (D, listOf ys.toArray k) :: (dyn ++ cst)) →
      wpAny (model prog w) A (assign target (compEnvC scope cl C env) v) (fun _ s₂ => wpAny (model prog w) A (eval elt (compEnvC scope cl C env)) (CElt h₀ L m I oI C D cst (J (i + 1)) s) (fun _ _ => False) s₂) (fun _ _ => False) { s with heap := h, toks := tk })
    (done : ∀ mc oC ys k dyn h tk, J n mc ys dyn → Fr h₀ L h m → News h₀ L h ((C, oC) :: (D, listOf ys.toArray k) :: (dyn ++ cst)) → LCg.NsObj oC mc → Offs I C D dyn → R (.ok .next) { s with heap := h, toks := tk }) :
    codeAny (model prog w) A (.compLoop e depth (.ref I) (.ref D) (compEnvC scope cl C env)) R s := by
  first | (refine foldG ?_; intro qG; obtain ⟨fp, St, W, hfp, hst₀, hlive, hLI0⟩ := hI; k_unfold; clear qG) | obtain ⟨fp, St, W, hfp, hst₀, hlive, hLI0⟩ := hI
  refine comp_core (pos := iter.pos) (body := fun v => do
    letOwnedTupleGo target (.ref I) v
    assign target (compEnvC scope cl C env) v
    let mut ok := true
    for c in ([] : List Expr) do
      if ok then ok ← isTrue c (compEnvC scope cl C env) (eval c (compEnvC scope cl C env))
    if ok then leafRest elt (.ref D) (compEnvC scope cl C env) (again (.compLoop e depth (.ref I) (.ref D) (compEnvC scope cl C env))) else again (.compLoop e depth (.ref I) (.ref D) (compEnvC scope cl C env))) J (hT _ _ _) (hfr _ _ _) (hq _ _ _) (hun _ _ _) W hfp hst₀ hlive hIL hI₀ hcst hIC hID F N hC₀ hd₀ h0 ?_ done
  intro i v mc oI oC ys k dyn h tk hi hPv hst₂ hJ hns hoff hoC F₂ N₂ G hG E
  refine foldG ?_
  intro qG
  obtain ⟨lx, jx, hlx⟩ := hLI0 _ _ hst₂
  k_unfold
  clear qG
  refine wpAny_bind (letGo_listiter hlx ?_)
  refine wpAny_bind (wpAny_mono (turn i v mc oI oC ys k dyn h tk hi hPv hJ hns hoff hoC F₂ N₂) (fun _ s₃ h₃ => ?_) fun _ _ e => e.elim)
  refine wpAny_bind (wpAny_tests_nil ?_)
  exact rest_leaf hcst hIC hID hCD h₃ _ _ _ fun s₄ h₄ => wpAny_pure (hG _ h₄)
end

section
variable {w : World} {p : Program} {loose : List Str} {mean : ExcName → Option Value} {mg mb : Str → Option Value}
  {dp un : Nat} {gd : Option (List Code)} {cn : Str} {cs : Scope} {a : Addr} {ccd : Value} {cl : List (Str × Addr)} {outer : List Env} {A₀ : Around} {base h₀ : Heap} {L : Addr} {m : Str → Option Value} {news : Led} {s : Shared} {Q E : Value → Shared → Prop}

local macro_rules | `(tactic| walk_at "eval ListComp") => `(tactic| refine halt ?_)
local macro_rules | `(tactic| walk_at "pyIter ref") => `(tactic| refine halt ?_)
def area (r : List Int) : Int := r.getD 2 0 * r.getD 3 0
theorem dots_of_K {l : Addr} {k : Nat} {vs : List Value} {rows : List (List Int)}
  (B : Below A₀ base outer h₀) (F : Fr h₀ L s.heap m) (X : (hd.heap_39 w.params).In h₀) (N : News h₀ L s.heap news) (T : Top p loose mean mg mb h₀) (hk : cs.kind = .function)
  (hl : (l, listOf vs.toArray k) ∈ news) (hv : ITups news vs rows) (h4 : ∀ r ∈ rows, r.length = 4) (hn : vs.length ≤ 1000) (hb : ∀ x y w h, [x, y, w, h] ∈ rows → 0 ≤ w ∧ w ≤ 100)
  (hd : dp + 2 < recursionLimit) (hu : un + 40 < cLine)
  (h : ∀ t h' tk', Fr h₀ L h' m → News h₀ L h' news → Q (.int (rows.map area).sum t) {s with heap := h', toks := tk'}) :
  wpAny (model PRG w) (ktrTop dp un gd cn cs L a ccd cl outer) (call (.ref 79) [.ref l]) Q E s := by
  refine wpAny_call ?_
  k_dflt ktr_enter
  rename_i g' L' h' FG' F' N' B' X' T'
  k_steps
  refine Halt.out ?_
  (with_unfolding_all refine' ListComp_K (by assumption) ?hclos ?hcell ?hkind ?hnames ?hs ?_)
  case hclos => exact rfl
  case hcell => decide
  case hkind => rfl
  case hnames => decide
  case hs => intro _; rfl
  k_steps
  rename Fr _ _ _ _ => F1
  rename News _ _ _ _ => N1
  refine Halt.out ?_
  refine pyIter_list_K rfl hl F1 N1 ?_
  intro I h2 hIL hI0 hIa F2 N2 heI hIt
  refine CompIn.ofL F2 N2 heI hIa (hIt _ hl) ?_
  intro C D oC h3 tk3 hIC hID hCD hoff F3 N3 hoC hIt3
  first | (refine foldG ?_; intro qG; obtain ⟨mc0, hoC⟩ := hoC; k_unfold; clear qG) | obtain ⟨mc0, hoC⟩ := hoC
  refine start_K (depth := 0) rfl hIt3.toAt rfl ?_
  refine' comp_loopT (dyn₀ := []) (fun i mc ys dyn => dyn = [] ∧ IntsAre ys ((rows.take i).map area)) (turn_leaf1 _ _ _ _ _ _) (fun _ _ _ => rfl) (fun _ _ _ => rfl) (fun _ _ _ => rfl) hIt3 hIL hI0 hoff hIC hID hCD F3 N3 hoC (fun _ h => nomatch h) ⟨rfl, .nil⟩ ?turn ?done
  case done =>
    intro mc oC ys k dyn h9 tk hP0 F4 N4 hoC4 ho4
    first | (refine foldG ?_; intro qG; obtain ⟨rfl, J2⟩ := hP0; k_unfold; clear qG) | obtain ⟨rfl, J2⟩ := hP0
    refine ⟨rfl, oC, mc, ys, k, news, F4, N4, hoC4, hCD, fun p hp => (hoff p hp).2.1, ?_⟩
    intro h5 F5 N5
    k_steps
    rename Fr h₀ _ _ _ => F10
    rename News h₀ _ _ _ => N10
    rw [List.take_of_length_le (by rw [hv.length]; exact Nat.le_refl _)]
    exact h _ _ _ F10 (newsSub N10 (by k_sub))
  case turn =>
    intro i v mc oI oC ys k dyn h4' tk4 hi hx hP0 hns hoff4 hoC4 F4 N4
    first | (refine foldG ?_; intro qG; obtain ⟨rfl, J2⟩ := hP0; k_unfold; clear qG) | obtain ⟨rfl, J2⟩ := hP0
    first | (refine foldG ?_; intro qG; obtain ⟨q, x1, y1, w1, h1, t1, t2, t3, t4, n, rfl, hq, hr⟩ := hv.get4 h4 hx; k_unfold; clear qG) | obtain ⟨q, x1, y1, w1, h1, t1, t2, t3, t4, n, rfl, hq, hr⟩ := hv.get4 h4 hx
    refine assign4 (rest := (I, oI) :: (D, listOf ys.toArray k) :: news) rfl rfl rfl rfl rfl rfl F4 (newsSub N4 (by k_sub)) (fun p hp => ?_) hoC4 (by k_mem) ?_
    · rcases List.mem_cons.mp hp with rfl | hp
      · exact hIC
      rcases List.mem_cons.mp hp with rfl | hp
      · exact hCD.symm
      · exact (hoff p hp).2.1
    intro h5 tk5 oC5 F5 N5 hoC5
    first | (refine foldG ?_; intro qG; obtain ⟨mm, hoC6, hym, hxm⟩ : ∃ mm, LCg.NsObj oC5 mm ∧ mm (Str.ofString "width") = some (.int w1 t3) ∧ mm (Str.ofString "height") = some (.int h1 t4) := ⟨_, hoC5, by rw [if_neg (by decide), if_pos rfl], by rw [if_pos rfl]⟩; k_unfold; clear qG) | obtain ⟨mm, hoC6, hym, hxm⟩ : ∃ mm, LCg.NsObj oC5 mm ∧ mm (Str.ofString "width") = some (.int w1 t3) ∧ mm (Str.ofString "height") = some (.int h1 t4) := ⟨_, hoC5, by rw [if_neg (by decide), if_pos rfl], by rw [if_pos rfl]⟩
    clear hoC5
    k_steps
    have bw := hb _ _ _ _ (List.mem_of_getElem? hr)
    refine mul_int ?_ (IntMulOk.of_left (intBits_le_64 (by omega) (by omega)))
    k_steps
    rename Fr _ L' _ _ => F8
    rename News _ L' _ _ => N8
    refine CElt.intro (dyn := []) F8 (newsSub N8 (by k_sub)) hoC6 hoff4 ?_ ⟨rfl, ?_⟩
    · rw [J2.length]; simp; omega
    · rw [List.take_add_one, hr]
      simp only [List.map_append, Option.toList_some, List.map_cons, List.map_nil]
      exact J2.append (.cons _ _ .nil)
end
end
theorem rst9 : True ∧ True := by
  w_top off
  first
  | (walk1; done)
  | exact ⟨trivial, trivial⟩
-- B17
open PySem.SeqAt

def rowD (r : List Int) : PyData := .tuple (r.map .int)
def rowsD (rows : List (List Int)) : PyData := .list (rows.map rowD)
theorem ints_reads {h : Heap} {vs : List Value} {ns : List Int} (x : IntsAre vs ns) : ReadsAll h vs (ns.map .int) [] := by
  induction x with
  | nil => exact .nil
  | cons n t _ ih => exact .cons (as := []) (bs := []) (.int _ _) ih
theorem rows_reads {h₀ h : Heap} {L : Addr} {news : Led} {vs : List Value} {rows : List (List Int)} (N : News h₀ L h news) (x : ITups news vs rows) : ReadsAll h vs (rows.map rowD) [] := by
  induction x with
  | nil => exact .nil
  | cons hm hi _ ih => exact .cons (as := []) (bs := []) (.tuple (N _ hm).1 rfl rfl (by simpa using ints_reads hi)) ih
theorem list_reads {h₀ h : Heap} {L l : Addr} {news : Led} {vs : List Value} {k : Nat} {rows : List (List Int)} (N : News h₀ L h news) (hl : (l, listOf vs.toArray k) ∈ news) (x : ITups news vs rows) : Reads h (.ref l) (rowsD rows) [l] :=
  .list (N _ hl).1 rfl rfl (by simpa using rows_reads N x)
theorem tup_reads {h₀ h : Heap} {L t : Addr} {news : Led} {vs : List Value} {k : Nat} {r : List Int} (N : News h₀ L h news) (hl : (t, tupO vs k) ∈ news) (x : IntsAre vs r) : Reads h (.ref t) (rowD r) [] :=
  .tuple (N _ hl).1 rfl rfl (by simpa using ints_reads x)
theorem lay_ints : ∀ r : List Int, PyData.canLayAll0 (r.map .int) = true
  | [] => by simp [PyData.canLayAll0]
  | _ :: r => by simp [PyData.canLayAll0, PyData.canLay0, lay_ints r]
theorem lay_row (r : List Int) : (rowD r).canLay0 = true := by simp [rowD, PyData.canLay0, lay_ints]
theorem lay_rows : ∀ rows : List (List Int), PyData.canLayAll0 (rows.map rowD) = true
  | [] => by simp [PyData.canLayAll0]
  | r :: rows => by simp [PyData.canLayAll0, lay_row, lay_rows rows]
theorem depth_ints : ∀ r : List Int, PyData.depthAll (r.map .int) = 0
  | [] => by simp [PyData.depthAll]
  | _ :: r => by simp [PyData.depthAll, PyData.depth, depth_ints r]
theorem depth_row (r : List Int) : (rowD r).depth = 1 := by simp [rowD, PyData.depth, depth_ints]
theorem depth_rows : ∀ rows : List (List Int), PyData.depthAll (rows.map rowD) ≤ 1
  | [] => by simp [PyData.depthAll]
  | r :: rows => by
    have := depth_rows rows
    simp only [List.map_cons, PyData.depthAll, depth_row]
    omega
theorem shaped_row (r : List Int) : shaped (rowD r) = true := by simp [shaped, lay_row, depth_row]
theorem shaped_rows (rows : List (List Int)) : shaped (rowsD rows) = true := by
  have := depth_rows rows
  simp only [shaped, rowsD, PyData.canLay0, lay_rows, PyData.depth, Bool.true_and, decide_eq_true_eq]
  omega
theorem eqv_ints : ∀ a b : List Int, PyData.eqvAll (a.map .int) (b.map .int) = decide (a = b)
  | [], [] => by simp [PyData.eqvAll]
  | [], _ :: _ => by simp [PyData.eqvAll]
  | _ :: _, [] => by simp [PyData.eqvAll]
  | x :: a, y :: b => by
    simp only [List.map_cons, PyData.eqvAll, PyData.eqv, eqv_ints a b]
    rw [show (x == y) = decide (x = y) from rfl, ← Bool.decide_and]
    simp
theorem eqv_row (a b : List Int) : PyData.eqv (rowD a) (rowD b) = decide (a = b) := by simp only [rowD, PyData.eqv, eqv_ints]
theorem eqv_rowsAll : ∀ a b : List (List Int), PyData.eqvAll (a.map rowD) (b.map rowD) = decide (a = b)
  | [], [] => by simp [PyData.eqvAll]
  | [], _ :: _ => by simp [PyData.eqvAll]
  | _ :: _, [] => by simp [PyData.eqvAll]
  | x :: a, y :: b => by
    simp only [List.map_cons, PyData.eqvAll, eqv_row, eqv_rowsAll a b]
    rw [← Bool.decide_and]
    simp
theorem eqv_rows (a b : List (List Int)) : PyData.eqv (rowsD a) (rowsD b) = decide (a = b) := by simp only [rowsD, PyData.eqv, eqv_rowsAll]

section
variable {prog : Program} {w : World} {A : Around} {E : Value → Shared → Prop} {s : Shared} {h₀ : Heap} {L a b t : Addr} {news : Led} {vs ws : List Value} {k j : Nat} {ra rb : List (List Int)} {r r' : List Int} {Q : Value → Shared → Prop}
theorem ne_rows (N : News h₀ L s.heap news) (ha : (a, listOf vs.toArray k) ∈ news) (hb : (b, listOf ws.toArray j) ∈ news) (va : ITups news vs ra) (vb : ITups news ws rb) (hu : A.units + 64 < cLine) (h : Q (.bool (!decide (ra = rb))) s) :
    wpAny (model prog w) A (compareOp .NotEq (.ref a) (.ref b)) Q E s := ne_dataH (list_reads N ha va) (list_reads N hb vb) (shaped_rows _) (shaped_rows _) hu (by rw [eqv_rows]; exact h)
theorem eq_rows (N : News h₀ L s.heap news) (ha : (a, listOf vs.toArray k) ∈ news) (hb : (b, listOf ws.toArray j) ∈ news) (va : ITups news vs ra) (vb : ITups news ws rb) (hu : A.units + 64 < cLine) (h : Q (.bool (decide (ra = rb))) s) :
    wpAny (model prog w) A (compareOp .Eq (.ref a) (.ref b)) Q E s := eq_dataH (list_reads N ha va) (list_reads N hb vb) (shaped_rows _) (shaped_rows _) hu (by rw [eqv_rows]; exact h)
theorem any_row (l : List (List Int)) (r : List Int) : ((l.map rowD).any fun y => PyData.eqv y (rowD r)) = decide (r ∈ l) := by
  induction l with
  | nil => simp
  | cons x l ih =>
    rw [List.map_cons, List.any_cons, ih, eqv_row, ← Bool.decide_or]
    rw [decide_eq_decide]
    simp [eq_comm]
theorem in_rows (N : News h₀ L s.heap news) (ht : (t, tupO vs k) ∈ news) (hl : (a, listOf ws.toArray j) ∈ news) (it : IntsAre vs r) (va : ITups news ws ra) (hu : A.units + 64 < cLine) (h : Q (.bool (decide (r ∈ ra))) s) :
    wpAny (model prog w) A (compareOp .In (.ref t) (.ref a)) Q E s := in_list_reads (list_reads N hl va) (tup_reads N ht it) (lay_rows _) (lay_row _) (by have := depth_row r; omega) (by rw [any_row]; exact h)
end
-- B8
theorem lt_pmin {a b x : Int} : x < pmin a b ↔ x < a ∧ x < b := by
  show x < (if b < a then b else a) ↔ _
  by_cases h : b < a
  · rw [if_pos h]; exact ⟨fun k => ⟨Int.lt_trans k h, k⟩, And.right⟩
  · rw [if_neg h]; exact ⟨fun k => ⟨k, Int.lt_of_lt_of_le k (Int.not_lt.mp h)⟩, And.left⟩
theorem pmax_le {a b x : Int} : pmax a b ≤ x ↔ a ≤ x ∧ b ≤ x := by
  show (if b > a then b else a) ≤ x ↔ _
  by_cases h : b > a
  · rw [if_pos h]; exact ⟨fun k => ⟨Int.le_trans (Int.le_of_lt h) k, k⟩, And.right⟩
  · rw [if_neg h]; exact ⟨fun k => ⟨k, Int.le_trans (Int.not_lt.mp h) k⟩, And.left⟩
theorem pmax_lt {a b x : Int} : pmax a b < x ↔ a < x ∧ b < x := by
  show (if b > a then b else a) < x ↔ _
  by_cases h : b > a
  · rw [if_pos h]; exact ⟨fun k => ⟨Int.lt_trans h k, k⟩, And.right⟩
  · rw [if_neg h]; exact ⟨fun k => ⟨k, Int.lt_of_le_of_lt (Int.not_lt.mp h) k⟩, And.left⟩
theorem pmax_l (a b : Int) : a ≤ pmax a b := (pmax_le.mp (Int.le_refl _)).1
theorem pmax_r (a b : Int) : b ≤ pmax a b := (pmax_le.mp (Int.le_refl _)).2
theorem pmin_eql {a b : Int} (h : a ≤ b) : pmin a b = a := if_neg (Int.not_lt.mpr h)
theorem pmin_eqr {a b : Int} (h : b < a) : pmin a b = b := if_pos h
theorem pmin_l (a b : Int) : pmin a b ≤ a := Int.not_lt.mp fun h => Int.lt_irrefl _ (lt_pmin.mp h).1
theorem pmin_eqr' {a b : Int} (h : b ≤ a) : pmin a b = b := by
  rcases Int.lt_or_eq_of_le h with h | h
  · exact if_pos h
  · rw [h]; exact pmin_eql (Int.le_refl _)
theorem half2 {w : Int} (h : 2 ≤ w) : 1 ≤ w.fdiv 2 ∧ w.fdiv 2 + 1 ≤ w := by
  rw [Int.fdiv_eq_ediv_of_nonneg _ (by decide)]
  exact ⟨Int.le_ediv_of_mul_le (by decide) h, Int.ediv_lt_of_lt_mul (by decide) (by omega)⟩
theorem two_of {w h : Int} (_hw : 0 ≤ w) (hh : 0 ≤ h) (hl : 1 < w * h) (hc : h ≤ w) : 2 ≤ w ∧ 1 ≤ h := by
  have h1 : 0 < h := Int.lt_iff_le_and_ne.mpr ⟨hh, fun e => by rw [← e, Int.mul_zero] at hl; exact absurd hl (by decide)⟩
  refine ⟨Int.not_lt.mp fun hlt => ?_, h1⟩
  have : w * h ≤ 1 * 1 := Int.mul_le_mul (Int.le_of_lt_add_one hlt) (Int.le_trans hc (Int.le_of_lt_add_one hlt)) hh (by decide)
  exact absurd hl (Int.not_lt.mpr this)
theorem add_sub' (k w : Int) : k + (w - k) = w := by rw [Int.add_comm, Int.sub_add_cancel]
theorem kk {k w : Int} (a : 1 ≤ k) (b : k + 1 ≤ w) : (0 ≤ k ∧ k ≤ w) ∧ 0 < w - k ∧ w - k ≤ w :=
  ⟨⟨Int.le_trans (by decide) a, Int.le_of_lt b⟩, Int.sub_pos_of_lt b, Int.sub_le_self w (Int.le_trans (by decide) a)⟩
theorem mem2 {α : Type} {P : α → Prop} {a b : α} (ha : P a) (hb : P b) : ∀ q ∈ [a, b], P q := List.forall_mem_cons.mpr ⟨ha, List.forall_mem_cons.mpr ⟨hb, List.forall_mem_nil _⟩⟩
theorem mem1 {α : Type} {P : α → Prop} {a : α} (ha : P a) : ∀ q ∈ [a], P q := List.forall_mem_cons.mpr ⟨ha, List.forall_mem_nil _⟩
theorem four {r : List Int} (h : r.length = 4) : ∃ a b c d, r = [a, b, c, d] := by
  obtain ⟨a, t, rfl⟩ := List.exists_cons_of_length_eq_add_one h
  obtain ⟨b, t, rfl⟩ := List.exists_cons_of_length_eq_add_one (Nat.succ.inj h)
  obtain ⟨c, t, rfl⟩ := List.exists_cons_of_length_eq_add_one (Nat.succ.inj (Nat.succ.inj h))
  obtain ⟨d, rfl⟩ := List.length_eq_one_iff.mp (Nat.succ.inj (Nat.succ.inj (Nat.succ.inj h)))
  exact ⟨_, _, _, _, rfl⟩

def cut4 (most x y w h : Int) : List (List Int) := if w * h ≤ most then [[x, y, w, h]] else if h ≤ w then [[x, y, w.fdiv 2, h], [x + w.fdiv 2, y, w - w.fdiv 2, h]] else [[x, y, w, h.fdiv 2], [x, y + h.fdiv 2, w, h - h.fdiv 2]]
def cut1 (most : Int) (r : List Int) : List (List Int) := cut4 most (r.getD 0 0) (r.getD 1 0) (r.getD 2 0) (r.getD 3 0)
theorem cut1_4 (most x y w h : Int) : cut1 most [x, y, w, h] = if w * h ≤ most then [[x, y, w, h]] else if h ≤ w then [[x, y, w.fdiv 2, h], [x + w.fdiv 2, y, w - w.fdiv 2, h]] else [[x, y, w, h.fdiv 2], [x, y + h.fdiv 2, w, h - h.fdiv 2]] := rfl
def cutN (most : Int) : Nat → List (List Int) → List (List Int)
  | 0, rows => rows
  | n + 1, rows => (cutN most n rows).flatMap (cut1 most)
theorem cutN_s (most : Int) (n : Nat) (rows : List (List Int)) : cutN most (n + 1) rows = (cutN most n rows).flatMap (cut1 most) := rfl
@[irreducible] def hvR (most : Int) (r : List Int) : List (List Int) := cutN most 12 [r]
theorem cut1_leaf {most x y w h : Int} (hl : w * h ≤ most) : cut1 most [x, y, w, h] = [[x, y, w, h]] := by rw [cut1_4, if_pos hl]
theorem cut1_by {most x y w h : Int} (h1 : 1 ≤ most) (hw : 0 ≤ w) (hh : 0 ≤ h) {P : List (List Int) → Prop} (leaf : w * h ≤ most → P [[x, y, w, h]])
    (across : ∀ k, 1 ≤ k → k + 1 ≤ w → 1 ≤ h → P [[x, y, k, h], [x + k, y, w - k, h]]) (down : ∀ k, 1 ≤ k → k + 1 ≤ h → 1 ≤ w → P [[x, y, w, k], [x, y + k, w, h - k]]) : P (cut1 most [x, y, w, h]) := by
  rw [cut1_4]
  by_cases hl : w * h ≤ most
  · rw [if_pos hl]; exact leaf hl
  · rw [if_neg hl]
    have hl2 : 1 < w * h := Int.lt_of_le_of_lt h1 (Int.not_le.mp hl)
    by_cases hc : h ≤ w
    · rw [if_pos hc]
      have t := two_of hw hh hl2 hc
      exact across _ (half2 t.1).1 (half2 t.1).2 t.2
    · rw [if_neg hc]
      have t := two_of hh hw (Int.mul_comm w h ▸ hl2) (Int.le_of_lt (Int.not_le.mp hc))
      exact down _ (half2 t.1).1 (half2 t.1).2 t.2
theorem cutN_succ' (most : Int) : ∀ (n : Nat) (rows : List (List Int)), cutN most (n + 1) rows = cutN most n (rows.flatMap (cut1 most))
  | 0, _ => rfl
  | n + 1, rows => by rw [cutN_s, cutN_succ' most n rows, ← cutN_s]
theorem cutN_append (most : Int) : ∀ (n : Nat) (a b : List (List Int)), cutN most n (a ++ b) = cutN most n a ++ cutN most n b
  | 0, _, _ => rfl
  | n + 1, a, b => by rw [cutN_s, cutN_append most n a b, List.flatMap_append]; rfl
theorem cutN_one (most : Int) (n : Nat) (r : List Int) : cutN most (n + 1) [r] = cutN most n (cut1 most r) := by rw [cutN_succ', List.flatMap_cons, List.flatMap_nil, List.append_nil]
theorem cutN_two (most : Int) (n : Nat) (a b : List Int) : cutN most n [a, b] = cutN most n [a] ++ cutN most n [b] := cutN_append most n [a] [b]
theorem cutN_leaf {most x y w h : Int} (hl : w * h ≤ most) : ∀ n, cutN most n [[x, y, w, h]] = [[x, y, w, h]]
  | 0 => rfl
  | n + 1 => by rw [cutN_one, cut1_leaf hl, cutN_leaf hl n]
theorem stabA {k w h : Int} {n : Nat} (a : 1 ≤ k) (b : k + 1 ≤ w) (e : w + h ≤ ((n + 1 : Nat) : Int)) : 0 ≤ k ∧ k + h ≤ n ∧ 0 ≤ w - k ∧ w - k + h ≤ n := by
  have q := kk a b
  refine ⟨q.1.1, ?_, Int.le_of_lt q.2.1, ?_⟩ <;> (refine Int.le_of_lt_add_one (Int.lt_of_lt_of_le (Int.add_lt_add_right ?_ h) e))
  · exact b
  · exact Int.sub_lt_self w a
theorem cutN_stab {most : Int} (h1 : 1 ≤ most) : ∀ (n : Nat) (x y w h : Int), 0 ≤ w → 0 ≤ h → w + h ≤ ((n + 1 : Nat) : Int) → cutN most (n + 1) [[x, y, w, h]] = cutN most n [[x, y, w, h]]
  | 0, x, y, w, h, hw, hh, hs => by
    rw [cutN_one]
    refine cut1_by (P := fun c => c = [[x, y, w, h]]) h1 hw hh (fun _ => rfl) (fun k a b c => ?_) (fun k a b c => ?_)
    · exact absurd hs (by omega)
    · exact absurd hs (by omega)
  | n + 1, x, y, w, h, hw, hh, hs => by
    rw [cutN_one, cutN_one]
    refine cut1_by (P := fun c => cutN most (n + 1) c = cutN most n c) h1 hw hh (fun hl => ?_) (fun k a b c => ?_) (fun k a b c => ?_)
    · rw [cutN_leaf hl, cutN_leaf hl]
    · have s := stabA (n := n + 1) a b hs
      rw [cutN_two, cutN_two, cutN_stab h1 n _ _ _ _ s.1 hh s.2.1, cutN_stab h1 n _ _ _ _ s.2.2.1 hh s.2.2.2]
    · have s := stabA (h := w) (n := n + 1) a b (Int.add_comm w h ▸ hs)
      rw [cutN_two, cutN_two, cutN_stab h1 n _ _ _ _ hw s.1 (Int.add_comm k w ▸ s.2.1), cutN_stab h1 n _ _ _ _ hw s.2.2.1 (Int.add_comm (h - k) w ▸ s.2.2.2)]
theorem hv_cut12 {most x y w h : Int} : cutN most 12 [[x, y, w, h]] = hvR most [x, y, w, h] := by unfold hvR; rfl
theorem hv_leaf {most x y w h : Int} (hl : w * h ≤ most) : hvR most [x, y, w, h] = [[x, y, w, h]] := by unfold hvR; exact cutN_leaf hl 12
theorem hv_two {most x y w h x' y' w' h' : Int} (h1 : 1 ≤ most) (a : 0 ≤ w ∧ 0 ≤ h ∧ w + h ≤ 12) (b : 0 ≤ w' ∧ 0 ≤ h' ∧ w' + h' ≤ 12) {r : List Int} (e : cut1 most r = [[x, y, w, h], [x', y', w', h']]) : hvR most r = hvR most [x, y, w, h] ++ hvR most [x', y', w', h'] := by
  unfold hvR
  rw [cutN_one, e, cutN_two, ← cutN_stab h1 11 x y w h a.1 a.2.1 a.2.2, ← cutN_stab h1 11 x' y' w' h' b.1 b.2.1 b.2.2]
theorem hv_w {most x y w h : Int} (h1 : 1 ≤ most) (hw6 : w ≤ 6) (hh : 0 ≤ h) (hh6 : h ≤ 6) (tw : 2 ≤ w) (hl : ¬ w * h ≤ most) (hc : h ≤ w) : hvR most [x, y, w, h] = hvR most [x, y, w.fdiv 2, h] ++ hvR most [x + w.fdiv 2, y, w - w.fdiv 2, h] := by
  have q := kk (half2 tw).1 (half2 tw).2
  exact hv_two h1 ⟨q.1.1, hh, Int.add_le_add (Int.le_trans q.1.2 hw6) hh6⟩ ⟨Int.le_of_lt q.2.1, hh, Int.add_le_add (Int.le_trans q.2.2 hw6) hh6⟩ (by rw [cut1_4, if_neg hl, if_pos hc])
theorem hv_h {most x y w h : Int} (h1 : 1 ≤ most) (hw : 0 ≤ w) (hw6 : w ≤ 6) (hh6 : h ≤ 6) (th : 2 ≤ h) (hl : ¬ w * h ≤ most) (hc : ¬ h ≤ w) : hvR most [x, y, w, h] = hvR most [x, y, w, h.fdiv 2] ++ hvR most [x, y + h.fdiv 2, w, h - h.fdiv 2] := by
  have q := kk (half2 th).1 (half2 th).2
  exact hv_two h1 ⟨hw, q.1.1, Int.add_le_add hw6 (Int.le_trans q.1.2 hh6)⟩ ⟨hw, Int.le_of_lt q.2.1, Int.add_le_add hw6 (Int.le_trans q.2.2 hh6)⟩ (by rw [cut1_4, if_neg hl, if_neg hc])
def Small (r : List Int) : Prop := r.length = 4 ∧ 0 ≤ r.getD 2 0 ∧ r.getD 2 0 ≤ 6 ∧ 0 ≤ r.getD 3 0 ∧ r.getD 3 0 ≤ 6
theorem Small.four {x y w h : Int} (s : Small [x, y, w, h]) : 0 ≤ w ∧ w ≤ 6 ∧ 0 ≤ h ∧ h ≤ 6 := s.2
theorem Small.of {x y w h : Int} (a : 0 ≤ w) (b : w ≤ 6) (c : 0 ≤ h) (d : h ≤ 6) : Small [x, y, w, h] := ⟨rfl, a, b, c, d⟩
theorem Small.len {r : List Int} (s : Small r) : r.length = 4 := s.1
def wv (p : Int) : Nat := if p ≤ 0 then 1 else (2 * p - 1).toNat
theorem wv_pos (p : Int) : 1 ≤ wv p := by
  unfold wv
  by_cases h : p ≤ 0
  · rw [if_pos h]; exact Nat.le_refl 1
  · rw [if_neg h]; exact Int.lt_toNat.mpr (by omega)
theorem wv_add {a b : Int} (ha : 0 < a) (hb : 0 < b) : wv a + wv b < wv (a + b) := by
  unfold wv
  rw [if_neg (Int.not_le.mpr ha), if_neg (Int.not_le.mpr hb), if_neg (Int.not_le.mpr (Int.add_pos ha hb))]
  omega
theorem wv_le {p : Int} (h : p ≤ 36) : wv p ≤ 71 := by
  unfold wv
  by_cases k : p ≤ 0
  · rw [if_pos k]; decide
  · rw [if_neg k]; omega
def wt (r : List Int) : Nat := wv (r.getD 2 0 * r.getD 3 0)
theorem wt_four (x y w h : Int) : wt [x, y, w, h] = wv (w * h) := rfl
theorem wt_sum : ∀ l : List (List Int), l.length ≤ (l.map wt).sum
  | [] => Nat.le_refl 0
  | r :: l => by
    rw [List.map_cons, List.sum_cons, List.length_cons, Nat.add_comm]
    exact Nat.add_le_add (wv_pos _) (wt_sum l)
theorem wt_w {x y k w h : Int} (a : 1 ≤ k) (b : k + 1 ≤ w) (hh : 1 ≤ h) : wt [x, y, k, h] + wt [x + k, y, w - k, h] < wt [x, y, w, h] := by
  rw [wt_four, wt_four, wt_four, show w * h = k * h + (w - k) * h by rw [← Int.add_mul, add_sub' k w]]
  exact wv_add (Int.mul_pos a hh) (Int.mul_pos (kk a b).2.1 hh)
theorem wt_h {x y k w h : Int} (a : 1 ≤ k) (b : k + 1 ≤ h) (hw : 1 ≤ w) : wt [x, y, w, k] + wt [x, y + k, w, h - k] < wt [x, y, w, h] := by
  rw [wt_four, wt_four, wt_four, show w * h = w * k + w * (h - k) by rw [← Int.mul_add, add_sub' k h]]
  exact wv_add (Int.mul_pos hw a) (Int.mul_pos hw (kk a b).2.1)
theorem wt_le {x y w h : Int} (_hw : 0 ≤ w) (hw6 : w ≤ 6) (hh : 0 ≤ h) (hh6 : h ≤ 6) : wt [x, y, w, h] ≤ 71 := wv_le (Int.mul_le_mul hw6 hh6 hh (by decide))
theorem cut1_small {most : Int} (h1 : 1 ≤ most) {r : List Int} (hr : Small r) : (∀ q ∈ cut1 most r, Small q) ∧ ((cut1 most r).map wt).sum ≤ wt r := by
  obtain ⟨x, y, w, h, rfl⟩ := Mine.four hr.len
  obtain ⟨w0, w6, h0, h6⟩ := hr.four
  refine cut1_by (P := fun c => (∀ q ∈ c, Small q) ∧ (c.map wt).sum ≤ wt [x, y, w, h]) h1 w0 h0 (fun _ => ⟨mem1 hr, Nat.le_refl _⟩) (fun k a b c => ?_) (fun k a b c => ?_)
  · exact ⟨mem2 (.of (kk a b).1.1 (Int.le_trans (kk a b).1.2 w6) h0 h6) (.of (Int.le_of_lt (kk a b).2.1) (Int.le_trans (kk a b).2.2 w6) h0 h6), Nat.le_of_lt (wt_w (x := x) (y := y) a b c)⟩
  · exact ⟨mem2 (.of w0 w6 (kk a b).1.1 (Int.le_trans (kk a b).1.2 h6)) (.of w0 w6 (Int.le_of_lt (kk a b).2.1) (Int.le_trans (kk a b).2.2 h6)), Nat.le_of_lt (wt_h (x := x) (y := y) a b c)⟩
theorem flat_small {most : Int} (h1 : 1 ≤ most) : ∀ {rows : List (List Int)}, (∀ r ∈ rows, Small r) → (∀ q ∈ rows.flatMap (cut1 most), Small q) ∧ ((rows.flatMap (cut1 most)).map wt).sum ≤ (rows.map wt).sum
  | [], _ => ⟨fun _ h => (nomatch h), Nat.le_refl _⟩
  | r :: rows, h => by
    have a := cut1_small h1 (h r (.head _))
    have b := flat_small h1 fun q hq => h q (.tail _ hq)
    refine And.intro (fun q hq => ?_) ?_
    · rw [List.flatMap_cons] at hq
      exact (List.mem_append.mp hq).elim (a.1 q) (b.1 q)
    · rw [List.flatMap_cons, List.map_append, List.sum_append, List.map_cons, List.sum_cons]
      exact Nat.add_le_add a.2 b.2
theorem cutN_small {most : Int} (h1 : 1 ≤ most) {rows : List (List Int)} (h : ∀ r ∈ rows, Small r) : ∀ n, (∀ q ∈ cutN most n rows, Small q) ∧ ((cutN most n rows).map wt).sum ≤ (rows.map wt).sum
  | 0 => ⟨h, Nat.le_refl _⟩
  | n + 1 => ⟨(flat_small h1 (cutN_small h1 h n).1).1, Nat.le_trans (flat_small h1 (cutN_small h1 h n).1).2 (cutN_small h1 h n).2⟩
theorem take_sum (l : List (List Int)) (j : Nat) : ((l.take j).map wt).sum ≤ (l.map wt).sum := by
  conv => rhs; rw [← List.take_append_drop j l, List.map_append, List.sum_append]
  exact Nat.le_add_right _ _
def Inner (X Y W H : Int) (r : List Int) : Prop := r.length = 4 ∧ X ≤ r.getD 0 0 ∧ r.getD 0 0 + r.getD 2 0 ≤ X + W ∧ Y ≤ r.getD 1 0 ∧ r.getD 1 0 + r.getD 3 0 ≤ Y + H ∧ 0 ≤ r.getD 2 0 ∧ 0 ≤ r.getD 3 0
theorem Inner.four {X Y W H x y w h : Int} (i : Inner X Y W H [x, y, w, h]) : X ≤ x ∧ x + w ≤ X + W ∧ Y ≤ y ∧ y + h ≤ Y + H ∧ 0 ≤ w ∧ 0 ≤ h := i.2
theorem Inner.of {X Y W H x y w h : Int} (a : X ≤ x) (b : x + w ≤ X + W) (c : Y ≤ y) (d : y + h ≤ Y + H) (e : 0 ≤ w) (f : 0 ≤ h) : Inner X Y W H [x, y, w, h] := ⟨rfl, a, b, c, d, e, f⟩
theorem inA {X x w T k : Int} (a : X ≤ x) (b : x + w ≤ T) (c : 1 ≤ k) (d : k + 1 ≤ w) : x + k ≤ T ∧ 0 ≤ k ∧ X ≤ x + k ∧ x + k + (w - k) ≤ T ∧ 0 ≤ w - k := by
  have q := kk c d
  have e : x + k ≤ x + w := Int.add_le_add_left q.1.2 x
  exact ⟨Int.le_trans e b, q.1.1, Int.le_trans a (Int.le_add_of_nonneg_right q.1.1), by rw [Int.add_assoc, add_sub']; exact b, Int.le_of_lt q.2.1⟩
theorem cut1_inner {most X Y W H : Int} (h1 : 1 ≤ most) {r : List Int} (hr : Inner X Y W H r) : ∀ q ∈ cut1 most r, Inner X Y W H q := by
  obtain ⟨x, y, w, h, rfl⟩ := Mine.four hr.1
  obtain ⟨a, b, c, d, e, f⟩ := hr.four
  refine cut1_by (P := fun c => ∀ q ∈ c, Inner X Y W H q) h1 e f (fun _ => mem1 hr) (fun k k1 k2 _ => ?_) (fun k k1 k2 _ => ?_)
  · have i := inA a b k1 k2
    exact mem2 (.of a i.1 c d i.2.1 f) (.of i.2.2.1 i.2.2.2.1 c d i.2.2.2.2 f)
  · have i := inA c d k1 k2
    exact mem2 (.of a b c i.1 e i.2.1) (.of a b i.2.2.1 i.2.2.2.1 e i.2.2.2.2)
theorem cutN_inner {most X Y W H : Int} (h1 : 1 ≤ most) : ∀ (n : Nat) {rows : List (List Int)}, (∀ r ∈ rows, Inner X Y W H r) → ∀ q ∈ cutN most n rows, Inner X Y W H q
  | 0, _, h => h
  | n + 1, rows, h => fun q hq => by
    rw [cutN_s] at hq
    obtain ⟨r, hr, hq⟩ := List.mem_flatMap.mp hq
    exact cut1_inner h1 (cutN_inner h1 n h r hr) q hq
/-- the halves: small tiles within the tile, few of them -/
theorem halves_small {most x y w h : Int} (hm : 1 ≤ most) (hw : 0 ≤ w) (hw6 : w ≤ 6) (hh : 0 ≤ h) (hh6 : h ≤ 6) :
    (∀ q ∈ hvR most [x, y, w, h], Small q ∧ Inner x y w h q) ∧ (hvR most [x, y, w, h]).length ≤ 71 ∧ ∀ q ∈ hvR most [x, y, w, h], q.length = 4 := by
  unfold hvR
  have a := cutN_small (most := most) hm (rows := [[x, y, w, h]]) (mem1 (.of hw hw6 hh hh6)) 12
  have b := cutN_inner (most := most) hm 12 (rows := [[x, y, w, h]]) (X := x) (Y := y) (W := w) (H := h) (mem1 (.of (Int.le_refl _) (Int.le_refl _) (Int.le_refl _) (Int.le_refl _) hw hh))
  have d := wt_le (x := x) (y := y) hw hw6 hh hh6
  exact ⟨fun q hq => ⟨a.1 q hq, b q hq⟩, Nat.le_trans (wt_sum _) (Nat.le_trans a.2 (Nat.le_trans (Nat.le_of_eq (Nat.add_zero _)) d)), fun q hq => (a.1 q hq).len⟩
-- B16
section
def NotIn : List Str → Str → Prop
  | [], _ => True
  | a :: r, y => y ≠ a ∧ NotIn r y
def look : List (Str × Option Value) → (Str → Option Value) → Str → Option Value
  | [], m, y => m y
  | (a, v) :: r, m, y => if y = a then v else look r m y
def LookOk : List (Str × Option Value) → (Str → Option Value) → Prop
  | [], _ => True
  | (a, v) :: r, m => m a = v ∧ LookOk r m
theorem look_eq {m m0 : Str → Option Value} : ∀ {ps : List (Str × Option Value)}, LookOk ps m → ∀ y, (NotIn (ps.map (·.1)) y → m y = m0 y) → m y = look ps m0 y
  | [], _, y, h => h trivial
  | (a, v) :: r, ho, y, h => by
    by_cases e : y = a
    · subst e; rw [look, if_pos rfl]; exact ho.1
    · rw [look, if_neg e]; exact look_eq ho.2 y fun hn => h ⟨e, hn⟩
theorem frp {h₀ h : Heap} {L : Addr} {m m0 : Str → Option Value} (ps : List (Str × Option Value)) (ho : LookOk ps m) (hm : ∀ y, NotIn (ps.map (·.1)) y → m y = m0 y) (F : Fr h₀ L h m) : Fr h₀ L h (look ps m0) := by
  have : m = look ps m0 := funext fun y => look_eq ho y (hm y)
  exact this ▸ F

theorem kl_last_concat (p : List Value) (y : Value) : kl_last (p ++ [y]) = some (p, y) := by
  induction p with
  | nil => rfl
  | cons x p ih =>
    cases p with
    | nil => rfl
    | cons z q =>
      show (match kl_last (z :: q ++ [y]) with | some (p, y) => some (x :: p, y) | none => some ([], x)) = _
      rw [ih]
theorem pop_O {prog : Program} {w : World} {A : Around} {E : Value → Shared → Prop} {s : Shared} {h₀ : Heap} {L D : Addr} {m : Str → Option Value} {news rest : Led} {p : List Value} {y : Value} {n : Nat} {Q : Value → Shared → Prop}
    (F : Fr h₀ L s.heap m) (N : News h₀ L s.heap news) (U : Out D (listOf (p ++ [y]).toArray n) news rest) (hz : p.length ≤ 100000)
    (h : ∀ h', Fr h₀ L h' m → News h₀ L h' ((D, listOf p.toArray (n + 1)) :: rest) → Q y { s with heap := h' }) : wpAny (model prog w) A (call (.builtin "list.pop") [.ref D]) Q E s := by
  have N' : News h₀ L s.heap ((D, listOf (p ++ [y]).toArray n) :: rest) := fun q hq => by
    rcases List.mem_cons.mp hq with rfl | hq
    · exact N _ U.mem
    · exact N _ (U.sub q hq)
  exact kl_pop (its := (p ++ [y]).toArray) F N' (by simpa using kl_last_concat p y) (.head U.ne) (by rw [sizeLine_eq]; simp; omega) h
theorem ITups.init {N : Led} {p : List Value} {y : Value} {rs : List (List Int)} {r : List Int} (h : ITups N (p ++ [y]) (rs ++ [r])) : ITups N p rs := by
  induction p generalizing rs with
  | nil =>
    cases rs with
    | nil => exact .nil
    | cons x rs => have := h.length; simp at this
  | cons z p ih =>
    cases rs with
    | nil => have := h.length; simp at this
    | cons x rs => cases h with | cons hm hi hr => exact .cons hm hi (ih hr)
theorem two_tups {h₀ h : Heap} {L : Addr} {news : Led} {D1 D2 : Addr} {v1 v2 : List Value} {n1 n2 : Nat} {r1 r2 : List Int} (_N : News h₀ L h news) (m1 : (D1, tupO v1 n1) ∈ news) (m2 : (D2, tupO v2 n2) ∈ news) (i1 : IntsAre v1 r1) (i2 : IntsAre v2 r2) :
    ∃ o1 o2 : Obj, o1.cls = .type "tuple" ∧ o2.cls = .type "tuple" ∧ (D1, o1) ∈ news ∧ (D2, o2) ∈ news ∧ ITups [(D1, o1), (D2, o2)] [.ref D1, .ref D2] [r1, r2] :=
  ⟨_, _, rfl, rfl, m1, m2, .cons (.head _) i1 (.cons (.tail _ (.head _)) i2 .nil)⟩
theorem wt_sum2 (l : List (List Int)) (a b : List Int) : (l.map wt).sum + (wt a + wt b) = ((l ++ [a, b]).map wt).sum := by
  rw [List.map_append, List.sum_append]; rfl
theorem wt_sum1 (l : List (List Int)) (a : List Int) : ((l ++ [a]).map wt).sum = (l.map wt).sum + wt a := by
  rw [List.map_append, List.sum_append]; rfl
theorem flat0 (most : Int) (r : List Int) : [] ++ [r].reverse.flatMap (hvR most) = hvR most r := by
  rw [List.nil_append, List.reverse_singleton, List.flatMap_cons, List.flatMap_nil, List.append_nil]
theorem flat1 (most : Int) (st : List (List Int)) (r : List Int) : (st ++ [r]).reverse.flatMap (hvR most) = hvR most r ++ st.reverse.flatMap (hvR most) := by
  rw [List.reverse_append]; rfl
theorem flat2 (most : Int) (st : List (List Int)) (a b : List Int) : (st ++ [a, b]).reverse.flatMap (hvR most) = hvR most b ++ (hvR most a ++ st.reverse.flatMap (hvR most)) := by
  rw [List.reverse_append]; rfl
def hvNames : List Str := [Str.ofString "x", Str.ofString "y", Str.ofString "width", Str.ofString "height", Str.ofString "half"]
/-- the loop of halves_of: what is found, what is left -/
inductive HvJ (news : Led) (fnd lft : Addr) (most : Int) (R : List (List Int)) (m₀ : Str → Option Value) : Nat → (Str → Option Value) → Led → Prop
  | mk (m : Str → Option Value) (vs : List Value) (k : Nat) (ws : List Value) (j : Nat) (tl : Led) (rs st : List (List Int)) : AllTup tl → ITups tl vs rs → ITups (tl ++ news) ws st → (∀ r ∈ st, Small r) →
      rs ++ st.reverse.flatMap (hvR most) = R → vs.length + (st.map wt).sum ≤ 100 → (∀ y, NotIn hvNames y → m y = m₀ y) →
      HvJ news fnd lft most R m₀ (st.map wt).sum m ((fnd, listOf vs.toArray k) :: (lft, listOf ws.toArray j) :: (tl ++ news))
theorem ITups.up1 {N : Led} {p : Addr × Obj} {vs : List Value} {rs : List (List Int)} (h : ITups N vs rs) : ITups (p :: N) vs rs := h.mono fun _ hq => .tail _ hq
section
variable {news : Led} {fnd lft : Addr} {most : Int} {R : List (List Int)} {m₀ m : Str → Option Value} {vs ws : List Value} {k j : Nat} {tl : Led} {rs st : List (List Int)} {r : List Int}
  (htl : AllTup tl) (hvs : ITups tl vs rs) (hws : ITups (tl ++ news) ws st) (hsm : ∀ r ∈ st, Small r) (heq : rs ++ (st ++ [r]).reverse.flatMap (hvR most) = R) (hln : vs.length + ((st ++ [r]).map wt).sum ≤ 100) (hm : ∀ y, NotIn hvNames y → m y = m₀ y)
include htl hvs hws hsm heq hln hm
theorem HvJ.leaf {D : Addr} {its : List Value} {n : Nat} (hi : IntsAre its r) (hl : hvR most r = [r]) :
    HvJ news fnd lft most R m₀ (st.map wt).sum m ((fnd, listOf (vs ++ [Value.ref D]).toArray k) :: (lft, listOf ws.toArray j) :: (((D, tupO its n) :: tl) ++ news)) := by
  refine .mk m (vs ++ [Value.ref D]) k ws j ((D, tupO its n) :: tl) (rs ++ [r]) st (AllTup.cons rfl htl) (hvs.up1.append (ITups.one (.head _) hi)) hws.up1 hsm ?_ ?_ hm
  · rw [← heq, flat1, hl, List.append_assoc]
  · rw [wt_sum1] at hln
    have : 1 ≤ wt r := wv_pos _
    rw [List.length_append, List.length_singleton]
    omega
theorem HvJ.two {a b : List Int} {D1 D2 : Addr} {o1 o2 : Obj} (c1 : o1.cls = .type "tuple") (c2 : o2.cls = .type "tuple") (hit : ITups [(D1, o1), (D2, o2)] [.ref D1, .ref D2] [a, b]) (sa : Small a) (sb : Small b) (hs : hvR most r = hvR most b ++ hvR most a) (hw : wt b + wt a < wt r) :
    HvJ news fnd lft most R m₀ ((st.map wt).sum + (wt a + wt b)) m ((fnd, listOf vs.toArray k) :: (lft, listOf (ws ++ [Value.ref D1, Value.ref D2]).toArray j) :: (((D1, o1) :: (D2, o2) :: tl) ++ news)) := by
  rw [wt_sum2]
  refine .mk m vs k (ws ++ [Value.ref D1, Value.ref D2]) j ((D1, o1) :: (D2, o2) :: tl) rs (st ++ [a, b]) (AllTup.cons c1 (AllTup.cons c2 htl)) hvs.up1.up1 (hws.up1.up1.append (hit.mono (mem2 (.head _) (.tail _ (.head _))))) (fun q hq => ?_) ?_ ?_ hm
  · exact (List.mem_append.mp hq).elim (hsm q) (mem2 sa sb q)
  · rw [← heq, flat1, hs, flat2, List.append_assoc]
  · rw [wt_sum1] at hln
    rw [← wt_sum2]
    omega
end
theorem HvJ.start {news : Led} {fnd lft t : Addr} {most : Int} {m : Str → Option Value} {its : List Value} {n : Nat} {r : List Int} (hm : (t, tupO its n) ∈ news) (hi : IntsAre its r) (hr : Small r) (hw : wt r ≤ 71) :
    HvJ news fnd lft most (hvR most r) m (([r].map wt).sum) m ((fnd, listOf [].toArray 0) :: (lft, listOf [Value.ref t].toArray 0) :: ([] ++ news)) := by
  refine HvJ.mk m [] 0 [Value.ref t] 0 [] [] [r] AllTup.nil .nil (.cons hm hi .nil) (mem1 hr) (flat0 most r) ?_ (fun _ _ => rfl)
  rw [List.map_cons, List.map_nil, List.sum_cons, List.sum_nil, List.length_nil, Nat.zero_add, Nat.add_zero]
  exact Nat.le_trans hw (by decide)
theorem HvJ.less {st : List (List Int)} {r a b : List Int} (hw : wt b + wt a < wt r) : (st.map wt).sum + (wt a + wt b) < ((st ++ [r]).map wt).sum := by
  rw [wt_sum1, Nat.add_comm (wt a)]; exact Nat.add_lt_add_left hw _
theorem HvJ.less1 {st : List (List Int)} {r : List Int} : (st.map wt).sum < ((st ++ [r]).map wt).sum := by
  rw [wt_sum1]; exact Nat.lt_add_of_pos_right (wv_pos _)
theorem List.snoc_of {α : Type} {l : List α} {n : Nat} (h : l.length = n + 1) : ∃ a b, l = a ++ [b] := by
  rcases List.eq_nil_or_concat l with e | ⟨a, b, e⟩
  · rw [e] at h; cases h
  · exact ⟨a, b, by rw [e, List.concat_eq_append]⟩

inductive HvV (news : Led) (fnd lft : Addr) (most : Int) (R : List (List Int)) (m₀ : Str → Option Value) : Nat → (Str → Option Value) → Led → Prop
  | nil (m : Str → Option Value) (vs : List Value) (k j : Nat) (tl : Led) : AllTup tl → ITups tl vs R → (∀ y, NotIn hvNames y → m y = m₀ y) →
      HvV news fnd lft most R m₀ 0 m ((fnd, listOf vs.toArray k) :: (lft, listOf [].toArray j) :: (tl ++ news))
  | snoc (m : Str → Option Value) (vs : List Value) (k : Nat) (ws : List Value) (j : Nat) (tl : Led) (rs st : List (List Int)) (q : Addr) (x y w h : Int) (t1 t2 t3 t4 : Tok) (nq : Nat) : AllTup tl → ITups tl vs rs → ITups (tl ++ news) ws st → (q, tupO [.int x t1, .int y t2, .int w t3, .int h t4] nq) ∈ tl ++ news →
      ITups (tl ++ news) (ws ++ [Value.ref q]) (st ++ [[x, y, w, h]]) → (∀ r ∈ st, Small r) → 0 ≤ w → w ≤ 6 → 0 ≤ h → h ≤ 6 → rs ++ (st ++ [[x, y, w, h]]).reverse.flatMap (hvR most) = R → vs.length + ((st ++ [[x, y, w, h]]).map wt).sum ≤ 100 → ws.length ≤ 100 → vs.length ≤ 100 → (∀ y, NotIn hvNames y → m y = m₀ y) →
      HvV news fnd lft most R m₀ ((st ++ [[x, y, w, h]]).map wt).sum m ((fnd, listOf vs.toArray k) :: (lft, listOf (ws ++ [Value.ref q]).toArray j) :: (tl ++ news))
theorem HvJ.view {news : Led} {fnd lft : Addr} {most : Int} {R : List (List Int)} {m₀ : Str → Option Value} {n : Nat} {m : Str → Option Value} {l : Led} : HvJ news fnd lft most R m₀ n m l → HvV news fnd lft most R m₀ n m l
  | .mk m vs k ws j tl rs st htl hvs hws hsm heq hln hmn => by
    rcases List.eq_nil_or_concat ws with rfl | ⟨ws', v, rfl⟩
    · cases hws
      rw [List.reverse_nil, List.flatMap_nil, List.append_nil] at heq
      exact .nil m vs k j tl htl (heq ▸ hvs) hmn
    · rw [List.concat_eq_append] at hws ⊢
      have hl0 := hws.length
      rw [List.length_append, List.length_singleton] at hl0
      obtain ⟨st', r, rfl⟩ := List.snoc_of hl0.symm
      rw [List.length_append, List.length_singleton] at hl0
      have hlw : ws'.length = st'.length := Nat.succ.inj hl0
      obtain ⟨q, xq, yq, wq, hq, u1, u2, u3, u4, nq, rfl, hqm, hqr⟩ := hws.get4 (fun r hr => (hsm r hr).len) (i := ws'.length) (v := v) List.getElem?_concat_length
      rw [hlw, List.getElem?_concat_length] at hqr
      obtain rfl := Option.some.inj hqr
      have s := (hsm _ (List.mem_append_right _ (.head _))).four
      refine .snoc m vs k ws' j tl rs st' q xq yq wq hq u1 u2 u3 u4 nq htl hvs hws.init hqm hws (fun r hr => hsm r (List.mem_append_left _ hr)) s.1 s.2.1 s.2.2.1 s.2.2.2 heq hln ?_ (Nat.le_trans (Nat.le_add_right _ _) hln) hmn
      have := wt_sum (st' ++ [[xq, yq, wq, hq]])
      rw [List.length_append] at this
      omega

section
variable {w : World} {p : Program} {loose : List Str} {mean : ExcName → Option Value} {mg mb : Str → Option Value}
  {dp un : Nat} {gd : Option (List Code)} {cn : Str} {cs : Scope} {a : Addr} {ccd : Value} {cl : List (Str × Addr)} {outer : List Env} {A₀ : Around} {base h₀ : Heap} {L : Addr} {m : Str → Option Value} {news : Led} {s : Shared} {Q E : Value → Shared → Prop}

local macro_rules | `(tactic| walk_at "compareOp NotEq ref ref") => `(tactic| refine halt ?_)
local macro_rules | `(tactic| walk_at "call builtin:list.pop") => `(tactic| refine halt ?_)
local macro_rules | `(tactic| walk_at "exec While Compare cons nil") => `(tactic| refine halt ?_)
theorem halves_K {t : Addr} {x y wd ht most : Int} {t1 t2 t3 t4 tm : Tok} {n : Nat}
  (B : Below A₀ base outer h₀) (F : Fr h₀ L s.heap m) (X : (hd.heap_39 w.params).In h₀) (N : News h₀ L s.heap news) (T : Top p loose mean mg mb h₀) (hk : cs.kind = .function)
  (hm : (t, tupO [.int x t1, .int y t2, .int wd t3, .int ht t4] n) ∈ news)
  (hw : 0 ≤ wd ∧ wd ≤ 6) (hh : 0 ≤ ht ∧ ht ≤ 6) (hmo : 1 ≤ most ∧ most ≤ 10)
  (hd : dp + 1 < recursionLimit) (hu : un + 200 < cLine)
  (h : ∀ l vs n tl h' tk', AllTup tl → ITups tl vs (hvR most [x, y, wd, ht]) → Fr h₀ L h' m → News h₀ L h' ((l, listOf vs.toArray n) :: (tl ++ news)) → Q (.ref l) {s with heap := h', toks := tk'}) :
  wpAny (model PRG w) (ktrTop dp un gd cn cs L a ccd cl outer) (call (.ref 60) [.ref t, .int most tm]) Q E s := by
  refine wpAny_call ?_
  k_dflt ktr_enter
  k_steps
  refine Halt.out ?_
  rename_i fnd hA l1 lft hB l2 D hC l3 hD hE hF F0 N0
  refine while_J (HvJ news fnd lft most (hvR most [x, y, wd, ht])) (([[x, y, wd, ht]].map wt).sum) F0 (newsSub N0 (news' := (fnd, listOf [].toArray 0) :: (lft, listOf [.ref t].toArray 0) :: ([] ++ news)) (by simp only [List.nil_append]; k_sub)) (HvJ.start hm (.cons _ _ (.cons _ _ (.cons _ _ (.cons _ _ .nil)))) (.of hw.1 hw.2 hh.1 hh.2) (wt_le hw.1 hw.2 hh.1 hh.2)) ?_
  intro n m1 news1 h1 tk1 F1 N1 hJ
  rcases hJ.view with ⟨m1, vs, k, j, tl, htl, hvs, hmn⟩ | ⟨m1, vs, k, ws', j, tl, rs, st', q, xq, yq, wq, hq, u1, u2, u3, u4, nq, htl, hvs, hws', hqm, hws, hsm', sw0, sw6, sh0, sh6, heq, hln, hz, hz2, hmn⟩
  · have F2 := frp [(Str.ofString "x", m1 (Str.ofString "x")), (Str.ofString "y", m1 (Str.ofString "y")), (Str.ofString "width", m1 (Str.ofString "width")), (Str.ofString "height", m1 (Str.ofString "height")), (Str.ofString "half", m1 (Str.ofString "half"))] ⟨rfl, rfl, rfl, rfl, rfl, trivial⟩ hmn F1
    clear F1
    dsimp only [look] at F2
    k_steps
    refine Halt.out ?_
    rename News _ _ _ _ => N3
    refine ne_rows N3 (.tail _ (.tail _ (.head _))) (.head _) (ra := []) (rb := []) .nil .nil (by ktr_units) ?_
    k_steps
    rename Fr h₀ _ _ _ => F10
    rename News h₀ _ _ _ => N10
    exact h _ _ _ _ _ _ htl hvs F10 (newsSub N10 (by k_sub))
  · have F2 := frp [(Str.ofString "x", m1 (Str.ofString "x")), (Str.ofString "y", m1 (Str.ofString "y")), (Str.ofString "width", m1 (Str.ofString "width")), (Str.ofString "height", m1 (Str.ofString "height")), (Str.ofString "half", m1 (Str.ofString "half"))] ⟨rfl, rfl, rfl, rfl, rfl, trivial⟩ hmn F1
    clear F1
    dsimp only [look] at F2
    have hfl : fnd ≠ lft := Nat.ne_of_lt l2.1
    have a1 : ∀ q ∈ tl, q.1 ≠ fnd := htl.apartL N1 (fun q hq => .tail _ (.tail _ (List.mem_append_left _ hq))) (.head _)
    have a2 : ∀ q ∈ tl, q.1 ≠ lft := htl.apartL N1 (fun q hq => .tail _ (.tail _ (List.mem_append_left _ hq))) (.tail _ (.head _))
    have a3 : ∀ q ∈ news, q.1 ≠ fnd := fun q hq => Nat.ne_of_lt (l1 q hq)
    k_steps
    refine Halt.out ?_
    rename News _ _ _ _ => N3
    refine ne_rows N3 (.tail _ (.tail _ (.head _))) (.head _) (ra := st' ++ [[xq, yq, wq, hq]]) (rb := []) (hws.mono (by k_sub)) .nil (by ktr_units) ?_
    rw [show (!decide (st' ++ [[xq, yq, wq, hq]] = [])) = true by rw [decide_eq_false (List.append_ne_nil_of_right_ne_nil st' (List.cons_ne_nil _ _))]; rfl]
    k_steps
    refine Halt.out ?_
    rename Fr _ _ _ _ => F4
    rename News _ _ _ _ => N4
    refine pop_O F4 (newsSub N4 (news' := (lft, listOf (ws' ++ [Value.ref q]).toArray j) :: (fnd, listOf vs.toArray k) :: (tl ++ news)) (by k_sub)) (.head ?_) (Nat.le_trans hz (by decide)) ?_
    · k_all
    intro h5 F5 N5
    have a4 : ∀ q ∈ news, q.1 ≠ lft := fun q hq => Nat.ne_of_lt (tb_ltOf l2.2 q hq)
    clear hws
    k_steps
    iterate 2 (
      focus
        rename Fr _ _ _ _ => F6
        rename News _ _ _ _ => N6
        have hlf : hvR most [xq, yq, wq, hq] = [[xq, yq, wq, hq]] := hv_leaf (by first | assumption | (rename wq * hq = 0 => e0; rw [e0]; exact Int.le_trans (by decide) hmo.1))
        refine whileStep F6 (newsSub N6 (by k_sub)) HvJ.less1 (HvJ.leaf htl hvs hws' hsm' heq hln (fun y hy => ?_) (.cons _ _ (.cons _ _ (.cons _ _ (.cons _ _ .nil)))) hlf)
        · obtain ⟨y1, y2, y3, y4, y5, _⟩ := hy
          (repeat (refine (if_neg (by assumption)).trans ?_)); rfl)
    · rename Fr _ _ _ _ => F6
      rename News _ _ _ _ => N6
      have tw := two_of sw0 sh0 (Int.lt_of_le_of_lt hmo.1 (Int.not_le.mp (by assumption))) (by assumption)
      rename_i D1 _ _ _ D2 _ _ _
      simp only [List.push_toArray, List.append_assoc, List.cons_append, List.nil_append] at N6
      have hk := kk (half2 tw.1).1 (half2 tw.1).2
      have hs := hv_w (x := xq) (y := yq) hmo.1 sw6 sh0 sh6 tw.1 (by assumption) (by assumption)
      have hw2 := wt_w (x := xq) (y := yq) (half2 tw.1).1 (half2 tw.1).2 tw.2
      refine foldG ?_
      intro qG
      obtain ⟨o1, o2, hD1, hD2, hm1, hm2, hit⟩ := two_tups (D1 := D1) (D2 := D2) (r1 := [xq + wq.fdiv 2, yq, wq - wq.fdiv 2, hq]) (r2 := [xq, yq, wq.fdiv 2, hq]) N6 (by k_mem) (by k_mem) (.cons _ _ (.cons _ _ (.cons _ _ (.cons _ _ .nil)))) (.cons _ _ (.cons _ _ (.cons _ _ (.cons _ _ .nil))))
      k_unfold
      clear qG
      refine whileStep F6 (newsSub N6 (by k_sub)) (HvJ.less hw2) (HvJ.two htl hvs hws' hsm' heq hln (fun y hy => ?_) hD1 hD2 hit (.of (Int.le_of_lt hk.2.1) (Int.le_trans hk.2.2 sw6) sh0 sh6) (.of hk.1.1 (Int.le_trans hk.1.2 sw6) sh0 sh6) hs hw2)
      · obtain ⟨y1, y2, y3, y4, y5, _⟩ := hy
        repeat (refine (if_neg (by assumption)).trans ?_)
        rfl
    · rename Fr _ _ _ _ => F6
      rename News _ _ _ _ => N6
      have tw := two_of sh0 sw0 (Int.mul_comm wq hq ▸ Int.lt_of_le_of_lt hmo.1 (Int.not_le.mp (by assumption))) (Int.le_of_lt (Int.not_le.mp (by assumption)))
      rename_i D1 _ _ _ D2 _ _ _
      simp only [List.push_toArray, List.append_assoc, List.cons_append, List.nil_append] at N6
      have hk := kk (half2 tw.1).1 (half2 tw.1).2
      have hs := hv_h (x := xq) (y := yq) hmo.1 sw0 sw6 sh6 tw.1 (by assumption) (by assumption)
      have hw2 := wt_h (x := xq) (y := yq) (half2 tw.1).1 (half2 tw.1).2 tw.2
      refine foldG ?_
      intro qG
      obtain ⟨o1, o2, hD1, hD2, hm1, hm2, hit⟩ := two_tups (D1 := D1) (D2 := D2) (r1 := [xq, yq + hq.fdiv 2, wq, hq - hq.fdiv 2]) (r2 := [xq, yq, wq, hq.fdiv 2]) N6 (by k_mem) (by k_mem) (.cons _ _ (.cons _ _ (.cons _ _ (.cons _ _ .nil)))) (.cons _ _ (.cons _ _ (.cons _ _ (.cons _ _ .nil))))
      k_unfold
      clear qG
      refine whileStep F6 (newsSub N6 (by k_sub)) (HvJ.less hw2) (HvJ.two htl hvs hws' hsm' heq hln (fun y hy => ?_) hD1 hD2 hit (.of sw0 sw6 (Int.le_of_lt hk.2.1) (Int.le_trans hk.2.2 sh6)) (.of sw0 sw6 hk.1.1 (Int.le_trans hk.1.2 sh6)) hs hw2)
      · obtain ⟨y1, y2, y3, y4, y5, _⟩ := hy
        repeat (refine (if_neg (by assumption)).trans ?_)
        rfl
end
end
theorem rst10 : True ∧ True := by
  w_top off
  first
  | (walk1; done)
  | exact ⟨trivial, trivial⟩
-- B18
section
def cutNames : List Str := [Str.ofString "pieces", Str.ofString "turn", Str.ofString "longer", Str.ofString "x", Str.ofString "y", Str.ofString "width", Str.ofString "height"]
def cutNamesI : List Str := [Str.ofString "longer", Str.ofString "x", Str.ofString "y", Str.ofString "width", Str.ofString "height"]
/-- the turns of _law_cut: the pieces -/
inductive CutO (news : Led) (rows : List (List Int)) (m₀ : Str → Option Value) : (Str → Option Value) → Led → Prop
  | mk (m : Str → Option Value) (P : Addr) (vs : List Value) (k : Nat) (tl : Led) : AllTup tl → ITups (tl ++ news) vs rows → m (Str.ofString "pieces") = some (.ref P) → (∀ q ∈ news, q.1 ≠ P) → (∀ y, NotIn cutNames y → m y = m₀ y) → CutO news rows m₀ m ((P, listOf vs.toArray k) :: tl)
/-- one turn: the longer row so far -/
inductive CutI (base cst : Led) (rows : List (List Int)) (m₀ : Str → Option Value) : (Str → Option Value) → Led → Prop
  | mk (m : Str → Option Value) (G : Addr) (ws : List Value) (k : Nat) (tl : Led) : AllTup tl → ITups (tl ++ base) ws rows → m (Str.ofString "longer") = some (.ref G) → (∀ q ∈ cst, q.1 ≠ G) → (∀ y, NotIn cutNamesI y → m y = m₀ y) → CutI base cst rows m₀ m ((G, listOf ws.toArray k) :: tl)
theorem CutO.start {news : Led} {fnd t : Addr} {most : Int} {m : Str → Option Value} {its : List Value} {n : Nat} {r : List Int} (hm : (t, tupO its n) ∈ news) (hi : IntsAre its r) (hp : m (Str.ofString "pieces") = some (.ref fnd)) (hn : ∀ q ∈ news, q.1 ≠ fnd) :
    CutO news (cutN most 0 [r]) m m [(fnd, listOf [Value.ref t].toArray 0)] :=
  CutO.mk (news := news) (rows := [r]) (m₀ := m) m fnd [Value.ref t] 0 [] AllTup.nil (.cons hm hi .nil) hp hn fun _ _ => rfl
theorem CutI.start {base cst : Led} {G : Addr} {most : Int} {rows : List (List Int)} {m : Str → Option Value} (hp : m (Str.ofString "longer") = some (.ref G)) (hn : ∀ q ∈ cst, q.1 ≠ G) :
    CutI base cst ((rows.take 0).flatMap (cut1 most)) m m [(G, listOf [].toArray 0)] :=
  CutI.mk (base := base) (rows := []) (m₀ := m) m G [] 0 [] AllTup.nil .nil hp hn fun _ _ => rfl
theorem take_flat {most : Int} {rows zs : List (List Int)} {j : Nat} {r : List Int} (h : rows[j]? = some r) (e : cut1 most r = zs) : (rows.take (j + 1)).flatMap (cut1 most) = (rows.take j).flatMap (cut1 most) ++ zs := by
  rw [List.take_add_one, h, Option.toList_some, List.flatMap_append, List.flatMap_cons, List.flatMap_nil, List.append_nil, e]
theorem flat_len {most : Int} (h1 : 1 ≤ most) {rows : List (List Int)} (h : ∀ r ∈ rows, Small r) (j : Nat) {n : Nat} (hn : (rows.map wt).sum ≤ n) : ((rows.take j).flatMap (cut1 most)).length ≤ n :=
  Nat.le_trans (wt_sum _) (Nat.le_trans (flat_small h1 fun r hr => h r (List.mem_of_mem_take hr)).2 (Nat.le_trans (take_sum rows j) hn))
theorem cut_go {most : Int} {base cst : Led} {rows zs : List (List Int)} {m₀ m : Str → Option Value} {j : Nat} {r : List Int} {tl new : Led} {ws us : List Value} {k : Nat} {G : Addr} (hr : rows[j]? = some r) (e : cut1 most r = zs) (ht : AllTup tl) (hn : AllTup new) (hws : ITups (tl ++ base) ws ((rows.take j).flatMap (cut1 most))) (hus : ITups new us zs)
    (hG : m (Str.ofString "longer") = some (.ref G)) (hc : ∀ q ∈ cst, q.1 ≠ G) (hm : ∀ y, NotIn cutNamesI y → m y = m₀ y) : CutI base cst ((rows.take (j + 1)).flatMap (cut1 most)) m₀ m ((G, listOf (ws ++ us).toArray k) :: (new ++ tl)) := by
  refine .mk m G (ws ++ us) k (new ++ tl) (hn.append ht) ?_ hG hc hm
  rw [take_flat hr e, List.append_assoc]
  exact (hws.mono fun q hq => List.mem_append_right _ hq).append (hus.mono fun q hq => List.mem_append_left _ hq)
theorem AllTup.two {D1 D2 : Addr} {o1 o2 : Obj} (a : o1.cls = .type "tuple") (b : o2.cls = .type "tuple") : AllTup [(D1, o1), (D2, o2)] := AllTup.cons a (AllTup.cons b AllTup.nil)

section
variable {w : World} {p : Program} {loose : List Str} {mean : ExcName → Option Value} {mg mb : Str → Option Value}
  {dp un : Nat} {gd : Option (List Code)} {cn : Str} {cs : Scope} {a : Addr} {ccd : Value} {cl : List (Str × Addr)} {outer : List Env} {A₀ : Around} {base h₀ : Heap} {L : Addr} {m : Str → Option Value} {news : Led} {s : Shared} {Q E : Value → Shared → Prop}

local macro_rules | `(tactic| walk_at "exec For Name Call cons nil") => `(tactic| refine halt ?_)
local macro_rules | `(tactic| walk_at "binaryOp Add ref ref") => `(tactic| refine halt ?_)
local macro_rules | `(tactic| walk_at "exec For Tuple Name cons nil") => `(tactic| refine halt ?_)
local macro_rules | `(tactic| walk_at "pyIter ref") => `(tactic| refine halt ?_)
theorem cut_K {t : Addr} {x y wd ht most : Int} {t1 t2 t3 t4 tm : Tok} {n : Nat}
  (B : Below A₀ base outer h₀) (F : Fr h₀ L s.heap m) (X : (hd.heap_39 w.params).In h₀) (N : News h₀ L s.heap news) (T : Top p loose mean mg mb h₀) (hk : cs.kind = .function)
  (hm : (t, tupO [.int x t1, .int y t2, .int wd t3, .int ht t4] n) ∈ news)
  (hw : 0 ≤ wd ∧ wd ≤ 6) (hh : 0 ≤ ht ∧ ht ≤ 6) (hmo : 1 ≤ most ∧ most ≤ 10)
  (hd : dp + 1 < recursionLimit) (hu : un + 200 < cLine)
  (h : ∀ l vs n tl h' tk', AllTup tl → ITups (tl ++ news) vs (cutN most 12 [[x, y, wd, ht]]) → Fr h₀ L h' m → News h₀ L h' ((l, listOf vs.toArray n) :: (tl ++ news)) → Q (.ref l) {s with heap := h', toks := tk'}) :
  wpAny (model PRG w) (ktrTop dp un gd cn cs L a ccd cl outer) (call (.ref 147) [.ref t, .int most tm]) Q E s := by
  have hr0 : Small [x, y, wd, ht] := .of hw.1 hw.2 hh.1 hh.2
  have hcs := cutN_small (most := most) hmo.1 (mem1 hr0)
  have hpos := wt_le (x := x) (y := y) hw.1 hw.2 hh.1 hh.2
  refine wpAny_call ?_
  k_dflt ktr_enter
  k_steps
  rename_i fnd hA l1 hB F0 N0
  refine Halt.out ?_
  refine wpAny_noRaise ?_
  with_unfolding_all refine' For_invVF F0 ?k1 ?k2 ?_
  case k1 => exact rfl
  case k2 => exact rfl
  k_steps
  refine Halt.out ?_
  rename IsRange _ _ _ _ _ _ _ _ => R1
  rename Fr _ _ _ _ => F1
  rename News _ _ _ _ => N1
  refine iter_range (n := 12) (cst := news) (dyn₀ := [(fnd, listOf [.ref t].toArray 0)]) (fun m₀ _ i m dyn => CutO news (cutN most i [[x, y, wd, ht]]) m₀ m dyn) rfl R1 (by decide) (by decide) F1 (newsSub N1 (by k_sub)) (CutO.start hm (.cons _ _ (.cons _ _ (.cons _ _ (.cons _ _ .nil)))) rfl fun q hq => Nat.ne_of_lt (l1 q hq)) ?_ ?_
  · intro i tt m1 dyn I oI h2 tk2 hi hJ hns hdI hcI F2 N2
    refine foldG ?_
    intro qG
    obtain ⟨P, vs, k, tl, htl, hvs, hmP, hPn, hm1⟩ := hJ
    k_unfold
    clear qG
    have F3 := frp (m := fun y => if y = Str.ofString "turn" then some (.int (0 + (i : Int) * 1) tt) else m1 y) [(Str.ofString "pieces", some (.ref P)), (Str.ofString "turn", some (.int (0 + (i : Int) * 1) tt)), (Str.ofString "longer", m1 (Str.ofString "longer")), (Str.ofString "x", m1 (Str.ofString "x")), (Str.ofString "y", m1 (Str.ofString "y")), (Str.ofString "width", m1 (Str.ofString "width")), (Str.ofString "height", m1 (Str.ofString "height"))] ⟨by dsimp only; rw [if_neg (by decide)]; exact hmP, by dsimp only; rw [if_pos rfl], by dsimp only; rw [if_neg (by decide)], by dsimp only; rw [if_neg (by decide)], by dsimp only; rw [if_neg (by decide)], by dsimp only; rw [if_neg (by decide)], by dsimp only; rw [if_neg (by decide)], trivial⟩ (fun y hy => (if_neg hy.2.1).trans (hm1 y hy)) F2
    clear F2
    dsimp only [look] at F3
    k_steps
    rename_i lg hC Fx Nx l2 hD F4 N4
    refine Halt.out ?_
    with_unfolding_all refine' For_turns F4 ?_
    k_steps
    refine Halt.out ?_
    rename Fr _ _ _ _ => F5
    rename News _ _ _ _ => N5
    first | (refine foldG ?_; intro qG; obtain ⟨rows, hrw⟩ : ∃ rows, rows = cutN most i [[x, y, wd, ht]] := ⟨_, rfl⟩; k_unfold; clear qG) | obtain ⟨rows, hrw⟩ : ∃ rows, rows = cutN most i [[x, y, wd, ht]] := ⟨_, rfl⟩
    have hsm := (hcs i).1
    have hsw : (rows.map wt).sum ≤ 71 := hrw ▸ Nat.le_trans (hcs i).2 (Nat.le_trans (Nat.le_of_eq (Nat.add_zero _)) hpos)
    rw [← hrw] at hvs hsm
    refine for_list (l := P) (vs := vs) (k := k) (cst := (I, oI) :: (P, listOf vs.toArray k) :: (tl ++ news)) (dyn₀ := [(lg, listOf [].toArray 0)]) (fun m₀ j m dyn => CutI (tl ++ news) ((I, oI) :: (P, listOf vs.toArray k) :: (tl ++ news)) ((rows.take j).flatMap (cut1 most)) m₀ m dyn) rfl (.tail _ (.head _)) F5 (newsSub N5 (by k_sub)) (CutI.start rfl (List.forall_mem_cons.mpr ⟨Nat.ne_of_lt l2.1, fun q hq => Nat.ne_of_lt (tb_ltOf l2.2 q hq)⟩)) ?_ ?_
    · intro j v m6 dyn I2 oI2 h6 tk6 hv6 hJ hns6 hdI6 hcI6 F6 N6
      first | (refine foldG ?_; intro qG; obtain ⟨q, xq, yq, wq, hq, u1, u2, u3, u4, nq, ev, hqm, hqr⟩ := hvs.get4 (fun r hr => (hsm r hr).len) hv6; k_unfold; clear qG) | obtain ⟨q, xq, yq, wq, hq, u1, u2, u3, u4, nq, ev, hqm, hqr⟩ := hvs.get4 (fun r hr => (hsm r hr).len) hv6
      first | (refine foldG ?_; intro qG; obtain ⟨sw0, sw6, sh0, sh6⟩ := (hsm _ (List.mem_of_getElem? hqr)).four; k_unfold; clear qG) | obtain ⟨sw0, sw6, sh0, sh6⟩ := (hsm _ (List.mem_of_getElem? hqr)).four
      subst ev
      first | (refine foldG ?_; intro qG; obtain ⟨Lg, ws, jj, tl', htl', hws, hmL, hLn, hm6⟩ := hJ; k_unfold; clear qG) | obtain ⟨Lg, ws, jj, tl', htl', hws, hmL, hLn, hm6⟩ := hJ
      have hwl : ws.length ≤ 71 := by rw [hws.length]; exact flat_len hmo.1 hsm j hsw
      have F7 := frp [(Str.ofString "longer", some (.ref Lg)), (Str.ofString "x", m6 (Str.ofString "x")), (Str.ofString "y", m6 (Str.ofString "y")), (Str.ofString "width", m6 (Str.ofString "width")), (Str.ofString "height", m6 (Str.ofString "height"))] ⟨hmL, rfl, rfl, rfl, rfl, trivial⟩ hm6 F6
      clear F6
      dsimp only [look] at F7
      have b1 : ∀ q ∈ tl', q.1 ≠ Lg := htl'.apartL N6 (fun q hq => .tail _ (.tail _ (List.mem_append_left _ hq))) (.tail _ (.head _))
      have b2 : ∀ q ∈ news, q.1 ≠ Lg := fun q hq => hLn q (.tail _ (.tail _ (List.mem_append_right _ hq)))
      have b3 : ∀ q ∈ tl, q.1 ≠ Lg := fun q hq => hLn q (.tail _ (.tail _ (List.mem_append_left _ hq)))
      have b4 : I ≠ Lg := hLn (I, oI) (.head _)
      have b5 : P ≠ Lg := hLn (P, listOf vs.toArray k) (.tail _ (.head _))
      have b6 : Lg ≠ I2 := hdI6 (Lg, listOf ws.toArray jj) (.head _)
      have N7 : News _ _ h6 ((I2, oI2) :: (Lg, listOf ws.toArray jj) :: (tl' ++ (I, oI) :: (P, listOf vs.toArray k) :: (tl ++ news))) := N6
      clear N6
      k_steps
      · rename_i D1 _ l1a _ F8 N8
        refine itNext (dyn := (Lg, listOf (ws ++ [Value.ref D1]).toArray (jj + 1)) :: (D1, _) :: tl') F8 (newsSub N8 (by k_sub)) (List.forall_mem_cons.mpr ⟨b6, List.forall_mem_cons.mpr ⟨Nat.ne_of_gt l1a.1, fun p hp => hdI6 p (.tail _ hp)⟩⟩) hcI6 (cut_go (new := [(D1, _)]) hqr (cut1_leaf ‹wq * hq ≤ most›) htl' (AllTup.cons rfl AllTup.nil) hws (ITups.one (.head _) (.cons _ _ (.cons _ _ (.cons _ _ (.cons _ _ .nil))))) rfl hLn fun y hy => ?_)
        first | (refine foldG ?_; intro qG; obtain ⟨y1, y2, y3, y4, y5, _⟩ := hy; k_unfold; clear qG) | obtain ⟨y1, y2, y3, y4, y5, _⟩ := hy
        repeat (refine (if_neg (by assumption)).trans ?_)
        repeat (refine Eq.trans ?_ (if_neg (by assumption)).symm)
        rfl
      · rename_i D1 _ l1a _ D2 _ l1b l5 _ F8 N8 lc
        refine Halt.out ?_
        refine foldG ?_
        intro qG
        obtain ⟨o1, o2, hD1, hD2, hm1, hm2, hit⟩ := two_tups (D1 := D1) (D2 := D2) (r1 := [xq, yq, wq.fdiv 2, hq]) (r2 := [xq + wq.fdiv 2, yq, wq - wq.fdiv 2, hq]) N8 (by k_mem) (by k_mem) (.cons _ _ (.cons _ _ (.cons _ _ (.cons _ _ .nil)))) (.cons _ _ (.cons _ _ (.cons _ _ (.cons _ _ .nil))))
        k_unfold
        clear qG
        have nI1 : D1 ≠ I2 := Nat.ne_of_gt l1a.1
        have nI2 : D2 ≠ I2 := Nat.ne_of_gt l1b.2.1
        refine kmk_add_lit (its := ws.toArray) (its2 := #[Value.ref D1, Value.ref D2]) (zs := ws ++ [Value.ref D1, Value.ref D2]) F8 N8 (N8.isList (by k_mem)) (N8.isList (.head _)) (by simp) ?_ (by rw [sizeLine_eq]; simp; omega)
        intro Ln h9 F9 N9 lN
        k_steps
        rename Fr _ _ _ _ => F10
        rename News _ _ _ _ => N10
        refine itNext (dyn := (Ln, listOf (ws ++ [Value.ref D1, Value.ref D2]).toArray 0) :: (D1, o1) :: (D2, o2) :: tl') F10 (newsSub N10 (by k_sub)) (List.forall_mem_cons.mpr ⟨Nat.ne_of_gt (lN (I2, oI2) (by k_mem)), List.forall_mem_cons.mpr ⟨nI1, List.forall_mem_cons.mpr ⟨nI2, fun p hp => hdI6 p (.tail _ hp)⟩⟩⟩) hcI6 (cut_go (new := [(D1, o1), (D2, o2)]) hqr (by rw [cut1_4, if_neg ‹¬ wq * hq ≤ most›, if_pos ‹hq ≤ wq›]) htl' (AllTup.two hD1 hD2) hws hit rfl (fun q hq => Nat.ne_of_lt (lN q ?_)) fun y hy => ?_)
        · revert q
          k_sub
        · first | (refine foldG ?_; intro qG; obtain ⟨y1, y2, y3, y4, y5, _⟩ := hy; k_unfold; clear qG) | obtain ⟨y1, y2, y3, y4, y5, _⟩ := hy
          repeat (refine (if_neg (by assumption)).trans ?_)
          repeat (refine Eq.trans ?_ (if_neg (by assumption)).symm)
          rfl
      · rename_i D1 _ l1a _ D2 _ l1b l5 _ F8 N8 lc
        refine Halt.out ?_
        refine foldG ?_
        intro qG
        obtain ⟨o1, o2, hD1, hD2, hm1, hm2, hit⟩ := two_tups (D1 := D1) (D2 := D2) (r1 := [xq, yq, wq, hq.fdiv 2]) (r2 := [xq, yq + hq.fdiv 2, wq, hq - hq.fdiv 2]) N8 (by k_mem) (by k_mem) (.cons _ _ (.cons _ _ (.cons _ _ (.cons _ _ .nil)))) (.cons _ _ (.cons _ _ (.cons _ _ (.cons _ _ .nil))))
        k_unfold
        clear qG
        have nI1 : D1 ≠ I2 := Nat.ne_of_gt l1a.1
        have nI2 : D2 ≠ I2 := Nat.ne_of_gt l1b.2.1
        refine kmk_add_lit (its := ws.toArray) (its2 := #[Value.ref D1, Value.ref D2]) (zs := ws ++ [Value.ref D1, Value.ref D2]) F8 N8 (N8.isList (by k_mem)) (N8.isList (.head _)) (by simp) ?_ (by rw [sizeLine_eq]; simp; omega)
        intro Ln h9 F9 N9 lN
        k_steps
        rename Fr _ _ _ _ => F10
        rename News _ _ _ _ => N10
        refine itNext (dyn := (Ln, listOf (ws ++ [Value.ref D1, Value.ref D2]).toArray 0) :: (D1, o1) :: (D2, o2) :: tl') F10 (newsSub N10 (by k_sub)) (List.forall_mem_cons.mpr ⟨Nat.ne_of_gt (lN (I2, oI2) (by k_mem)), List.forall_mem_cons.mpr ⟨nI1, List.forall_mem_cons.mpr ⟨nI2, fun p hp => hdI6 p (.tail _ hp)⟩⟩⟩) hcI6 (cut_go (new := [(D1, o1), (D2, o2)]) hqr (by rw [cut1_4, if_neg ‹¬ wq * hq ≤ most›, if_neg ‹¬ hq ≤ wq›]) htl' (AllTup.two hD1 hD2) hws hit rfl (fun q hq => Nat.ne_of_lt (lN q ?_)) fun y hy => ?_)
        · revert q
          k_sub
        · first | (refine foldG ?_; intro qG; obtain ⟨y1, y2, y3, y4, y5, _⟩ := hy; k_unfold; clear qG) | obtain ⟨y1, y2, y3, y4, y5, _⟩ := hy
          repeat (refine (if_neg (by assumption)).trans ?_)
          repeat (refine Eq.trans ?_ (if_neg (by assumption)).symm)
          rfl
    · intro m6 dyn h6 tk6 hJ F6 N6
      refine foldG ?_
      intro qG
      obtain ⟨Lg, ws, jj, tl', htl', hws, hmL, hLn, hm6⟩ := hJ
      k_unfold
      clear qG
      have F7 := frp [(Str.ofString "longer", some (.ref Lg)), (Str.ofString "x", m6 (Str.ofString "x")), (Str.ofString "y", m6 (Str.ofString "y")), (Str.ofString "width", m6 (Str.ofString "width")), (Str.ofString "height", m6 (Str.ofString "height"))] ⟨hmL, rfl, rfl, rfl, rfl, trivial⟩ hm6 F6
      clear F6
      dsimp only [look] at F7
      k_steps
      rename Fr _ _ _ _ => F8
      rename News _ _ _ _ => N8
      rw [hvs.length, List.take_length, hrw] at hws
      refine TurnPost.intro (dyn := (Lg, listOf ws.toArray jj) :: (tl' ++ tl)) F8 (newsSub N8 (by k_sub)) (List.forall_mem_cons.mpr ⟨(hLn (I, oI) (.head _)).symm, fun p hp => (List.mem_append.mp hp).elim (htl'.apart N8 (by k_sub) (by k_mem) hns.1 p) fun hp => hdI p (.tail _ hp)⟩) (.mk _ Lg ws jj (tl' ++ tl) (htl'.append htl) (by rw [List.append_assoc]; exact hws) rfl (fun q hq => hLn q (.tail _ (.tail _ (List.mem_append_right _ hq)))) fun y hy => ?_)
      first | (refine foldG ?_; intro qG; obtain ⟨y1, y2, y3, y4, y5, y6, y7, _⟩ := hy; k_unfold; clear qG) | obtain ⟨y1, y2, y3, y4, y5, y6, y7, _⟩ := hy
      repeat (refine (if_neg (by assumption)).trans ?_)
      repeat (refine Eq.trans ?_ (if_neg (by assumption)).symm)
      rfl
  · intro m1 dyn h2 tk2 hJ F2 N2
    refine foldG ?_
    intro qG
    obtain ⟨P, vs, k, tl, htl, hvs, hmP, hPn, hm1⟩ := hJ
    k_unfold
    clear qG
    have F3 := frp [(Str.ofString "pieces", some (.ref P)), (Str.ofString "turn", m1 (Str.ofString "turn")), (Str.ofString "longer", m1 (Str.ofString "longer")), (Str.ofString "x", m1 (Str.ofString "x")), (Str.ofString "y", m1 (Str.ofString "y")), (Str.ofString "width", m1 (Str.ofString "width")), (Str.ofString "height", m1 (Str.ofString "height"))] ⟨hmP, rfl, rfl, rfl, rfl, rfl, rfl, trivial⟩ hm1 F2
    clear F2
    dsimp only [look] at F3
    k_steps
    rename Fr h₀ _ _ _ => F10
    rename News h₀ _ _ _ => N10
    exact h _ _ _ _ _ _ htl hvs F10 (newsSub N10 (by k_sub))
end
end
theorem rst11 : True ∧ True := by
  w_top off
  first
  | (walk1; done)
  | exact ⟨trivial, trivial⟩
-- B19
section
def inB (l t r u g x y : Int) : Bool := decide (pmin r (g * (x + 1)) - pmax l (g * x) > 0 ∧ pmin u (g * (y + 1)) - pmax t (g * y) > 0)
def rowDue (l t r u g y : Int) (n : Nat) : List (List Int) := ((List.range n).filter fun (i : Nat) => inB l t r u g (-6 + (i : Int) * 1) y).map fun (i : Nat) => [-6 + (i : Int) * 1, y]
def dueN (l t r u g : Int) (n : Nat) : List (List Int) := (List.range n).flatMap fun (j : Nat) => rowDue l t r u g (-6 + (j : Int) * 1) 13
theorem rowDue_in {l t r u g y : Int} {n : Nat} (h : inB l t r u g (-6 + (n : Int) * 1) y = true) : rowDue l t r u g y (n + 1) = rowDue l t r u g y n ++ [[-6 + (n : Int) * 1, y]] := by
  simp only [rowDue, List.range_succ, List.filter_append, List.map_append]
  rw [List.filter_cons, if_pos h]; rfl
theorem rowDue_out {l t r u g y : Int} {n : Nat} (h : inB l t r u g (-6 + (n : Int) * 1) y = false) : rowDue l t r u g y (n + 1) = rowDue l t r u g y n := by
  simp only [rowDue, List.range_succ, List.filter_append, List.map_append]
  rw [List.filter_cons, if_neg (by rw [h]; decide), List.filter_nil, List.map_nil, List.append_nil]
theorem dueN_succ {l t r u g : Int} {n : Nat} : dueN l t r u g (n + 1) = dueN l t r u g n ++ rowDue l t r u g (-6 + (n : Int) * 1) 13 := by
  simp only [dueN, List.range_succ, List.flatMap_append, List.flatMap_cons, List.flatMap_nil, List.append_nil]

section
variable {w : World} {p : Program} {loose : List Str} {mean : ExcName → Option Value} {mg mb : Str → Option Value}
  {dp un : Nat} {gd : Option (List Code)} {cn : Str} {cs : Scope} {a : Addr} {ccd : Value} {cl : List (Str × Addr)} {outer : List Env} {A₀ : Around} {base h₀ : Heap} {L : Addr} {m : Str → Option Value} {news : Led} {s : Shared} {Q E : Value → Shared → Prop}
local macro_rules | `(tactic| walk_at "call ref") => `(tactic| (k_here; (with_reducible show wpAny _ _ (call (Value.ref 100) [Value.ref _, _]) _ _ _); k_dflt (refine' box_K ?k1 ?k2 ?k3 ?k4 ?k5 ?kK ?km ?b1 ?b2 ?b3 ?b4 ?b5 ?b6 ?b7 ?b8 ?b9 ?ba ?kd ?kv ?_ ?_; (case k1 => k_asm); (case k2 => k_asm); (case k3 => k_asm); (case k4 => k_asm); (case k5 => k_asm); (case kK => first | exact rfl | assumption); (case km => k_mem); (case kd => ktr_room); (case kv => ktr_units); (case b1 => omega); (case b2 => omega); (case b3 => omega); (case b4 => omega); (case b5 => omega); (case b6 => omega); (case b7 => omega); (case b8 => omega); (case b9 => omega); (case ba => omega)); rotate_left 1; (intro r9 ca9 cb9 cc9 cd9 h9 tk9 nx9 ny9 F9 N9; (try dsimp only); (try k_fold)); rotate_left 1; (intro h9 tk9 or9 F9 N9; (try dsimp only); (try k_fold))))

local macro_rules | `(tactic| walk_at "exec For Name Call cons nil") => `(tactic| refine halt ?_)
local macro_rules | `(tactic| walk_at "pyIter ref") => `(tactic| refine halt ?_)
local macro_rules | `(tactic| walk_at "call ref") => `(tactic| ((with_reducible show wpAny _ _ (call (Value.ref 126) _) _ _ _); refine halt ?_))
local macro_rules | `(tactic| walk_at "compareOp Eq ref ref") => `(tactic| refine halt ?_)
theorem boxR_K {b : Addr} {l t r u g : Int} {tl0 tt tr tu tg : Tok} {n : Nat}
  (B : Below A₀ base outer h₀) (F : Fr h₀ L s.heap m) (X : (hd.heap_39 w.params).In h₀) (N : News h₀ L s.heap news) (T : Top p loose mean mg mb h₀) (hk : cs.kind = .function)
  (hb : (b, tupO [.int l tl0, .int t tt, .int r tr, .int u tu] n) ∈ news) (hg : 1 ≤ g) (hg2 : g ≤ 20) (l1 : -200 ≤ l) (l2 : l ≤ 200) (t1 : -200 ≤ t) (t2 : t ≤ 200) (r1 : -200 ≤ r) (r2 : r ≤ 200) (u1 : -200 ≤ u) (u2 : u ≤ 200)
  (hd : dp + 2 < recursionLimit) (hu : un + 300 < cLine)
  (hd1 : (r ≤ l ∨ u ≤ t) → dueN l t r u g 13 = [])
  (hd2 : ¬ r ≤ l → ¬ u ≤ t → dueN l t r u g 13 = dotsOf (l.fdiv g) (t.fdiv g) (-((-r).fdiv g) - l.fdiv g).toNat (-((-u).fdiv g) - t.fdiv g).toNat ∧ dueN l t r u g 13 ≠ [] ∧ (-1000 ≤ l.fdiv g ∧ l.fdiv g ≤ 1000) ∧ (-1000 ≤ t.fdiv g ∧ t.fdiv g ≤ 1000) ∧ (0 ≤ -((-r).fdiv g) - l.fdiv g ∧ -((-r).fdiv g) - l.fdiv g ≤ 20) ∧ (0 ≤ -((-u).fdiv g) - t.fdiv g ∧ -((-u).fdiv g) - t.fdiv g ≤ 20))
  (h : ∀ h' tk', Fr h₀ L h' m → News h₀ L h' news → Q (.bool true) {s with heap := h', toks := tk'}) :
  wpAny (model PRG w) (ktrTop dp un gd cn cs L a ccd cl outer) (call (.ref 166) [.ref b, .int g tg]) Q E s := by
  refine wpAny_call ?_
  k_dflt ktr_enter
  k_steps
  rename_i fnd hA l1f hB F0 N0
  refine Halt.out ?_
  refine wpAny_noRaise ?_
  with_unfolding_all refine' For_invVF F0 ?k1 ?k2 ?_
  case k1 => exact rfl
  case k2 => exact rfl
  k_steps
  refine Halt.out ?_
  rename IsRange _ _ _ _ _ _ _ _ => hr
  rename Fr _ _ _ _ => kF
  rename News _ _ _ _ => kN
  refine iter_range (n := 13) (cst := news) (dyn₀ := [(fnd, listOf #[] 0)]) (fun m₀ dyn₀ i m dyn => TlJ fnd (dueN l t r u g i) (i * 13) (∀ y, NotIn [Str.ofString "y", Str.ofString "x", Str.ofString "across", Str.ofString "down"] y → m y = m₀ y) dyn) rfl hr (by decide) (by decide) kF kN (TlJ.mk (vs := []) (fun _ _ => rfl) (Nat.zero_le _) AllTup.nil ITups.nil) ?_ ?_
  · intro i ti m₁ dyn I oI h1 tk1 hi hJ hnI hdI hcI F1 N1
    refine foldG ?_
    intro qG
    obtain @⟨vs, n, tl, hm, hvl, htl, hvs⟩ := hJ
    k_unfold
    clear qG
    have F2 := frp (m := fun y => if y = Str.ofString "y" then some (.int (-6 + (i : Int) * 1) ti) else m₁ y) [(Str.ofString "y", some (.int (-6 + (i : Int) * 1) ti)), (Str.ofString "x", m₁ (Str.ofString "x")), (Str.ofString "across", m₁ (Str.ofString "across")), (Str.ofString "down", m₁ (Str.ofString "down"))] ⟨by dsimp only; rw [if_pos rfl], by dsimp only; rw [if_neg (by decide)], by dsimp only; rw [if_neg (by decide)], by dsimp only; rw [if_neg (by decide)], trivial⟩ (fun y hy => (if_neg hy.1).trans (hm y hy)) F1
    clear F1
    dsimp only [look] at F2
    simp only [List.cons_append] at N1
    refine wpAny_execs_cons ?_
    with_unfolding_all refine' For_invVF F2 ?k1 ?k2 ?_
    case k1 => exact rfl
    case k2 => exact rfl
    k_steps
    refine Halt.out ?_
    rename IsRange _ _ _ _ _ _ _ _ => hr2
    rename Fr _ _ _ _ => kF2
    rename News _ _ _ _ => kN2
    refine iter_range (n := 13) (cst := (I, oI) :: news) (dyn₀ := (fnd, listOf vs.toArray n) :: tl) (fun m₀ dyn₀ j m dyn => TlJ fnd (dueN l t r u g i ++ rowDue l t r u g (-6 + (i : Int) * 1) j) (i * 13 + j) (∀ y, NotIn [Str.ofString "x", Str.ofString "across", Str.ofString "down"] y → m y = m₀ y) dyn) rfl hr2 (by decide) (by decide) kF2 (newsSub kN2 (by k_sub)) (TlJ.mk (fun _ _ => rfl) hvl htl ((List.append_nil _).symm ▸ hvs)) ?_ ?_
    · intro j t2 m2 dyn2 J oJ h2 tk2 hj hJ hnJ hdJ hcJ F3 N3
      refine foldG ?_
      intro qG
      obtain @⟨vs2, n2, tl2, hm2, hvl2, htl2, hvs2⟩ := hJ
      k_unfold
      clear qG
      have F4 := frp (m := fun y => if y = Str.ofString "x" then some (.int (-6 + (j : Int) * 1) t2) else m2 y) [(Str.ofString "x", some (.int (-6 + (j : Int) * 1) t2)), (Str.ofString "across", m2 (Str.ofString "across")), (Str.ofString "down", m2 (Str.ofString "down"))] ⟨by dsimp only; rw [if_pos rfl], by dsimp only; rw [if_neg (by decide)], by dsimp only; rw [if_neg (by decide)], trivial⟩ (fun y hy => (if_neg hy.1).trans (hm2 y hy)) F3
      clear F3
      dsimp only [look] at F4
      simp only [List.cons_append] at N3
      have a0 : vs2.length ≤ 1000 := by omega
      have a1 : fnd ≠ J := hdJ _ (.head _)
      have a2 : ∀ q ∈ tl2, q.1 ≠ fnd := htl2.apartL N3 (fun q hq => .tail _ (.tail _ (List.mem_append_left _ hq))) (.tail _ (.head _))
      have a3 : fnd ≠ I := hdI _ (.head _)
      have a4 : ∀ q ∈ news, q.1 ≠ fnd := fun q hq => Nat.ne_of_lt (l1f q hq)
      have a5 : ∀ q ∈ tl2, q.1 ≠ J := fun q hq => hdJ q (.tail _ hq)
      k_steps
      · rename_i D3 _ l3 _ F5 N5
        have hin : inB l t r u g (-6 + (j : Int) * 1) (-6 + (i : Int) * 1) = true := by
          rw [inB, decide_eq_true_eq]
          constructor <;> assumption
        refine TurnPost.intro (dyn := (fnd, listOf (vs2 ++ [Value.ref D3]).toArray (n2 + 1)) :: (D3, _) :: tl2) F5 (newsSub N5 (by k_sub)) (by k_all) ?_
        rw [rowDue_in hin, ← List.append_assoc]
        refine TlJ.more hvl2 htl2 hvs2 (.cons _ _ (.cons _ _ .nil)) fun y hy => ?_
        refine foldG ?_
        intro qG
        obtain ⟨y1, y2, y3, _⟩ := hy
        k_unfold
        clear qG
        repeat (refine (if_neg (by assumption)).trans ?_)
        repeat (refine Eq.trans ?_ (if_neg (by assumption)).symm)
        rfl
      iterate 2 (
        focus
          rename Fr _ _ _ _ => F5
          rename News _ _ _ _ => N5
          have hin : inB l t r u g (-6 + (j : Int) * 1) (-6 + (i : Int) * 1) = false := by
            rw [inB, decide_eq_false_iff_not]
            rintro ⟨n1, n2⟩
            contradiction
          refine TurnPost.intro (dyn := (fnd, listOf vs2.toArray n2) :: tl2) F5 (newsSub N5 (by k_sub)) (by k_all) (TlJ.mk (fun y hy => ?_) (Nat.le_succ_of_le hvl2) htl2 (by rw [rowDue_out hin]; exact hvs2))
          refine foldG ?_
          intro qG
          obtain ⟨y1, y2, y3, _⟩ := hy
          k_unfold
          clear qG
          repeat (refine (if_neg (by assumption)).trans ?_)
          repeat (refine Eq.trans ?_ (if_neg (by assumption)).symm)
          rfl)
    · intro m2 dyn2 h2 tk2 hJ F3 N3
      refine foldG ?_
      intro qG
      obtain @⟨vs2, n2, tl2, hm2, hvl2, htl2, hvs2⟩ := hJ
      k_unfold
      clear qG
      k_steps
      have a3 : fnd ≠ I := hdI _ (.head _)
      have a5 : ∀ q ∈ tl2, q.1 ≠ I := by
        refine htl2.apart N3 (fun q hq => List.mem_append_left _ (.tail _ hq)) (List.mem_append_right _ (.head _)) hnI.1
      refine TurnPost.intro (dyn := (fnd, listOf vs2.toArray n2) :: tl2) F3 (newsSub N3 (by k_sub)) (by k_all) (TlJ.mk (fun y hy => ?_) (Nat.le_trans hvl2 (Nat.le_of_eq (Nat.succ_mul i 13).symm)) htl2 (by rw [dueN_succ]; exact hvs2))
      refine foldG ?_
      intro qG
      obtain ⟨y1, y2, y3, y4, _⟩ := hy
      k_unfold
      clear qG
      refine (hm2 y ⟨y2, y3, y4, trivial⟩).trans ?_
      repeat (refine (if_neg (by assumption)).trans ?_)
      repeat (refine Eq.trans ?_ (if_neg (by assumption)).symm)
      rfl
  · intro m₁ dyn h1 tk1 hJ F1 N1
    refine foldG ?_
    intro qG
    obtain @⟨vs, n, tl, hm, hvl, htl, hvs⟩ := hJ
    k_unfold
    clear qG
    have F2 := frp [(Str.ofString "y", m₁ (Str.ofString "y")), (Str.ofString "x", m₁ (Str.ofString "x")), (Str.ofString "across", m₁ (Str.ofString "across")), (Str.ofString "down", m₁ (Str.ofString "down"))] ⟨rfl, rfl, rfl, rfl, trivial⟩ hm F1
    clear F1
    dsimp only [look] at F2
    simp only [List.cons_append] at N1
    k_steps
    · have hdu := hd1 ‹_›
      refine Halt.out ?_
      k_dflt (refine' dotsN_K ?k1 ?k2 ?k3 ?k4 ?k5 ?kK ?kd ?kv ?_; (case k1 => k_asm); (case k2 => k_asm); (case k3 => k_asm); (case k4 => k_asm); (case k5 => k_asm); (case kK => first | exact rfl | assumption); (case kd => ktr_room); (case kv => ktr_units))
      intro dl dvs dn dtl dh dtk dA dI dF dN
      rename News _ _ _ _ => N8
      k_steps
      refine Halt.out ?_
      refine eq_rows N8 (.head _) (List.mem_cons_of_mem _ (List.mem_append_right _ (by k_mem))) (dI.mono (by k_sub)) (hvs.mono (by k_sub)) (by ktr_units) ?_
      rw [decide_eq_true hdu.symm]
      k_steps
      refine Halt.out ?_
      rename News _ _ _ _ => N9
      refine eq_rows N9 (by k_mem) (.head _) (ra := dueN l t r u g 13) (rb := []) (hvs.mono (by k_sub)) .nil (by ktr_units) ?_
      rw [decide_eq_true hdu]
      k_steps
      rename Fr h₀ _ _ _ => F10
      rename News h₀ _ _ _ => N10
      exact h _ _ F10 (newsSub N10 (by k_sub))
    · obtain ⟨hdu, hdn, hx1, hy1, hw1, hh1⟩ := hd2 ‹_› ‹_›
      refine Halt.out ?_
      k_dflt (refine' dots_K ?k1 ?k2 ?k3 ?k4 ?k5 ?kK ?km ?kx ?ky ?kw ?kh ?kd ?kv ?_; (case k1 => k_asm); (case k2 => k_asm); (case k3 => k_asm); (case k4 => k_asm); (case k5 => k_asm); (case kK => first | exact rfl | assumption); (case kd => ktr_room); (case kv => ktr_units); (case km => k_mem); (case kx => exact hx1); (case ky => exact hy1); (case kw => exact hw1); (case kh => exact hh1))
      intro dl dvs dn dtl dh dtk dA dI dF dN
      rename News _ _ _ _ => N8
      k_steps
      refine Halt.out ?_
      refine eq_rows N8 (.head _) (List.mem_cons_of_mem _ (List.mem_append_right _ (by k_mem))) (dI.mono (by k_sub)) (hvs.mono (by k_sub)) (by ktr_units) ?_
      rw [decide_eq_true hdu.symm]
      k_steps
      refine Halt.out ?_
      rename News _ _ _ _ => N9
      refine eq_rows N9 (by k_mem) (.head _) (ra := dueN l t r u g 13) (rb := []) (hvs.mono (by k_sub)) .nil (by ktr_units) ?_
      rw [decide_eq_false hdn]
      k_steps
      rename Fr h₀ _ _ _ => F10
      rename News h₀ _ _ _ => N10
      exact h _ _ F10 (newsSub N10 (by k_sub))
end
end
theorem rst12 : True ∧ True := by
  w_top off
  first
  | (walk1; done)
  | exact ⟨trivial, trivial⟩
-- B20
end
local macro_rules | `(tactic| ktr_room) => `(tactic| first | exact roomB (by assumption) rfl | exact roomC (by assumption) rfl | exact roomA (by assumption) rfl | exact room0 (by assumption) | ((try simp only [depth_under_make, depth_under_kw, depth_in1, depth_deeper, depth_caller]); decide) | ((try simp only [depth_under_make, depth_under_kw, depth_in1, depth_deeper, depth_caller]); (try dsimp only [ktrTop]); first | exact roomB (by assumption) rfl | exact roomC (by assumption) rfl | exact roomA (by assumption) rfl | exact room0 (by assumption) | omega))
local macro_rules | `(tactic| ktr_units) => `(tactic| first | exact roomB (by assumption) rfl | exact roomC (by assumption) rfl | exact roomA (by assumption) rfl | exact room0 (by assumption) | ((try simp only [units_in1, units_deeper, Around.mark_units, units_caller]); (try dsimp only [ktrTop]); first | exact roomB (by assumption) rfl | exact roomC (by assumption) rfl | exact roomA (by assumption) rfl | exact room0 (by assumption) | (have hcL9 := cLine_is; omega)))
local macro_rules | `(tactic| k_mem) => `(tactic| first | exact List.Mem.head _ | with_reducible assumption | (refine List.mem_cons_of_mem _ ?_; k_mem) | (refine List.mem_append_left _ ?_; k_mem) | (refine List.mem_append_right _ ?_; k_mem))
local macro_rules | `(tactic| k_ne) => `(tactic| first | assumption | (refine Ne.symm ?_; assumption))
local macro_rules | `(tactic| k_sub) => `(tactic| first | ((with_reducible refine List.forall_mem_cons.mpr ⟨?_, ?_⟩); (focus k_mem); k_sub) | ((with_reducible refine List.forall_mem_append.mpr ⟨?_, ?_⟩) <;> k_sub) | (with_reducible exact List.forall_mem_nil _) | (intro q9 hq9; k_mem))
local macro_rules | `(tactic| k_all) => `(tactic| first | (with_reducible assumption) | (with_reducible exact List.forall_mem_nil _) | ((with_reducible refine List.forall_mem_append.mpr ⟨?_, ?_⟩) <;> k_all) | ((with_reducible refine List.forall_mem_cons.mpr ⟨?_, ?_⟩); (focus k_ne); k_all))
local macro_rules | `(tactic| k_updF) => `(tactic| first | ((with_reducible refine' Out.head ?oa); (case oa => k_all)) | ((with_reducible refine' Out.tail ?oa ?ob); (case oa => k_ne); (case ob => k_updF)))
local macro_rules | `(tactic| walk_at "call builtin:list.append") => `(tactic| (k_here; (with_reducible show wpAny _ _ (call (Value.builtin _) [Value.ref _, _]) _ _ _); k_dflt (refine' app_O ?kF ?kN ?kU ?kz ?_; (case kF => k_asm); (case kN => k_asm); (case kU => k_updF); (case kz => omega); k_whole); intro h' F' N'; (try k_sweep)))
section
local macro_rules | `(tactic| omega) => `(tactic| lia)
theorem floor_le {l g x : Int} (hg : 1 ≤ g) : l.fdiv g ≤ x ↔ l < g * (x + 1) := by
  rw [Int.fdiv_eq_ediv_of_nonneg _ (by omega)]
  have := Int.ediv_lt_iff_lt_mul (a := l) (b := x + 1) (c := g) (by omega)
  rw [Int.mul_comm g]
  omega
theorem lt_ceil {r g x : Int} (hg : 1 ≤ g) : x < -((-r).fdiv g) ↔ g * x < r := by
  have := floor_le (l := -r) (g := g) (x := -x - 1) hg
  rw [show -x - 1 + 1 = -x by omega, Int.mul_neg] at this
  omega
theorem in_one {l r g x : Int} (hg : 1 ≤ g) (hlr : l < r) : pmin r (g * (x + 1)) - pmax l (g * x) > 0 ↔ l.fdiv g ≤ x ∧ x < -((-r).fdiv g) := by
  rw [floor_le hg, lt_ceil hg]
  show 0 < pmin r (g * (x + 1)) - pmax l (g * x) ↔ _
  rw [Int.sub_pos, pmax_lt, lt_pmin, lt_pmin]
  have e : g * x < g * (x + 1) := by rw [Int.mul_add, Int.mul_one]; exact Int.lt_add_of_pos_right _ hg
  exact ⟨fun h => ⟨h.1.2, h.2.1⟩, fun h => ⟨⟨hlr, h.1⟩, h.2, e⟩⟩
theorem runs : ∀ p q : Fin 14, ((List.range 13).map fun (i : Nat) => (-6 + (i : Int) * 1)).filter (fun x => decide ((-6 + (p.val : Int)) ≤ x ∧ x < -6 + (q.val : Int))) = (List.range (q.val - p.val)).map fun (i : Nat) => (-6 + (p.val : Int)) + (i : Int) * 1 := by
  decide +kernel
theorem run_ab {a b : Int} (h1 : -6 ≤ a) (h2 : a ≤ 7) (h3 : -6 ≤ b) (h4 : b ≤ 7) : ((List.range 13).map fun (i : Nat) => (-6 + (i : Int) * 1)).filter (fun x => decide (a ≤ x ∧ x < b)) = (List.range (b - a).toNat).map fun (i : Nat) => a + (i : Int) * 1 := by
  have := runs ⟨(a + 6).toNat, by omega⟩ ⟨(b + 6).toNat, by omega⟩
  simp only at this
  rw [show (-6 : Int) + ((a + 6).toNat : Int) = a by omega, show (-6 : Int) + ((b + 6).toNat : Int) = b by omega, show (b + 6).toNat - (a + 6).toNat = (b - a).toNat by omega] at this
  exact this
theorem rowDue_eq {l t r u g y : Int} : rowDue l t r u g y 13 = (((List.range 13).map fun (i : Nat) => (-6 + (i : Int) * 1)).filter fun x => inB l t r u g x y).map fun x => [x, y] := by
  rw [rowDue, List.filter_map, List.map_map]; rfl
theorem due_none {l t r u g : Int} (hg : 1 ≤ g) (h : r ≤ l ∨ u ≤ t) : dueN l t r u g 13 = [] := by
  have out : ∀ {l r a b : Int}, r ≤ l → ¬ pmin r a - pmax l b > 0 := fun {l r a b} k p => by
    have q := pmax_lt.mp (Int.sub_pos.mp p)
    exact absurd (lt_pmin.mp q.1).1 (Int.not_lt.mpr k)
  have hin : ∀ x y, inB l t r u g x y = false := fun x y => by
    rw [inB, decide_eq_false_iff_not]
    exact fun p => h.elim (fun k => out k p.1) fun k => out k p.2
  have : ∀ y, rowDue l t r u g y 13 = [] := fun y => by
    rw [rowDue, List.filter_eq_nil_iff.mpr (by intro i _; rw [hin]; decide)]; rfl
  simp [dueN, this]
theorem due_some {l t r u g : Int} (hg : 1 ≤ g) (hl : -6 * g ≤ l) (hr : r ≤ 7 * g) (ht : -6 * g ≤ t) (hu : u ≤ 7 * g) (h1 : ¬ r ≤ l) (h2 : ¬ u ≤ t) :
    dueN l t r u g 13 = dotsOf (l.fdiv g) (t.fdiv g) (-((-r).fdiv g) - l.fdiv g).toNat (-((-u).fdiv g) - t.fdiv g).toNat ∧ dueN l t r u g 13 ≠ [] ∧ (-1000 ≤ l.fdiv g ∧ l.fdiv g ≤ 1000) ∧ (-1000 ≤ t.fdiv g ∧ t.fdiv g ≤ 1000) ∧ (0 ≤ -((-r).fdiv g) - l.fdiv g ∧ -((-r).fdiv g) - l.fdiv g ≤ 20) ∧ (0 ≤ -((-u).fdiv g) - t.fdiv g ∧ -((-u).fdiv g) - t.fdiv g ≤ 20) := by
  have key : ∀ {l r : Int}, -6 * g ≤ l → r ≤ 7 * g → ¬ r ≤ l → -6 ≤ l.fdiv g ∧ l.fdiv g < -((-r).fdiv g) ∧ -((-r).fdiv g) ≤ 7 := by
    intro l r hl hr h1
    have a := floor_le (l := l) (g := g) (x := -7) hg
    have b := lt_ceil (r := r) (g := g) (x := 7) hg
    have c := lt_ceil (r := r) (g := g) (x := l.fdiv g) hg
    have d := floor_le (l := l) (g := g) (x := l.fdiv g - 1) hg
    have e : g * (l.fdiv g - 1 + 1) = g * l.fdiv g := by congr 1; omega
    rw [e] at d
    have e2 : g * (-7 + 1) = -6 * g := by rw [Int.mul_comm]; rfl
    rw [e2] at a
    have e3 : g * 7 = 7 * g := Int.mul_comm _ _
    rw [e3] at b
    generalize g * l.fdiv g = Y at *
    omega
  obtain ⟨a1, a2, a3⟩ := key hl hr h1
  obtain ⟨b1, b2, b3⟩ := key ht hu h2
  have hrow : ∀ y, rowDue l t r u g y 13 = if t.fdiv g ≤ y ∧ y < -((-u).fdiv g) then dotRow (l.fdiv g) y (-((-r).fdiv g) - l.fdiv g).toNat else [] := by
    intro y
    rw [rowDue_eq]
    by_cases hy : t.fdiv g ≤ y ∧ y < -((-u).fdiv g)
    · rw [if_pos hy]
      have e : (fun x => inB l t r u g x y) = fun x => decide (l.fdiv g ≤ x ∧ x < -((-r).fdiv g)) := by
        funext x
        rw [inB, decide_eq_decide, in_one hg (by omega), in_one hg (by omega)]
        exact ⟨fun h => h.1, fun h => ⟨h, hy⟩⟩
      rw [e, run_ab a1 (by omega) (by omega) a3, List.map_map]; rfl
    · rw [if_neg hy, List.filter_eq_nil_iff.mpr]; rfl
      intro x _
      rw [inB, decide_eq_true_eq, in_one hg (by omega), in_one hg (by omega)]
      exact fun h => hy h.2
  have hall : dueN l t r u g 13 = dotsOf (l.fdiv g) (t.fdiv g) (-((-r).fdiv g) - l.fdiv g).toNat (-((-u).fdiv g) - t.fdiv g).toNat := by
    have e1 : dueN l t r u g 13 = (((List.range 13).map fun (j : Nat) => (-6 + (j : Int) * 1)).filter fun y => decide (t.fdiv g ≤ y ∧ y < -((-u).fdiv g))).flatMap fun y => dotRow (l.fdiv g) y (-((-r).fdiv g) - l.fdiv g).toNat := by
      rw [dueN]
      simp only [hrow]
      generalize List.range 13 = ls
      induction ls with
      | nil => rfl
      | cons j ls ih =>
        rw [List.flatMap_cons, ih, List.map_cons, List.filter_cons]
        by_cases hy : t.fdiv g ≤ -6 + (j : Int) * 1 ∧ -6 + (j : Int) * 1 < -((-u).fdiv g)
        · rw [if_pos hy, if_pos (decide_eq_true hy), List.flatMap_cons]
        · rw [if_neg hy, if_neg (by rw [decide_eq_true_eq]; exact hy)]; rfl
    rw [e1, run_ab b1 (by omega) (by omega) b3, dotsOf, List.flatMap_map]
  refine ⟨hall, ?_, by omega, by omega, by omega, by omega⟩
  rw [hall]
  intro e
  have hlen := congrArg List.length e
  obtain ⟨hh, hhe⟩ : ∃ k, (-((-u).fdiv g) - t.fdiv g).toNat = k + 1 := ⟨(-((-u).fdiv g) - t.fdiv g).toNat - 1, by omega⟩
  obtain ⟨ww, hwe⟩ : ∃ k, (-((-r).fdiv g) - l.fdiv g).toNat = k + 1 := ⟨(-((-r).fdiv g) - l.fdiv g).toNat - 1, by omega⟩
  rw [hhe, dotsOf_succ, hwe, dotRow_succ] at hlen
  simp at hlen
end
theorem rst13 : True ∧ True := by
  w_top off
  first
  | (walk1; done)
  | exact ⟨trivial, trivial⟩
-- B21
/-- the sort's answer when it may ask `lt`; false when it asks out of range -/
def runT {α : Type} (n : Nat) (lt : Nat → Nat → Bool) : KasT α → Option α
  | .ret a => some a
  | .ask i j k => if i < n ∧ j < n then runT n lt (k (lt i j)) else none
def ltR : List Int → List Int → Bool
  | a :: as, b :: bs => if a = b then ltR as bs else decide (a < b)
  | [], _ :: _ => true
  | _, [] => false
def sortR (rows : List (List Int)) : Option (List (List Int)) :=
  (runT rows.length (fun i j => ltR (rows.getD i []) (rows.getD j [])) (kas_sort rows.length)).map fun p => p.toList.map fun i => rows.getD i []
def dotsR (r : List Int) : List (List Int) := dotsOf (r.getD 0 0) (r.getD 1 0) (r.getD 2 0).toNat (r.getD 3 0).toNat
theorem dotsR_4 (x y w h : Int) : dotsR [x, y, w, h] = dotsOf x y w.toNat h.toNat := rfl
def sortRun (rows : List (List Int)) : Option (Array Nat) := runT rows.length (fun i j => ltR (rows.getD i []) (rows.getD j [])) (kas_sort rows.length)
def halfDots (w h most : Nat) : List (List Int) := (cutN most 12 [[0, 0, w, h]]).flatMap dotsR
/-- the two sorts give the same rows (short lists are the same as they stand) -/
def sortOk (w h most : Nat) : Bool :=
  (halfDots w h most).length == w * h && (dotsOf 0 0 w h).length == w * h &&
  if w * h < 2 then decide (halfDots w h most = dotsOf 0 0 w h) else
  match sortRun (halfDots w h most), sortRun (dotsOf 0 0 w h) with
    | some p, some q => p.toList.all (· < w * h) && q.toList.all (· < w * h) && decide (p.toList.map (fun i => (halfDots w h most).getD i []) = q.toList.map fun i => (dotsOf 0 0 w h).getD i [])
    | _, _ => false
def sOK (w h : Nat) : Bool := (List.range 5).all fun m => sortOk w h (m + 1)
theorem s00 : sOK 0 0 = true := by decide +kernel
theorem s01 : sOK 0 1 = true := by decide +kernel
theorem s02 : sOK 0 2 = true := by decide +kernel
theorem s03 : sOK 0 3 = true := by decide +kernel
theorem s04 : sOK 0 4 = true := by decide +kernel
theorem s05 : sOK 0 5 = true := by decide +kernel
theorem s06 : sOK 0 6 = true := by decide +kernel
theorem s10 : sOK 1 0 = true := by decide +kernel
theorem s11 : sOK 1 1 = true := by decide +kernel
theorem s12 : sOK 1 2 = true := by decide +kernel
theorem s13 : sOK 1 3 = true := by decide +kernel
theorem s14 : sOK 1 4 = true := by decide +kernel
theorem s15 : sOK 1 5 = true := by decide +kernel
theorem s16 : sOK 1 6 = true := by decide +kernel
theorem s20 : sOK 2 0 = true := by decide +kernel
theorem s21 : sOK 2 1 = true := by decide +kernel
theorem s22 : sOK 2 2 = true := by decide +kernel
theorem s23 : sOK 2 3 = true := by decide +kernel
theorem s24 : sOK 2 4 = true := by decide +kernel
theorem s25 : sOK 2 5 = true := by decide +kernel
theorem s26 : sOK 2 6 = true := by decide +kernel
theorem s30 : sOK 3 0 = true := by decide +kernel
theorem s31 : sOK 3 1 = true := by decide +kernel
theorem s32 : sOK 3 2 = true := by decide +kernel
theorem s33 : sOK 3 3 = true := by decide +kernel
theorem s34 : sOK 3 4 = true := by decide +kernel
theorem s35 : sOK 3 5 = true := by decide +kernel
theorem s36 : sOK 3 6 = true := by decide +kernel
theorem s40 : sOK 4 0 = true := by decide +kernel
theorem s41 : sOK 4 1 = true := by decide +kernel
theorem s42 : sOK 4 2 = true := by decide +kernel
theorem s43 : sOK 4 3 = true := by decide +kernel
theorem s44 : sOK 4 4 = true := by decide +kernel
theorem s45 : sOK 4 5 = true := by decide +kernel
theorem s46 : sOK 4 6 = true := by decide +kernel
theorem s50 : sOK 5 0 = true := by decide +kernel
theorem s51 : sOK 5 1 = true := by decide +kernel
theorem s52 : sOK 5 2 = true := by decide +kernel
theorem s53 : sOK 5 3 = true := by decide +kernel
theorem s54 : sOK 5 4 = true := by decide +kernel
theorem s55 : sOK 5 5 = true := by decide +kernel
theorem s56 : sOK 5 6 = true := by decide +kernel
theorem s60 : sOK 6 0 = true := by decide +kernel
theorem s61 : sOK 6 1 = true := by decide +kernel
theorem s62 : sOK 6 2 = true := by decide +kernel
theorem s63 : sOK 6 3 = true := by decide +kernel
theorem s64 : sOK 6 4 = true := by decide +kernel
theorem s65 : sOK 6 5 = true := by decide +kernel
theorem s66 : sOK 6 6 = true := by decide +kernel
theorem sort_all : ((List.range 7).all fun w => (List.range 7).all fun h => (List.range 5).all fun m => sortOk w h (m + 1)) = true := by
  show ((List.range 7).all fun w => (List.range 7).all fun h => sOK w h) = true
  simp only [List.range, List.range.loop, List.all_cons, List.all_nil, Bool.and_true, s00, s01, s02, s03, s04, s05, s06, s10, s11, s12, s13, s14, s15, s16, s20, s21, s22, s23, s24, s25, s26, s30, s31, s32, s33, s34, s35, s36, s40, s41, s42, s43, s44, s45, s46, s50, s51, s52, s53, s54, s55, s56, s60, s61, s62, s63, s64, s65, s66]
-- B22
namespace TS
/-- binary search in a rising array -/
theorem below_go {xs : Array Nat} {j : Nat} (hs : ∀ i k : Nat, i < k → k < xs.size → xs.getD i 0 < xs.getD k 0) : ∀ (fuel lo hi : Nat), hi - lo ≤ fuel → lo ≤ hi → hi ≤ xs.size → (∀ i, i < lo → xs.getD i 0 < j) → (∀ i, hi ≤ i → i < xs.size → j ≤ xs.getD i 0) →
    (∀ i, i < SetTable.below.go xs j fuel lo hi → xs.getD i 0 < j) ∧ (∀ i, SetTable.below.go xs j fuel lo hi ≤ i → i < xs.size → j ≤ xs.getD i 0) ∧ SetTable.below.go xs j fuel lo hi ≤ xs.size
  | 0, lo, hi, hf, hl, hh, h1, h2 => by
    have : lo = hi := by omega
    subst this
    exact ⟨h1, h2, hh⟩
  | fuel + 1, lo, hi, hf, hl, hh, h1, h2 => by
    rw [SetTable.below.go]
    by_cases hlt : lo < hi
    · rw [if_pos hlt]
      dsimp only
      have eg : xs.getD ((lo + hi) / 2) j = xs.getD ((lo + hi) / 2) 0 := by
        have : (lo + hi) / 2 < xs.size := by omega
        simp [Array.getD, this]
      rw [eg]
      by_cases hm : xs.getD ((lo + hi) / 2) 0 < j
      · rw [if_pos hm]
        refine below_go hs fuel _ _ (by omega) (by omega) hh (fun i hi' => ?_) h2
        by_cases e : i = (lo + hi) / 2
        · subst e; exact hm
        · exact Nat.lt_trans (hs i _ (by omega) (by omega)) hm
      · rw [if_neg hm]
        refine below_go hs fuel _ _ (by omega) (by omega) (by omega) h1 (fun i hi' hi2 => ?_)
        by_cases e : i = (lo + hi) / 2
        · subst e; omega
        · have := hs ((lo + hi) / 2) i (by omega) hi2
          omega
    · rw [if_neg hlt]
      have : lo = hi := by omega
      subst this
      exact ⟨h1, h2, hh⟩
theorem below_spec {xs : Array Nat} {j : Nat} (hs : ∀ i k : Nat, i < k → k < xs.size → xs.getD i 0 < xs.getD k 0) :
    (∀ i, i < SetTable.below xs j → xs.getD i 0 < j) ∧ (∀ i, SetTable.below xs j ≤ i → i < xs.size → j ≤ xs.getD i 0) ∧ SetTable.below xs j ≤ xs.size :=
  below_go hs xs.size 0 xs.size (by omega) (Nat.zero_le _) (Nat.le_refl _) (fun i h => absurd h (Nat.not_lt_zero _)) (fun i h1 h2 => absurd h2 (Nat.not_lt.mpr h1))

/-- the slots a probe visits -/
def adv (mask : Nat) (p : SetTable.Probe) : SetTable.Probe := SetTable.advance { mask, place := #[], dummies := #[], finger := 0, led := false, moves := 0, plain := true } p
def slots (mask : Nat) : Nat → SetTable.Probe → List Nat
  | 0, _ => []
  | f + 1, p => p.j :: slots mask f (adv mask p)
def start (mask : Nat) (h : Int) : SetTable.Probe := SetTable.probeStart { mask, place := #[], dummies := #[], finger := 0, led := false, moves := 0, plain := true } h
theorem adv_eq (t : SetTable) (p : SetTable.Probe) : t.advance p = adv t.mask p := rfl
theorem start_eq (t : SetTable) (h : Int) : t.probeStart h = start t.mask h := rfl
theorem adv_dummy (mask : Nat) (p : SetTable.Probe) : (adv mask p).dummy = p.dummy := by
  unfold adv SetTable.advance
  split <;> rfl

/-- all before j in the probe's way are occupied -/
def Reach (mask fuel : Nat) (p : SetTable.Probe) (occ : List Nat) (j : Nat) : Prop := ∃ pre rest, slots mask fuel p = pre ++ j :: rest ∧ ∀ k ∈ pre, k ∈ occ
theorem Reach.mono {mask fuel : Nat} {p : SetTable.Probe} {occ occ' : List Nat} {j : Nat} (h : Reach mask fuel p occ j) (ho : ∀ k ∈ occ, k ∈ occ') : Reach mask fuel p occ' j :=
  let ⟨pre, rest, e, hk⟩ := h; ⟨pre, rest, e, fun k hq => ho k (hk k hq)⟩

/-- what a table of this kind is: rows laid by slot -/
structure Ent where
  slot : Nat
  hash : Int
  val : Value
  key : List Int
structure Laid (t : SetTable) (es : Array (Int × Value)) (l : List Ent) : Prop where
  nodum : t.dummies = #[]
  place : t.place = (l.map (·.slot)).toArray
  elems : es = (l.map fun e => (e.hash, e.val)).toArray
  rising : l.Pairwise fun a b => a.slot < b.slot
  bound : ∀ e ∈ l, e.slot ≤ t.mask
  reach : ∀ e ∈ l, Reach t.mask (10 * SetTable.turns t.mask) (start t.mask e.hash) (l.map (·.slot)) e.slot
  keys : l.Pairwise fun a b => a.key ≠ b.key

theorem getD_slot (l : List Ent) (i : Nat) (h : i < l.length) : ((l.map (·.slot)).toArray).getD i 0 = (l[i]).slot := by
  simp [Array.getD, h]
theorem rising_getD {l : List Ent} (h : l.Pairwise fun a b => a.slot < b.slot) : ∀ i k : Nat, i < k → k < ((l.map (·.slot)).toArray).size → ((l.map (·.slot)).toArray).getD i 0 < ((l.map (·.slot)).toArray).getD k 0 := by
  intro i k hik hk
  have hk' : k < l.length := by simpa using hk
  rw [getD_slot l i (by omega), getD_slot l k hk']
  exact List.pairwise_iff_getElem.mp h i k (by omega) hk' hik
/-- where a slot lies in the list -/
theorem slot_spec {t : SetTable} {l : List Ent} (hn : t.dummies = #[]) (hp : t.place = (l.map (·.slot)).toArray) (hr : l.Pairwise fun a b => a.slot < b.slot) (j : Nat) :
    (∃ i, ∃ h : i < l.length, t.slot j = .live i ∧ (l[i]).slot = j) ∨ (t.slot j = .empty ∧ j ∉ l.map (·.slot)) := by
  have sp := below_spec (j := j) (rising_getD hr)
  rw [← hp] at sp
  obtain ⟨s1, s2, s3⟩ := sp
  unfold SetTable.slot
  dsimp only
  by_cases hj : j ∈ l.map (·.slot)
  · left
    obtain ⟨e, he, rfl⟩ := List.mem_map.mp hj
    obtain ⟨i, hi, rfl⟩ := List.getElem_of_mem he
    have hgi : t.place.getD i 0 = (l[i]).slot := by rw [hp]; exact getD_slot l i hi
    have hsz : t.place.size = l.length := by rw [hp]; simp
    have h1 : SetTable.below t.place (l[i]).slot ≤ i := by
      rcases Nat.lt_or_ge i (SetTable.below t.place (l[i]).slot) with hlt | hge
      · have := s1 i hlt; omega
      · exact hge
    have h2 : ¬ SetTable.below t.place (l[i]).slot < i := by
      intro hlt
      have a := s2 _ (Nat.le_refl _) (by omega)
      have b := rising_getD hr _ i hlt (by simpa using hi)
      rw [← hp] at b
      omega
    have h3 : SetTable.below t.place (l[i]).slot = i := by omega
    refine ⟨i, hi, ?_, rfl⟩
    rw [h3]
    have e1 : t.place[i]? = some (l[i]).slot := by rw [hp]; simp [hi]
    rw [e1]; simp
  · right
    refine ⟨?_, hj⟩
    have e1 : (t.place[SetTable.below t.place j]? == some j) = false := by
      rw [Bool.eq_false_iff]
      intro e
      have e' : t.place[SetTable.below t.place j]? = some j := by simpa using e
      rw [hp] at e'
      have := List.mem_of_getElem? (by simpa using e' : (l.map (·.slot))[_]? = some j)
      exact hj this
    rw [e1]
    simp only [Bool.false_eq_true, if_false]
    have e2 : SetTable.has t.dummies j = false := by rw [hn]; simp [SetTable.has]
    rw [e2]
    simp
/-- what a probe meets -/
theorem go_spec {t : SetTable} {l : List Ent} (hn : t.dummies = #[]) (hp : t.place = (l.map (·.slot)).toArray) (hr : l.Pairwise fun a b => a.slot < b.slot) {hashAt : Nat → Int} (hh : ∀ i, ∀ h : i < l.length, hashAt i = (l[i]).hash) {h : Int} :
    ∀ (fuel : Nat) (p : SetTable.Probe), p.dummy = none → (∃ j ∈ slots t.mask fuel p, j ∉ l.map (·.slot) ∨ ∃ e ∈ l, e.slot = j ∧ e.hash = h) →
      (∃ j, SetTable.probe.go t hashAt h fuel p = some (.empty j none) ∧ j ∉ l.map (·.slot) ∧ (∃ pre rest, slots t.mask fuel p = pre ++ j :: rest ∧ ∀ k ∈ pre, k ∈ l.map (·.slot) ∧ ∀ e ∈ l, e.slot = k → e.hash ≠ h)) ∨
      (∃ i next, ∃ hi : i < l.length, SetTable.probe.go t hashAt h fuel p = some (.candidate (l[i]).slot i next) ∧ (l[i]).hash = h ∧ next.dummy = none ∧ ∃ pre f', fuel = pre.length + 1 + f' ∧ slots t.mask fuel p = pre ++ (l[i]).slot :: slots t.mask f' next ∧ ∀ k ∈ pre, k ∈ l.map (·.slot) ∧ ∀ e ∈ l, e.slot = k → e.hash ≠ h)
  | 0, p, _, ⟨j, hj, _⟩ => absurd hj (by simp [slots])
  | fuel + 1, p, hd, hex => by
    rw [SetTable.probe.go]
    rcases slot_spec hn hp hr p.j with ⟨i, hi, e1, e2⟩ | ⟨e1, e2⟩
    · rw [e1]
      dsimp only
      rw [hh i hi]
      by_cases hc : (l[i]).hash = h
      · rw [if_pos (by simpa using hc)]
        exact .inr ⟨i, _, hi, by rw [e2], hc, by rw [adv_eq, adv_dummy]; exact hd, [], fuel, by simp; omega, by rw [slots, e2, adv_eq]; rfl, fun k hk => nomatch hk⟩
      · rw [if_neg (by simpa using hc)]
        rw [adv_eq]
        have huniq : ∀ e ∈ l, e.slot = p.j → e.hash ≠ h := by
          intro e he hs
          obtain ⟨k, hk, rfl⟩ := List.getElem_of_mem he
          have : k = i := by
            rcases Nat.lt_trichotomy k i with q | q | q
            · have := List.pairwise_iff_getElem.mp hr k i hk hi q; omega
            · exact q
            · have := List.pairwise_iff_getElem.mp hr i k hi hk q; omega
          subst this; exact hc
        have hmem : p.j ∈ l.map (·.slot) := List.mem_map.mpr ⟨l[i], List.getElem_mem hi, e2⟩
        have hex' : ∃ j ∈ slots t.mask fuel (adv t.mask p), j ∉ l.map (·.slot) ∨ ∃ e ∈ l, e.slot = j ∧ e.hash = h := by
          obtain ⟨j, hj, hs⟩ := hex
          rcases List.mem_cons.mp hj with rfl | hj
          · rcases hs with hs | ⟨e, he, hs1, hs2⟩
            · exact absurd hmem hs
            · exact absurd hs2 (huniq e he hs1)
          · exact ⟨j, hj, hs⟩
        rcases go_spec hn hp hr hh fuel (adv t.mask p) (by rw [adv_dummy]; exact hd) hex' with ⟨j, g1, g2, pre, rest, g3, g4⟩ | g
        · refine .inl ⟨j, g1, g2, p.j :: pre, rest, by rw [slots, g3]; rfl, fun k hk => ?_⟩
          rcases List.mem_cons.mp hk with rfl | hk
          · exact ⟨hmem, huniq⟩
          · exact g4 k hk
        · obtain ⟨i', next, hi', g1, g2, g3, pre, f', g4, g5, g6⟩ := g
          refine .inr ⟨i', next, hi', g1, g2, g3, p.j :: pre, f', by simp; omega, by rw [slots, g5]; rfl, fun k hk => ?_⟩
          rcases List.mem_cons.mp hk with rfl | hk
          · exact ⟨hmem, huniq⟩
          · exact g6 k hk
    · rw [e1]
      dsimp only
      exact .inl ⟨p.j, by rw [hd], e2, [], slots t.mask fuel (adv t.mask p), rfl, fun k hk => nomatch hk⟩
end TS
-- B23
section
local macro_rules | `(tactic| omega) => `(tactic| lia)
namespace TS
theorem cover_length : ∀ (n : Nat) (l : List Nat), (∀ j, j < n → j ∈ l) → n ≤ l.length
  | 0, _, _ => Nat.zero_le _
  | n + 1, l, h => by
    have hm := h n (Nat.lt_succ_self n)
    have := cover_length n (l.erase n) fun j hj => (List.mem_erase_of_ne (by omega)).mpr (h j (by omega))
    rw [List.length_erase_of_mem hm] at this
    have : 0 < l.length := List.length_pos_of_mem hm
    omega
theorem insertAt_list {α : Type} (L : List α) (p : Nat) (hp : p ≤ L.length) (x : α) : SetTable.insertAt L.toArray p x = (L.take p ++ x :: L.drop p).toArray := by
  apply Array.toList_inj.mp
  simp [SetTable.insertAt, Array.toList_extract, List.extract_eq_drop_take']
/-- the runs of the probe's way -/
def runsL (mask : Nat) : Nat → Nat → Nat → List Nat
  | 0, _, _ => []
  | f + 1, i, pt => (List.range (SetTable.runEnd mask i + 1 - i)).map (i + ·) ++ runsL mask f (SetTable.leap mask i pt).1 (SetTable.leap mask i pt).2
def runP (mask i pt : Nat) : SetTable.Probe := { j := i, more := SetTable.runEnd mask i - i, i, perturb := pt, dummy := none }
theorem runEnd_ge (mask i : Nat) : i ≤ SetTable.runEnd mask i ∧ SetTable.runEnd mask i ≤ i + 9 := by unfold SetTable.runEnd; split <;> omega
theorem slots_run (mask i pt F : Nat) : ∀ (m a : Nat), slots mask (m + 1 + F) { j := a, more := m, i, perturb := pt, dummy := none } = (List.range (m + 1)).map (a + ·) ++ slots mask F (runP mask (SetTable.leap mask i pt).1 (SetTable.leap mask i pt).2)
  | 0, a => by
    rw [show 0 + 1 + F = F + 1 by omega, slots]
    rfl
  | m + 1, a => by
    rw [show m + 1 + 1 + F = (m + 1 + F) + 1 by omega, slots]
    have : adv mask { j := a, more := m + 1, i, perturb := pt, dummy := none } = { j := a + 1, more := m, i, perturb := pt, dummy := none } := by
      unfold adv SetTable.advance; rfl
    rw [this, slots_run mask i pt F m (a + 1), List.range_succ_eq_map (n := m + 1), List.map_cons, List.map_map, List.cons_append]
    congr 2
    apply List.map_congr_left
    intro k _
    show a + 1 + k = a + (k + 1)
    omega
theorem slots_runP (mask i pt F : Nat) : slots mask (SetTable.runEnd mask i + 1 - i + F) (runP mask i pt) = (List.range (SetTable.runEnd mask i + 1 - i)).map (i + ·) ++ slots mask F (runP mask (SetTable.leap mask i pt).1 (SetTable.leap mask i pt).2) := by
  have h := runEnd_ge mask i
  have := slots_run mask i pt F (SetTable.runEnd mask i - i) i
  rw [show SetTable.runEnd mask i - i + 1 = SetTable.runEnd mask i + 1 - i by omega] at this
  exact this
/-- the runs are the head of the way -/
theorem runs_slots (mask : Nat) : ∀ (f i pt F : Nat), 10 * f ≤ F → ∃ rest, slots mask F (runP mask i pt) = runsL mask f i pt ++ rest
  | 0, i, pt, F, _ => ⟨_, rfl⟩
  | f + 1, i, pt, F, hF => by
    have h := runEnd_ge mask i
    obtain ⟨F', rfl⟩ : ∃ F', F = SetTable.runEnd mask i + 1 - i + F' := ⟨F - (SetTable.runEnd mask i + 1 - i), by omega⟩
    obtain ⟨rest, e⟩ := runs_slots mask f (SetTable.leap mask i pt).1 (SetTable.leap mask i pt).2 F' (by omega)
    exact ⟨rest, by rw [slots_runP, e, runsL, List.append_assoc]⟩
theorem start_runP (mask : Nat) (h : Int) : start mask h = runP mask (SetTable.bits h % (mask + 1)) (SetTable.bits h) := rfl

/-- the first free slot of the runs -/
theorem free_spec {mask : Nat} (owner : Array (Option Nat)) : ∀ (f i pt : Nat) , (∃ j ∈ runsL mask f i pt, owner.getD j (some 0) = none) →
    ∃ j pre rest, SetTable.layClean.free mask owner f i pt = some j ∧ runsL mask f i pt = pre ++ j :: rest ∧ owner.getD j (some 0) = none ∧ ∀ k ∈ pre, (owner.getD k (some 0)).isSome = true
  | 0, i, pt, ⟨j, hj, _⟩ => absurd hj (by simp [runsL])
  | f + 1, i, pt, hex => by
    rw [SetTable.layClean.free]
    cases e : (List.range (SetTable.runEnd mask i + 1 - i)).find? fun k => (owner.getD (i + k) (some 0)).isNone with
    | some k =>
      obtain ⟨h1, as, bs, h2, h3⟩ := List.find?_eq_some_iff_append.mp e
      refine ⟨i + k, as.map (i + ·), bs.map (i + ·) ++ runsL mask f (SetTable.leap mask i pt).1 (SetTable.leap mask i pt).2, rfl, ?_, by simpa using h1, fun q hq => ?_⟩
      · rw [runsL, h2]; simp
      · obtain ⟨a, ha, rfl⟩ := List.mem_map.mp hq
        have := h3 a ha
        cases ho : owner.getD (i + a) (some 0) with
        | none => rw [ho] at this; simp at this
        | some _ => rfl
    | none =>
      have hall : ∀ k ∈ (List.range (SetTable.runEnd mask i + 1 - i)).map (i + ·), (owner.getD k (some 0)).isSome = true := by
        intro q hq
        obtain ⟨a, ha, rfl⟩ := List.mem_map.mp hq
        have := List.find?_eq_none.mp e a ha
        cases ho : owner.getD (i + a) (some 0) with
        | none => rw [ho] at this; simp at this
        | some _ => rfl
      have hex' : ∃ j ∈ runsL mask f (SetTable.leap mask i pt).1 (SetTable.leap mask i pt).2, owner.getD j (some 0) = none := by
        obtain ⟨j, hj, hn⟩ := hex
        rw [runsL] at hj
        rcases List.mem_append.mp hj with hj | hj
        · have := hall j hj; rw [hn] at this; simp at this
        · exact ⟨j, hj, hn⟩
      obtain ⟨j, pre, rest, g1, g2, g3, g4⟩ := free_spec owner f _ _ hex'
      refine ⟨j, (List.range (SetTable.runEnd mask i + 1 - i)).map (i + ·) ++ pre, rest, g1, by rw [runsL, g2, List.append_assoc], g3, fun k hk => ?_⟩
      exact (List.mem_append.mp hk).elim (hall k) (g4 k)

/-- a hash's way meets each slot -/
def Covers (mask : Nat) (h : Int) : Prop := ∀ j, j ≤ mask → j ∈ runsL mask (SetTable.turns mask) (SetTable.bits h % (mask + 1)) (SetTable.bits h)
theorem Covers.slots {mask : Nat} {h : Int} (c : Covers mask h) : ∀ j, j ≤ mask → j ∈ TS.slots mask (10 * SetTable.turns mask) (start mask h) := by
  intro j hj
  obtain ⟨rest, e⟩ := runs_slots mask (SetTable.turns mask) (SetTable.bits h % (mask + 1)) (SetTable.bits h) (10 * SetTable.turns mask) (Nat.le_refl _)
  rw [start_runP, e]
  exact List.mem_append_left _ (c j hj)

/-- putting a new hash -/
theorem put_laid {t : SetTable} {es : Array (Int × Value)} {l : List Ent} (X : Laid t es l) {h : Int} {v : Value} {j : Nat} (hj : j ∉ l.map (·.slot)) (hm : j ≤ t.mask) {r : List Int} (hh : ∀ e ∈ l, e.key ≠ r)
    (hr : ∃ pre rest, slots t.mask (10 * SetTable.turns t.mask) (start t.mask h) = pre ++ j :: rest ∧ ∀ k ∈ pre, k ∈ l.map (·.slot)) :
    ∃ l', Laid (t.put j).1 (SetTable.insertAt es (t.put j).2 (h, v)) l' ∧ l'.length = l.length + 1 ∧ (∀ e, e ∈ l' ↔ e ∈ l ∨ e = ⟨j, h, v, r⟩) := by
  have sp := below_spec (j := j) (rising_getD X.rising)
  rw [← X.place] at sp
  obtain ⟨s1, s2, s3⟩ := sp
  have hsz : t.place.size = l.length := by rw [X.place]; simp
  generalize hp : SetTable.below t.place j = p at s1 s2 s3
  have hpl : p ≤ l.length := by omega
  have e1 : (t.put j).2 = p := hp
  have hdum : SetTable.has t.dummies j = false := by rw [X.nodum]; simp [SetTable.has]
  have hmem : ∀ e, e ∈ l.take p ++ (⟨j, h, v, r⟩ : Ent) :: l.drop p ↔ e ∈ l ∨ e = ⟨j, h, v, r⟩ := by
    intro e
    rw [List.mem_append, List.mem_cons]
    constructor
    · rintro (q | q | q)
      · exact .inl (List.mem_of_mem_take q)
      · exact .inr q
      · exact .inl (List.mem_of_mem_drop q)
    · rintro (q | q)
      · rw [← List.take_append_drop p l] at q
        exact (List.mem_append.mp q).elim .inl fun z => .inr (.inr z)
      · exact .inr (.inl q)
  have hlo : ∀ e ∈ l.take p, e.slot < j := by
    intro e he
    obtain ⟨i, hi, rfl⟩ := List.getElem_of_mem he
    rw [List.length_take] at hi
    have := s1 i (by omega)
    rw [X.place, getD_slot l i (by omega)] at this
    simpa using this
  have hhi : ∀ e ∈ l.drop p, j < e.slot := by
    intro e he
    obtain ⟨i, hi, rfl⟩ := List.getElem_of_mem he
    rw [List.length_drop] at hi
    have := s2 (p + i) (by omega) (by omega)
    rw [X.place, getD_slot l (p + i) (by omega)] at this
    have hne : (l[p + i]).slot ≠ j := fun e => hj (List.mem_map.mpr ⟨_, List.getElem_mem _, e⟩)
    simp only [List.getElem_drop]
    omega
  refine ⟨l.take p ++ ⟨j, h, v, r⟩ :: l.drop p, ⟨?_, ?_, ?_, ?_, ?_, ?_, ?_⟩, ?_, hmem⟩
  · show (if SetTable.has t.dummies j then _ else t.dummies) = #[]
    rw [hdum]; exact X.nodum
  · show SetTable.insertAt t.place (SetTable.below t.place j) j = _
    rw [hp, X.place, insertAt_list _ _ (by simpa using hpl)]
    simp [List.map_take, List.map_drop]
  · rw [e1, X.elems, insertAt_list _ _ (by simpa using hpl)]
    simp [List.map_take, List.map_drop]
  · rw [List.pairwise_append, List.pairwise_cons]
    refine ⟨X.rising.sublist (List.take_sublist _ _), ⟨fun e he => hhi e he, X.rising.sublist (List.drop_sublist _ _)⟩, fun a ha b hb => ?_⟩
    rcases List.mem_cons.mp hb with rfl | hb
    · exact hlo a ha
    · exact Nat.lt_trans (hlo a ha) (hhi b hb)
  · intro e he
    rcases (hmem e).mp he with he | rfl
    · exact X.bound e he
    · exact hm
  · intro e he
    have hocc : ∀ k ∈ l.map (·.slot), k ∈ (l.take p ++ (⟨j, h, v, r⟩ : Ent) :: l.drop p).map (·.slot) := by
      intro k hk
      obtain ⟨q, hq, rfl⟩ := List.mem_map.mp hk
      exact List.mem_map.mpr ⟨q, (hmem q).mpr (.inl hq), rfl⟩
    rcases (hmem e).mp he with he | rfl
    · exact (X.reach e he).mono hocc
    · obtain ⟨pre, rest, a, b⟩ := hr
      exact ⟨pre, rest, a, fun k hk => hocc k (b k hk)⟩
  · rw [List.pairwise_append, List.pairwise_cons]
    refine ⟨X.keys.sublist (List.take_sublist _ _), ⟨fun e he => fun q => hh e (List.mem_of_mem_drop he) q.symm, X.keys.sublist (List.drop_sublist _ _)⟩, fun a ha b hb => ?_⟩
    rcases List.mem_cons.mp hb with rfl | hb
    · exact hh a (List.mem_of_mem_take ha)
    · have := X.keys
      rw [← List.take_append_drop p l, List.pairwise_append] at this
      exact this.2.2 a ha b hb
  · simp; omega
end TS
end
theorem rst14 : True ∧ True := by
  w_top off
  first
  | (walk1; done)
  | exact ⟨trivial, trivial⟩
-- B24
section
local macro_rules | `(tactic| omega) => `(tactic| lia)
namespace TS
theorem nodup_len : ∀ (n : Nat) (l : List Nat), l.Nodup → (∀ j ∈ l, j < n) → l.length ≤ n
  | 0, l, _, h => by
    cases l with
    | nil => exact Nat.le_refl _
    | cons a r => exact absurd (h a (.head _)) (Nat.not_lt_zero _)
  | n + 1, l, hn, h => by
    have := nodup_len n (l.erase n) (hn.erase n) fun j hj => by
      have h1 := h j (List.mem_of_mem_erase hj)
      have h2 : j ≠ n := by
        rintro rfl
        exact (hn.not_mem_erase) hj
      omega
    rw [List.length_erase] at this
    split at this <;> omega
theorem runs_le (mask : Nat) : ∀ (f i pt : Nat), i ≤ mask → ∀ j ∈ runsL mask f i pt, j ≤ mask
  | 0, _, _, _, j, hj => absurd hj (by simp [runsL])
  | f + 1, i, pt, hi, j, hj => by
    rw [runsL] at hj
    rcases List.mem_append.mp hj with hj | hj
    · obtain ⟨a, ha, rfl⟩ := List.mem_map.mp hj
      have := List.mem_range.mp ha
      unfold SetTable.runEnd at this
      split at this <;> omega
    · exact runs_le mask f _ _ (by
        show (i * 5 + 1 + pt / 32) % (mask + 1) ≤ mask
        exact Nat.le_of_lt_succ (Nat.mod_lt _ (Nat.succ_pos _))) j hj
structure OwnOk (mask : Nat) (hs : List Int) (k : Nat) (owner : Array (Option Nat)) (pl : List Nat) : Prop where
  size : owner.size = mask + 1
  len : pl.length = k
  iff : ∀ j, j ≤ mask → ∀ i, owner.getD j none = some i ↔ pl[i]? = some j
  bound : ∀ j ∈ pl, j ≤ mask
  reach : ∀ i, ∀ h : i < pl.length, Reach mask (10 * SetTable.turns mask) (start mask (hs.getD i 0)) pl (pl[i])
def layStep (mask : Nat) (acc : Option (Array (Option Nat) × Nat)) (h : Int) : Option (Array (Option Nat) × Nat) := do
  let (owner, k) ← acc
  let j ← SetTable.layClean.free mask owner (SetTable.turns mask) (SetTable.bits h % (mask + 1)) (SetTable.bits h)
  pure (owner.setIfInBounds j (some k), k + 1)
theorem layClean_eq (mask : Nat) (hashes : Array Int) : SetTable.layClean mask hashes = (hashes.toList.foldl (layStep mask) (some (Array.replicate (mask + 1) none, 0))).map (·.1) := by
  unfold SetTable.layClean
  rw [← Array.foldl_toList]
  rfl
theorem own_step {mask : Nat} {hs : List Int} {k : Nat} {owner : Array (Option Nat)} {pl : List Nat} (X : OwnOk mask hs k owner pl) {h : Int} (hk : hs[k]? = some h) (hc : Covers mask h) (hm : k ≤ mask) :
    ∃ owner' pl', layStep mask (some (owner, k)) h = some (owner', k + 1) ∧ OwnOk mask hs (k + 1) owner' pl' := by
  have hgd : ∀ j, j ≤ mask → owner.getD j (some 0) = owner.getD j none := by
    intro j hj
    have : j < owner.size := by rw [X.size]; omega
    simp [Array.getD, this]
  have hex : ∃ j ∈ runsL mask (SetTable.turns mask) (SetTable.bits h % (mask + 1)) (SetTable.bits h), owner.getD j (some 0) = none := by
    apply Classical.byContradiction
    intro hno
    have hall : ∀ j, j < mask + 1 → j ∈ pl := by
      intro j hj
      have hin := hc j (by omega)
      cases ho : owner.getD j (some 0) with
      | none => exact absurd ⟨j, hin, ho⟩ hno
      | some i =>
        rw [hgd j (by omega)] at ho
        exact List.mem_of_getElem? ((X.iff j (by omega) i).mp ho)
    have := cover_length (mask + 1) pl hall
    rw [X.len] at this
    omega
  obtain ⟨j, pre, rest, g1, g2, g3, g4⟩ := free_spec owner _ _ _ hex
  have hjm : j ≤ mask := by
    apply Classical.byContradiction
    intro hgt
    have : ¬ j < owner.size := by rw [X.size]; omega
    simp [Array.getD, this] at g3
  have hjn : owner.getD j none = none := by rw [← hgd j hjm]; exact g3
  have hjpl : j ∉ pl := by
    intro hmem
    obtain ⟨i, hi, rfl⟩ := List.getElem_of_mem hmem
    have := (X.iff _ hjm i).mpr (by simp [hi])
    rw [hjn] at this; cases this
  refine ⟨owner.setIfInBounds j (some k), pl ++ [j], ?_, ?_, ?_, ?_, ?_, ?_⟩
  · show (do let j ← SetTable.layClean.free mask owner (SetTable.turns mask) (SetTable.bits h % (mask + 1)) (SetTable.bits h); pure (owner.setIfInBounds j (some k), k + 1)) = _
    rw [g1]; rfl
  · rw [Array.size_setIfInBounds]; exact X.size
  · simp [X.len]
  · intro q hq i
    have hqs : q < owner.size := by rw [X.size]; omega
    have e1 : (owner.setIfInBounds j (some k)).getD q none = if j = q then some k else owner.getD q none := by
      by_cases e : j = q
      · subst e; simp [Array.getD, hqs]
      · simp [Array.getD, hqs, Array.getElem_setIfInBounds, e]
    rw [e1]
    by_cases e : j = q
    · subst e
      rw [if_pos rfl]
      constructor
      · intro h'
        have : k = i := Option.some.inj h'
        subst this
        rw [← X.len]; simp
      · intro h'
        rcases Nat.lt_or_ge i pl.length with hlt | hge
        · rw [List.getElem?_append_left hlt] at h'
          exact absurd (List.mem_of_getElem? h') hjpl
        · have : i < (pl ++ [j]).length := (List.getElem?_eq_some_iff.mp h').1
          have hi : i = k := by simp at this; rw [X.len] at *; omega
          rw [hi]
    · rw [if_neg e, X.iff q hq i]
      constructor
      · intro h'
        have : i < pl.length := (List.getElem?_eq_some_iff.mp h').1
        rw [List.getElem?_append_left this]; exact h'
      · intro h'
        rcases Nat.lt_or_ge i pl.length with hlt | hge
        · rw [List.getElem?_append_left hlt] at h'; exact h'
        · rw [List.getElem?_append_right hge] at h'
          have : q ∈ [j] := List.mem_of_getElem? h'
          exact absurd (List.mem_singleton.mp this).symm e
  · intro q hq
    rcases List.mem_append.mp hq with hq | hq
    · exact X.bound q hq
    · rw [List.mem_singleton.mp hq]; exact hjm
  · intro i hi
    have hsub : ∀ q ∈ pl, q ∈ pl ++ [j] := fun q hq => List.mem_append_left _ hq
    rcases Nat.lt_or_ge i pl.length with hlt | hge
    · rw [List.getElem_append_left hlt]
      exact (X.reach i hlt).mono hsub
    · have hik : i = pl.length := by simp at hi; omega
      subst hik
      have hh : hs.getD pl.length 0 = h := by rw [X.len, List.getD_eq_getElem?_getD, hk]; rfl
      rw [hh]
      obtain ⟨rest', e⟩ := runs_slots mask (SetTable.turns mask) (SetTable.bits h % (mask + 1)) (SetTable.bits h) (10 * SetTable.turns mask) (Nat.le_refl _)
      refine ⟨pre, rest ++ rest', ?_, fun q hq => ?_⟩
      · rw [start_runP, e, g2]
        simp
      · have h1 := g4 q hq
        have hqm : q ≤ mask ∨ ¬ q ≤ mask := Classical.em _
        rcases hqm with hqm | hqm
        · cases ho : owner.getD q (some 0) with
          | none => rw [ho] at h1; simp at h1
          | some i =>
            rw [hgd q hqm] at ho
            exact hsub _ (List.mem_of_getElem? ((X.iff q hqm i).mp ho))
        · exact absurd (runs_le mask _ _ _ (Nat.le_of_lt_succ (Nat.mod_lt _ (Nat.succ_pos _))) q (by rw [g2]; exact List.mem_append_left _ hq)) hqm
theorem own_fold {mask : Nat} {hs : List Int} (hc : ∀ h ∈ hs, Covers mask h) (hm : hs.length ≤ mask) : ∀ (n k : Nat) (owner : Array (Option Nat)) (pl : List Nat), n = hs.length - k → k ≤ hs.length → OwnOk mask hs k owner pl →
    ∃ owner' pl', (hs.drop k).foldl (layStep mask) (some (owner, k)) = some (owner', hs.length) ∧ OwnOk mask hs hs.length owner' pl'
  | 0, k, owner, pl, hn, hk, X => by
    have : k = hs.length := by omega
    subst this
    exact ⟨owner, pl, by rw [List.drop_length]; rfl, X⟩
  | n + 1, k, owner, pl, hn, hk, X => by
    have hlt : k < hs.length := by omega
    obtain ⟨owner', pl', e, X'⟩ := own_step X (List.getElem?_eq_getElem hlt) (hc _ (List.getElem_mem hlt)) (by omega)
    rw [List.drop_eq_getElem_cons hlt, List.foldl_cons, e]
    exact own_fold hc hm n (k + 1) owner' pl' (by omega) hlt X'
theorem own_zero (mask : Nat) (hs : List Int) : OwnOk mask hs 0 (Array.replicate (mask + 1) none) [] where
  size := by simp
  len := rfl
  iff := fun j hj i => by
    have : j < mask + 1 := by omega
    simp [Array.getD, this]
  bound := fun _ h => nomatch h
  reach := fun i h => absurd h (Nat.not_lt_zero _)
theorem filterMap_all {α β : Type} {g : α → Option β} {f : α → β} : ∀ {l : List α}, (∀ p ∈ l, g p = some (f p)) → l.filterMap g = l.map f
  | [], _ => rfl
  | a :: l, h => by
    rw [List.filterMap_cons, h a (.head _), List.map_cons, filterMap_all fun p hp => h p (.tail _ hp)]
def dE : Ent := ⟨0, 0, .none, []⟩
/-- a table laid anew -/
theorem laid_laid {t : SetTable} {es : Array (Int × Value)} {l : List Ent} (X : Laid t es l) {mask finger moves : Nat} {led plain : Bool} (hc : ∀ e ∈ l, Covers mask e.hash) (hm : l.length ≤ mask) :
    ∃ t' order l', SetTable.laid mask finger moves led plain (es.map (·.1)) = some (t', order) ∧ t'.mask = mask ∧ Laid t' (order.filterMap (es[·]?)) l' ∧ l'.length = l.length ∧ (∀ e', e' ∈ l' → ∃ e ∈ l, e.hash = e'.hash ∧ e.val = e'.val ∧ e.key = e'.key) ∧ (order.filterMap (es[·]?)).size = es.size ∧ t'.led = led ∧ (∀ e, e ∈ l → ∃ e' ∈ l', e'.hash = e.hash ∧ e'.val = e.val ∧ e'.key = e.key) := by
  have hhs : (es.map (·.1)).toList = l.map (·.hash) := by rw [X.elems]; simp [List.map_map, Function.comp_def]
  obtain ⟨owner, pl, e1, O⟩ := own_fold (mask := mask) (hs := l.map (·.hash)) (fun h hh => by obtain ⟨e, he, rfl⟩ := List.mem_map.mp hh; exact hc e he) (by simpa using hm) _ 0 _ [] rfl (Nat.zero_le _) (own_zero mask _)
  have hlay : SetTable.layClean mask (es.map (·.1)) = some owner := by
    rw [layClean_eq, hhs]
    rw [List.drop_zero] at e1
    rw [e1]; rfl
  have hpl : pl.length = l.length := by rw [O.len]; simp
  generalize hlive : (List.range (mask + 1)).filterMap (fun j => (owner.getD j none).map (j, ·)) = live
  have hmem : ∀ j i, (j, i) ∈ live ↔ pl[i]? = some j := by
    intro j i
    rw [← hlive, List.mem_filterMap]
    constructor
    · rintro ⟨q, hq, h⟩
      have hq' := List.mem_range.mp hq
      cases ho : owner.getD q none with
      | none => rw [ho] at h; cases h
      | some z =>
        rw [ho] at h
        have h' : (q, z) = (j, i) := Option.some.inj h
        cases h'
        exact (O.iff _ (by omega) _).mp ho
    · intro h
      have hb := O.bound j (List.mem_of_getElem? h)
      exact ⟨j, List.mem_range.mpr (by omega), by rw [(O.iff j hb i).mpr h]; rfl⟩
  have hris : live.Pairwise fun a b => a.1 < b.1 := by
    rw [← hlive]
    refine List.Pairwise.filterMap (R := (· < ·)) _ (fun a a' h b hb b' hb' => ?_) List.pairwise_lt_range
    cases ha : owner.getD a none with
    | none => rw [ha] at hb; cases hb
    | some z =>
      cases ha' : owner.getD a' none with
      | none => rw [ha'] at hb'; cases hb'
      | some z' =>
        rw [ha] at hb; rw [ha'] at hb'
        cases hb; cases hb'
        exact h
  have hidx : ∀ p ∈ live, p.2 < l.length := fun p hp => by
    have := (List.getElem?_eq_some_iff.mp ((hmem p.1 p.2).mp hp)).1
    omega
  have hsnd : live.Pairwise fun a b => a.2 ≠ b.2 := by
    refine hris.imp_of_mem fun {a b} ha hb hlt => ?_
    intro e
    have h1 := (hmem a.1 a.2).mp ha
    have h2 := (hmem b.1 b.2).mp hb
    rw [e, h2] at h1
    have : b.1 = a.1 := Option.some.inj h1
    omega
  have hlen : live.length = l.length := by
    apply Nat.le_antisymm
    · have := nodup_len l.length (live.map (·.2)) (List.pairwise_map.mpr hsnd) fun j hj => by
        obtain ⟨p, hp, rfl⟩ := List.mem_map.mp hj; exact hidx p hp
      simpa using this
    · have := cover_length l.length (live.map (·.2)) fun i hi => by
        have : i < pl.length := by omega
        exact List.mem_map.mpr ⟨(pl[i], i), (hmem _ _).mpr (by simp [this]), rfl⟩
      simpa using this
  let f : Nat × Nat → Ent := fun p => ⟨p.1, (l.getD p.2 dE).hash, (l.getD p.2 dE).val, (l.getD p.2 dE).key⟩
  have hgd : ∀ i, (h : i < l.length) → l.getD i dE = l[i] := fun i h => by simp [h]
  have hes : (live.map (·.2)).toArray.filterMap (es[·]?) = ((live.map f).map fun e => (e.hash, e.val)).toArray := by
    apply Array.toList_inj.mp
    rw [Array.toList_filterMap, List.map_map, List.filterMap_map]
    show live.filterMap _ = live.map _
    apply filterMap_all
    intro p hp
    have hi := hidx p hp
    show es[p.2]? = some _
    rw [X.elems]
    simp [f, hgd _ hi, hi]
  refine ⟨{ mask, place := (live.map (·.1)).toArray, dummies := #[], finger, led, moves, plain }, (live.map (·.2)).toArray, live.map f, ?_, ?_, ⟨?_, ?_, hes, ?_, ?_, ?_, ?_⟩, by simp [hlen], ?_, ?_, ?_, ?_⟩
  · unfold SetTable.laid
    rw [hlay]
    show some _ = _
    rw [hlive]
  · rfl
  · rfl
  · show (live.map (·.1)).toArray = _
    rw [List.map_map]; rfl
  · rw [List.pairwise_map]; exact hris
  · intro e he
    obtain ⟨p, hp, rfl⟩ := List.mem_map.mp he
    exact O.bound p.1 (List.mem_of_getElem? ((hmem p.1 p.2).mp hp))
  · intro e he
    obtain ⟨p, hp, rfl⟩ := List.mem_map.mp he
    have hpi := (hmem p.1 p.2).mp hp
    have hlt := (List.getElem?_eq_some_iff.mp hpi).1
    have hval := (List.getElem?_eq_some_iff.mp hpi).2
    have R := O.reach p.2 hlt
    rw [hval] at R
    have hh : (l.map (·.hash)).getD p.2 0 = (f p).hash := by
      have hi := hidx p hp
      simp [f, hgd _ hi, hi]
    rw [hh] at R
    refine R.mono fun k hk => ?_
    obtain ⟨i, hi, rfl⟩ := List.getElem_of_mem hk
    exact List.mem_map.mpr ⟨f (pl[i], i), List.mem_map.mpr ⟨(pl[i], i), (hmem _ _).mpr (by simp [hi]), rfl⟩, rfl⟩
  · rw [List.pairwise_map]
    refine hsnd.imp_of_mem fun {a b} ha hb hne => ?_
    have ia := hidx a ha
    have ib := hidx b hb
    show (l.getD a.2 dE).key ≠ (l.getD b.2 dE).key
    rw [hgd _ ia, hgd _ ib]
    rcases Nat.lt_trichotomy a.2 b.2 with q | q | q
    · exact List.pairwise_iff_getElem.mp X.keys a.2 b.2 ia ib q
    · exact absurd q hne
    · exact (List.pairwise_iff_getElem.mp X.keys b.2 a.2 ib ia q).symm
  · intro e' he'
    obtain ⟨p, hp, rfl⟩ := List.mem_map.mp he'
    have hi := hidx p hp
    refine ⟨l[p.2], List.getElem_mem hi, ?_, ?_, ?_⟩
    · show (l[p.2]).hash = (l.getD p.2 dE).hash
      rw [hgd _ hi]
    · show (l[p.2]).val = (l.getD p.2 dE).val
      rw [hgd _ hi]
    · show (l[p.2]).key = (l.getD p.2 dE).key
      rw [hgd _ hi]
  · rw [hes, X.elems]; simp [hlen]
  · rfl
  · intro e he
    obtain ⟨i, hi, rfl⟩ := List.getElem_of_mem he
    have : i < pl.length := by omega
    refine ⟨f (pl[i], i), List.mem_map.mpr ⟨(pl[i], i), (hmem _ _).mpr (by simp [this]), rfl⟩, ?_, ?_, ?_⟩
    · show (l.getD i dE).hash = (l[i]).hash
      rw [hgd _ hi]
    · show (l.getD i dE).val = (l[i]).val
      rw [hgd _ hi]
    · show (l.getD i dE).key = (l[i]).key
      rw [hgd _ hi]
end TS
end
theorem rst15 : True ∧ True := by
  w_top off
  first
  | (walk1; done)
  | exact ⟨trivial, trivial⟩
-- B25
section
local macro_rules | `(tactic| omega) => `(tactic| lia)
namespace TS
/-- the hash of a pair of ints -/
def H (r : List Int) : Int := reduceHash (Builtin.Tuple.tupleHashOf (r.map hashInt))
theorem H_eq (prog : Program) (w : World) (r : List Int) : tupleKeyHash (intKind prog w) r = H r := rfl
def dom : List (List Int) := (List.range 9).flatMap fun (i : Nat) => (List.range 9).map fun (j : Nat) => [(i : Int) - 3, (j : Int) - 3]
def bitsR (mask : Nat) : Nat → Nat → Nat → Nat
  | 0, _, _ => 0
  | f + 1, i, pt => ((2 ^ (SetTable.runEnd mask i + 1 - i) - 1) <<< i) ||| bitsR mask f (SetTable.leap mask i pt).1 (SetTable.leap mask i pt).2
theorem bitsR_mem (mask : Nat) : ∀ (f i pt j : Nat), (bitsR mask f i pt).testBit j = true → j ∈ runsL mask f i pt
  | 0, i, pt, j, h => by simp [bitsR] at h
  | f + 1, i, pt, j, h => by
    rw [bitsR, Nat.testBit_or, Bool.or_eq_true] at h
    rw [runsL]
    rcases h with h | h
    · rw [Nat.testBit_shiftLeft, Bool.and_eq_true, Nat.testBit_two_pow_sub_one] at h
      have h1 : i ≤ j := by simpa using h.1
      have h2 : j - i < SetTable.runEnd mask i + 1 - i := by simpa using h.2
      exact List.mem_append_left _ (List.mem_map.mpr ⟨j - i, List.mem_range.mpr h2, by omega⟩)
    · exact List.mem_append_right _ (bitsR_mem mask f _ _ j h)
def coversB (mask : Nat) (h : Int) : Bool := bitsR mask (SetTable.turns mask) (SetTable.bits h % (mask + 1)) (SetTable.bits h) == 2 ^ (mask + 1) - 1
theorem dom_covers : (dom.all fun r => coversB 7 (H r) && coversB 31 (H r) && coversB 127 (H r)) = true := by decide +kernel
def Dom (r : List Int) : Prop := ∃ x y : Int, r = [x, y] ∧ -3 ≤ x ∧ x ≤ 5 ∧ -3 ≤ y ∧ y ≤ 5
theorem Dom.mem {r : List Int} (h : Dom r) : r ∈ dom := by
  obtain ⟨x, y, rfl, h1, h2, h3, h4⟩ := h
  refine List.mem_flatMap.mpr ⟨(x + 3).toNat, List.mem_range.mpr (by omega), List.mem_map.mpr ⟨(y + 3).toNat, List.mem_range.mpr (by omega), ?_⟩⟩
  rw [show (((x + 3).toNat : Nat) : Int) - 3 = x by omega, show (((y + 3).toNat : Nat) : Int) - 3 = y by omega]
theorem covers_of {mask : Nat} {h : Int} (e : coversB mask h = true) : Covers mask h := by
  intro j hj
  refine bitsR_mem _ _ _ _ _ ?_
  have e' : bitsR mask (SetTable.turns mask) (SetTable.bits h % (mask + 1)) (SetTable.bits h) = 2 ^ (mask + 1) - 1 := by simpa [coversB] using e
  rw [e', Nat.testBit_two_pow_sub_one]
  simp; omega
def MaskOk (m : Nat) : Prop := m = 7 ∨ m = 31 ∨ m = 127
theorem Dom.covers {r : List Int} (hr : Dom r) {m : Nat} (hm : MaskOk m) : Covers m (H r) := by
  have := List.all_eq_true.mp dom_covers r hr.mem
  rw [Bool.and_eq_true, Bool.and_eq_true] at this
  rcases hm with rfl | rfl | rfl
  · exact covers_of this.1.1
  · exact covers_of this.1.2
  · exact covers_of this.2
theorem slots_le (mask : Nat) : ∀ (f : Nat) (p : SetTable.Probe), p.j + p.more ≤ mask → ∀ j ∈ slots mask f p, j ≤ mask
  | 0, _, _, j, hj => absurd hj (by simp [slots])
  | f + 1, p, hp, j, hj => by
    rw [slots] at hj
    rcases List.mem_cons.mp hj with rfl | hj
    · omega
    · refine slots_le mask f (adv mask p) ?_ j hj
      unfold adv SetTable.advance
      split
      · dsimp only; omega
      · show (p.i * 5 + 1 + p.perturb / 32) % (mask + 1) + (SetTable.runEnd mask ((p.i * 5 + 1 + p.perturb / 32) % (mask + 1)) - (p.i * 5 + 1 + p.perturb / 32) % (mask + 1)) ≤ mask
        have h1 : (p.i * 5 + 1 + p.perturb / 32) % (mask + 1) ≤ mask := Nat.le_of_lt_succ (Nat.mod_lt _ (Nat.succ_pos _))
        unfold SetTable.runEnd
        split <;> omega
theorem slots_pre (mask : Nat) : ∀ (f g : Nat) (p : SetTable.Probe), ∃ rest, slots mask (f + g) p = slots mask f p ++ rest
  | 0, g, p => ⟨_, by rw [slots, List.nil_append]⟩
  | f + 1, g, p => by
    obtain ⟨rest, e⟩ := slots_pre mask f g (adv mask p)
    exact ⟨rest, by rw [show f + 1 + g = (f + g) + 1 by omega, slots, slots, e]; rfl⟩
theorem slots_len (mask : Nat) : ∀ (f : Nat) (p : SetTable.Probe), (slots mask f p).length = f
  | 0, _ => rfl
  | f + 1, p => by rw [slots, List.length_cons, slots_len]
/-- two heads of a list, one of them before a point that lies in the other -/
theorem head_of {α : Type} {A T pre rest : List α} {j q : α} (e : A ++ T = pre ++ j :: rest) (hq : q ∈ A) (hn : q ∉ pre) : ∃ rest', A = pre ++ j :: rest' := by
  rcases List.append_eq_append_iff.mp e with ⟨as, e1, e2⟩ | ⟨as, e1, e2⟩
  · exact absurd (by rw [e1]; exact List.mem_append_left _ hq) hn
  · cases as with
    | nil => simp at e1; rw [e1] at hq; exact absurd hq hn
    | cons z zs =>
      rw [List.cons_append] at e2
      injection e2 with e3 e4
      exact ⟨zs, by rw [e1, e3]⟩
abbrev KK (mask : Nat) : Nat := 10 * SetTable.turns mask
/-- the search stands at p, with f slots left of the way -/
structure Stand (mask : Nat) (l : List Ent) (r : List Int) (p : SetTable.Probe) (f : Nat) (pre : List Nat) : Prop where
  way : slots mask (KK mask) (start mask (H r)) = pre ++ slots mask f p
  dummy : p.dummy = none
  past : ∀ k ∈ pre, k ∈ l.map (·.slot) ∧ ∀ e ∈ l, e.slot = k → e.key ≠ r
theorem Stand.le {mask : Nat} {l : List Ent} {r : List Int} {p : SetTable.Probe} {f : Nat} {pre : List Nat} (X : Stand mask l r p f pre) : pre.length + f = KK mask := by
  have := congrArg List.length X.way
  rw [List.length_append, slots_len, slots_len] at this
  omega
theorem stand_zero (mask : Nat) (l : List Ent) (r : List Int) : Stand mask l r (start mask (H r)) (KK mask) [] := ⟨rfl, rfl, fun _ h => nomatch h⟩

theorem stand_step {t : SetTable} {es : Array (Int × Value)} {l : List Ent} (X : Laid t es l) (hH : ∀ e ∈ l, e.hash = H e.key) (hm : MaskOk t.mask) (hlen : l.length ≤ t.mask) {r : List Int} (hr : Dom r) {p : SetTable.Probe} {f : Nat} {pre : List Nat} (S : Stand t.mask l r p f pre)
    {hashAt : Nat → Int} (hh : ∀ i, ∀ hi : i < l.length, hashAt i = (l[i]).hash) :
    (∃ j, t.probe hashAt (H r) p = some (.empty j none) ∧ j ∉ l.map (·.slot) ∧ j ≤ t.mask ∧ (∃ pre rest, slots t.mask (KK t.mask) (start t.mask (H r)) = pre ++ j :: rest ∧ ∀ k ∈ pre, k ∈ l.map (·.slot)) ∧ ∀ e ∈ l, e.key ≠ r) ∨
    (∃ i next f' pre', ∃ hi : i < l.length, t.probe hashAt (H r) p = some (.candidate (l[i]).slot i next) ∧ (l[i]).hash = H r ∧ f' < f ∧ ((l[i]).key ≠ r → Stand t.mask l r next f' pre')) := by
  have hcov := hr.covers hm
  obtain ⟨j0, hj0, hn0⟩ : ∃ j ∈ slots t.mask (KK t.mask) (start t.mask (H r)), j ∉ l.map (·.slot) := by
    apply Classical.byContradiction
    intro hno
    have hall : ∀ j, j < t.mask + 1 → j ∈ l.map (·.slot) := fun j hj => by
      apply Classical.byContradiction
      intro hn
      exact hno ⟨j, hcov.slots j (by omega), hn⟩
    have := cover_length _ _ hall
    simp at this; omega
  have hj1 : j0 ∈ slots t.mask f p := by
    rw [S.way] at hj0
    rcases List.mem_append.mp hj0 with q | q
    · exact absurd (S.past j0 q).1 hn0
    · exact q
  have hle := S.le
  obtain ⟨tl, etl⟩ := slots_pre t.mask f (KK t.mask - f) p
  rw [show f + (KK t.mask - f) = KK t.mask by omega] at etl
  rcases go_spec X.nodum X.place X.rising hh (h := H r) (KK t.mask) p S.dummy ⟨j0, by rw [etl]; exact List.mem_append_left _ hj1, .inl hn0⟩ with ⟨j, g1, g2, pre2, rest, g3, g4⟩ | ⟨i, next, hi, g1, g2, g3, pre2, f2, g4, g5, g6⟩
  · left
    have hnp : j0 ∉ pre2 := fun h => hn0 (g4 j0 h).1
    rw [etl] at g3
    obtain ⟨rest', e'⟩ := head_of g3 hj1 hnp
    have way2 : slots t.mask (KK t.mask) (start t.mask (H r)) = (pre ++ pre2) ++ j :: rest' := by rw [S.way, e', List.append_assoc]
    have past2 : ∀ k ∈ pre ++ pre2, k ∈ l.map (·.slot) ∧ ∀ e ∈ l, e.slot = k → e.key ≠ r := by
      intro k hk
      rcases List.mem_append.mp hk with hk | hk
      · exact S.past k hk
      · exact ⟨(g4 k hk).1, fun e he hs hkey => (g4 k hk).2 e he hs (by rw [hH e he, hkey])⟩
    refine ⟨j, g1, g2, ?_, ⟨_, _, way2, fun k hk => (past2 k hk).1⟩, fun e he hkey => ?_⟩
    · refine slots_le t.mask (KK t.mask) (start t.mask (H r)) ?_ j (by rw [way2]; simp)
      rw [start_runP]
      show SetTable.bits (H r) % (t.mask + 1) + (SetTable.runEnd t.mask (SetTable.bits (H r) % (t.mask + 1)) - SetTable.bits (H r) % (t.mask + 1)) ≤ t.mask
      have h1 : SetTable.bits (H r) % (t.mask + 1) ≤ t.mask := Nat.le_of_lt_succ (Nat.mod_lt _ (Nat.succ_pos _))
      unfold SetTable.runEnd
      split <;> omega
    · obtain ⟨pre', rest'', r1, r2⟩ := X.reach e he
      rw [hH e he, hkey] at r1
      rw [r1] at way2
      rcases List.append_eq_append_iff.mp way2 with ⟨as, e1, e2⟩ | ⟨as, e1, e2⟩
      · cases as with
        | nil =>
          simp at e2
          exact g2 (e2.1 ▸ List.mem_map.mpr ⟨e, he, rfl⟩)
        | cons z zs =>
          rw [List.cons_append] at e2
          injection e2 with e3 e4
          exact (past2 e.slot (by rw [e1, e3]; simp)).2 e he rfl hkey
      · cases as with
        | nil =>
          simp at e2
          exact g2 (e2.1 ▸ List.mem_map.mpr ⟨e, he, rfl⟩)
        | cons z zs =>
          rw [List.cons_append] at e2
          injection e2 with e3 e4
          exact g2 (r2 j (by rw [e1, e3]; simp))
  · right
    have hnp : j0 ∉ pre2 := fun h => hn0 (g6 j0 h).1
    have g5' := g5
    rw [etl] at g5'
    obtain ⟨rest', e'⟩ := head_of g5' hj1 hnp
    have hlen2 := congrArg List.length e'
    rw [slots_len, List.length_append, List.length_cons] at hlen2
    have hrest : rest' = slots t.mask rest'.length next := by
      have e3 : slots t.mask f2 next = rest' ++ tl := by
        rw [e', List.append_assoc] at g5'
        have := List.append_cancel_left g5'
        rw [List.cons_append] at this
        injection this with _ e4
        exact e4.symm
      obtain ⟨tl2, e5⟩ := slots_pre t.mask rest'.length (f2 - rest'.length) next
      have hf2 : rest'.length ≤ f2 := by
        have := congrArg List.length e3
        rw [slots_len, List.length_append] at this
        omega
      rw [show rest'.length + (f2 - rest'.length) = f2 by omega, e3] at e5
      exact (List.append_inj e5 (by rw [slots_len])).1
    refine ⟨i, next, rest'.length, pre ++ (pre2 ++ [(l[i]).slot]), hi, g1, g2, by omega, fun hne => ⟨?_, g3, fun k hk => ?_⟩⟩
    · rw [S.way, e', ← hrest]; simp
    · rcases List.mem_append.mp hk with hk | hk
      · exact S.past k hk
      rcases List.mem_append.mp hk with hk | hk
      · exact ⟨(g6 k hk).1, fun e he hs hkey => (g6 k hk).2 e he hs (by rw [hH e he, hkey])⟩
      · rw [List.mem_singleton.mp hk]
        refine ⟨List.mem_map.mpr ⟨_, List.getElem_mem hi, rfl⟩, fun e he hs => ?_⟩
        obtain ⟨k', hk', rfl⟩ := List.getElem_of_mem he
        have : k' = i := by
          rcases Nat.lt_trichotomy k' i with q | q | q
          · have := List.pairwise_iff_getElem.mp X.rising k' i hk' hi q; omega
          · exact q
          · have := List.pairwise_iff_getElem.mp X.rising i k' hi hk' q; omega
        subst this; exact hne
end TS
end
theorem rst16 : True ∧ True := by
  w_top off
  first
  | (walk1; done)
  | exact ⟨trivial, trivial⟩
-- B26
section
local macro_rules | `(tactic| omega) => `(tactic| lia)
namespace TS
/-- a set of pairs at an address -/
structure TSet (prog : Program) (w : World) (h : Heap) (a : Addr) (S : List (List Int)) (o : Obj) (es : Array (Int × Value)) (ep : Nat) (t : SetTable) (l : List Ent) : Prop where
  obj : h.get? a = some o
  exact' : o.ExactSet
  data : o.data = .set es ep t
  laid : Laid t es l
  mask : MaskOk t.mask
  room : l.length * 5 < t.mask * 3
  len : l.length = S.length
  nodup : S.Nodup
  mem : ∀ r, r ∈ S ↔ ∃ e ∈ l, e.key = r
  hash : ∀ e ∈ l, e.hash = H e.key
  dom : ∀ e ∈ l, Dom e.key
  val : ∀ e ∈ l, ∃ b, e.val = .ref b ∧ IsTupleKey (intKind prog w) h e.key b
section
variable {prog : Program} {w : World} {A : Around} {E : Value → Shared → Prop} {s : Shared} {a b : Addr} {S : List (List Int)} {o : Obj} {es : Array (Int × Value)} {ep : Nat} {t : SetTable} {l : List Ent} {r : List Int}
theorem TSet.esSize (X : TSet prog w s.heap a S o es ep t l) : es.size = l.length := by rw [X.laid.elems]; simp
theorem TSet.fits (X : TSet prog w s.heap a S o es ep t l) : t.fits es.size = true := by
  have h1 : t.place.size = es.size := by rw [X.laid.place, X.laid.elems]; simp
  have h2 : t.fill = es.size := by unfold SetTable.fill; rw [h1, X.laid.nodum]; rfl
  unfold SetTable.fits
  have := X.room
  rw [h1, h2, X.esSize]
  simp; omega
theorem TSet.es_at (X : TSet prog w s.heap a S o es ep t l) {i : Nat} (hi : i < l.length) : es[i]? = some ((l[i]).hash, (l[i]).val) := by
  rw [X.laid.elems]; simp [hi]
theorem gaveWay_no (hm : MaskOk t.mask) : t.gaveWay = false := by
  unfold SetTable.gaveWay
  rcases hm with e | e | e <;> rw [e] <;> rfl
theorem ints_byValue {vs : List Value} {ks : List Int} (x : ItemsAre (intKind prog w) ks vs) : ∀ v ∈ vs, ∃ i u, v = .int i u := by
  induction x with
  | nil => exact fun _ h => nomatch h
  | cons h1 _ ih =>
    intro v hv
    rcases List.mem_cons.mp hv with rfl | hv
    · first | (refine foldG ?_; intro qG; obtain ⟨u, e⟩ := Value.isInt_shape h1; k_unfold; clear qG) | obtain ⟨u, e⟩ := Value.isInt_shape h1
      exact ⟨_, u, e⟩
    · exact ih v hv
theorem notClass_int (n : Nat) (i : Int) (u : Tok) : ofAClassStatement n (.int i u) = pure false := by
  cases n <;> simp [ofAClassStatement]
/-- the tuples of a set never show the search -/
theorem notClass_W (hx : IsTupleKey (intKind prog w) s.heap r b) {Q : Bool → Shared → Prop} (h : Q false s) : wpAny (model prog w) A (ofAClassStatement 8 (.ref b)) Q E s := by
  have hT := hx.typeIs
  first | (refine foldG ?_; intro qG; obtain ⟨ob, items, k, hob, hc, hd, hi⟩ := hx; k_unfold; clear qG) | obtain ⟨ob, items, k, hob, hc, hd, hi⟩ := hx
  unfold ofAClassStatement
  refine wpAny_bind (wpAny_typeOf hT ?_)
  simp only [beq_self_eq_true, if_true]
  refine wpAny_bind (wpAny_pure ?_)
  simp only [Bool.not_true, Bool.false_eq_true, if_false]
  refine wpAny_bind (wpAny_seqItems hob hd ?_)
  dsimp only
  refine wpAny_bind ?_
  rw [← Array.forIn_toList]
  refine wpAny_forIn_list _ (fun rest r s' => r.1 = none ∧ s' = s ∧ ∀ v ∈ rest, ∃ i u, v = .int i u) _ ?_ ?_ _ _ ⟨rfl, rfl, ints_byValue hi⟩
  · intro v rest r s' hP0
    first | (refine foldG ?_; intro qG; obtain ⟨hr, rfl, hall⟩ := hP0; k_unfold; clear qG) | obtain ⟨hr, rfl, hall⟩ := hP0
    first | (refine foldG ?_; intro qG; obtain ⟨i, u, rfl⟩ := hall v List.mem_cons_self; k_unfold; clear qG) | obtain ⟨i, u, rfl⟩ := hall v List.mem_cons_self
    rw [notClass_int]
    refine wpAny_bind (wpAny_pure ?_)
    simp only [Bool.false_eq_true, if_false]
    exact wpAny_pure ⟨rfl, rfl, fun u hu' => hall u (List.mem_cons_of_mem _ hu')⟩
  · intro hP0 s' hP1
    first | (refine foldG ?_; intro qG; obtain ⟨r1, r2⟩ := hP0; k_unfold; clear qG) | obtain ⟨r1, r2⟩ := hP0
    first | (refine foldG ?_; intro qG; obtain ⟨hr, rfl, _⟩ := hP1; k_unfold; clear qG) | obtain ⟨hr, rfl, _⟩ := hP1
    simp only at hr
    subst hr
    exact wpAny_pure h
theorem seen_W (hx : IsTupleKey (intKind prog w) s.heap r b) : ∀ (ys : List Value) {Q : Bool → Shared → Prop}, (∀ y ∈ ys, ∃ q c, y = .ref c ∧ IsTupleKey (intKind prog w) s.heap q c) → Q false s → wpAny (model prog w) A (searchCouldBeSeen (.ref b) ys) Q E s := by
  intro ys Q hys hQ
  unfold searchCouldBeSeen
  refine wpAny_bind ?_
  refine wpAny_forIn_list _ (fun rest r s' => r.1 = none ∧ s' = s ∧ ∀ y ∈ rest, ∃ q c, y = .ref c ∧ IsTupleKey (intKind prog w) s.heap q c) _ ?_ ?_ _ _ ⟨rfl, rfl, hys⟩
  · intro v rest r s' hP0
    first | (refine foldG ?_; intro qG; obtain ⟨hr, rfl, hall⟩ := hP0; k_unfold; clear qG) | obtain ⟨hr, rfl, hall⟩ := hP0
    first | (refine foldG ?_; intro qG; obtain ⟨q, c, rfl, hq⟩ := hall v List.mem_cons_self; k_unfold; clear qG) | obtain ⟨q, c, rfl, hq⟩ := hall v List.mem_cons_self
    have next : ∀ y ∈ rest, ∃ q c, y = .ref c ∧ IsTupleKey (intKind prog w) s'.heap q c := fun u hu' => hall u (List.mem_cons_of_mem _ hu')
    dsimp only
    split
    · exact wpAny_pure ⟨rfl, rfl, next⟩
    · refine wpAny_bind (wpAny_eqIsQuiet_tuple hx ?_)
      simp only [Bool.not_true, Bool.false_eq_true, if_false]
      refine wpAny_bind (wpAny_eqIsQuiet_tuple hq ?_)
      simp only [Bool.not_true, Bool.false_eq_true, if_false]
      refine wpAny_bind (notClass_W hx ?_)
      simp only [Bool.false_eq_true, if_false]
      refine wpAny_bind (notClass_W hq ?_)
      simp only [Bool.false_eq_true, if_false]
      exact wpAny_pure ⟨rfl, rfl, next⟩
  · intro hP0 s' hP1
    first | (refine foldG ?_; intro qG; obtain ⟨r1, r2⟩ := hP0; k_unfold; clear qG) | obtain ⟨r1, r2⟩ := hP0
    first | (refine foldG ?_; intro qG; obtain ⟨hr, rfl, _⟩ := hP1; k_unfold; clear qG) | obtain ⟨hr, rfl, _⟩ := hP1
    simp only at hr
    subst hr
    exact wpAny_pure hQ
theorem search_W (X : TSet prog w s.heap a S o es ep t l) (hx : IsTupleKey (intKind prog w) s.heap r b) (hr : Dom r) (hu : A.units < cLine) {Q : SetFound → Shared → Prop}
    (hfree : r ∉ S → ∀ j, j ∉ l.map (·.slot) → j ≤ t.mask → (∃ pre rest, slots t.mask (KK t.mask) (start t.mask (H r)) = pre ++ j :: rest ∧ ∀ k ∈ pre, k ∈ l.map (·.slot)) → (∀ e ∈ l, e.key ≠ r) → Q (.free j false) s)
    (hthere : r ∈ S → Q (.there none) s) :
    ∀ (f fuel : Nat) (st : Option SetTable.Probe) (p : SetTable.Probe) (pre : List Nat), f < fuel → st.getD (start t.mask (H r)) = p → Stand t.mask l r p f pre → wpAny (model prog w) A (setSearchFrom a (.ref b) (H r) true fuel st) Q E s := by
  intro f
  induction f using Nat.strongRecOn with
  | ind f ih =>
    intro fuel st p pre hf hst hS
    first | (refine foldG ?_; intro qG; obtain ⟨fuel, rfl⟩ : ∃ k, fuel = k + 1 := ⟨fuel - 1, by omega⟩; k_unfold; clear qG) | obtain ⟨fuel, rfl⟩ : ∃ k, fuel = k + 1 := ⟨fuel - 1, by omega⟩
    unfold setSearchFrom
    refine wpAny_bind (wpAny_setState_of X.obj X.data X.fits ?_)
    dsimp only
    rw [gaveWay_no X.mask]
    simp only [Bool.false_eq_true, if_false]
    rw [start_eq, hst]
    have hlen : l.length ≤ t.mask := by have := X.room; omega
    rcases stand_step X.laid X.hash X.mask hlen hr hS (hashAt := fun i => (es[i]?.map (·.1)).getD 0) (fun i hi => by rw [X.es_at hi]; rfl) with ⟨j, g1, g2, g3, g4, g5⟩ | ⟨i, next, f', pre', hi, g1, g2, g3, g4⟩
    · generalize hpr : SetTable.probe t _ (H r) p = met
      have hmet : met = some (.empty j none) := by rw [← hpr]; exact g1
      subst hmet
      dsimp only
      refine wpAny_pure (hfree (fun hrS => ?_) j g2 g3 g4 g5)
      first | (refine foldG ?_; intro qG; obtain ⟨e, he, hk⟩ := (X.mem r).mp hrS; k_unfold; clear qG) | obtain ⟨e, he, hk⟩ := (X.mem r).mp hrS
      exact g5 e he hk
    · generalize hpr : SetTable.probe t _ (H r) p = met
      have hmet : met = some (.candidate (l[i]).slot i next) := by rw [← hpr]; exact g1
      subst hmet
      dsimp only
      have hseen : ∀ {Q : Bool → Shared → Prop}, Q false s → wpAny (model prog w) A (searchCouldBeSeen (.ref b) ((es.filter (·.1 == H r)).toList.map (·.2))) Q E s := by
        intro Q hQ
        refine seen_W hx _ (fun y hy => ?_) hQ
        first | (refine foldG ?_; intro qG; obtain ⟨q, hq, rfl⟩ := List.mem_map.mp hy; k_unfold; clear qG) | obtain ⟨q, hq, rfl⟩ := List.mem_map.mp hy
        have hq' : q ∈ es.toList := by
          rw [Array.toList_filter] at hq
          exact (List.mem_filter.mp hq).1
        rw [X.laid.elems] at hq'
        first | (refine foldG ?_; intro qG; obtain ⟨e, he, rfl⟩ := List.mem_map.mp (by simpa using hq'); k_unfold; clear qG) | obtain ⟨e, he, rfl⟩ := List.mem_map.mp (by simpa using hq')
        first | (refine foldG ?_; intro qG; obtain ⟨c, ec, hc⟩ := X.val e he; k_unfold; clear qG) | obtain ⟨c, ec, hc⟩ := X.val e he
        exact ⟨e.key, c, ec, hc⟩
      have tailW : wpAny (model prog w) A (do
          let some (_, y) := es[i]? | unsupported "internal:set-entry"
          let equal ← holding [y] (eqBool y (.ref b))
          let (es', _, t') ← setState a
          if true && equal then return .there none
          let some sm := t'.sameMemory t.moves t.mask | unsupported "set.changed-during-lookup:is-the-new-block-at-the-old-address"
          let still ← match (if sm then t'.slot (l[i]).slot else .empty) with
            | .live i' => match es'[i']? with
              | some (_, y') => do pure (if ← isSame y' y then some i' else none)
              | none => pure none
            | _ => pure none
          match still with
          | none => rule "set.search.anew"; setSearchFrom a (.ref b) (H r) true fuel none
          | some i' => if equal then return .there (some i') else setSearchFrom a (.ref b) (H r) true fuel (some next)) Q E s := by
        first | (refine foldG ?_; intro qG; obtain ⟨c, ec, hc⟩ := X.val _ (List.getElem_mem hi); k_unfold; clear qG) | obtain ⟨c, ec, hc⟩ := X.val _ (List.getElem_mem hi)
        rw [X.es_at hi, ec]
        dsimp only
        refine wpAny_bind (wpAny_holding (wpAny_eqBool_tuple hu hc hx ?_))
        refine wpAny_bind (wpAny_setState_of X.obj X.data X.fits ?_)
        dsimp only
        by_cases hk : (l[i]).key = r
        · rw [decide_eq_true hk]
          simp only [Bool.and_self, if_true]
          exact wpAny_pure (hthere ((X.mem r).mpr ⟨_, List.getElem_mem hi, hk⟩))
        · rw [decide_eq_false hk]
          simp only [Bool.and_false, Bool.false_eq_true, if_false]
          have hsm : t.sameMemory t.moves t.mask = some true := by simp [SetTable.sameMemory]
          rw [hsm]
          dsimp only
          simp only [if_true]
          have hslot : t.slot (l[i]).slot = .live i := by
            rcases slot_spec X.laid.nodum X.laid.place X.laid.rising (l[i]).slot with ⟨k, hk', e1, e2⟩ | ⟨_, e2⟩
            · have : k = i := by
                rcases Nat.lt_trichotomy k i with q | q | q
                · have := List.pairwise_iff_getElem.mp X.laid.rising k i hk' hi q; omega
                · exact q
                · have := List.pairwise_iff_getElem.mp X.laid.rising i k hi hk' q; omega
              subst this; exact e1
            · exact absurd (List.mem_map.mpr ⟨_, List.getElem_mem hi, rfl⟩) e2
          rw [hslot]
          dsimp only
          rw [X.es_at hi, ec]
          dsimp only
          refine wpAny_bind (wpAny_isSame_ref_self ?_)
          refine wpAny_bind (wpAny_pure ?_)
          simp only [if_true]
          exact ih f' g3 fuel (some next) next pre' (by omega) rfl (g4 hk)
      cases hled : t.led with
      | true =>
        simp only [Bool.not_true, Bool.false_eq_true, if_false]
        exact tailW
      | false =>
        simp only [Bool.not_false, if_true]
        refine wpAny_bind (hseen ?_)
        simp only [Bool.false_eq_true, if_false]
        exact tailW
end
end TS
end
theorem rst17 : True ∧ True := by
  w_top off
  first
  | (walk1; done)
  | exact ⟨trivial, trivial⟩
-- B27
section
local macro_rules | `(tactic| omega) => `(tactic| lia)
namespace TS
section
variable {prog : Program} {w : World} {A : Around} {E : Value → Shared → Prop} {s : Shared} {a b : Addr} {S : List (List Int)} {o : Obj} {es : Array (Int × Value)} {ep : Nat} {t : SetTable} {l : List Ent} {r : List Int}
theorem byValue_W (hx : IsTupleKey (intKind prog w) s.heap r b) {Q : Bool → Shared → Prop} (h : Q true s) : wpAny (model prog w) A (hashByValue 8 (.ref b)) Q E s := by
  have hT := hx.typeIs
  first | (refine foldG ?_; intro qG; obtain ⟨ob, items, k, hob, hc, hd, hi⟩ := hx; k_unfold; clear qG) | obtain ⟨ob, items, k, hob, hc, hd, hi⟩ := hx
  unfold hashByValue
  refine wpAny_bind (wpAny_specialOf hT F.slot_tuple_hash.lookup ?_)
  dsimp only
  refine wpAny_bind (wpAny_seqItems hob hd ?_)
  simp only [Option.getD_some]
  refine wpAny_bind ?_
  rw [← Array.forIn_toList]
  refine wpAny_forIn_list _ (fun rest r s' => r.1 = none ∧ s' = s ∧ ∀ v ∈ rest, ∃ i u, v = .int i u) _ ?_ ?_ _ _ ⟨rfl, rfl, ints_byValue hi⟩
  · intro v rest r s' hP0
    first | (refine foldG ?_; intro qG; obtain ⟨hr, rfl, hall⟩ := hP0; k_unfold; clear qG) | obtain ⟨hr, rfl, hall⟩ := hP0
    first | (refine foldG ?_; intro qG; obtain ⟨i, u, rfl⟩ := hall v List.mem_cons_self; k_unfold; clear qG) | obtain ⟨i, u, rfl⟩ := hall v List.mem_cons_self
    have e : hashByValue 7 (.int i u) = pure true := by simp [hashByValue]
    rw [e]
    refine wpAny_bind (wpAny_pure ?_)
    simp only [Bool.not_true, Bool.false_eq_true, if_false]
    exact wpAny_pure ⟨rfl, rfl, fun u hu' => hall u (List.mem_cons_of_mem _ hu')⟩
  · intro hP0 s' hP1
    first | (refine foldG ?_; intro qG; obtain ⟨r1, r2⟩ := hP0; k_unfold; clear qG) | obtain ⟨r1, r2⟩ := hP0
    first | (refine foldG ?_; intro qG; obtain ⟨hr, rfl, _⟩ := hP1; k_unfold; clear qG) | obtain ⟨hr, rfl, _⟩ := hP1
    simp only at hr
    subst hr
    exact wpAny_pure h
theorem key_keeps {h h' : Heap} {q : List Int} {c : Addr} (hq : IsTupleKey (intKind prog w) h q c) (ho : h.get? a = some o) (hex : o.ExactSet) (hs : Heap.SameBut a h h') : IsTupleKey (intKind prog w) h' q c := by
  first | (refine foldG ?_; intro qG; obtain ⟨ob, items, k, hob, hc, hd, hi⟩ := hq; k_unfold; clear qG) | obtain ⟨ob, items, k, hob, hc, hd, hi⟩ := hq
  have hne : c ≠ a := by
    rintro rfl
    rw [ho] at hob
    cases hob
    rw [hex.1] at hc
    exact absurd hc (by decide)
  exact ⟨ob, items, k, (hs.2 c hne).trans hob, hc, hd, hi⟩
theorem TSet.make (X : TSet prog w s.heap a S o es ep t l) (hx : IsTupleKey (intKind prog w) s.heap r b) (hr : Dom r) (hnS : r ∉ S) {h' : Heap} {es1 : Array (Int × Value)} {ep1 : Nat} {t1 : SetTable} {l1 : List Ent} (hs : Heap.SameBut a s.heap h') (ho : h'.get? a = some { o with data := .set es1 ep1 t1 })
    (L1 : Laid t1 es1 l1) (hm : MaskOk t1.mask) (hroom : l1.length * 5 < t1.mask * 3) (hlen : l1.length = l.length + 1) (h1 : ∀ e ∈ l1, (∃ e0 ∈ l, e0.hash = e.hash ∧ e0.val = e.val ∧ e0.key = e.key) ∨ (e.hash = H r ∧ e.val = .ref b ∧ e.key = r)) (h2 : ∀ e0 ∈ l, ∃ e ∈ l1, e.key = e0.key) (h3 : ∃ e ∈ l1, e.key = r) :
    TSet prog w h' a (S ++ [r]) { o with data := .set es1 ep1 t1 } es1 ep1 t1 l1 where
  obj := ho
  exact' := X.exact'
  data := rfl
  laid := L1
  mask := hm
  room := hroom
  len := by rw [hlen, X.len, List.length_append]; rfl
  nodup := by
    rw [List.nodup_append]
    refine ⟨X.nodup, by simp, fun q hq z hz e => ?_⟩
    rw [List.mem_singleton.mp hz] at e
    exact hnS (e ▸ hq)
  mem := fun q => by
    rw [List.mem_append, List.mem_singleton]
    constructor
    · rintro (hq | rfl)
      · first | (refine foldG ?_; intro qG; obtain ⟨e, he, rfl⟩ := (X.mem q).mp hq; k_unfold; clear qG) | obtain ⟨e, he, rfl⟩ := (X.mem q).mp hq
        exact h2 e he
      · exact h3
    · intro hP0
      first | (refine foldG ?_; intro qG; obtain ⟨e, he, rfl⟩ := hP0; k_unfold; clear qG) | obtain ⟨e, he, rfl⟩ := hP0
      rcases h1 e he with ⟨e0, he0, _, _, hk⟩ | ⟨_, _, hk⟩
      · exact .inl ((X.mem _).mpr ⟨e0, he0, hk⟩)
      · exact .inr hk
  hash := fun e he => by
    rcases h1 e he with ⟨e0, he0, hh, _, hk⟩ | ⟨hh, _, hk⟩
    · rw [← hh, ← hk]; exact X.hash e0 he0
    · rw [hh, hk]
  dom := fun e he => by
    rcases h1 e he with ⟨e0, he0, hh, _, hk⟩ | ⟨hh, _, hk⟩
    · rw [← hk]; exact X.dom e0 he0
    · rw [hk]; exact hr
  val := fun e he => by
    rcases h1 e he with ⟨e0, he0, hh, hv, hk⟩ | ⟨hh, hv, hk⟩
    · first | (refine foldG ?_; intro qG; obtain ⟨c, ec, hc⟩ := X.val e0 he0; k_unfold; clear qG) | obtain ⟨c, ec, hc⟩ := X.val e0 he0
      exact ⟨c, by rw [← hv]; exact ec, hk ▸ key_keeps hc X.obj X.exact' hs⟩
    · exact ⟨b, hv, hk ▸ key_keeps hx X.obj X.exact' hs⟩
theorem get_put {h : Heap} {es1 : Array (Int × Value)} {t1 : SetTable} (ho : h.get? a = some o) (hd : o.data = .set es ep t) : (h.update a (Obj.putSet es1 t1)).get? a = some { o with data := .set es1 (ep + 1) t1 } := by
  have e := putSet_of es1 t1 hd
  have := Heap.get?_update_self (Obj.putSet es1 t1) ho (by rw [e]; rfl)
  rw [this, e]
theorem add_W (X : TSet prog w s.heap a S o es ep t l) (hx : IsTupleKey (intKind prog w) s.heap r b) (hr : Dom r) (hu : A.units < cLine) (hn : S.length ≤ 30) {Q : Bool → Shared → Prop}
    (hold : r ∈ S → Q false s)
    (hnew : r ∉ S → ∀ h' o' es' ep' t' l', Heap.SameBut a s.heap h' → TSet prog w h' a (S ++ [r]) o' es' ep' t' l' → Q true { s with heap := h' }) :
    wpAny (model prog w) A (setAddHashed a (.ref b) (H r)) Q E s := by
  unfold setAddHashed setAddHashedIn
  refine wpAny_holding (wpAny_bind (wpAny_setState_of X.obj X.data X.fits ?_))
  dsimp only
  have hbs : byScan (.ref b) es = false := by simp [byScan, Value.scannable]
  rw [hbs]
  simp only [Bool.false_eq_true, if_false]
  have hK : KK t.mask < 100000 := by
    unfold KK SetTable.turns
    rcases X.mask with e | e | e <;> rw [e] <;> decide
  unfold setSearch
  refine wpAny_bind (search_W X hx hr hu (fun hnS j g1 g2 g3 g4 => ?_) (fun hS => ?_) (KK t.mask) 100000 none _ [] hK rfl (stand_zero _ _ _))
  · dsimp only
    first | (refine foldG ?_; intro qG; obtain ⟨l', L', hl', hmem'⟩ := put_laid X.laid g1 g2 g4 (h := H r) (v := .ref b) g3; k_unfold; clear qG) | obtain ⟨l', L', hl', hmem'⟩ := put_laid X.laid g1 g2 g4 (h := H r) (v := .ref b) g3
    refine wpAny_bind (wpAny_setState_of X.obj X.data X.fits ?_)
    dsimp only
    have hm1 : (t.put j).1.mask = t.mask := rfl
    have hfill : (t.put j).1.fill = l.length + 1 := by
      unfold SetTable.fill
      rw [L'.place, L'.nodum]; simp [hl']
    generalize t.put j = tp at L' hm1 hfill
    first | (refine foldG ?_; intro qG; obtain ⟨t1, p1⟩ := tp; k_unfold; clear qG) | obtain ⟨t1, p1⟩ := tp
    dsimp only at L' hm1 hfill ⊢
    generalize hes1 : SetTable.insertAt es p1 (H r, Value.ref b) = es1 at L' ⊢
    have hes1z : es1.size = l.length + 1 := by rw [L'.elems]; simp [hl']
    have hSl := X.len
    have hcls : ∀ e ∈ l', (∃ e0 ∈ l, e0.hash = e.hash ∧ e0.val = e.val ∧ e0.key = e.key) ∨ (e.hash = H r ∧ e.val = .ref b ∧ e.key = r) := fun e he => by
      rcases (hmem' e).mp he with q | rfl
      · exact .inl ⟨e, q, rfl, rfl, rfl⟩
      · exact .inr ⟨rfl, rfl, rfl⟩
    have hback : ∀ e0 ∈ l, ∃ e ∈ l', e.key = e0.key := fun e he => ⟨e, (hmem' e).mpr (.inl he), rfl⟩
    have hthis : ∃ e ∈ l', e.key = r := ⟨_, (hmem' _).mpr (.inr rfl), rfl⟩
    have rest : wpAny (model prog w) A (do
        storeSet a es1 t1
        if !false && t1.tooFull then setRelay a (SetTable.grown (es.size + 1))
        return true) Q E s := by
      refine wpAny_bind (wpAny_storeSet_of X.obj X.data ?_ (by rw [sizeLine_eq]; omega))
      have ho1 := get_put (es1 := es1) (t1 := t1) X.obj X.data
      have hs1 : Heap.SameBut a s.heap (s.heap.update a (Obj.putSet es1 t1)) := Heap.SameBut.update ..
      by_cases hfull : t1.tooFull = true
      · rw [hfull]
        simp only [Bool.not_false, Bool.and_self, if_true]
        have hfits1 : t1.fits es1.size = true := by
          have := X.room
          unfold SetTable.fits
          rw [hfill, hm1, hes1z, L'.place]
          simp [hl']; omega
        have hfull' : (l.length + 1) * 5 ≥ t1.mask * 3 := by
          unfold SetTable.tooFull at hfull
          rw [hfill] at hfull
          simpa using hfull
        have hroom := X.room
        have hesz := X.esSize
        obtain ⟨mask', hw, hm', hbig⟩ : ∃ mask', SetTable.sizeAbove (SetTable.grown (es.size + 1)) = mask' + 1 ∧ MaskOk mask' ∧ (l.length + 1) * 5 < mask' * 3 := by
          rw [hm1] at hfull'
          rcases X.mask with e | e | e <;> rw [e] at hfull' hroom
          · have : es.size = 4 := by omega
            rw [this]
            exact ⟨31, by decide +kernel, .inr (.inl rfl), by omega⟩
          · have : es.size = 18 := by omega
            rw [this]
            exact ⟨127, by decide +kernel, .inr (.inr rfl), by omega⟩
          · omega
        obtain ⟨t2, order, l2, e1, e2, L2, e3, e4, e5, _, e6⟩ := laid_laid L' (mask := mask') (finger := t1.finger) (moves := t1.movedTo mask') (led := t1.led) (plain := t1.plain) (fun e he => by
          rcases hcls e he with ⟨e0, he0, hh, _, _⟩ | ⟨hh, _, _⟩
          · rw [← hh, X.hash e0 he0]; exact (X.dom e0 he0).covers hm'
          · rw [hh]; exact hr.covers hm') (by omega)
        refine wpAny_bind ?_
        unfold setRelay
        refine wpAny_bind (wpAny_setState_of (s := { s with heap := s.heap.update a (Obj.putSet es1 t1) }) ho1 rfl hfits1 ?_)
        dsimp only
        have hno : ¬ SetTable.sizeAbove (SetTable.grown (es.size + 1)) > sizeLine := by
          rw [hw, sizeLine_eq]
          rcases hm' with e | e | e <;> rw [e] <;> omega
        rw [if_neg hno]
        have erel : t1.relaid (es1.map (·.1)) (SetTable.grown (es.size + 1)) = some (t2, order) := by
          unfold SetTable.relaid
          rw [hw]
          exact e1
        rw [erel]
        refine wpAny_bind ?_
        show wpAny _ _ (do
          let es' := order.filterMap (es1[·]?)
          if es'.size != es1.size then unsupported "internal:set-table-lost-an-element"
          pure (es', t2) : Sem (Array (Int × Value) × SetTable)) _ _ _
        dsimp only
        have hszz : ((order.filterMap (es1[·]?)).size != es1.size) = false := by rw [e5]; simp
        rw [hszz]
        simp only [Bool.false_eq_true, if_false]
        refine wpAny_pure ?_
        have hz2 : (order.filterMap (es1[·]?)).size ≤ sizeLine := by rw [e5, sizeLine_eq]; omega
        refine wpAny_storeSet_of (s := { s with heap := s.heap.update a (Obj.putSet es1 t1) }) ho1 rfl ?_ hz2
        have ho2 := get_put (es1 := order.filterMap (es1[·]?)) (t1 := t2) ho1 rfl
        have hs2 : Heap.SameBut a s.heap ((s.heap.update a (Obj.putSet es1 t1)).update a (Obj.putSet (order.filterMap (es1[·]?)) t2)) := hs1.trans (Heap.SameBut.update ..)
        refine wpAny_pure (hnew hnS _ _ _ _ _ _ hs2 (X.make hx hr hnS hs2 ho2 L2 (by rw [e2]; exact hm') (by rw [e2, e3, hl']; exact hbig) (by rw [e3, hl']) (fun e he => ?_) (fun e0 he0 => ?_) ?_))
        · first | (refine foldG ?_; intro qG; obtain ⟨e', he', q1, q2, q3⟩ := e4 e he; k_unfold; clear qG) | obtain ⟨e', he', q1, q2, q3⟩ := e4 e he
          rcases hcls e' he' with ⟨e0, he0, z1, z2, z3⟩ | ⟨z1, z2, z3⟩
          · exact .inl ⟨e0, he0, z1.trans q1, z2.trans q2, z3.trans q3⟩
          · exact .inr ⟨q1 ▸ z1, q2 ▸ z2, q3 ▸ z3⟩
        · first | (refine foldG ?_; intro qG; obtain ⟨e, he, hk⟩ := hback e0 he0; k_unfold; clear qG) | obtain ⟨e, he, hk⟩ := hback e0 he0
          first | (refine foldG ?_; intro qG; obtain ⟨e', he', _, _, q3⟩ := e6 e he; k_unfold; clear qG) | obtain ⟨e', he', _, _, q3⟩ := e6 e he
          exact ⟨e', he', q3.trans hk⟩
        · first | (refine foldG ?_; intro qG; obtain ⟨e, he, hk⟩ := hthis; k_unfold; clear qG) | obtain ⟨e, he, hk⟩ := hthis
          first | (refine foldG ?_; intro qG; obtain ⟨e', he', _, _, q3⟩ := e6 e he; k_unfold; clear qG) | obtain ⟨e', he', _, _, q3⟩ := e6 e he
          exact ⟨e', he', q3.trans hk⟩
      · have hf : t1.tooFull = false := by simpa using hfull
        rw [hf]
        simp only [Bool.and_false, Bool.false_eq_true, if_false]
        refine wpAny_pure (hnew hnS _ _ _ _ _ _ hs1 (X.make hx hr hnS hs1 ho1 L' (by rw [hm1]; exact X.mask) ?_ hl' hcls hback hthis))
        unfold SetTable.tooFull at hf
        rw [hfill, decide_eq_false_iff_not] at hf
        omega
    cases hpl : t1.plain with
    | true =>
      simp only [if_true]
      refine wpAny_bind (byValue_W hx ?_)
      simp only [if_true]
      exact rest
    | false =>
      simp only [Bool.false_eq_true, if_false]
      refine wpAny_bind (wpAny_pure ?_)
      simp only [if_true]
      exact rest
  · dsimp only
    exact wpAny_pure (hold hS)
end
end TS
end
theorem rst18 : True ∧ True := by
  w_top off
  first
  | (walk1; done)
  | exact ⟨trivial, trivial⟩
-- B28
section
local macro_rules | `(tactic| omega) => `(tactic| lia)
namespace TS
/-- each row once, as first met -/
def dd (rows : List (List Int)) : List (List Int) := rows.foldl (fun S r => if r ∈ S then S else S ++ [r]) []
theorem dd_snoc (rows : List (List Int)) (r : List Int) : dd (rows ++ [r]) = if r ∈ dd rows then dd rows else dd rows ++ [r] := by
  unfold dd; rw [List.foldl_append]; rfl
theorem dd_len_le (rows : List (List Int)) : ∀ i, (dd (rows.take i)).length ≤ i
  | 0 => by simp [dd]
  | i + 1 => by
    have ih := dd_len_le rows i
    rw [List.take_add_one]
    cases h : rows[i]? with
    | none => simp; omega
    | some r =>
      rw [Option.toList_some, dd_snoc]
      split
      · omega
      · simp; omega
def HasSet (prog : Program) (w : World) (h : Heap) (a : Addr) (S : List (List Int)) : Prop := ∃ o es ep t l, TSet prog w h a S o es ep t l
section
variable {prog : Program} {w : World} {A : Around} {E : Value → Shared → Prop} {s : Shared}
theorem update_loop {R : Result → Shared → Prop} {aS I lx : Addr} {vs : List Value} {rows : List (List Int)} (hh : A.in1.handled = none) (hu : A.in1.units < cLine) (hSI : aS ≠ I) (hSlx : aS ≠ lx) (hIl : lx ≠ I) (hdom : ∀ r ∈ rows, Dom r) (hn : vs.length ≤ 30) (hvl : vs.length = rows.length) :
    ∀ (k i : Nat) (s : Shared), k = vs.length - i → i ≤ vs.length → s.heap.IsListIter I lx i → s.heap.IsList lx vs.toArray → (∀ (j : Nat) v r, vs[j]? = some v → rows[j]? = some r → ∃ b, v = .ref b ∧ IsTupleKey (intKind prog w) s.heap r b) →
      HasSet prog w s.heap aS (dd (rows.take i)) →
      (∀ h' tk, (∀ b o, b ≠ aS → b ≠ I → s.heap.get? b = some o → h'.get? b = some o) → HasSet prog w h' aS (dd rows) → R (.ok (.ret .none)) { s with heap := h', toks := tk }) →
      codeAny (model prog w) A (.builtin "set.update.loop" ⟨[.ref aS, .ref I], []⟩) R s := by
  intro k
  have W := Walks.list (prog := prog) (w := w) (A := A.in1) hh I lx hIl vs.toArray
  have hkeep : ∀ {h h' : Heap} {r : List Int} {b : Addr}, (∃ o, h.get? I = some o ∧ o.cls = .type "list_iterator") → (∀ b o, b ∉ [I] → h.get? b = some o → h'.get? b = some o) → IsTupleKey (intKind prog w) h r b → IsTupleKey (intKind prog w) h' r b := by
    intro h h' r b hP0 hk hP1
    first | (refine foldG ?_; intro qG; obtain ⟨oi, e1, e2⟩ := hP0; k_unfold; clear qG) | obtain ⟨oi, e1, e2⟩ := hP0
    first | (refine foldG ?_; intro qG; obtain ⟨ob, items, q, hob, hc, hd, hi⟩ := hP1; k_unfold; clear qG) | obtain ⟨ob, items, q, hob, hc, hd, hi⟩ := hP1
    have hne : b ≠ I := by
      rintro rfl
      rw [e1] at hob; cases hob
      rw [e2] at hc; exact absurd hc (by decide)
    exact ⟨ob, items, q, hk b ob (by simpa using hne) hob, hc, hd, hi⟩
  have hset : ∀ {h h' : Heap} {S : List (List Int)}, (∃ o, h.get? I = some o ∧ o.cls = .type "list_iterator") → (∀ b o, b ∉ [I] → h.get? b = some o → h'.get? b = some o) → HasSet prog w h aS S → HasSet prog w h' aS S := by
    intro h h' S hI hk hP0
    first | (refine foldG ?_; intro qG; obtain ⟨o, es, ep, t, l, X⟩ := hP0; k_unfold; clear qG) | obtain ⟨o, es, ep, t, l, X⟩ := hP0
    exact ⟨o, es, ep, t, l, { X with obj := hk aS o (by simpa using hSI) X.obj, val := fun e he => let ⟨c, ec, hc⟩ := X.val e he; ⟨c, ec, hkeep hI hk hc⟩ }⟩
  induction k with
  | zero =>
    intro i s hk hi hit hl hkeys hS hR
    have hin : i = vs.length := by omega
    subst hin
    have hI : ∃ o, s.heap.get? I = some o ∧ o.cls = .type "list_iterator" := let ⟨o, e1, e2, _⟩ := hit; ⟨o, e1, e2⟩
    refine codeAny_builtin PyProof.Rows.F.entry_set_update_loop ?_
    rw [Around.under_plainId PyProof.Rows.F.plain_set_update_loop _]
    show wpAny _ A.in1 (pyNext (.ref I) >>= _) _ _ s
    refine wpAny_bind (W.done s _ _ (by simpa using And.intro hit hl) fun h' tk hk' => ?_)
    show wpAny _ A.in1 (ret Value.none) _ _ _
    refine wpAny_pure (hR h' tk (fun b o _ hb e => hk' b o (by simpa using hb) e) ?_)
    rw [List.take_of_length_le (by omega)] at hS
    exact hset hI hk' hS
  | succ k ih =>
    intro i s hk hi hit hl hkeys hS hR
    have hlt : i < vs.length := by omega
    have hI : ∃ o, s.heap.get? I = some o ∧ o.cls = .type "list_iterator" := let ⟨o, e1, e2, _⟩ := hit; ⟨o, e1, e2⟩
    refine codeAny_builtin PyProof.Rows.F.entry_set_update_loop ?_
    rw [Around.under_plainId PyProof.Rows.F.plain_set_update_loop _]
    show wpAny _ A.in1 (pyNext (.ref I) >>= _) _ _ s
    refine wpAny_bind (W.item i s _ _ (by simpa using hlt) ⟨hit, hl⟩ fun v h1 tk1 hP hst1 hk1 => ?_)
    first | (refine foldG ?_; intro qG; obtain ⟨hit1, hl1⟩ := hst1; k_unfold; clear qG) | obtain ⟨hit1, hl1⟩ := hst1
    have hv : vs[i]? = some v := by simpa using hP
    have hri : rows[i]? = some (rows[i]'(by omega)) := List.getElem?_eq_getElem _
    generalize rows[i]'(by omega) = r at hri
    have hr : Dom r := hdom r (List.mem_of_getElem? hri)
    first | (refine foldG ?_; intro qG; obtain ⟨b, rfl, hb⟩ := hkeys i v r hv hri; k_unfold; clear qG) | obtain ⟨b, rfl, hb⟩ := hkeys i v r hv hri
    have hb1 := hkeep hI hk1 hb
    first | (refine foldG ?_; intro qG; obtain ⟨o, es, ep, t, l, X⟩ := hset hI hk1 hS; k_unfold; clear qG) | obtain ⟨o, es, ep, t, l, X⟩ := hset hI hk1 hS
    have hkeys1 : ∀ (j : Nat) v r, vs[j]? = some v → rows[j]? = some r → ∃ b, v = .ref b ∧ IsTupleKey (intKind prog w) h1 r b := fun j v r h2 h3 => let ⟨c, e1, e2⟩ := hkeys j v r h2 h3; ⟨c, e1, hkeep hI hk1 e2⟩
    have htake : rows.take (i + 1) = rows.take i ++ [r] := by rw [List.take_add_one, hri]; rfl
    show wpAny _ A.in1 (holding [Value.ref b] (setAdd aS (.ref b)) >>= _) _ _ _
    refine wpAny_bind (wpAny_holding ?_)
    unfold setAdd
    refine wpAny_holding (wpAny_bind (wpAny_pyHash_tuple (knd := intKind prog w) hu hb1 ?_))
    rw [H_eq]
    have hSl : (dd (rows.take i)).length ≤ 30 := by have := dd_len_le rows i; omega
    refine add_W (s := { s with heap := h1, toks := tk1 + (r.length + 1) }) X hb1 hr hu hSl (fun hin => ?_) (fun hnin h2 o2 es2 ep2 t2 l2 hsb X2 => ?_)
    · refine wpAny_pure ⟨plainId_quiet PyProof.Rows.F.plain_set_update_loop _, ih (i + 1) _ (by omega) hlt hit1 hl1 hkeys1 ?_ fun h' tk hk' hS' => ?_⟩
      · rw [htake, dd_snoc, if_pos hin]; exact ⟨o, es, ep, t, l, X⟩
      · exact hR h' tk (fun b o h2 h3 e => hk' b o h2 h3 (hk1 b o (by simpa using h3) e)) hS'
    · have hk2 : ∀ b o, b ≠ aS → h1.get? b = some o → h2.get? b = some o := fun b o hne e => hsb.extBut b o hne e
      refine wpAny_pure ⟨plainId_quiet PyProof.Rows.F.plain_set_update_loop _, ih (i + 1) { s with heap := h2, toks := tk1 + (r.length + 1) } (by omega) hlt (hit1.at fun o e => hk2 I o hSI.symm e) (hl1.at fun o e => hk2 lx o hSlx.symm e) (fun j v r h3 h4 => ?_) ?_ fun h' tk hk' hS' => ?_⟩
      · first | (refine foldG ?_; intro qG; obtain ⟨c, e1, e2⟩ := hkeys1 j v r h3 h4; k_unfold; clear qG) | obtain ⟨c, e1, e2⟩ := hkeys1 j v r h3 h4
        exact ⟨c, e1, key_keeps e2 X.obj X.exact' hsb⟩
      · rw [htake, dd_snoc, if_neg hnin]; exact ⟨o2, es2, ep2, t2, l2, X2⟩
      · exact hR h' tk (fun b o h3 h4 e => hk' b o h3 h4 (hk2 b o h3 (hk1 b o (by simpa using h4) e))) hS'
end
end TS
end
theorem rst19 : True ∧ True := by
  w_top off
  first
  | (walk1; done)
  | exact ⟨trivial, trivial⟩
-- B29
namespace TS
section
variable {prog : Program} {w : World} {A : Around} {E : Value → Shared → Prop} {s : Shared}
theorem fresh_set {h : Heap} {a : Addr} {led : Bool} (ho : h.get? a = some { cls := .type "set", dict := none, data := .set #[] 0 (.fresh 0 0 led) }) : HasSet prog w h a [] :=
  ⟨_, #[], 0, .fresh 0 0 led, [], { obj := ho, exact' := ⟨rfl, rfl, rfl⟩, data := rfl, laid := ⟨rfl, rfl, rfl, .nil, fun _ h => (nomatch h), fun _ h => (nomatch h), .nil⟩, mask := .inl rfl, room := by show 0 * 5 < 7 * 3; decide, len := rfl, nodup := .nil, mem := fun r => ⟨fun h => (nomatch h), fun ⟨_, h, _⟩ => (nomatch h)⟩, hash := fun _ h => (nomatch h), dom := fun _ h => (nomatch h), val := fun _ h => (nomatch h) }⟩
/-- set of a list of pairs -/
theorem set_of_list {l : Addr} {vs : List Value} {rows : List (List Int)} {Q : Value → Shared → Prop} (hh : A.handled = none) (hu : A.units + 10 < cLine) (hl : s.heap.IsList l vs.toArray) (hdom : ∀ r ∈ rows, Dom r) (hn : vs.length ≤ 30) (hvl : vs.length = rows.length)
    (hkeys : ∀ (j : Nat) v r, vs[j]? = some v → rows[j]? = some r → ∃ b, v = .ref b ∧ IsTupleKey (intKind prog w) s.heap r b)
    (h : ∀ h' tk, HasSet prog w h' s.heap.objs.size (dd rows) → (∀ b o, s.heap.get? b = some o → h'.get? b = some o) → Q (.ref s.heap.objs.size) { s with heap := h', toks := tk }) :
    wpAny (model prog w) A (call (.type "set") [.ref l]) Q E s := by
  first | (refine foldG ?_; intro qG; obtain ⟨c, tl, hmro⟩ := PySem.F.called_set.mro; k_unfold; clear qG) | obtain ⟨c, tl, hmro⟩ := PySem.F.called_set.mro
  have hmade := PySem.F.called_set.made
  have hsub := PySem.F.called_set.sub
  refine wpAny_call (codeAny_of_tree ?_)
  show wpAny _ _ (callAny (.type "set") _) _ _ _
  refine wpAny_pure ⟨Code.quiet_builtin _ (by decide +kernel), codeAny_builtin PySem.F.entry_type_call ?_⟩
  rw [Around.under_plain (weight_type_call_type "set" [.ref l] []) rfl]
  have h1 := PySem.F.called_set.notType
  have h2 := PySem.F.called_set.canCreate
  have hct := PySem.F.typeCall_set_1 (.ref l)
  repeat (any_goals (first | assumption | wp_step))
  refine codeAny_mono (code_set_new_1 (.ref l) (E := E) (Q₁ := fun obj s₁ => ∃ led : Bool, obj = .ref s.heap.objs.size ∧ s₁ = { s with heap := s.heap.push { cls := .type "set", dict := none, data := .set #[] 0 (.fresh 0 0 led) } }) fun led => ⟨led, rfl, rfl⟩) fun r s₁ hr => ?_
  cases r with
  | error e => exact hr
  | ok fl =>
    cases fl with
    | ret obj =>
      first | (refine foldG ?_; intro qG; obtain ⟨led, rfl, rfl⟩ := hr; k_unfold; clear qG) | obtain ⟨led, rfl, rfl⟩ := hr
      have hS : (s.heap.push { cls := .type "set", dict := none, data := .set #[] 0 (.fresh 0 0 led) }).get? s.heap.objs.size = some { cls := .type "set", dict := none, data := .set #[] 0 (.fresh 0 0 led) } := Heap.get?_push_size _ rfl
      have hT : Shared.TypeIs { s with heap := s.heap.push { cls := .type "set", dict := none, data := .set #[] 0 (.fresh 0 0 led) } } (.ref s.heap.objs.size) "set" := ⟨_, hS, rfl⟩
      have hli := PySem.F.called_set.init.lookup
      have hbi := PySem.F.called_set.init.bind (.ref s.heap.objs.size)
      repeat (any_goals (first | assumption | wp_step))
      refine codeAny_mono (codeAny_call_builtin (R := wants (fun r s₂ => r = .none ∧ ∃ h' tk, s₂ = { s with heap := h', toks := tk } ∧ HasSet prog w h' s.heap.objs.size (dd rows) ∧ (∀ b o, s.heap.get? b = some o → h'.get? b = some o)) E) PySem.F.called_set.init.plain PySem.F.entry_set_init (check_set_init_1 hT ?_)) fun r₂ s₂ hr₂ => ?_
      · first | (refine foldG ?_; intro qG; obtain ⟨ol, hol, hcl, nl, hdl⟩ := hl; k_unfold; clear qG) | obtain ⟨ol, hol, hcl, nl, hdl⟩ := hl
        first | (refine foldG ?_; intro qG; obtain ⟨ocls, odict, odata, oslots⟩ := ol; k_unfold; clear qG) | obtain ⟨ocls, odict, odata, oslots⟩ := ol
        simp only at hcl hdl
        subst hcl; subst hdl
        have hol' : (s.heap.push { cls := .type "set", dict := none, data := .set #[] 0 (.fresh 0 0 led) }).get? l = some { cls := .type "list", dict := odict, data := .seq vs.toArray nl, slots := oslots } := Heap.get?_push_of_some _ hol
        have hsls := PySem.F.sub_list_set
        have hslf := PySem.F.sub_list_frozenset
        have hne : (Value.type "list" == Value.type "dict") = false := by decide
        have hl1 : (s.heap.push { cls := .type "set", dict := none, data := .set #[] 0 (.fresh 0 0 led) }).IsList l vs.toArray := ⟨_, hol', rfl, nl, rfl⟩
        unfold Builtin.«set.__init__» noKeywords Builtin.Frozenset.updateFrom
        generalize hPI : pyIter = PI
        wp_walk
        subst hPI
        refine wpAny_pyIter_list hl1 ?_
        refine wpAny_bind (wpAny_runValue ?_)
        have hlS : l < s.heap.objs.size := Heap.lt_size hol
        have hsz : (s.heap.push { cls := .type "set", dict := none, data := .set #[] 0 (.fresh 0 0 led) }).objs.size = s.heap.objs.size + 1 := Heap.size_push ..
        have up : ∀ b o, s.heap.get? b = some o → ((s.heap.push { cls := .type "set", dict := none, data := .set #[] 0 (.fresh 0 0 led) }).push { cls := .type "list_iterator", data := .fields #[.ref l, .int 0 0] }).get? b = some o := fun b o e => Heap.get?_push_of_some _ (Heap.get?_push_of_some _ e)
        refine update_loop (aS := s.heap.objs.size) (I := (s.heap.push { cls := .type "set", dict := none, data := .set #[] 0 (.fresh 0 0 led) }).objs.size) (lx := l) (vs := vs) (rows := rows) (by simp [hh]) ?hun ?hSI ?hSl ?hIl hdom hn hvl (vs.length - 0) 0 _ rfl (Nat.zero_le _) ⟨_, Heap.get?_push_size _ rfl, rfl, rfl⟩ (hl1.push _) (fun j v r a b => ?hk) (fresh_set (Heap.get?_push_of_some _ hS)) fun h' tk hk' hS' => ?hR
        case hun =>
          simp only [units_in1]
          omega
        case hSI => rw [hsz]; exact Nat.ne_of_lt (Nat.lt_succ_self _)
        case hSl => exact Nat.ne_of_gt hlS
        case hIl => rw [hsz]; exact Nat.ne_of_lt (Nat.lt_succ_of_lt hlS)
        case hk =>
          first | (refine foldG ?_; intro qG; obtain ⟨q, e1, ob, items, k, hob, rest⟩ := hkeys j v r a b; k_unfold; clear qG) | obtain ⟨q, e1, ob, items, k, hob, rest⟩ := hkeys j v r a b
          exact ⟨q, e1, ob, items, k, up _ _ hob, rest⟩
        case hR =>
          show wpAny _ _ _ _ _ _
          refine wpAny_pure ?_
          show wpAny _ _ (ret Value.none) _ _ _
          refine wpAny_pure ⟨rfl, h', tk, rfl, hS', fun b o e => hk' b o (Nat.ne_of_lt (Heap.lt_size e)) (by rw [hsz]; exact Nat.ne_of_lt (Nat.lt_succ_of_lt (Heap.lt_size e))) (up b o e)⟩
      · cases r₂ with
        | error e => exact hr₂
        | ok fl₂ =>
          cases fl₂ with
          | ret r =>
            first | (refine foldG ?_; intro qG; obtain ⟨rfl, h', tk, rfl, hS', hk'⟩ := hr₂; k_unfold; clear qG) | obtain ⟨rfl, h', tk, rfl, hS', hk'⟩ := hr₂
            repeat (any_goals (first | assumption | wp_step))
            exact h _ _ hS' hk'
          | _ => exact hr₂.elim
    | _ => exact hr.elim
end
end TS
-- B30
open TS
section
variable {prog : Program} {w : World} {A : Around} {E : Value → Shared → Prop} {s : Shared} {h₀ : Heap} {L : Addr} {m : Str → Option Value} {news : Led}
theorem ints_items {vs : List Value} {ns : List Int} (x : IntsAre vs ns) : ItemsAre (intKind prog w) ns vs := by
  induction x with
  | nil => exact .nil
  | cons n t _ ih => exact .cons (intKind_is _ _ _ _) ih
/-- len of the set of a list of pairs in the ledger -/
theorem len_set_L {l : Addr} {vs : List Value} {k : Nat} {rows : List (List Int)} {Q : Value → Shared → Prop} (F : Fr h₀ L s.heap m) (N : News h₀ L s.heap news) (hh : A.handled = none) (hu : A.units + 10 < cLine) (hl : (l, listOf vs.toArray k) ∈ news) (hv : ITups news vs rows)
    (hdom : ∀ r ∈ rows, Dom r) (hn : vs.length ≤ 30)
    (h : ∀ h' tk tk' t, Fr h₀ L h' m → News h₀ L h' news → Q (.int ((dd rows).length : Nat) t) { s with heap := h', toks := tk' + tk }) :
    wpAny (model prog w) A (call (.type "set") [.ref l]) (fun v s' => wpAny (model prog w) A (call (.builtin "len") [v]) Q E s') E s := by
  refine set_of_list hh hu (N.isList hl) hdom hn hv.length (fun j v r hj hr => ?_) fun h' tk hS hk => ?_
  · first | (refine foldG ?_; intro qG; obtain ⟨a, ws, n, ns, rfl, hm, hi, hr'⟩ := hv.get hj; k_unfold; clear qG) | obtain ⟨a, ws, n, ns, rfl, hm, hi, hr'⟩ := hv.get hj
    rw [hr] at hr'; cases hr'
    exact ⟨a, rfl, _, _, _, (N _ hm).1, rfl, rfl, by simpa using ints_items hi⟩
  · first | (refine foldG ?_; intro qG; obtain ⟨o, es, ep, t, l', X⟩ := hS; k_unfold; clear qG) | obtain ⟨o, es, ep, t, l', X⟩ := hS
    have hz : es.size = (dd rows).length := by rw [X.laid.elems]; simp [X.len]
    have hle : (dd rows).length ≤ 30 := by
      have := dd_len_le rows rows.length
      rw [List.take_length] at this
      have := hv.length
      omega
    refine call_len_set (s := { s with heap := h', toks := tk }) X.obj X.exact' X.data (TSet.fits (s := { s with heap := h', toks := tk }) X) (by rw [hz]; omega) ?_
    rw [hz]
    exact h h' (1 + 1) tk (tk + 1) (F.keeps hk) (N.grown hk)
end
-- B31
theorem kasWp_run {α : Type} {n : Nat} {lt : Nat → Nat → Bool} {cmp : Nat → Nat → (Bool → Shared → Prop) → Shared → Prop} {s : Shared} (hc : ∀ i j (C : Bool → Shared → Prop), i < n → j < n → C (lt i j) s → cmp i j C s) {Q : α → Shared → Prop} :
    ∀ (t : KasT α) (a : α), runT n lt t = some a → Q a s → t.kasWp cmp Q s
  | .ret b, a, h, hq => by
    have : b = a := Option.some.inj h
    rw [this]; exact hq
  | .ask i j k, a, h, hq => by
    rw [runT] at h
    by_cases hij : i < n ∧ j < n
    · rw [if_pos hij] at h
      exact hc i j _ hij.1 hij.2 (kasWp_run hc (k (lt i j)) a h hq)
    · rw [if_neg hij] at h; cases h
theorem runT_range {α : Type} {n : Nat} {lt lt' : Nat → Nat → Bool} (hl : ∀ i j, i < n → j < n → lt i j = lt' i j) : ∀ (t : KasT α), runT n lt t = runT n lt' t
  | .ret _ => rfl
  | .ask i j k => by
    rw [runT, runT]
    by_cases hij : i < n ∧ j < n
    · rw [if_pos hij, if_pos hij, hl i j hij.1 hij.2]
      exact runT_range hl _
    · rw [if_neg hij, if_neg hij]
section
variable {prog : Program} {w : World} {A : Around} {E : Value → Shared → Prop} {s : Shared} {h₀ : Heap} {L : Addr} {m : Str → Option Value} {news : Led}
theorem two_lt {a b : Addr} {x1 y1 x2 y2 : Int} {t1 t2 u1 u2 : Tok} {n k : Nat} {Q : Bool → Shared → Prop} (ha : s.heap.get? a = some (tupO [.int x1 t1, .int y1 t2] n)) (hb : s.heap.get? b = some (tupO [.int x2 u1, .int y2 u2] k)) (h : Q (ltR [x1, y1] [x2, y2]) s) :
    wpAny (model prog w) A (keyLt' (tuples' true) (.ref a) (.ref b)) Q E s := by
  refine kat_lt ha rfl hb rfl ?_
  show KatLex prog w A true _ Q [(.int x1 t1, .int x2 u1), (.int y1 t2, .int y2 u2)] 0 s
  refine kat_cons (wpAny_eqBool_int (kat_go (fun e => kat_yes ?_) fun e => kat_no ?_))
  · have e1 : x1 = x2 := by simpa using e
    refine kat_cons (wpAny_eqBool_int (kat_go (fun e => kat_yes ?_) fun e => kat_no ?_))
    · have e2 : y1 = y2 := by simpa using e
      refine kat_nil ?_
      have : ltR [x1, y1] [x2, y2] = false := by simp [ltR, e1, e2]
      rw [this] at h
      exact h
    · have e2 : y1 ≠ y2 := by simpa using e
      have hh : ltR [x1, y1] [x2, y2] = decide (y1 < y2) := by simp [ltR, e1, e2]
      rw [hh] at h
      show wpAny (model prog w) A (oneLt' false (.int y1 t2) (.int y2 u2)) Q _ s
      refine kat_one _ _ (wpAny_lt_int ?_)
      exact h
  · have e1 : x1 ≠ x2 := by simpa using e
    have hh : ltR [x1, y1] [x2, y2] = decide (x1 < x2) := by simp [ltR, e1]
    rw [hh] at h
    show wpAny (model prog w) A (oneLt' true (.int x1 t1) (.int x2 u1)) Q _ s
    exact oneLt_int h
theorem ITups.get2 {N : Led} {vs : List Value} {rows : List (List Int)} (h : ITups N vs rows) (h2 : ∀ r ∈ rows, r.length = 2) {i : Nat} {v : Value} (hv : vs[i]? = some v) :
    ∃ a x y t1 t2 n, v = .ref a ∧ (a, tupO [.int x t1, .int y t2] n) ∈ N ∧ rows[i]? = some [x, y] := by
  first | (refine foldG ?_; intro qG; obtain ⟨a, ws, n, ns, rfl, hm, hi, hr⟩ := h.get hv; k_unfold; clear qG) | obtain ⟨a, ws, n, ns, rfl, hm, hi, hr⟩ := h.get hv
  have hl := h2 ns (List.mem_of_getElem? hr)
  match ns, hl, hi with
  | [x, y], _, hi =>
    cases hi with | cons _ t1 hi => cases hi with | cons _ t2 hi => cases hi with | nil =>
      exact ⟨a, x, y, t1, t2, n, rfl, hm, hr⟩
theorem firsts_of {h : Heap} {N : Led} (hN : News h₀ L h N) : ∀ {vs : List Value} {rows : List (List Int)}, ITups N vs rows → (∀ r ∈ rows, r.length = 2) → ∃ fs, KatTups h vs fs ∧ fs.length = vs.length ∧ ∀ v ∈ fs, ∃ i t, v = .int i t
  | _, _, .nil, _ => ⟨[], KatTups.nil, rfl, fun _ h => (nomatch h)⟩
  | _, _, .cons (rows := rows) (ns := ns) hm hi hr, h2 => by
    first | (refine foldG ?_; intro qG; obtain ⟨fs, k1, k2, k3⟩ := firsts_of hN hr fun r hq => h2 r (.tail _ hq); k_unfold; clear qG) | obtain ⟨fs, k1, k2, k3⟩ := firsts_of hN hr fun r hq => h2 r (.tail _ hq)
    have hl := h2 ns (.head _)
    match ns, hl, hi with
    | [x, y], _, hi =>
      cases hi with | cons _ t1 hi =>
        refine ⟨.int x t1 :: fs, KatTups.cons (hN _ hm).1 rfl rfl (by simp) k1, by simp [k2], fun v hv => ?_⟩
        rcases List.mem_cons.mp hv with rfl | hv
        · exact ⟨_, _, rfl⟩
        · exact k3 v hv
theorem getD_rows {N : Led} {vs : List Value} {rows : List (List Int)} (h : ITups N vs rows) : ∀ (is : List Nat), (∀ i ∈ is, i < vs.length) → ITups N (is.map fun i => vs.getD i Value.none) (is.map fun i => rows.getD i [])
  | [], _ => .nil
  | i :: is, hi => by
    have hlt := hi i (.head _)
    have hv : vs[i]? = some vs[i] := List.getElem?_eq_getElem hlt
    first | (refine foldG ?_; intro qG; obtain ⟨a, ws, n, ns, e, hm, hint, hr⟩ := h.get hv; k_unfold; clear qG) | obtain ⟨a, ws, n, ns, e, hm, hint, hr⟩ := h.get hv
    rw [List.map_cons, List.map_cons]
    have e1 : vs.getD i Value.none = .ref a := by rw [List.getD_eq_getElem?_getD, hv, e]; rfl
    have e2 : rows.getD i [] = ns := by rw [List.getD_eq_getElem?_getD, hr]; rfl
    rw [e1, e2]
    exact .cons hm hint (getD_rows h is fun j hj => hi j (.tail _ hj))
/-- sorted of a list of pairs of the ledger -/
theorem sorted_L {l : Addr} {vs : List Value} {k : Nat} {rows out : List (List Int)} {p : Array Nat} {Q : Value → Shared → Prop} (F : Fr h₀ L s.heap m) (N : News h₀ L s.heap news) (hl : (l, listOf vs.toArray k) ∈ news) (hv : ITups news vs rows) (h2r : ∀ r ∈ rows, r.length = 2)
    (h2 : 2 ≤ vs.length) (h64 : vs.length < 64) (hrun : runT rows.length (fun i j => ltR (rows.getD i []) (rows.getD j [])) (kas_sort rows.length) = some p) (hp : ∀ i ∈ p.toList, i < rows.length) (hout : p.toList.map (fun i => rows.getD i []) = out)
    (h : ∀ D us n h', Fr h₀ L h' m → News h₀ L h' ((D, listOf us.toArray n) :: news) → ITups news us out → Q (.ref D) { s with heap := h' }) :
    wpAny (model prog w) A (call (.builtin "sorted") [.ref l]) Q E s := by
  have hlen := hv.length
  refine kat_sorted F N (N.isList hl) h2 h64 fun D e1 h1 F1 N1 l1 => ?_
  first | (refine foldG ?_; intro qG; obtain ⟨fs, k1, k2, k3⟩ := firsts_of (newsTail N1) hv h2r; k_unfold; clear qG) | obtain ⟨fs, k1, k2, k3⟩ := firsts_of (newsTail N1) hv h2r
  refine kat_kind (T := .type "int") (s := { s with heap := h1 }) k1 (by omega) (fun v hq => ?_) (by decide) ?_
  · first | (refine foldG ?_; intro qG; obtain ⟨i, t, rfl⟩ := k3 v hq; k_unfold; clear qG) | obtain ⟨i, t, rfl⟩ := k3 v hq
    exact Looks.of_pure rfl
  · rw [show (Value.type "int" != Value.type "tuple") = true by decide]
    rw [hlen]
    refine kasWp_run (n := rows.length) (lt := fun i j => ltR (rows.getD i []) (rows.getD j [])) (fun i j C hi hj hC => ?_) _ p hrun ?_
    · unfold kas_ask
      have hvi : vs[i]? = some (vs[i]'(by omega)) := List.getElem?_eq_getElem _
      have hvj : vs[j]? = some (vs[j]'(by omega)) := List.getElem?_eq_getElem _
      first | (refine foldG ?_; intro qG; obtain ⟨a, x1, y1, t1, t2, n1, ea, ma, ra⟩ := hv.get2 h2r hvi; k_unfold; clear qG) | obtain ⟨a, x1, y1, t1, t2, n1, ea, ma, ra⟩ := hv.get2 h2r hvi
      first | (refine foldG ?_; intro qG; obtain ⟨b, x2, y2, u1, u2, n2, eb, mb, rb⟩ := hv.get2 h2r hvj; k_unfold; clear qG) | obtain ⟨b, x2, y2, u1, u2, n2, eb, mb, rb⟩ := hv.get2 h2r hvj
      rw [List.getD_eq_getElem?_getD, hvi, List.getD_eq_getElem?_getD, hvj, ea, eb]
      refine two_lt ((newsTail N1) _ ma).1 ((newsTail N1) _ mb).1 ?_
      have e1 : rows.getD i [] = [x1, y1] := by rw [List.getD_eq_getElem?_getD, ra]; rfl
      have e2 : rows.getD j [] = [x2, y2] := by rw [List.getD_eq_getElem?_getD, rb]; rfl
      rw [e1, e2] at hC
      exact hC
    · refine KasFin.intro (g := fun o => (D, o) :: news) F1 N1 (.head fun q hq => Nat.ne_of_lt (l1 q hq)) fun h' c F' N' => ?_
      refine h D _ c h' F' N' ?_
      rw [← hout]
      exact getD_rows hv p.toList fun i hi => by rw [hlen]; exact hp i hi
end
-- B33
section
local macro_rules | `(tactic| omega) => `(tactic| lia)
def shT (dx dy : Int) (r : List Int) : List Int := [r.getD 0 0 + dx, r.getD 1 0 + dy, r.getD 2 0, r.getD 3 0]
def shD (dx dy : Int) (r : List Int) : List Int := [r.getD 0 0 + dx, r.getD 1 0 + dy]
theorem shT_4 (dx dy x y w h : Int) : shT dx dy [x, y, w, h] = [x + dx, y + dy, w, h] := rfl
theorem sh_swap (x a d : Int) : x + d + a = x + a + d := by rw [Int.add_assoc, Int.add_comm d, Int.add_assoc]
theorem cut1_sh (most dx dy : Int) (r : List Int) (h4 : r.length = 4) : cut1 most (shT dx dy r) = (cut1 most r).map (shT dx dy) := by
  obtain ⟨x, y, w, h, rfl⟩ := Mine.four h4
  rw [shT_4, cut1_4, cut1_4]
  by_cases hl : w * h ≤ most
  · rw [if_pos hl, if_pos hl]; rfl
  · rw [if_neg hl, if_neg hl]
    by_cases hc : h ≤ w
    · rw [if_pos hc, if_pos hc, sh_swap]; rfl
    · rw [if_neg hc, if_neg hc, sh_swap y]; rfl
theorem cut1_four (most : Int) (r : List Int) (h4 : r.length = 4) : ∀ q ∈ cut1 most r, q.length = 4 := by
  obtain ⟨x, y, w, h, rfl⟩ := Mine.four h4
  rw [cut1_4]
  by_cases hl : w * h ≤ most
  · rw [if_pos hl]; exact mem1 rfl
  · rw [if_neg hl]
    by_cases hc : h ≤ w
    · rw [if_pos hc]; exact mem2 rfl rfl
    · rw [if_neg hc]; exact mem2 rfl rfl
theorem flat_sh (most dx dy : Int) : ∀ (rows : List (List Int)), (∀ r ∈ rows, r.length = 4) → (rows.map (shT dx dy)).flatMap (cut1 most) = (rows.flatMap (cut1 most)).map (shT dx dy)
  | [], _ => rfl
  | r :: rows, h => by
    rw [List.map_cons, List.flatMap_cons, List.flatMap_cons, List.map_append, flat_sh most dx dy rows fun q hq => h q (.tail _ hq), cut1_sh most dx dy r (h r (.head _))]
theorem cutN_four (most : Int) : ∀ (n : Nat) (rows : List (List Int)), (∀ r ∈ rows, r.length = 4) → ∀ r ∈ cutN most n rows, r.length = 4
  | 0, _, h => h
  | n + 1, rows, h => by
    intro r hr
    obtain ⟨q, hq, hr⟩ := List.mem_flatMap.mp hr
    exact cut1_four most q (cutN_four most n rows h q hq) r hr
theorem cutN_sh (most dx dy : Int) : ∀ (n : Nat) (rows : List (List Int)), (∀ r ∈ rows, r.length = 4) → cutN most n (rows.map (shT dx dy)) = (cutN most n rows).map (shT dx dy)
  | 0, _, _ => rfl
  | n + 1, rows, h => by
    rw [cutN_s, cutN_sh most dx dy n rows h, flat_sh most dx dy _ (cutN_four most n rows h), cutN_s]
theorem dots_sh (dx dy x y : Int) (w h : Nat) : dotsOf (x + dx) (y + dy) w h = (dotsOf x y w h).map (shD dx dy) := by
  rw [dotsOf, dotsOf, List.map_flatMap]
  congr 1
  funext j
  rw [dotRow, dotRow, List.map_map]
  apply List.map_congr_left
  intro i _
  show [x + dx + (i : Int) * 1, y + dy + (j : Int) * 1] = [x + (i : Int) * 1 + dx, y + (j : Int) * 1 + dy]
  rw [sh_swap, sh_swap y]
theorem dotsR_sh (dx dy : Int) (r : List Int) (h4 : r.length = 4) : dotsR (shT dx dy r) = (dotsR r).map (shD dx dy) := by
  obtain ⟨x, y, w, h, rfl⟩ := Mine.four h4
  exact dots_sh dx dy x y _ _
theorem flatD_sh (dx dy : Int) : ∀ (rows : List (List Int)), (∀ r ∈ rows, r.length = 4) → (rows.map (shT dx dy)).flatMap dotsR = (rows.flatMap dotsR).map (shD dx dy)
  | [], _ => rfl
  | r :: rows, h => by
    rw [List.map_cons, List.flatMap_cons, List.flatMap_cons, List.map_append, flatD_sh dx dy rows fun q hq => h q (.tail _ hq), dotsR_sh dx dy r (h r (.head _))]
theorem halves_dots {most x y w h : Int} (hm : 1 ≤ most) (hw : 0 ≤ w) (hh : 0 ≤ h) : (hvR most [x, y, w, h]).flatMap dotsR = (halfDots w.toNat h.toNat most.toNat).map (shD x y) := by
  rw [hvR, halfDots, ← flatD_sh x y _ (cutN_four _ _ _ (mem1 rfl)), ← cutN_sh _ x y _ _ (mem1 rfl), Int.toNat_of_nonneg (Int.le_trans (by decide) hm)]
  congr 2
  show [[x, y, w, h]] = [[0 + x, 0 + y, (w.toNat : Int), (h.toNat : Int)]]
  rw [Int.toNat_of_nonneg hw, Int.toNat_of_nonneg hh, Int.zero_add, Int.zero_add]
theorem tile_dots (x y : Int) (w h : Nat) : dotsOf x y w h = (dotsOf 0 0 w h).map (shD x y) := by
  rw [← dots_sh, Int.zero_add, Int.zero_add]
theorem two_l {r : List Int} (h : r.length = 2) : ∃ a b, r = [a, b] := by
  obtain ⟨a, t, rfl⟩ := List.exists_cons_of_length_eq_add_one h
  obtain ⟨b, rfl⟩ := List.length_eq_one_iff.mp (Nat.succ.inj h)
  exact ⟨_, _, rfl⟩
theorem lt_sh (dx dy : Int) (a b : List Int) (ha : a.length = 2) (hb : b.length = 2) : ltR (shD dx dy a) (shD dx dy b) = ltR a b := by
  obtain ⟨x, y, rfl⟩ := two_l ha
  obtain ⟨u, v, rfl⟩ := two_l hb
  show (if x + dx = u + dx then (if y + dy = v + dy then false else decide (y + dy < v + dy)) else decide (x + dx < u + dx)) = (if x = u then (if y = v then false else decide (y < v)) else decide (x < u))
  simp only [Int.add_left_inj, Int.add_lt_add_iff_right]
theorem run_sh (dx dy : Int) (rows : List (List Int)) (h2 : ∀ r ∈ rows, r.length = 2) : sortRun (rows.map (shD dx dy)) = sortRun rows := by
  unfold sortRun
  rw [List.length_map]
  refine runT_range (fun i j hi hj => ?_) _
  have gi : (rows.map (shD dx dy)).getD i [] = shD dx dy (rows[i]) := by simp [hi]
  have gj : (rows.map (shD dx dy)).getD j [] = shD dx dy (rows[j]) := by simp [hj]
  have gi' : rows.getD i [] = rows[i] := by simp [hi]
  have gj' : rows.getD j [] = rows[j] := by simp [hj]
  rw [gi, gj, gi', gj']
  exact lt_sh dx dy _ _ (h2 _ (List.getElem_mem hi)) (h2 _ (List.getElem_mem hj))
theorem dots_two (x y : Int) (w h : Nat) : ∀ r ∈ dotsOf x y w h, r.length = 2 := by
  intro r hr
  obtain ⟨j, _, hr⟩ := List.mem_flatMap.mp hr
  obtain ⟨i, _, rfl⟩ := List.mem_map.mp hr
  rfl
end
theorem rst20 : True ∧ True := by
  w_top off
  first
  | (walk1; done)
  | exact ⟨trivial, trivial⟩
-- B34
theorem sh_two (dx dy : Int) (r : List Int) (h : r.length = 2) : (shD dx dy r).length = 2 := by
  match r, h with
  | [_, _], _ => rfl
theorem getD_sh (dx dy : Int) (rows : List (List Int)) (is : List Nat) (h : ∀ i ∈ is, i < rows.length) : is.map (fun i => (rows.map (shD dx dy)).getD i []) = (is.map fun i => rows.getD i []).map (shD dx dy) := by
  rw [List.map_map]
  apply List.map_congr_left
  intro i hi
  have := h i hi
  simp [this]
theorem half_two (w h most : Nat) : ∀ r ∈ halfDots w h most, r.length = 2 := by
  intro r hr
  obtain ⟨q, hq, hr⟩ := List.mem_flatMap.mp hr
  have h4 := cutN_four most 12 [[0, 0, (w : Int), (h : Int)]] (fun r hr => by rw [List.mem_singleton.mp hr]; rfl) q hq
  match q, h4 with
  | [x, y, a, b], _ => exact dots_two x y _ _ r hr
/-- both sorts give the same rows -/
theorem sort_law {most x y w h : Int} (hm : 1 ≤ most) (hm5 : most ≤ 5) (hw : 0 ≤ w) (hw6 : w ≤ 6) (hh : 0 ≤ h) (hh6 : h ≤ 6) :
    ((hvR most [x, y, w, h]).flatMap dotsR).length = (dotsOf x y w.toNat h.toNat).length ∧ (dotsOf x y w.toNat h.toNat).length ≤ 36 ∧ ((dotsOf x y w.toNat h.toNat).length < 2 → (hvR most [x, y, w, h]).flatMap dotsR = dotsOf x y w.toNat h.toNat) ∧
    (2 ≤ (dotsOf x y w.toNat h.toNat).length → ∃ p q out, sortRun ((hvR most [x, y, w, h]).flatMap dotsR) = some p ∧ sortRun (dotsOf x y w.toNat h.toNat) = some q ∧ (∀ i ∈ p.toList, i < ((hvR most [x, y, w, h]).flatMap dotsR).length) ∧ (∀ i ∈ q.toList, i < (dotsOf x y w.toNat h.toNat).length) ∧
      p.toList.map (fun i => ((hvR most [x, y, w, h]).flatMap dotsR).getD i []) = out ∧ q.toList.map (fun i => (dotsOf x y w.toNat h.toNat).getD i []) = out) := by
  have hok : sortOk w.toNat h.toNat most.toNat = true := by
    have a := List.all_eq_true.mp sort_all w.toNat (List.mem_range.mpr (by omega))
    have b := List.all_eq_true.mp a h.toNat (List.mem_range.mpr (by omega))
    have c := List.all_eq_true.mp b (most.toNat - 1) (List.mem_range.mpr (by omega))
    rw [show most.toNat - 1 + 1 = most.toNat by omega] at c
    exact c
  rw [halves_dots hm hw hh, tile_dots x y]
  unfold sortOk at hok
  rw [Bool.and_eq_true, Bool.and_eq_true] at hok
  obtain ⟨⟨l1, l2⟩, l3⟩ := hok
  have l1' : (halfDots w.toNat h.toNat most.toNat).length = w.toNat * h.toNat := by simpa using l1
  have l2' : (dotsOf 0 0 w.toNat h.toNat).length = w.toNat * h.toNat := by simpa using l2
  have hle : w.toNat * h.toNat ≤ 6 * 6 := Nat.mul_le_mul (by omega) (by omega)
  rw [List.length_map, List.length_map, l1', l2']
  refine ⟨rfl, by omega, fun hlt => ?_, fun h2 => ?_⟩
  · rw [if_pos hlt, decide_eq_true_eq] at l3
    rw [l3]
  · rw [if_neg (by omega)] at l3
    rw [run_sh x y _ (half_two _ _ _), run_sh x y _ (dots_two 0 0 _ _)]
    cases e1 : sortRun (halfDots w.toNat h.toNat most.toNat) with
    | none => rw [e1] at l3; simp at l3
    | some p =>
      cases e2 : sortRun (dotsOf 0 0 w.toNat h.toNat) with
      | none => rw [e1, e2] at l3; simp at l3
      | some q =>
        rw [e1, e2] at l3
        rw [Bool.and_eq_true, Bool.and_eq_true, decide_eq_true_eq] at l3
        obtain ⟨⟨a, b⟩, c⟩ := l3
        have a' : ∀ i ∈ p.toList, i < w.toNat * h.toNat := fun i hi => by simpa using List.all_eq_true.mp a i hi
        have b' : ∀ i ∈ q.toList, i < w.toNat * h.toNat := fun i hi => by simpa using List.all_eq_true.mp b i hi
        refine ⟨p, q, _, rfl, rfl, a', b', rfl, ?_⟩
        rw [getD_sh x y _ _ (by rw [l2']; exact b'), getD_sh x y _ _ (by rw [l1']; exact a'), c]
-- B35
section
local macro_rules | `(tactic| omega) => `(tactic| lia)
theorem dd_go : ∀ (rows S : List (List Int)), ((rows.foldl (fun S r => if r ∈ S then S else S ++ [r]) S).length ≤ S.length + rows.length) ∧ ((rows.foldl (fun S r => if r ∈ S then S else S ++ [r]) S).length = S.length + rows.length ↔ rows.Nodup ∧ ∀ r ∈ rows, r ∉ S)
  | [], S => by simp
  | r :: rs, S => by
    rw [List.foldl_cons]
    by_cases h : r ∈ S
    · rw [if_pos h]
      have ih := dd_go rs S
      refine ⟨by simp; omega, ⟨fun e => ?_, fun e => absurd h (e.2 r (.head _))⟩⟩
      simp at e; omega
    · rw [if_neg h]
      have ih := dd_go rs (S ++ [r])
      rw [List.length_append, List.length_singleton] at ih
      refine ⟨by simp; omega, ?_⟩
      rw [List.length_cons, show S.length + (rs.length + 1) = S.length + 1 + rs.length by omega, ih.2, List.nodup_cons]
      constructor
      · rintro ⟨a, b⟩
        refine ⟨⟨fun hr => (b r hr) (by simp), a⟩, fun q hq => ?_⟩
        rcases List.mem_cons.mp hq with rfl | hq
        · exact h
        · exact fun hS => b q hq (List.mem_append_left _ hS)
      · rintro ⟨⟨a, b⟩, c⟩
        refine ⟨b, fun q hq hS => ?_⟩
        rcases List.mem_append.mp hS with hS | hS
        · exact c q (.tail _ hq) hS
        · exact a (List.mem_singleton.mp hS ▸ hq)
theorem dd_iff (rows : List (List Int)) : rows.length = (TS.dd rows).length ↔ rows.Nodup := by
  have := (dd_go rows []).2
  simp only [List.length_nil, Nat.zero_add, List.not_mem_nil, not_false_eq_true, implies_true, and_true] at this
  rw [← this]
  exact ⟨Eq.symm, Eq.symm⟩
theorem mem_dots {x y wd ht : Int} {r : List Int} (hw : 0 ≤ wd) (hh : 0 ≤ ht) : r ∈ dotsOf x y wd.toNat ht.toNat ↔ ∃ u v : Int, r = [u, v] ∧ x ≤ u ∧ u < x + wd ∧ y ≤ v ∧ v < y + ht := by
  constructor
  · intro hr
    obtain ⟨j, hj, hr⟩ := List.mem_flatMap.mp hr
    obtain ⟨i, hi, rfl⟩ := List.mem_map.mp hr
    have := List.mem_range.mp hj
    have := List.mem_range.mp hi
    exact ⟨_, _, rfl, by omega, by omega, by omega, by omega⟩
  · rintro ⟨u, v, rfl, h1, h2, h3, h4⟩
    refine List.mem_flatMap.mpr ⟨(v - y).toNat, List.mem_range.mpr (by omega), List.mem_map.mpr ⟨(u - x).toNat, List.mem_range.mpr (by omega), ?_⟩⟩
    rw [show x + ((u - x).toNat : Int) * 1 = u by omega, show y + ((v - y).toNat : Int) * 1 = v by omega]
theorem nodup_dots (x y : Int) (w : Nat) : ∀ h : Nat, (dotsOf x y w h).Nodup
  | 0 => .nil
  | h + 1 => by
    rw [dotsOf_succ, List.nodup_append]
    refine ⟨nodup_dots x y w h, ?_, fun a ha b hb e => ?_⟩
    · rw [dotRow]
      refine List.pairwise_map.mpr (List.nodup_range.imp fun {i j} hij e => ?_)
      have : x + (i : Int) * 1 = x + (j : Int) * 1 := by injection e
      omega
    · obtain ⟨j, hj, ha⟩ := List.mem_flatMap.mp ha
      obtain ⟨i, hi, rfl⟩ := List.mem_map.mp ha
      obtain ⟨k, hk, rfl⟩ := List.mem_map.mp hb
      have := List.mem_range.mp hj
      injection e with _ e2
      injection e2 with e3 _
      omega
theorem len_dots (x y : Int) (w : Nat) : ∀ h : Nat, (dotsOf x y w h).length = w * h
  | 0 => by simp [dotsOf]
  | h + 1 => by rw [dotsOf_succ, List.length_append, len_dots x y w h, dotRow, List.length_map, List.length_range, Nat.mul_succ]
/-- a tile that is one -/
def Tile (r : List Int) : Prop := r.length = 4 ∧ 0 ≤ r.getD 2 0 ∧ 0 ≤ r.getD 3 0
theorem Tile.of {x y w h : Int} (a : 0 ≤ w) (b : 0 ≤ h) : Tile [x, y, w, h] := ⟨rfl, a, b⟩
theorem mem_dots2 {x y wd ht u v : Int} (hw : 0 ≤ wd) (hh : 0 ≤ ht) : [u, v] ∈ dotsOf x y wd.toNat ht.toNat ↔ (x ≤ u ∧ u < x + wd) ∧ y ≤ v ∧ v < y + ht := by
  rw [mem_dots hw hh]
  constructor
  · rintro ⟨u', v', e, a, b, c⟩
    obtain ⟨rfl, e2⟩ := List.cons.inj e
    obtain ⟨rfl, _⟩ := List.cons.inj e2
    exact ⟨⟨a, b⟩, c⟩
  · rintro ⟨⟨a, b⟩, c⟩
    exact ⟨u, v, rfl, a, b, c⟩
theorem meet_1 {a b c d : Int} : ¬ pmin c d ≤ pmax a b ↔ ∃ u, (a ≤ u ∧ u < c) ∧ b ≤ u ∧ u < d := by
  rw [Int.not_le]
  constructor
  · intro h
    exact ⟨pmax a b, ⟨pmax_l a b, (lt_pmin.mp h).1⟩, pmax_r a b, (lt_pmin.mp h).2⟩
  · rintro ⟨u, p, q⟩
    exact Int.lt_of_le_of_lt (pmax_le.mpr ⟨p.1, q.1⟩) (lt_pmin.mpr ⟨p.2, q.2⟩)
theorem meet_iff {r q : List Int} (hr : Tile r) (hq : Tile q) : meetB r q = true ↔ ∃ d, d ∈ dotsR r ∧ d ∈ dotsR q := by
  obtain ⟨x1, y1, w1, h1, rfl⟩ := Mine.four hr.1
  obtain ⟨x2, y2, w2, h2, rfl⟩ := Mine.four hq.1
  rw [meetB_4, decide_eq_true_eq, dotsR_4, dotsR_4, meet_1, meet_1]
  constructor
  · rintro ⟨⟨u, p⟩, ⟨v, q⟩⟩
    exact ⟨[u, v], (mem_dots2 hr.2.1 hr.2.2).mpr ⟨p.1, q.1⟩, (mem_dots2 hq.2.1 hq.2.2).mpr ⟨p.2, q.2⟩⟩
  · rintro ⟨z, hz1, hz2⟩
    obtain ⟨u, v, rfl, -⟩ := (mem_dots hr.2.1 hr.2.2).mp hz1
    have a := (mem_dots2 hr.2.1 hr.2.2).mp hz1
    have b := (mem_dots2 hq.2.1 hq.2.2).mp hz2
    exact ⟨⟨u, a.1, b.1⟩, ⟨v, a.2, b.2⟩⟩
theorem area_len {r : List Int} (hr : Tile r) : ((dotsR r).length : Int) = area r := by
  rw [dotsR, len_dots, area, Int.natCast_mul, Int.toNat_of_nonneg hr.2.1, Int.toNat_of_nonneg hr.2.2]
theorem hold_iff {r : List Int} (hr : Tile r) (u v : Int) : holdB u v r = true ↔ [u, v] ∈ dotsR r := by
  rw [dotsR, mem_dots2 hr.2.1 hr.2.2, holdB, decide_eq_true_eq, and_assoc]
end
theorem rst21 : True ∧ True := by
  w_top off
  first
  | (walk1; done)
  | exact ⟨trivial, trivial⟩
-- B36
theorem dotsR_nodup {r : List Int} (_hr : Tile r) : (dotsR r).Nodup :=
   nodup_dots _ _ _ _
theorem apart_iff : ∀ {rows : List (List Int)}, (∀ r ∈ rows, Tile r) → (rows.Pairwise (fun a b => meetB b a = false) ↔ (rows.flatMap dotsR).Nodup)
  | [], _ => by simp
  | r :: rs, h => by
    have ih := apart_iff fun q hq => h q (.tail _ hq)
    have hr := h r (.head _)
    rw [List.pairwise_cons, List.flatMap_cons, List.nodup_append, ih]
    constructor
    · rintro ⟨a, b⟩
      refine ⟨dotsR_nodup hr, b, fun d hd e he hde => ?_⟩
      subst hde
      obtain ⟨q, hq, hdq⟩ := List.mem_flatMap.mp he
      have := (meet_iff (h q (.tail _ hq)) hr).mpr ⟨d, hdq, hd⟩
      rw [a q hq] at this; cases this
    · rintro ⟨_, b, c⟩
      refine ⟨fun q hq => ?_, b⟩
      cases hm : meetB q r with
      | false => rfl
      | true =>
        obtain ⟨d, h1, h2⟩ := (meet_iff (h q (.tail _ hq)) hr).mp hm
        exact absurd rfl (c d h2 d (List.mem_flatMap.mpr ⟨q, hq, h1⟩))
theorem clear_iff {rows : List (List Int)} (h : ∀ r ∈ rows, Tile r) : (∀ (i j : Nat) r r', j < i → rows[i]? = some r → rows[j]? = some r' → meetB r r' = false) ↔ (rows.flatMap dotsR).Nodup := by
  rw [← apart_iff h, List.pairwise_iff_getElem]
  constructor
  · intro hh i j hi hj hij
    exact hh j i _ _ hij (List.getElem?_eq_getElem hj) (List.getElem?_eq_getElem hi)
  · intro hh i j r r' hij hi hj
    obtain ⟨h1, rfl⟩ := List.getElem?_eq_some_iff.mp hi
    obtain ⟨h2, rfl⟩ := List.getElem?_eq_some_iff.mp hj
    exact hh j i h2 h1 hij
theorem dots_sum : ∀ {rows : List (List Int)}, (∀ r ∈ rows, Tile r) → (rows.map area).sum = ((rows.flatMap dotsR).length : Int)
  | [], _ => rfl
  | r :: rs, h => by
    rw [List.map_cons, List.sum_cons, List.flatMap_cons, List.length_append, Int.natCast_add, area_len (h r (.head _)), dots_sum fun q hq => h q (.tail _ hq)]
/-- the first that holds a dot is the head of those that hold it -/
theorem first_held {N : Led} {u v : Int} : ∀ {vs : List Value} {rows : List (List Int)}, ITups N vs rows → (∀ r ∈ rows, Tile r) →
    ∃ hs hr, ITups N hs hr ∧ hr = rows.filter (fun r => decide ([u, v] ∈ dotsR r)) ∧ firstV u v vs rows = hs.headD .none ∧ (hs = [] ↔ hr = [])
  | _, _, .nil, _ => ⟨[], [], .nil, rfl, rfl, by simp⟩
  | _, _, .cons (rows := rows) (ns := ns) hm hi hr, h => by
    obtain ⟨hs, hr', k1, k2, k3, k4⟩ := first_held hr fun r hq => h r (.tail _ hq)
    by_cases hb : [u, v] ∈ dotsR ns
    · have hb' := (hold_iff (h ns (.head _)) u v).mpr hb
      refine ⟨_ :: hs, ns :: hr', .cons hm hi k1, by rw [List.filter_cons, if_pos (decide_eq_true hb), k2], by rw [firstV, if_pos hb']; rfl, by simp⟩
    · have hb' : ¬ holdB u v ns = true := fun e => hb ((hold_iff (h ns (.head _)) u v).mp e)
      exact ⟨hs, hr', k1, by rw [List.filter_cons, if_neg (by rw [decide_eq_true_eq]; exact hb), k2], by rw [firstV, if_neg hb']; exact k3, k4⟩
-- B37
section
local macro_rules | `(tactic| omega) => `(tactic| lia)
theorem xs1 (x : Int) (n : Nat) : x + ((n + 1 : Nat) : Int) = x + (n : Int) + 1 := by rw [Int.natCast_add, ← Int.add_assoc]; rfl
theorem rowA {x a b : Int} {n : Nat} (h1 : a ≤ x + (n : Int)) (h2 : x + (n : Int) < b) :
    (pmin (x + ((n + 1 : Nat) : Int)) b - pmax x a).toNat = (pmin (x + (n : Int)) b - pmax x a).toNat + 1 ∧ pmax x a + ((pmin (x + (n : Int)) b - pmax x a).toNat : Int) = x + (n : Int) := by
  have c := pmax_le.mpr ⟨Int.le_add_of_nonneg_right (Int.natCast_nonneg n), h1⟩
  rw [xs1, pmin_eql (show x + (n : Int) + 1 ≤ b from h2), pmin_eql (Int.le_of_lt h2)]
  generalize pmax x a = d at c
  clear h1 h2
  omega
theorem rowB {x a b : Int} {n : Nat} (h : ¬ (a ≤ x + (n : Int) ∧ x + (n : Int) < b)) : (pmin (x + ((n + 1 : Nat) : Int)) b - pmax x a).toNat = (pmin (x + (n : Int)) b - pmax x a).toNat := by
  by_cases h1 : a ≤ x + (n : Int)
  · have h2 : b ≤ x + (n : Int) := Int.not_lt.mp fun k => h ⟨h1, k⟩
    rw [pmin_eqr' h2, pmin_eqr' (Int.le_trans h2 (Int.add_le_add_left (Int.ofNat_le.mpr (Nat.le_succ n)) x))]
  · have h3 : x + (n : Int) + 1 ≤ pmax x a := Int.le_trans (Int.not_le.mp h1) (pmax_r x a)
    have e1 : pmin (x + ((n + 1 : Nat) : Int)) b ≤ pmax x a := Int.le_trans (pmin_l _ _) (xs1 x n ▸ h3)
    have e2 : pmin (x + (n : Int)) b ≤ pmax x a := Int.le_trans (pmin_l _ _) (Int.le_trans (Int.le_of_lt (Int.lt_succ _)) h3)
    rw [Int.toNat_of_nonpos (Int.sub_nonpos_of_le e1), Int.toNat_of_nonpos (Int.sub_nonpos_of_le e2)]
theorem row_filter (x a b : Int) : ∀ n : Nat, ((List.range n).map fun (i : Nat) => x + (i : Int) * 1).filter (fun u => decide (a ≤ u ∧ u < b)) = (List.range (pmin (x + n) b - pmax x a).toNat).map fun (i : Nat) => pmax x a + (i : Int) * 1
  | 0 => by
    have e : (pmin (x + ((0 : Nat) : Int)) b - pmax x a).toNat = 0 := Int.toNat_of_nonpos (Int.sub_nonpos_of_le (Int.le_trans (pmin_l _ _) (Int.le_trans (Int.le_of_eq (Int.add_zero x)) (pmax_l x a))))
    rw [e]; rfl
  | n + 1 => by
    rw [List.range_succ, List.map_append, List.filter_append, row_filter x a b n, List.map_cons, List.map_nil, List.filter_cons, List.filter_nil, Int.mul_one]
    by_cases h : a ≤ x + (n : Int) ∧ x + (n : Int) < b
    · rw [if_pos (decide_eq_true h), (rowA h.1 h.2).1, List.range_succ, List.map_append, List.map_cons, List.map_nil, Int.mul_one, (rowA h.1 h.2).2]
    · rw [if_neg (by rw [decide_eq_true_eq]; exact h), List.append_nil, rowB h]
theorem dotRow_map (x y : Int) (n : Nat) : dotRow x y n = ((List.range n).map fun (i : Nat) => x + (i : Int) * 1).map fun u => [u, y] := by rw [dotRow, List.map_map]; rfl
theorem dots_flat (x y : Int) (w h : Nat) : dotsOf x y w h = ((List.range h).map fun (j : Nat) => y + (j : Int) * 1).flatMap fun v => dotRow x v w := by rw [dotsOf, List.flatMap_map]
theorem filter_flat {α β : Type} (p : β → Bool) (c : α → Bool) (f g : α → List β) (h : ∀ a, (f a).filter p = if c a = true then g a else []) : ∀ l : List α, (l.flatMap f).filter p = (l.filter c).flatMap g
  | [] => rfl
  | a :: l => by
    rw [List.flatMap_cons, List.filter_append, h a, filter_flat p c f g h l, List.filter_cons]
    by_cases hc : c a = true
    · rw [if_pos hc, if_pos hc, List.flatMap_cons]
    · rw [if_neg hc, if_neg hc, List.nil_append]
/-- the dots of one that the other holds are the dots of the common tile -/
theorem both_dots {x1 y1 w1 h1 x2 y2 w2 h2 : Int} (a : 0 ≤ w1) (b : 0 ≤ h1) (c : 0 ≤ w2) (d : 0 ≤ h2) :
    (dotsOf x1 y1 w1.toNat h1.toNat).filter (fun r => decide (r ∈ dotsOf x2 y2 w2.toNat h2.toNat)) = dotsOf (pmax x1 x2) (pmax y1 y2) (pmin (x1 + w1) (x2 + w2) - pmax x1 x2).toNat (pmin (y1 + h1) (y2 + h2) - pmax y1 y2).toNat := by
  have hrow : ∀ v, (dotRow x1 v w1.toNat).filter (fun r => decide (r ∈ dotsOf x2 y2 w2.toNat h2.toNat)) = if decide (y2 ≤ v ∧ v < y2 + h2) = true then dotRow (pmax x1 x2) v (pmin (x1 + w1) (x2 + w2) - pmax x1 x2).toNat else [] := by
    intro v
    rw [dotRow_map, List.filter_map]
    by_cases hv : y2 ≤ v ∧ v < y2 + h2
    · rw [if_pos (decide_eq_true hv)]
      have e : ((fun r => decide (r ∈ dotsOf x2 y2 w2.toNat h2.toNat)) ∘ fun u => [u, v]) = fun u => decide (x2 ≤ u ∧ u < x2 + w2) := by
        funext u
        show decide ([u, v] ∈ dotsOf x2 y2 w2.toNat h2.toNat) = _
        rw [decide_eq_decide, mem_dots2 c d]
        exact ⟨fun q => q.1, fun q => ⟨q, hv⟩⟩
      rw [e, row_filter, dotRow_map, Int.toNat_of_nonneg a]
    · rw [if_neg (by rw [decide_eq_true_eq]; exact hv), List.filter_eq_nil_iff.mpr]
      · rfl
      · intro u _
        show ¬ decide ([u, v] ∈ dotsOf x2 y2 w2.toNat h2.toNat) = true
        rw [decide_eq_true_eq, mem_dots2 c d]
        exact fun q => hv q.2
  rw [dots_flat x1 y1, filter_flat _ _ _ _ hrow, row_filter, Int.toNat_of_nonneg b, ← dots_flat]
theorem dots_empty {x y : Int} {w h : Int} (e : w ≤ 0 ∨ h ≤ 0) : dotsOf x y w.toNat h.toNat = [] := by
  apply List.eq_nil_of_length_eq_zero
  rw [len_dots]
  rcases e with e | e
  · rw [Int.toNat_of_nonpos e, Nat.zero_mul]
  · rw [Int.toNat_of_nonpos e, Nat.mul_zero]
theorem dots_some {x y : Int} {w h : Int} (a : 0 < w) (b : 0 < h) : dotsOf x y w.toNat h.toNat ≠ [] := by
  intro e
  have := congrArg List.length e
  rw [len_dots] at this
  exact absurd this (Nat.ne_of_gt (Nat.mul_pos (Int.lt_toNat.mpr a) (Int.lt_toNat.mpr b)))
end
theorem rst22 : True ∧ True := by
  w_top off
  first
  | (walk1; done)
  | exact ⟨trivial, trivial⟩
-- B39
/-- a drawn rectangle -/
def Box (r : List Int) : Prop := r.length = 4 ∧ (-3 ≤ r.getD 0 0 ∧ r.getD 0 0 < 4) ∧ (-3 ≤ r.getD 1 0 ∧ r.getD 1 0 < 4) ∧ (0 ≤ r.getD 2 0 ∧ r.getD 2 0 < 4) ∧ 0 ≤ r.getD 3 0 ∧ r.getD 3 0 < 4
theorem Box.four {x y w h : Int} (b : Box [x, y, w, h]) : (-3 ≤ x ∧ x < 4) ∧ (-3 ≤ y ∧ y < 4) ∧ (0 ≤ w ∧ w < 4) ∧ 0 ≤ h ∧ h < 4 := b.2
theorem Box.of {x y w h : Int} (a : -3 ≤ x ∧ x < 4) (b : -3 ≤ y ∧ y < 4) (c : 0 ≤ w ∧ w < 4) (d : 0 ≤ h ∧ h < 4) : Box [x, y, w, h] := ⟨rfl, a, b, c, d⟩
theorem Box.tile {r : List Int} (b : Box r) : Tile r := ⟨b.1, b.2.2.2.1.1, b.2.2.2.2.1⟩
theorem toNat3 {w : Int} (h : w < 4) : w.toNat ≤ 3 := Int.toNat_le.mpr (Int.le_of_lt_add_one h)
theorem dots9 {x y w h : Int} (a : 0 ≤ w ∧ w < 4) (b : 0 ≤ h ∧ h < 4) : (dotsOf x y w.toNat h.toNat).length ≤ 9 := by
  rw [len_dots]; exact Nat.mul_le_mul (toNat3 a.2) (toNat3 b.2)
theorem le5 {x w u : Int} (a : x < 4) (b : w < 4) (c : u < x + w) : u ≤ 5 := by
  have a' : x ≤ 3 := Int.le_of_lt_add_one a
  have b' : w ≤ 3 := Int.le_of_lt_add_one b
  have e : x + w ≤ 3 + 3 := Int.add_le_add a' b'
  have d : u < 5 + 1 := Int.lt_of_lt_of_le c e
  exact Int.le_of_lt_add_one d
theorem dom_in {rows : List (List Int)} (hb : ∀ r ∈ rows, Box r) : ∀ r ∈ rows.flatMap dotsR, TS.Dom r := by
  intro r hr
  obtain ⟨t, ht, hrt⟩ := List.mem_flatMap.mp hr
  have b := hb t ht
  obtain ⟨u, v, rfl, b1, b2, b3, b4⟩ := (mem_dots b.tile.2.1 b.tile.2.2).mp hrt
  exact ⟨u, v, rfl, Int.le_trans b.2.1.1 b1, le5 b.2.1.2 b.2.2.2.1.2 b2, Int.le_trans b.2.2.1.1 b3, le5 b.2.2.1.2 b.2.2.2.2.2 b4⟩
theorem wide_in {rows : List (List Int)} (hb : ∀ r ∈ rows, Box r) (x y w h : Int) (hm : [x, y, w, h] ∈ rows) : 0 ≤ w ∧ w ≤ 100 :=
  ⟨(hb _ hm).four.2.2.1.1, Int.le_trans (Int.le_of_lt (hb _ hm).four.2.2.1.2) (by decide)⟩
theorem clear_len {b : Bool} {rows : List (List Int)} {n : Nat} (hb : ∀ r ∈ rows, Box r) (hn : n = (rows.flatMap dotsR).length) (h : b = true ↔ ∀ (i j : Nat) r r', j < i → rows[i]? = some r → rows[j]? = some r' → meetB r r' = false) :
    b = decide ((n : Int) = ((TS.dd (rows.flatMap dotsR)).length : Nat)) := by
  rw [clear_iff fun r hr => (hb r hr).tile, ← dd_iff] at h
  rw [hn]
  cases b with
  | true => exact (decide_eq_true (congrArg Int.ofNat (h.mp rfl))).symm
  | false => exact (decide_eq_false fun e => Bool.noConfusion (h.mpr (Int.ofNat.inj e))).symm
theorem three_box {a b c : List Int} (ha : Box a) (hb : Box b) (hc : Box c) : ∀ r ∈ [a, b, c], Box r := List.forall_mem_cons.mpr ⟨ha, mem2 hb hc⟩
theorem pmax_rng {a b : Int} (h : -3 ≤ a ∧ a < 4) (k : -3 ≤ b ∧ b < 4) : -3 ≤ pmax a b ∧ pmax a b < 4 := ⟨Int.le_trans h.1 (pmax_l a b), pmax_lt.mpr ⟨h.2, k.2⟩⟩
theorem gap20 {x y z w p : Int} (hx : -3 ≤ x ∧ x < 4) (hw : 0 ≤ w ∧ w < 4) (hy : -3 ≤ y) (hp : ¬ pmin (x + w) z ≤ pmax p y) : 0 ≤ pmin (x + w) z - pmax p y ∧ pmin (x + w) z - pmax p y ≤ 20 := by
  have a : pmin (x + w) z ≤ x + w := pmin_l _ _
  have b : y ≤ pmax p y := pmax_r _ _
  generalize pmin (x + w) z = u at *
  generalize pmax p y = v at *
  omega
theorem sub_pos' {a b : Int} (h : ¬ a ≤ b) : 0 < a - b := Int.sub_pos_of_lt (Int.not_le.mp h)
theorem or_sub {a b c d : Int} (h : a ≤ b ∨ c ≤ d) : a - b ≤ 0 ∨ c - d ≤ 0 := h.imp Int.sub_nonpos_of_le Int.sub_nonpos_of_le
-- B38
section
variable {prog : Program} {w : World} {A : Around} {E : Value → Shared → Prop} {s : Shared} {h₀ : Heap} {L : Addr} {m : Str → Option Value} {news : Led}
theorem short_sort {a : Addr} {vs : List Value} {n : Nat} {P : PySem.Fin → Shared → Prop} (F : Fr h₀ L s.heap m) (N : News h₀ L s.heap news) (ho : s.heap.get? a = some (seqObj "list" vs.toArray n)) (haL : a ≠ L) (ha0 : h₀.get? a = none) (hna : ∀ p ∈ news, p.1 ≠ a) (h2 : vs.length < 2)
    (h : ∀ h' c, Fr h₀ L h' m → News h₀ L h' ((a, listOf vs.toArray c) :: news) → P (.done (.ret .none)) { s with heap := h' }) : wpAny (model prog w) A (Builtin.«list.sort» ⟨[.ref a], []⟩) P E s := by
  have s1 := Heap.SameBut.update s.heap a (Obj.mapSeq fun _ => (#[] : Array Value))
  obtain ⟨e1, ho1⟩ : ∃ e1, (s.heap.update a (Obj.mapSeq fun _ => (#[] : Array Value))).get? a = some (seqObj "list" #[] e1) := ⟨_, get?_update_seq ho fun _ => #[]⟩
  have F1 := (kas_fr F s1 haL ha0)
  have N1 := kas_news N s1 hna
  have up : ∀ b x, (s.heap.update a (Obj.mapSeq fun _ => (#[] : Array Value))).get? b = some x → (((s.heap.update a (Obj.mapSeq fun _ => (#[] : Array Value))).push (seqObj "tuple" vs.toArray 0)).push (seqObj "list" #[] 0)).get? b = some x := fun b x e => Heap.get?_push_of_some _ (Heap.get?_push_of_some _ e)
  rw [list_sort_plain]
  refine wpAny_bind (listItems_at ho rfl ?_)
  refine wpAny_bind (listUpdate_at ho rfl ?_ (by rw [List.size_toArray, sizeLine_eq]; omega) (Nat.zero_le _))
  refine wpAny_bind (seqEpoch_at ho1 rfl ?_)
  refine wpAny_bind (wpAny_newTuple ?_ (by show vs.length ≤ _; rw [sizeLine_eq]; omega))
  refine wpAny_bind (wpAny_newList ?_ (Nat.zero_le _))
  refine wpAny_holding ?_
  show wpAny (model prog w) A _ P E { s with heap := ((s.heap.update a (Obj.mapSeq fun _ => (#[] : Array Value))).push (seqObj "tuple" vs.toArray 0)).push (seqObj "list" #[] 0) }
  dsimp only
  have hn2 : vs.toArray.size < 2 := by rw [List.size_toArray]; omega
  rw [if_pos hn2, if_pos hn2]
  refine wpAny_bind (wpAny_pure ?_)
  refine wpAny_bind (wpAny_pure ?_)
  dsimp only
  have hout : (arrOf (SortSt.mk' general' (vs.toArray.zip vs.toArray) #[] 7 none)).map (·.2) = vs.toArray := by
    show (vs.toArray.zip vs.toArray).map (·.2) = _
    apply Array.toList_inj.mp
    simp [List.map_snd_zip]
  rw [hout]
  have ho2 := up a _ ho1
  have s2 := Heap.SameBut.update (((s.heap.update a (Obj.mapSeq fun _ => (#[] : Array Value))).push (seqObj "tuple" vs.toArray 0)).push (seqObj "list" #[] 0)) a (Obj.mapSeq fun _ => vs.toArray)
  obtain ⟨c2, hc2⟩ : ∃ c2, ((((s.heap.update a (Obj.mapSeq fun _ => (#[] : Array Value))).push (seqObj "tuple" vs.toArray 0)).push (seqObj "list" #[] 0)).update a (Obj.mapSeq fun _ => vs.toArray)).get? a = some (seqObj "list" vs.toArray c2) := ⟨_, get?_update_seq ho2 fun _ => vs.toArray⟩
  refine wpAny_bind (seqEpoch_at ho2 rfl ?_)
  refine wpAny_bind (listUpdate_at ho2 rfl ?_ (Nat.zero_le _) (by rw [List.size_toArray, sizeLine_eq]; omega))
  simp only [bne_self_eq_false, Bool.false_eq_true, if_false]
  refine wpAny_pure (h _ c2 (kas_fr (F1.keeps up) s2 haL ha0) fun p hp => ?_)
  rcases List.mem_cons.mp hp with rfl | hp
  · exact ⟨hc2, haL, ha0⟩
  · exact kas_news (N1.grown up) s2 hna p hp
theorem sorted_short {l : Addr} {vs : List Value} {k : Nat} {Q : Value → Shared → Prop} (F : Fr h₀ L s.heap m) (N : News h₀ L s.heap news) (hm : (l, listOf vs.toArray k) ∈ news) (h2 : vs.length < 2)
    (h : ∀ D n h', Fr h₀ L h' m → News h₀ L h' ((D, listOf vs.toArray n) :: news) → Q (.ref D) { s with heap := h' }) : wpAny (model prog w) A (call (.builtin "sorted") [.ref l]) Q E s := by
  have hl := N.isList hm
  refine Calls.call_function_entry kind_sorted plain_sorted entry_sorted (args_sorted1 _) ?_
  unfold Builtin.«sorted»
  refine wpAny_bind (m := checkCount "sorted" 1 1 _) (wpAny_pure ?_)
  refine wpAny_bind (collect_list hl ?_ (by rw [sizeLine_eq]; omega))
  refine wpAny_bind (wpAny_newList ?_ (by rw [sizeLine_eq]; omega))
  have hsz : ((s.heap.push (seqObj "list" #[] 0)).update s.heap.objs.size (Obj.mapSeq (· ++ vs.toArray))).objs.size = s.heap.objs.size + 1 := by
    rw [Heap.size_update, size_push']
  have hoL : (((s.heap.push (seqObj "list" #[] 0)).update s.heap.objs.size (Obj.mapSeq (· ++ vs.toArray))).push (seqObj "list" vs.toArray 0)).get? (s.heap.objs.size + 1) = some (seqObj "list" vs.toArray 0) := by
    rw [← hsz]; exact Heap.get?_push_size _ rfl
  have keep : ∀ b o, s.heap.get? b = some o → (((s.heap.push (seqObj "list" #[] 0)).update s.heap.objs.size (Obj.mapSeq (· ++ vs.toArray))).push (seqObj "list" vs.toArray 0)).get? b = some o := fun b o q => by
    have hlt : b < s.heap.objs.size := Heap.lt_size q
    rw [Heap.get?_push_ne _ _ _ (by rw [hsz]; exact Nat.ne_of_lt (Nat.lt_succ_of_lt hlt)), Heap.get?_update_ne _ _ _ _ (Nat.ne_of_lt hlt), Heap.get?_push_ne _ _ _ (Nat.ne_of_lt hlt)]
    exact q
  have hL : L < s.heap.objs.size := F.ns.lt
  show wpAny _ _ _ _ _ { s with heap := ((s.heap.push (seqObj "list" #[] 0)).update s.heap.objs.size (Obj.mapSeq (· ++ vs.toArray))).push (seqObj "list" vs.toArray 0) }
  rw [hsz]
  refine wpAny_bind (wpAny_holding (wpAny_call_entry slot_list_sort ⟨_, hoL, rfl⟩ entry_list_sort ?body (args_list_sort _)))
  case body =>
    exact short_sort (s := { s with heap := ((s.heap.push (seqObj "list" #[] 0)).update s.heap.objs.size (Obj.mapSeq (· ++ vs.toArray))).push (seqObj "list" vs.toArray 0) })
      (F.kept keep) (N.grown keep) hoL (Nat.ne_of_gt (Nat.lt_succ_of_lt hL)) (Heap.get?_none_of_le (Nat.le_trans F.above (Nat.le_succ_of_le (Nat.le_of_lt hL))))
      (fun p hp => Nat.ne_of_lt (Nat.lt_succ_of_lt (Heap.lt_size (N p hp).1))) h2 fun h' c F' N' => ⟨_, rfl, wpAny_pure ⟨_, rfl, h _ c h' F' N'⟩⟩
end
-- B41
def UseEnd (h₀ : Heap) (L : Addr) (Q : Flow → Shared → Prop) (C : Addr) (s2 : Shared) : Prop := ∃ (m' : Str → Option Value) (oC : Obj) (mc : Str → Option Value) (news : Led), Fr h₀ L s2.heap m' ∧ News h₀ L s2.heap ((C, oC) :: news) ∧ LCg.NsObj oC mc ∧ (∀ p ∈ news, p.1 ≠ C) ∧
    ∀ h', Fr h₀ L h' m' → News h₀ L h' news → Q .next { s2 with heap := h' }
theorem UseEnd.intro {h₀ h : Heap} {L : Addr} {Q : Flow → Shared → Prop} {C : Addr} {s : Shared} {tk : Nat} {m' : Str → Option Value} {oC : Obj} {mc : Str → Option Value} {news : Led} (F : Fr h₀ L h m') (N : News h₀ L h ((C, oC) :: news)) (hoC : LCg.NsObj oC mc) (ho : ∀ p ∈ news, p.1 ≠ C)
    (k : ∀ h', Fr h₀ L h' m' → News h₀ L h' news → Q .next { s with heap := h', toks := tk }) : UseEnd h₀ L Q C { s with heap := h, toks := tk } := ⟨m', oC, mc, news, F, N, hoC, ho, k⟩
def UseR (prog : Program) (w : World) (A : Around) (h₀ : Heap) (L : Addr) (u : Value → Sem Unit) (Q : Flow → Shared → Prop) (E : Value → Shared → Prop) (C D : Addr) (r : Result) (s : Shared) : Prop :=
  r = .ok .next ∧ wpAny (model prog w) A (u (.ref D)) (fun _ s2 => UseEnd h₀ L Q C s2) E s

def CompInU (prog : Program) (w : World) (A : Around) (h₀ : Heap) (L : Addr) (m : Str → Option Value) (e : Expr) (scope : Scope) (cl : List (Str × Addr)) (env : Env) (RU : Addr → Addr → Result → Shared → Prop) (it : Value) (s₂ : Shared) : Prop :=
  ∃ I cst, ∃ It : Heap → Prop, it = .ref I ∧ Fr h₀ L s₂.heap m ∧ News h₀ L s₂.heap cst ∧ (∃ o, s₂.heap.get? I = some o) ∧ (∀ p ∈ cst, p.1 ≠ I) ∧ It s₂.heap ∧ (∀ h h', It h → (∀ b o, h.get? b = some o → h'.get? b = some o) → It h') ∧
    ∀ C D oC h tk, I ≠ C → I ≠ D → C ≠ D → Offs I C D cst → Fr h₀ L h m → News h₀ L h ((C, oC) :: (D, listOf [].toArray 0) :: cst) → (∃ mc, LCg.NsObj oC mc) → It h →
      codeAny (model prog w) A (.compStart e 0 (.ref I) (.ref D) (compEnvC scope cl C env)) (RU C D) { s₂ with heap := h, toks := tk }

section
variable {prog : Program} {w : World} {A : Around} {R : Result → Shared → Prop} {s s₀ : Shared} {h₀ : Heap} {L I C D : Addr} {m : Str → Option Value} {oI : Obj} {cst dyn₀ news : Led} {e : Expr} {depth : Nat}
  {scope : Scope} {cl : List (Str × Addr)} {env : Env} {x : Str} {E : Value → Shared → Prop} {RU : Addr → Addr → Result → Shared → Prop}

theorem CompInU.ofAt {cst : Led} {n : Nat} {P : Nat → Value → Prop} (F : Fr h₀ L s.heap m) (N : News h₀ L s.heap cst) (hI : ∃ o, s.heap.get? I = some o) (hc : ∀ p ∈ cst, p.1 ≠ I) (hIt : IterAt prog w A cst n P I s.heap)
    (h : ∀ C D oC h tk, I ≠ C → I ≠ D → C ≠ D → Offs I C D cst → Fr h₀ L h m → News h₀ L h ((C, oC) :: (D, listOf [].toArray 0) :: cst) → (∃ mc, LCg.NsObj oC mc) → IterAt prog w A cst n P I h →
      codeAny (model prog w) A (.compStart e 0 (.ref I) (.ref D) (compEnvC scope cl C env)) (RU C D) { s with heap := h, toks := tk }) : CompInU prog w A h₀ L m e scope cl env RU (.ref I) s :=
  ⟨I, cst, _, rfl, F, N, hI, hc, hIt, fun _ _ => IterAt.grow, h⟩
theorem CompInU.ofL {cst : Led} {n : Nat} {P : Nat → Value → Prop} (F : Fr h₀ L s.heap m) (N : News h₀ L s.heap cst) (hI : ∃ o, s.heap.get? I = some o) (hc : ∀ p ∈ cst, p.1 ≠ I) (hIt : IterL prog w A cst n P I s.heap)
    (h : ∀ C D oC h tk, I ≠ C → I ≠ D → C ≠ D → Offs I C D cst → Fr h₀ L h m → News h₀ L h ((C, oC) :: (D, listOf [].toArray 0) :: cst) → (∃ mc, LCg.NsObj oC mc) → IterL prog w A cst n P I h →
      codeAny (model prog w) A (.compStart e 0 (.ref I) (.ref D) (compEnvC scope cl C env)) (RU C D) { s with heap := h, toks := tk }) : CompInU prog w A h₀ L m e scope cl env RU (.ref I) s :=
  ⟨I, cst, _, rfl, F, N, hI, hc, hIt, fun _ _ => IterL.grow, h⟩

theorem Assign_ListComp_K {elt iter : Expr} {target : Expr} {ifs : List Expr} {gs : List Comprehension} {pos spos py : Pos} {y : Str} {Q : Flow → Shared → Prop}
    (hsw : swapsWith (.ListComp elt (⟨target, iter, ifs, 0⟩ :: gs) scope pos) (some (.Name y py)) spos.line env = pure true)
    (F₀ : Fr h₀ L s.heap m) (hclos : closureFor scope env = pure cl) (hcell : ∀ y ∈ scope.names, y.2 ≠ .cell) (hkind : scope.kind = .function)
    (hnames : ∀ y ∈ scope.names, y.2 = .local → scope.names.lookup y.1 = some .local)
    (hs : ∀ x, foldedSetIterable iter env x = pure x)
    (h : wpAny (model prog w) A (eval iter env) (fun xv s₁ => wpAny (model prog w) A (pyIter xv) (CompInU prog w A h₀ L m (.ListComp elt (⟨target, iter, ifs, 0⟩ :: gs) scope pos) scope cl env (UseR prog w A h₀ L (assign (.Name y py) env) Q E)) E s₁) E s) :
    wpAny (model prog w) A (exec (.Assign [.Name y py] (.ListComp elt (⟨target, iter, ifs, 0⟩ :: gs) scope pos) spos) env) Q E s := by
  rw [exec_Assign_Name_used _ _ _ _ hsw]
  refine wpAny_bind (wpAny_standAt (wpAny_bind ?_))
  show wpAny _ A (do let _ ← comprehension (.ListComp elt (⟨target, iter, ifs, 0⟩ :: gs) scope pos) scope env _ (newList []) false (eval iter env) (some (assign (.Name y py) env))) _ _ s
  refine wpAny_bind (wpAny_mono (wpAny_comprehension_free (use := some (assign (.Name y py) env)) (Q := fun _ s' => Q .next s') rfl hs hclos hkind hnames
    (wpAny_mono h (fun xv s₁ h₁ => wpAny_mono h₁ (fun it s₂ h₂ => ?_) fun _ _ e => e) fun _ _ e => e)) (fun _ s' hq => wpAny_pure (wpAny_pure hq)) fun _ _ e => e)
  first | (refine foldG ?_; intro qG; obtain ⟨I, cst, It, rfl, F, N, ⟨oI, hoI⟩, hcI, hIt, hgrow, hbody⟩ := h₂; k_unfold; clear qG) | obtain ⟨I, cst, It, rfl, F, N, ⟨oI, hoI⟩, hcI, hIt, hgrow, hbody⟩ := h₂
  refine wpAny_newObj_type (wpAny_newFunctionEnv hcell (by intro y hy; simp at hy) (fun h₁ hns₁ hsb₁ => ?_) hkind)
  dsimp only at hns₁ hsb₁ ⊢
  generalize hH2 : s₂.heap.push { cls := .type "list", dict := none, data := .seq ([] : List Value).toArray } = H2 at hns₁ hsb₁ ⊢
  have hC : H2.objs.size = s₂.heap.objs.size + 1 := by rw [← hH2, Heap.size_push]
  have hDC : s₂.heap.objs.size ≠ H2.objs.size := by rw [hC]; exact Nat.ne_of_lt (Nat.lt_succ_self _)
  have below : ∀ b, b < s₂.heap.objs.size → b ≠ H2.objs.size ∧ b ≠ s₂.heap.objs.size := fun b hb => ⟨by rw [hC]; exact Nat.ne_of_lt (Nat.lt_succ_of_lt hb), Nat.ne_of_lt hb⟩
  have old : ∀ b o, s₂.heap.get? b = some o → h₁.get? b = some o := fun b o e => hsb₁.extBut b o (below b (Heap.lt_size e)).1 (Heap.get?_push_of_some _ (hH2 ▸ Heap.get?_push_of_some _ e))
  have hacc : h₁.get? s₂.heap.objs.size = some (listOf ([] : List Value).toArray 0) := hsb₁.extBut _ _ hDC (Heap.get?_push_of_some _ (hH2 ▸ Heap.get?_push_size _ rfl))
  have fresh₀ : ∀ a, s₂.heap.objs.size ≤ a → h₀.get? a = none := fun a ha => by
    cases e : h₀.get? a with
    | none => rfl
    | some o' => exact absurd (Heap.lt_size (F.keep a o' e)) (Nat.not_lt.mpr ha)
  have hLlt : L < s₂.heap.objs.size := F.ns.lt
  have hDL : s₂.heap.objs.size ≠ L := Ne.symm (below L hLlt).2
  have hCL : H2.objs.size ≠ L := Ne.symm (below L hLlt).1
  have hIlt := Heap.lt_size hoI
  have hC₀ : h₀.get? H2.objs.size = none := fresh₀ _ (by rw [hC]; exact Nat.le_succ _)
  have hD₀ : h₀.get? s₂.heap.objs.size = none := fresh₀ _ (Nat.le_refl _)
  first | (refine foldG ?_; intro qG; obtain ⟨oC, heC, hoC⟩ := LCg.ns_obj hns₁; k_unfold; clear qG) | obtain ⟨oC, heC, hoC⟩ := LCg.ns_obj hns₁
  have R := hbody H2.objs.size s₂.heap.objs.size oC h₁ (s₂.toks + ([] : List (Str × Value)).length) (below I hIlt).1 (below I hIlt).2 (Ne.symm hDC) (fun p hp => ⟨hcI p hp, (below _ (Heap.lt_size (N p hp).1)).1, (below _ (Heap.lt_size (N p hp).1)).2⟩)
    (F.keeps old) (fun p hp => by
      rcases List.mem_cons.mp hp with rfl | hp
      · exact ⟨heC, hCL, hC₀⟩
      · rcases List.mem_cons.mp hp with rfl | hp
        · exact ⟨hacc, hDL, hD₀⟩
        · exact ⟨old _ _ (N p hp).1, (N p hp).2⟩) ⟨_, hoC⟩ (hgrow _ _ hIt old)
  refine codeAny_mono R fun r s' hr => ?_
  first | (refine foldG ?_; intro qG; obtain ⟨rfl, hr⟩ := hr; k_unfold; clear qG) | obtain ⟨rfl, hr⟩ := hr
  refine wpAny_mono hr (fun _ s2 h2 => ?_) fun _ _ e => e
  first | (refine foldG ?_; intro qG; obtain ⟨m2, oC2, mc2, news2, F2, N2, hoC2, hoff, fin⟩ := h2; k_unfold; clear qG) | obtain ⟨m2, oC2, mc2, news2, F2, N2, hoC2, hoff, fin⟩ := h2
  have hC2 := (N2 _ (.head _))
  exact ⟨mc2, hoC2.ns hC2.1, fun h'' hs'' => fin h'' (F2.change hs'' hCL hC₀) fun p hp => ⟨hs''.extBut _ _ (hoff p hp) (N2 p (.tail _ hp)).1, (N2 p (.tail _ hp)).2⟩⟩
end
-- B43
section
variable {w : World} {p : Program} {loose : List Str} {mean : ExcName → Option Value} {mg mb : Str → Option Value}
  {dp un : Nat} {gd : Option (List Code)} {cn : Str} {cs : Scope} {a : Addr} {ccd : Value} {cl : List (Str × Addr)} {outer : List Env} {A₀ : Around} {base h₀ : Heap} {L : Addr} {m : Str → Option Value} {news : Led} {s : Shared} {Q E : Value → Shared → Prop}

end
/-- a barrier at the next if -/
def StopIf : Prop := True
/-- a barrier at the next assignment of a comprehension -/
inductive GoOn (h₀ : Heap) (L : Addr) (m : Str → Option Value) (news : Led) (s : Shared) : Flow → Shared → Prop
  | intro {h : Heap} {tk : Nat} (F : Fr h₀ L h m) (N : News h₀ L h news) : GoOn h₀ L m news s .next { s with heap := h, toks := tk }
theorem goOn {prog : Program} {w : World} {A : Around} {E : Value → Shared → Prop} {s : Shared} {h₀ hA hB : Heap} {L : Addr} {m : Str → Option Value} {news : Led} {Q : Flow → Shared → Prop} {t : Sem Flow} (_F : Fr h₀ L hA m) (_N : News h₀ L hB news)
    (h : wpAny (model prog w) A t (GoOn h₀ L m news s) (fun _ _ => False) s) (k : ∀ h tk, Fr h₀ L h m → News h₀ L h news → Q .next { s with heap := h, toks := tk }) : wpAny (model prog w) A t Q E s :=
  wpAny_mono h (fun f s' hc => by
    obtain @⟨h, tk, F, N⟩ := hc
    exact k h tk F N) fun _ _ e => e.elim
-- B44
section
variable {w : World} {p : Program} {loose : List Str} {mean : ExcName → Option Value} {mg mb : Str → Option Value}
  {dp un : Nat} {gd : Option (List Code)} {cn : Str} {cs : Scope} {a : Addr} {ccd : Value} {cl : List (Str × Addr)} {outer : List Env} {A₀ : Around} {base h₀ : Heap} {L : Addr} {m : Str → Option Value} {news : Led} {s : Shared} {Q E : Value → Shared → Prop}

end
def IsTups (tl : Led) : Prop := ∀ q ∈ tl, ∃ ws n, q.2 = tupO ws n
theorem IsTups.all {tl : Led} (h : IsTups tl) : AllTup tl := fun q hq => by obtain ⟨ws, n, e⟩ := h q hq; rw [e]
theorem ITups.own {N : Led} {vs : List Value} {rows : List (List Int)} (h : ITups N vs rows) : ∃ tl : Led, (∀ q ∈ tl, q ∈ N) ∧ IsTups tl ∧ ITups tl vs rows := by
  induction h with
  | nil => exact ⟨[], fun _ h => (nomatch h), fun _ h => (nomatch h), .nil⟩
  | @cons a ws n _ _ _ hm hi _ ih =>
    obtain ⟨tl, s, t, d⟩ := ih
    refine ⟨(a, tupO ws n) :: tl, ?_, ?_, .cons (.head _) hi (d.mono fun q hq => .tail _ hq)⟩
    · intro q hq
      rcases List.mem_cons.mp hq with rfl | hq
      · exact hm
      · exact s q hq
    · intro q hq
      rcases List.mem_cons.mp hq with rfl | hq
      · exact ⟨_, _, rfl⟩
      · exact t q hq
/-- tuples lie apart from the iterator, the namespace and the list -/
theorem IsTups.offs {h₀ h : Heap} {L I C D : Addr} {oI oC : Obj} {mc : Str → Option Value} {its : Array Value} {n : Nat} {tl news : Led} (ht : IsTups tl) (N : News h₀ L h news) (hs : ∀ q ∈ tl, q ∈ news) (hI : (I, oI) ∈ news) (hC : (C, oC) ∈ news) (hD : (D, listOf its n) ∈ news)
    (hn : NoSeq oI) (hoC : LCg.NsObj oC mc) : Offs I C D tl := fun q hq => by
  obtain ⟨ws, k, e⟩ := ht q hq
  refine ⟨?_, ?_, ?_⟩
  · exact News.twoPlaces N (hs q hq) hI fun e2 => hn.1 (by rw [show oI = q.2 from e2.symm, e])
  · exact News.twoPlaces N (hs q hq) hC fun e2 => by
      obtain ⟨es, ep, hd, _⟩ := hoC
      rw [show oC = q.2 from e2.symm, e] at hd
      cases hd
  · exact ht.all.apartL N hs hD q hq
theorem IsTups.append {a b : Led} (h : IsTups a) (h' : IsTups b) : IsTups (a ++ b) := fun q hq => (List.mem_append.mp hq).elim (h q) (h' q)
theorem bne_dec {b : Bool} {x y : Int} (e : b = decide (x = y)) (h : (b != (x == y)) = true) : False := by
  subst e
  by_cases hxy : x = y
  · subst hxy; simp at h
  · rw [decide_eq_false hxy, show (x == y) = false from decide_eq_false hxy] at h; cases h
theorem IsTups.nil : IsTups [] := fun _ h => nomatch h
-- B45
section
variable {w : World} {p : Program} {loose : List Str} {mean : ExcName → Option Value} {mg mb : Str → Option Value}
  {dp un : Nat} {gd : Option (List Code)} {cn : Str} {cs : Scope} {a : Addr} {ccd : Value} {cl : List (Str × Addr)} {outer : List Env} {A₀ : Around} {base h₀ : Heap} {L : Addr} {m : Str → Option Value} {news : Led} {s : Shared} {Q E : Value → Shared → Prop}

end
namespace TS
variable {prog : Program} {w : World} {A : Around} {E : Value → Shared → Prop} {s : Shared} {h₀ : Heap} {L : Addr} {m : Str → Option Value} {news : Led}
theorem len_set_S {l : Addr} {vs : List Value} {k : Nat} {rows : List (List Int)} {Q : Value → Shared → Prop} {G : Value → Shared → Prop} (hG : ∀ v s', wpAny (model prog w) A (call (.builtin "len") [v]) Q E s' → G v s') (F : Fr h₀ L s.heap m) (N : News h₀ L s.heap news) (hh : A.handled = none) (hu : A.units + 10 < cLine) (hl : (l, listOf vs.toArray k) ∈ news) (hv : ITups news vs rows)
    (hdom : ∀ r ∈ rows, Dom r) (hn : vs.length ≤ 30)
    (h : ∀ h' tk tk' t, Fr h₀ L h' m → News h₀ L h' news → Q (.int ((dd rows).length : Nat) t) { s with heap := h', toks := tk' + tk }) :
    wpAny (model prog w) A (call (.type "set") [.ref l]) G E s := wpAny_mono (len_set_L F N hh hu hl hv hdom hn h) hG fun _ _ e => e
end TS
-- B46
section
variable {w : World} {p : Program} {loose : List Str} {mean : ExcName → Option Value} {mg mb : Str → Option Value}
  {dp un : Nat} {gd : Option (List Code)} {cn : Str} {cs : Scope} {a : Addr} {ccd : Value} {cl : List (Str × Addr)} {outer : List Env} {A₀ : Around} {base h₀ : Heap} {L : Addr} {m : Str → Option Value} {news : Led} {s : Shared} {Q E : Value → Shared → Prop}

end
open PySem.SeqAt
def boolsD (bs : List Bool) : PyData := .list (bs.map .bool)
theorem bools_reads {h : Heap} : ∀ bs : List Bool, ReadsAll h (bs.map Value.bool) (bs.map .bool) []
  | [] => .nil
  | b :: bs => .cons (as := []) (bs := []) (.bool b) (bools_reads bs)
theorem lay_bools : ∀ r : List Bool, PyData.canLayAll0 (r.map .bool) = true
  | [] => by simp [PyData.canLayAll0]
  | _ :: r => by simp [PyData.canLayAll0, PyData.canLay0, lay_bools r]
theorem depth_bools : ∀ r : List Bool, PyData.depthAll (r.map .bool) = 0
  | [] => by simp [PyData.depthAll]
  | _ :: r => by simp [PyData.depthAll, PyData.depth, depth_bools r]
theorem shaped_bools (bs : List Bool) : shaped (boolsD bs) = true := by
  simp [shaped, boolsD, PyData.canLay0, lay_bools, PyData.depth, depth_bools]
theorem eqv_bools : ∀ bs : List Bool, PyData.eqvAll (bs.map .bool) (bs.map .bool) = true
  | [] => by simp [PyData.eqvAll]
  | b :: bs => by simp [PyData.eqvAll, PyData.eqv, eqv_bools bs]
section
variable {prog : Program} {w : World} {A : Around} {E : Value → Shared → Prop} {s : Shared} {h₀ : Heap} {L a b : Addr} {news : Led} {bs : List Bool} {k j : Nat} {Q : Value → Shared → Prop} {vs ws : List Value} {r : List Int}
theorem ne_bools (N : News h₀ L s.heap news) (ha : (a, listOf (bs.map Value.bool).toArray k) ∈ news) (hb : (b, listOf (bs.map Value.bool).toArray j) ∈ news) (hu : A.units + 64 < cLine) (h : Q (.bool false) s) :
    wpAny (model prog w) A (compareOp .NotEq (.ref a) (.ref b)) Q E s :=
  ne_dataH (da := boolsD bs) (db := boolsD bs) (.list (N _ ha).1 rfl rfl (by simpa using bools_reads bs)) (.list (N _ hb).1 rfl rfl (by simpa using bools_reads bs)) (shaped_bools _) (shaped_bools _) hu (by
    rw [show PyData.eqv (boolsD bs) (boolsD bs) = true by simp [boolsD, PyData.eqv, eqv_bools]]; exact h)
theorem ne_tups (N : News h₀ L s.heap news) (ha : (a, tupO vs k) ∈ news) (hb : (b, tupO ws j) ∈ news) (va : IntsAre vs r) (vb : IntsAre ws r) (hu : A.units + 64 < cLine) (h : Q (.bool false) s) :
    wpAny (model prog w) A (compareOp .NotEq (.ref a) (.ref b)) Q E s :=
  ne_dataH (tup_reads N ha va) (tup_reads N hb vb) (shaped_row _) (shaped_row _) hu (by rw [eqv_row, decide_eq_true rfl]; exact h)
end
-- B47
section
variable {w : World} {p : Program} {loose : List Str} {mean : ExcName → Option Value} {mg mb : Str → Option Value}
  {dp un : Nat} {gd : Option (List Code)} {cn : Str} {cs : Scope} {a : Addr} {ccd : Value} {cl : List (Str × Addr)} {outer : List Env} {A₀ : Around} {base h₀ : Heap} {L : Addr} {m : Str → Option Value} {news : Led} {s : Shared} {Q E : Value → Shared → Prop}

end
open Builtin Builtin.ObjectAttr PySem.F
abbrev FB : List Value := [.type "Exception", .type "BaseException", .type "object"]
abbrev excO (t : Addr) : Obj := { cls := .ref 44, data := .fields #[.ref t, .none, .none, .none, .bool false, .none] }
section
variable {prog : Program} {w : World} {A : Around} {R : Result → Shared → Prop} {h : Heap} {g : Array GenState} {d : Drawn} {t : Nat} {os : OsState} {M : Model} {E : Value → Shared → Prop}
structure Faults (M : Model) (h : Heap) : Prop where
  obj : ∃ oc od cd sl, h.get? 44 = some ⟨oc, od, .cls cd, sl⟩ ∧ cd.abstract = false ∧ cd.hasDel = false ∧ cd.mro.isEmpty = false
  made : Looks M h (Bind.madeBy (.ref 44)) (some "Exception.__new__")
  base : Looks M h (Bind.staticBase (.ref 44)) (.ref 44)
  self : Looks M h (isSubtype (.ref 44) (.ref 44)) true
  exc : Looks M h (isSubtype (.ref 44) (.type "Exception")) true
  bex : Looks M h (isSubtype (.ref 44) (.type "BaseException")) true
  att : Looks M h (isSubtype (.ref 44) (.type "AttributeError")) false
  nam : Looks M h (isSubtype (.ref 44) (.type "NameError")) false
  call : Looks M h (specialOf (.ref 44) "__call__") (some (.builtin "type.__call__"))
  typ : Looks M h (isInstance (.ref 44) (.type "type")) true
theorem faults_of (X : (hd.heap_39 w.params).In h) : Faults M h := by
  have ho : (hd.heap_39 w.params).lookup 44 = some _ := rfl
  have hc : clsIn (hd.heap_39 w.params) 44 = some _ := rfl
  have hm : Looks M h (mroOf (.ref 44)) _ := (looks_clsIn X hc).andThen .now
  have made : Looks M h (Bind.madeBy (.ref 44)) (some "Exception.__new__") := by
    intro A Q E s k q
    unfold Bind.madeBy
    refine wpAny_bind (hm A _ E s k ?_)
    rw [List.forIn_cons]
    refine wpAny_bind (wpAny_bind (wpAny_bind (wpAny_bind (wpAny_loadPart (k _ _ (X _ _ ho)) (wpAny_pure ?_)))))
    exact wpAny_pure (wpAny_pure (wpAny_pure q))
  refine ⟨⟨_, _, _, _, X _ _ ho, rfl, rfl, rfl⟩, made, ?_, looks_mroIn X rfl, looks_mroIn X rfl, looks_mroIn X rfl, looks_mroIn X rfl, looks_mroIn X rfl, looks_specialIn X rfl, looks_instIn X rfl⟩
  intro A Q E s k q
  unfold Bind.staticBase
  refine wpAny_bind (hm A _ E s k ?_)
  rw [List.forIn_cons]
  exact wpAny_bind (wpAny_bind (wpAny_bind (made A _ E s k (wpAny_pure (wpAny_pure (wpAny_pure q))))))
theorem fault_new {rest : List Value} (Y : Faults (model prog w) h) (hrest : rest.length ≤ sizeLine)
    (hq : R (.ok (.ret (.ref (h.objs.size + 1)))) ⟨(h.push { cls := .type "tuple", data := .seq rest.toArray }).push (excO h.objs.size), g, d, t, os⟩) :
    codeAny (model prog w) A (.call (.builtin "Exception.__new__") ⟨.ref 44 :: rest, []⟩) R ⟨h, g, d, t, os⟩ := by
  first | (refine foldG ?_; intro qG; obtain ⟨⟨oc, od, cd, sl, hC, e1, e2, e4⟩, made, base, self, exc, bex, att, nam, call, typ⟩ := Y; k_unfold; clear qG) | obtain ⟨⟨oc, od, cd, sl, hC, e1, e2, e4⟩, made, base, self, exc, bex, att, nam, call, typ⟩ := Y
  have F := excBase_Exception
  have hstar := F.noStar
  have hends := F.ends
  refine codeAny_call_builtin_code (Code.quiet_builtin _ F.quiet) ?_
  simp only [checkBuiltinCall, F.newKind, F.newSplit, F.newRow]
  repeat (first | simp only [bne_self_eq_false, Bool.false_eq_true, if_false] | lk)
  have here : Looks (model prog w) h (Bind.madeHere "BaseException.__new__" (.ref 44)) () := base.andThen (made.andThen (Looks.of_pure (by simp only [Option.map_some, F.canon, bne_self_eq_false, Bool.false_eq_true, if_false])))
  refine codeAny_builtinAt F.entry ?_
  unfold Builtin.«BaseException.__new__»
  refine PySem.wpAt_bind ?_
  show PySem.wpAt _ _ _ (stack >>= _) _ _ _
  refine PySem.wpAt_bind (PySem.wpAt_stack fun p below => PySem.wpAt_of_wpAny ?_)
  wp_walk
  refine PySem.wpAt_of_wpAny ?_
  rw [F.owner]
  repeat lk
  rw [if_neg (by rw [List.size_toArray]; omega)]
  repeat (first | lk | wp_step)
  refine nd_load (Heap.get?_push_of_some _ (Heap.get?_push_of_some _ hC)) ?_
  refine wpAny_pure ?_
  dsimp only
  refine wpAny_pure ?_
  rw [e2, if_neg (by decide)]
  repeat (first | lk | wp_step)
  show R _ _
  rw [Heap.size_push]
  exact hq
theorem fault_call {rest : List Value} {Q : Value → Shared → Prop} (X : (hd.heap_39 w.params).In h) (hrest : rest.length ≤ sizeLine)
    (hq : ∀ h' e, Heap.MadeExcOf h h' e (.ref 44) rest →
      codeAny (model prog w) (A.under (.builtin "type.__call__" ⟨.ref 44 :: rest, []⟩)) (.call (.ref 28) ⟨.ref e :: rest, []⟩) (fun r s' => match r with | .ok (.ret v) => v = .none ∧ Q (.ref e) s' | .ok _ => False | .error x => E x s') ⟨h', g, d, t, os⟩) :
    wpAny (model prog w) A (call (.ref 44) rest) Q E ⟨h, g, d, t, os⟩ := by
  have Y := faults_of (M := model prog w) X
  have hi : Looks (model prog w) h (typeLookup (.ref 44) "__init__") (some (.ref 28)) := looks_findIn X rfl
  have hb : Looks (model prog w) h (bindSpecial (.ref 28) (.ref (h.objs.size + 1))) (.ref 28, [.ref (h.objs.size + 1)]) := bind_fn X _ rfl
  have Y' := Y
  first | (refine foldG ?_; intro qG; obtain ⟨⟨oc, od, cd, sl, hC, e1, e2, e4⟩, made, base, self, exc, bex, att, nam, call, typ⟩ := Y; k_unfold; clear qG) | obtain ⟨⟨oc, od, cd, sl, hC, e1, e2, e4⟩, made, base, self, exc, bex, att, nam, call, typ⟩ := Y
  refine wpAny_call (codeAny_of_tree ?_)
  show wpAny _ _ (callAny (.ref 44) _) _ _ _
  refine nd_load hC ?_
  show wpAny _ _ (callAny.viaDunder (.ref 44) _) _ _ _
  unfold callAny.viaDunder
  refine wpAny_bind (call.at ?_)
  dsimp only
  rw [tc_bind]
  refine wpAny_bind (wpAny_pure (wpAny_bind (wpAny_pure ?_)))
  refine wpAny_pure (a := Fin.again (.call (.builtin "type.__call__") ⟨.ref 44 :: rest, []⟩)) (And.intro rfl ?_)
  refine codeAny_call_builtin_at (Code.quiet_builtin _ (by decide +kernel)) entry_typeCall (check_slot tc_kind tc_split typ (tc_args _ _ _) ?_)
  unfold Builtin.«type.__call__»
  have hm : Looks (model prog w) h (mroOf (.ref 44)) cd.mro := ((Looks.ld (part := none) hC).andThen .now).andThen .now
  repeat (first | simp only [e4, Bool.false_eq_true, if_false] | with_reducible refine wpAny_call ?_ | lk)
  refine fault_new Y' hrest ?_
  have k : ∀ b o, h.get? b = some o → ((h.push { cls := .type "tuple", data := .seq rest.toArray }).push (excO h.objs.size)).get? b = some o := fun b o e => Heap.get?_push_of_some _ (Heap.get?_push_of_some _ e)
  have hx : ((h.push { cls := .type "tuple", data := .seq rest.toArray }).push (excO h.objs.size)).get? (h.objs.size + 1) = some (excO h.objs.size) := by heap_get
  have t1 : Looks (model prog w) ((h.push { cls := .type "tuple", data := .seq rest.toArray }).push (excO h.objs.size)) (typeOf (.ref (h.objs.size + 1))) (.ref 44) := (Looks.ld hx).andThen .now
  have s1 := self.keeps k
  have i1 := hi.keeps k
  have b1 := hb.keeps k
  unfold isInstance callSpecial? specialOf
  repeat (first | with_reducible refine wpAny_call ?_ | lk)
  refine codeAny_mono (hq _ (h.objs.size + 1) ⟨k, Heap.get?_none_of_le (Nat.le_succ _), h.objs.size, hx, Heap.get?_none_of_le (Nat.le_refl _), Heap.get?_push_of_some _ (Heap.get?_push_at rfl rfl)⟩) fun r s' z => ?_
  rcases r with e | (v | _ | _ | _) <;> first | exact z | exact z.elim | skip
  first | (refine foldG ?_; intro qG; obtain ⟨rfl, z⟩ := z; k_unfold; clear qG) | obtain ⟨rfl, z⟩ := z
  exact wpAny_pure (wpAny_pure z)
theorem refuse_exc (self : Value) : refuseLoop self "__setattr__" [.ref 44, .ref 31, .type "Exception", .type "BaseException", .type "object"] = pure () := by
  rw [refuseLoop_ref, refuseLoop_ref]
  kernel_rfl
end
-- B48
section
variable {w : World} {p : Program} {loose : List Str} {mean : ExcName → Option Value} {mg mb : Str → Option Value}
  {dp un : Nat} {gd : Option (List Code)} {cn : Str} {cs : Scope} {a : Addr} {ccd : Value} {cl : List (Str × Addr)} {outer : List Env} {A₀ : Around} {base h₀ : Heap} {L : Addr} {m : Str → Option Value} {news : Led} {s : Shared} {Q E : Value → Shared → Prop}

end
open Builtin Builtin.ObjectAttr PySem.F
section
variable {w : World} {A : Around} {R : Result → Shared → Prop} {s : Shared} {h₀ : Heap} {L : Addr} {m : Str → Option Value} {news : Led}
theorem osa_exc {x t : Addr} {name : Str} {tk : Tok} {v : Value} (X : (hd.heap_39 w.params).In s.heap) (hx : s.heap.get? x = some (excO t)) (hf : findIn (hd.heap_39 w.params) (.ref 44) name = some none)
    (h : ∀ h' tk' dx, h'.get? x = some { excO t with dict := some dx } → (∀ b o, b ≠ x → s.heap.get? b = some o → h'.get? b = some o) → R (.ok (.ret .none)) { s with heap := h', toks := tk' }) :
    codeAny (model PRG w) A (.call (.builtin "object.__setattr__") ⟨[.ref x, .str name tk, v], []⟩) R s := by
  first | (refine foldG ?_; intro qG; obtain ⟨hp, g, d, tk0, os⟩ := s; k_unfold; clear qG) | obtain ⟨hp, g, d, tk0, os⟩ := s
  dsimp only at X hx h
  have SF := store_object
  have Y := faults_of (M := model PRG w) X
  first | (refine foldG ?_; intro qG; obtain ⟨⟨oc, od, cd, sl, hC, e1, e2, e4⟩, -⟩ := Y; k_unfold; clear qG) | obtain ⟨⟨oc, od, cd, sl, hC, e1, e2, e4⟩, -⟩ := Y
  have I : Looks (model PRG w) hp (typeOf (.ref x)) (.ref 44) := (Looks.ld hx).andThen .now
  have hc : clsIn (hd.heap_39 w.params) 44 = some _ := rfl
  have hm : Looks (model PRG w) hp (mroOf (.ref 44)) _ := (looks_clsIn X hc).andThen .now
  have sub : Looks (model PRG w) hp (isInstance (.ref x) (.type "object")) true := I.andThen (looks_mroIn X rfl)
  refine codeAny_call_builtin SF.slot.plain SF.entry (@check_slot (model PRG w) _ _ ⟨hp, g, d, tk0, os⟩ "object.__setattr__" "object" "__setattr__" (.ref x) [.str name tk, v] [] _ SF.kind SF.split sub (SF.args (.ref x) (.str name tk) v) ?_)
  rw [osa_eq, refuse_eq]
  refine wpAny_bind (wpAny_bind (I.here (wpAny_bind (hm.here ?_))))
  rw [refuse_exc]
  refine wpAny_pure (wpAny_bind (I.here (wpAny_bind ((looks_findIn X hf).here (wpAny_bind (wpAny_pure ?_))))))
  dsimp only
  refine wpAny_bind (wpAny_pure (wpAny_bind (wpAny_bind (wpAny_loadPart hx (wpAny_bind ((looks_clsIn X hc).here ?_))))))
  repeat (first | lk | wp_step)
  have hx₁ : (hp.push { cls := .type "dict", data := .dict #[] }).get? x = some (excO t) := Heap.get?_push_of_some _ hx
  have hxs : x ≠ hp.objs.size := Nat.ne_of_lt (Heap.lt_size hx)
  refine wpAny_update hx₁ (wpAny_pure ?_)
  have hgd : ((hp.push { cls := .type "dict", data := .dict #[] }).update x fun o => { cls := o.cls, dict := some hp.objs.size, data := o.data, slots := o.slots }).get? hp.objs.size
      = some { cls := .type "dict", data := .dict #[] } :=
    (Heap.get?_update_ne _ _ _ _ hxs.symm).trans (Heap.get?_push_at rfl rfl)
  have hnd : ((hp.push { cls := .type "dict", data := .dict #[] }).update x fun o => { cls := o.cls, dict := some hp.objs.size, data := o.data, slots := o.slots }).Ns hp.objs.size (fun _ => none) :=
    ⟨_, #[], _, hgd, rfl, fun e he => absurd he (by simp), fun _ => rfl⟩
  show wpAny _ _ (storeInDict hp.objs.size (.str name tk) name v) _ _ _
  unfold storeInDict newKeyGuard
  refine wpAny_bind (wpAny_pure (wpAny_bind (wpAny_nsSet1 (Heap.Ns1.of_empty hnd) fun h' hn' hs => ?_)))
  first | (refine foldG ?_; intro qG; obtain ⟨oD, esD, epD, hoD, hdD, hcD⟩ := hn'.count (Within.cons name v Within.nil); k_unfold; clear qG) | obtain ⟨oD, esD, epD, hoD, hdD, hcD⟩ := hn'.count (Within.cons name v Within.nil)
  refine wpAny_bind (wpAny_lookBehind hoD (by rw [hdD]; exact pastItsLine_dict (Nat.le_trans hcD (by rw [List.length_cons, List.length_nil, sizeLine_eq]; omega))) ?_)
  refine wpAny_pure ?_
  refine h h' _ hp.objs.size ((hs.2 x hxs).trans (Heap.get?_update_self _ hx₁ rfl)) fun b ob hbx hb => (hs.2 b (Nat.ne_of_lt (Heap.lt_size hb))).trans ((Heap.get?_update_ne _ _ _ _ hbx).trans (Heap.get?_push_of_some _ hb))
end
-- B49
section
open Builtin Builtin.ObjectAttr PySem.F
abbrev excD (t dx : Addr) : Obj := { excO t with dict := some dx }
/-- the own error as it is raised -/
def RaisF (w : World) (E : Value → Shared → Prop) (v : Value) (s₁ : Shared) : Prop := ∃ a t dx, v = .ref a ∧ (hd.heap_39 w.params).In s₁.heap ∧ s₁.heap.get? a = some (excD t dx) ∧ E (.ref a) s₁
theorem Raise_F {w : World} {A : Around} {E : Value → Shared → Prop} {s : Shared} {env : Env} {e : Expr} {pos : Pos} {Q : Flow → Shared → Prop} (hh : A.handled = none)
    (h : wpAny (model PRG w) A (eval e env) (RaisF w E) E s) : wpAny (model PRG w) A (exec (.Raise (some e) none pos) env) Q E s := by
  show wpAny _ A (do standAt pos; raiseStmt env (some (do let v ← eval e env; standAt pos; pure v)) none) Q E s
  refine wpAny_bind (wpAny_standAt ?_)
  unfold raiseStmt
  dsimp only
  refine wpAny_bind (wpAny_bind (wpAny_mono h (fun v s₁ h₁ => wpAny_bind (wpAny_standAt (wpAny_pure ?_))) fun _ _ x => x))
  first | (refine foldG ?_; intro qG; obtain ⟨a, t, dx, rfl, X, ha, hE⟩ := h₁; k_unfold; clear qG) | obtain ⟨a, t, dx, rfl, X, ha, hE⟩ := h₁
  have hT : Looks (model PRG w) s₁.heap (typeOf (.ref a)) (.ref 44) := (Looks.ld ha).andThen .now
  have hi : Looks (model PRG w) s₁.heap (isInstance (.ref a) (.type "BaseException")) true := hT.andThen (faults_of X).bex
  refine wpAny_bind (wpAny_pure ?_)
  dsimp only
  refine wpAny_bind (wpAny_holding ?_)
  unfold excFromValue isExcClass
  refine wpAny_bind (wpAny_bind ?_)
  simp only [isType, loadHead]
  refine wpAny_bind (wpAny_loadPart ha (wpAny_pure ?_))
  simp only [Bool.false_eq_true, if_false]
  refine wpAny_pure ?_
  simp only [Bool.false_eq_true, if_false]
  refine wpAny_bind (hi.here ?_)
  simp only [if_true]
  refine wpAny_pure ?_
  refine wpAny_bind ?_
  refine wpAny_bind (wpAny_loadPart ha (wpAny_pure ?_))
  simp only [Bool.false_eq_true, if_false]
  have hT2 : Looks (model PRG w) s₁.heap (typeOf (.ref 44)) (.type "type") := looks_typeIn X rfl
  unfold raisedInstance
  refine wpAny_bind (wpAny_bind (hT.here (wpAny_bind (hT2.here ?_))))
  rw [if_pos (show (Value.type "type" == Value.type "type") = true by decide)]
  refine wpAny_pure ?_
  unfold setFlight raiseNew
  refine wpAny_bind (wpAny_bind (wpAny_field ha rfl (show (#[Value.ref t, .none, .none, .none, .bool false, .none] : Array Value)[1]? = some Value.none from rfl) ?_))
  rw [if_neg (show ¬ (Value.none != Value.none) = true by decide)]
  refine wpAny_pure (wpAny_bind (wpAny_handled ?_))
  rw [hh]
  first
    | exact wpAny_throw hE
    | exact wpAny_bind (wpAny_pure (wpAny_throw hE))

section
variable {w : World} {p : Program} {loose : List Str} {mean : ExcName → Option Value} {mg mb : Str → Option Value}
  {dp un : Nat} {gd : Option (List Code)} {cn : Str} {cs : Scope} {a : Addr} {ccd : Value} {cl : List (Str × Addr)} {outer : List Env} {A₀ : Around} {base h₀ : Heap} {L : Addr} {m : Str → Option Value} {news : Led} {s : Shared} {Q E : Value → Shared → Prop}

local macro_rules | `(tactic| walk_at "setAttr ref") => `(tactic| refine halt ?_)
theorem fault_K {msg : Str} {tm : Tok}
  (B : Below A₀ base outer h₀) (F : Fr h₀ L s.heap m) (X : (hd.heap_39 w.params).In h₀) (N : News h₀ L s.heap news) (T : Top p loose mean mg mb h₀) (hk : cs.kind = .function)
  (hd : dp + 2 < recursionLimit) (hu : un + 40 < cLine)
  (h : ∀ e t dx h' tk', Fr h₀ L h' m → News h₀ L h' ((e, excD t dx) :: news) → (∀ q ∈ news, q.1 ≠ e) → Q (.ref e) {s with heap := h', toks := tk'}) :
  wpAny (model PRG w) (ktrTop dp un gd cn cs L a ccd cl outer) (call (.ref 44) [.str msg tm]) Q E s := by
  first | (refine foldG ?_; intro qG; obtain ⟨hp, g0, d0, t0, os0⟩ := s; k_unfold; clear qG) | obtain ⟨hp, g0, d0, t0, os0⟩ := s
  dsimp only at F N h
  refine fault_call (X.keeps F.keep) (by simp [sizeLine_eq]) fun h1 e hm => ?_
  first | (refine foldG ?_; intro qG; obtain ⟨t, he, htn, ht⟩ := hm.there; k_unfold; clear qG) | obtain ⟨t, he, htn, ht⟩ := hm.there
  have heL : e ≠ L := fun q => by
    have hn := hm.new
    rw [q] at hn
    first | (refine foldG ?_; intro qG; obtain ⟨o, _, _, ho, _⟩ := F.ns; k_unfold; clear qG) | obtain ⟨o, _, _, ho, _⟩ := F.ns
    rw [hn] at ho; cases ho
  have he0 : h₀.get? e = none := by
    cases q : h₀.get? e with
    | none => rfl
    | some o => have := F.keep _ _ q; rw [hm.new] at this; cases this
  have F1 : Fr h₀ L h1 m := F.keeps hm.keeps
  have N1 : News h₀ L h1 ((e, excO t) :: news) := fun q hq => by
    rcases List.mem_cons.mp hq with rfl | hq
    · exact ⟨he, heL, he0⟩
    · exact ⟨hm.keeps _ _ (N q hq).1, (N q hq).2⟩
  k_dflt ktr_enter
  k_steps
  rename_i g2 L2 h2 FG2 F2 N2 B2 X2 T2
  refine Halt.out ?_
  have hn : ∀ q ∈ news, q.1 ≠ e := fun q hq z => by
    have := (N q hq).1
    rw [z, hm.new] at this; cases this
  have Xh : (Mine.hd.heap_39 w.params).In h2 := X2.keeps F2.keep
  have he2 := (N2 (e, excO t) (.head _))
  refine set_plain Xh (ox := excO t) (od := none) (C := 44) ⟨he2.1, rfl, rfl, trivial⟩ rfl ?_
  refine osa_exc Xh he2.1 rfl ?_
  intro h3 tk3 dx hx3 hk3
  have F3 : Fr g2 L2 h3 _ := ⟨by
      first | (refine foldG ?_; intro qG; obtain ⟨o, es, ep, ho, r⟩ := F2.ns; k_unfold; clear qG) | obtain ⟨o, es, ep, ho, r⟩ := F2.ns
      exact ⟨o, es, ep, hk3 _ _ (Ne.symm he2.2.1) ho, r⟩, fun b o q => hk3 b o (fun z => by rw [z, he2.2.2] at q; cases q) (F2.keep b o q), F2.above⟩
  have N3 : News g2 L2 h3 ((e, excD t dx) :: news) := fun q hq => by
    rcases List.mem_cons.mp hq with rfl | hq
    · exact ⟨hx3, he2.2⟩
    · exact ⟨hk3 _ _ (hn q hq) (N2 q (.tail _ hq)).1, (N2 q (.tail _ hq)).2⟩
  clear F2 N2 Xh he2
  dsimp only
  k_steps
  rename Fr h₀ _ _ _ => kF
  rename News h₀ _ _ _ => kN
  exact h e t dx _ _ kF kN hn
end
end
theorem rst23 : True ∧ True := by
  w_top off
  first
  | (walk1; done)
  | exact ⟨trivial, trivial⟩
-- B50
section
variable {M : Model} {A : Around} {E : Value → Shared → Prop} {s' : Shared} {base g g₂ : Heap} {outer : List Env} {L e t dx : Addr} {m : Str → Option Value} {env : Env} {Q : Unit → Shared → Prop} {news : Led}
theorem hide_one {h : Heap} {a b : Addr} {o : Obj} (hb : h.get? b = some o) (hne : b ≠ a) : (hideAll h [a]).get? b = some o := hideAll_get _ hb fun q => hne (List.mem_singleton.mp q)
theorem leave_F (K : Below A base outer g) (hf : env.frame = some L) (hk : env.scope.kind = .function) (F : Fr g L s'.heap m) (N : News g L s'.heap ((e, excD t dx) :: news)) (hn : ∀ q ∈ news, q.1 ≠ e)
    (hQ : ∀ h', RaisedN base outer e (.ref 44) news h' → g.UpToSlots h' → Q () { s' with heap := h' }) :
    wpAny M (A.deeper env) (leaving env (.ref e)) Q E s' := by
  have he := N (e, excD t dx) (.head _)
  have Fh : Fr g L (hideAll s'.heap [e]) m := ⟨by
      first | (refine foldG ?_; intro qG; obtain ⟨o, es, ep, ho, r⟩ := F.ns; k_unfold; clear qG) | obtain ⟨o, es, ep, ho, r⟩ := F.ns
      exact ⟨o, es, ep, hide_one ho (Ne.symm he.2.1), r⟩, fun b o q => hide_one (F.keep b o q) (fun z => by rw [z, he.2.2] at q; cases q), F.above⟩
  have Nh : News g L (hideAll s'.heap [e]) news := fun q hq => ⟨hide_one (N q (.tail _ hq)).1 (hn q hq), (N q (.tail _ hq)).2⟩
  have K' := pushX K Fh hf hk
  have hin : ∀ env' ∈ (env :: outer), ∀ b, env'.frame = some b → b ∈ (env :: outer).filterMap (·.frame) := fun env' he b hb => List.mem_filterMap.mpr ⟨env', he, hb⟩
  have st : base.StaysIn (hideAll (hideAll s'.heap [e]) ((env :: outer).filterMap (·.frame))) := fun b o q => hideAll_get _ (K'.stays b o q) fun hm => by
    rw [(K'.frames.mem hm).1] at q; cases q
  have hl : ∀ q ∈ news, (hideAll (hideAll s'.heap [e]) ((env :: outer).filterMap (·.frame))).get? q.1 = some q.2 ∧ base.get? q.1 = none := fun q hq => by
    refine ⟨hideAll_get _ (Nh q hq).1 fun hm => ?_, fresh_of_stays K.stays (Nh q hq).2.2⟩
    first | (refine foldG ?_; intro qG; obtain ⟨env', he, hf'⟩ := List.mem_filterMap.mp hm; k_unfold; clear qG) | obtain ⟨env', he, hf'⟩ := List.mem_filterMap.mp hm
    rcases List.mem_cons.mp he with rfl | he
    · rw [hf] at hf'; exact (Nh q hq).2.1 (Option.some.inj hf').symm
    · first | (refine foldG ?_; intro qG; obtain ⟨o, ho, _⟩ := (K.frames.mem (List.mem_filterMap.mpr ⟨env', he, hf'⟩)).2; k_unfold; clear qG) | obtain ⟨o, ho, _⟩ := (K.frames.mem (List.mem_filterMap.mpr ⟨env', he, hf'⟩)).2
      rw [(Nh q hq).2.2] at ho; cases ho
  have hen : (hideAll (hideAll s'.heap [e]) ((env :: outer).filterMap (·.frame))).get? e = none := by
    cases q : (hideAll (hideAll s'.heap [e]) ((env :: outer).filterMap (·.frame))).get? e with
    | none => rfl
    | some o => have := of_hideAll _ q; rw [hideAll_none _ (.head _)] at this; cases this
  refine wpAny_leaving_firstW (a0 := .ref t) K'.stack ((funFrames_hide K'.frames hin).of_keeps fun b o hb _ => ⟨o, of_hideAll _ hb, rfl⟩) hf he.1 (fun b o hb => of_hideAll _ (of_hideAll _ hb)) hen rfl rfl rfl fun h' hL => ?_
  first | (refine foldG ?_; intro qG; obtain ⟨k1, ⟨_, _, k2⟩, k3, k4⟩ := hL; k_unfold; clear qG) | obtain ⟨k1, ⟨_, _, k2⟩, k3, k4⟩ := hL
  exact hQ h' ⟨_, .ref t, st, hl, k1, hen, k2, k3⟩ ((Heap.UpToSlots.of_keeps F.keep).trans k4)
theorem leave_onF {cls : Value} (K : Below A base outer g) (hf : env.frame = some L) (F : Fr g L g₂ m) (R : RaisedN base (env :: outer) e cls news s'.heap) (hsm : g₂.UpToSlots s'.heap)
    (hQ : ∀ h', RaisedN base outer e cls news h' → g.UpToSlots h' → Q () { s' with heap := h' }) :
    wpAny M (A.deeper env) (leaving env (.ref e)) Q E s' := by
  first | (refine foldG ?_; intro qG; obtain ⟨B, a0, hB, hl, hfl⟩ := R; k_unfold; clear qG) | obtain ⟨B, a0, hB, hl, hfl⟩ := R
  exact wpAny_leaves_onW (Around.frames_deeper K.stack) hf hfl fun h' x1 x2 => hQ h' ⟨B, a0, hB, hl, x1⟩ ((Heap.UpToSlots.of_keeps F.keep).trans (hsm.trans x2))
end
-- B51
section
section
variable {w : World} {p : Program} {loose : List Str} {mean : ExcName → Option Value} {mg mb : Str → Option Value}
  {dp un : Nat} {gd : Option (List Code)} {cn : Str} {cs : Scope} {a : Addr} {ccd : Value} {cl : List (Str × Addr)} {outer : List Env} {A₀ : Around} {base h₀ : Heap} {L : Addr} {m : Str → Option Value} {news : Led} {s : Shared} {Q E : Value → Shared → Prop}

local macro_rules | `(tactic| walk_at "exec Raise some none") => `(tactic| refine halt ?_)
local macro_rules | `(tactic| walk_at "leaving ref") => `(tactic| refine halt ?_)
local macro_rules | `(tactic| walk_at "call ref") => `(tactic| ((with_reducible show wpAny _ _ (call (Value.ref 44) _) _ _ _); refine halt ?_))
theorem halves0_K {t : Addr} {tm : Tok}
  (B : Below A₀ base outer h₀) (F : Fr h₀ L s.heap m) (X : (hd.heap_39 w.params).In h₀) (N : News h₀ L s.heap news) (T : Top p loose mean mg mb h₀) (hk : cs.kind = .function)
  (hd : dp + 3 < recursionLimit) (hu : un + 200 < cLine)
  (hE : ∀ e h' tk' g₂, Fr h₀ L g₂ m → RaisedN base (envX cn cs L a ccd cl :: outer) e (.ref 44) news h' → g₂.UpToSlots h' → E (.ref e) { s with heap := h', toks := tk' }) :
  wpAny (model PRG w) (ktrTop dp un gd cn cs L a ccd cl outer) (call (.ref 60) [.ref t, .int 0 tm]) Q E s := by
  refine wpAny_call ?_
  k_dflt ktr_enter
  rename_i g' L' h' FG' F' N' B' X' T'
  k_steps
  refine Halt.out ?_
  refine' Raise_F ?hh ?_
  case hh => exact rfl
  k_steps
  refine Halt.out ?_
  k_dflt (refine' fault_K ?k1 ?k2 ?k3 ?k4 ?k5 ?kK ?kd ?kv ?_; (case k1 => k_asm); (case k2 => k_asm); (case k3 => k_asm); (case k4 => k_asm); (case k5 => k_asm); (case kK => first | exact rfl | assumption); (case kd => ktr_room); (case kv => ktr_units))
  intro e t' dx h2 tk2 F2 N2 hn
  refine ⟨e, t', dx, rfl, X'.keeps F2.keep, (N2 _ (.head _)).1, ?_⟩
  dsimp only
  k_steps
  refine Halt.out ?_
  refine leave_F B' rfl rfl F2 N2 hn ?_
  intro h3 R3 U3
  exact hE _ _ _ _ FG' R3 U3

theorem tilesX_K {wd ht sz : Int} {tw th ts : Tok}
  (B : Below A₀ base outer h₀) (F : Fr h₀ L s.heap m) (X : (hd.heap_39 w.params).In h₀) (N : News h₀ L s.heap news) (T : Top p loose mean mg mb h₀) (hk : cs.kind = .function)
  (hbad : wd < 0 ∨ sz < 1)
  (hd : dp + 3 < recursionLimit) (hu : un + 200 < cLine)
  (hE : ∀ e h' tk' g₂, Fr h₀ L g₂ m → RaisedN base (envX cn cs L a ccd cl :: outer) e (.ref 44) news h' → g₂.UpToSlots h' → E (.ref e) { s with heap := h', toks := tk' }) :
  wpAny (model PRG w) (ktrTop dp un gd cn cs L a ccd cl outer) (call (.ref 53) [.int wd tw, .int ht th, .int sz ts]) Q E s := by
  refine wpAny_call ?_
  k_dflt ktr_enter
  rename_i g' L' h' FG' F' N' B' X' T'
  rcases hbad with hbad | hbad
  all_goals k_steps
  all_goals (
    refine Halt.out ?_
    refine' Raise_F ?hh ?_
    case hh => exact rfl
    k_steps
    refine Halt.out ?_
    k_dflt (refine' fault_K ?k1 ?k2 ?k3 ?k4 ?k5 ?kK ?kd ?kv ?_; (case k1 => k_asm); (case k2 => k_asm); (case k3 => k_asm); (case k4 => k_asm); (case k5 => k_asm); (case kK => first | exact rfl | assumption); (case kd => ktr_room); (case kv => ktr_units))
    intro e t' dx h2 tk2 F2 N2 hn
    refine ⟨e, t', dx, rfl, X'.keeps F2.keep, (N2 _ (.head _)).1, ?_⟩
    dsimp only
    k_steps
    refine Halt.out ?_
    refine leave_F B' rfl rfl F2 N2 hn ?_
    intro h3 R3 U3
    exact hE _ _ _ _ FG' R3 U3)
end
end
theorem rst24 : True ∧ True := by
  w_top off
  first
  | (walk1; done)
  | exact ⟨trivial, trivial⟩
-- B52
section
variable {w : World} {A : Around} {E : Value → Shared → Prop} {s : Shared} {h₀ : Heap} {L e : Addr} {m : Str → Option Value} {news : Led} {env : Env}
theorem excMatches_F {ob : Obj} {Q : Bool → Shared → Prop} (X : (hd.heap_39 w.params).In s.heap) (ha : s.heap.get? e = some ob) (hc : ob.cls = .ref 44) (h : Q true s) :
    wpAny (model PRG w) A (excMatches (.ref e) (.ref 44)) Q E s := by
  first | (refine foldG ?_; intro qG; obtain ⟨hp, g, d, t, os⟩ := s; k_unfold; clear qG) | obtain ⟨hp, g, d, t, os⟩ := s
  dsimp only at X ha h
  first | (refine foldG ?_; intro qG; obtain ⟨⟨oc, od, cd, sl, hC, e1, e2, e4⟩, made, base, self, exc, bex, att, nam, call, typ⟩ := faults_of (M := model PRG w) X; k_unfold; clear qG) | obtain ⟨⟨oc, od, cd, sl, hC, e1, e2, e4⟩, made, base, self, exc, bex, att, nam, call, typ⟩ := faults_of (M := model PRG w) X
  have hT2 : Looks (model PRG w) hp (typeOf (.ref 44)) (.type "type") := looks_typeIn X rfl
  have f : Looks (model PRG w) hp (isSubtype (.type "type") (.type "tuple")) false := Looks.of_pure tc_notTuple
  have hi : Looks (model PRG w) hp (isInstance (.ref 44) (.type "tuple")) false := hT2.andThen f
  have te : Looks (model PRG w) hp (typeOf (.ref e)) (.ref 44) := by rw [← hc]; exact (Looks.ld ha).andThen .now
  have ec : Looks (model PRG w) hp (isType (.ref 44)) true := by
    simp only [isType, loadHead]
    exact (Looks.ld hC).andThen .now
  unfold excMatches isExcClass
  repeat (first | simp only [Bool.false_eq_true, if_false, if_true, Bool.not_true] | rw [List.forIn_cons] | rw [List.forIn_nil] | lk | wp_step)
  exact h
theorem caught_F {outer : List Env} {h : Heap} {x : Str} {np pos : Pos} {b₀ : Stmt} {suite : List Stmt} {rest : List ExceptHandler} {Q : Flow → Shared → Prop} (hAf : A.frames = some (env :: outer)) (hf : env.frame = some L) (F : Fr h₀ L h m) (hsm : h.UpToSlots s.heap)
    (R : RaisedN h₀ (env :: outer) e (.ref 44) news s.heap) (X : (hd.heap_39 w.params).In h₀)
    (hname : ∀ h', Fr h₀ L h' m → (hd.heap_39 w.params).In h' → wpAny (model PRG w) (A.mark (some (.ref e))) (eval (.Name x np) env) (fun c s₁ => c = .ref 44 ∧ s₁ = { s with heap := h' }) (fun _ _ => False) { s with heap := h' })
    (k : ∀ h', Fr h₀ L h' m → News h₀ L h' news → h.UpToSlots h' → (∀ q ∈ news, ∀ env' ∈ env :: outer, env'.frame ≠ some q.1) → wpAny (model PRG w) (A.mark (some (.ref e))) (execs (b₀ :: suite) env) Q (fun _ _ => False) { s with heap := h' }) :
    wpAny (model PRG w) A (noteFrame (.ref e) env) (fun _ s₂ => wpAny (model PRG w) A (setFlight (.ref e) none) (fun _ s₃ =>
        wpAny (model PRG w) A (handleBy (.ref e) env (.ExceptHandler (some (.Name x np)) none (b₀ :: suite) pos :: rest)) Q E s₃) E s₂) E s := by
  first | (refine foldG ?_; intro qG; obtain ⟨B, a0, hB, hl, hfl⟩ := R; k_unfold; clear qG) | obtain ⟨B, a0, hB, hl, hfl⟩ := R
  have hL : B.get? L = none := by
    first | (refine foldG ?_; intro qG; obtain ⟨_, ⟨L', _, hf', hn', _⟩, _⟩ := hfl.2.2.1; k_unfold; clear qG) | obtain ⟨_, ⟨L', _, hf', hn', _⟩, _⟩ := hfl.2.2.1
    obtain rfl : L = L' := Option.some.inj (hf.symm.trans hf')
    exact hn'
  refine wpAny_looks_onW hAf hf hfl fun h₄ hheld₄ hsm₄ => ?_
  refine wpAny_landsW hheld₄ fun h₅ hheld hsm₅' => ?_
  have hsm₅ := hsm₄.trans hsm₅'
  have hheld' := flyingW_base hB hheld
  have F₅ := F.of_stays hheld'.1 (hsm.trans hsm₅)
  have X₅ : (hd.heap_39 w.params).In h₅ := X.keeps hheld'.1
  first | (refine foldG ?_; intro qG; obtain ⟨ob, hob, hobc⟩ := hheld'.there; k_unfold; clear qG) | obtain ⟨ob, hob, hobc⟩ := hheld'.there
  refine wpAny_handleBy_cons (codeAny_handlers_test (wpAny_mono (hname h₅ F₅ X₅) (fun c s₁ h₁ => ?_) fun _ _ x => x.elim)) (by intro q; cases q)
  first | (refine foldG ?_; intro qG; obtain ⟨rfl, rfl⟩ := h₁; k_unfold; clear qG) | obtain ⟨rfl, rfl⟩ := h₁
  refine excMatches_F X₅ hob hobc ?_
  refine codeAny_handlers_suite ?_
  refine lands_againW hheld fun h₆ hfl₆ hsm₆ => ?_
  have F₆ := F.of_stays (flyingW_base hB hfl₆).1 ((hsm.trans hsm₅).trans hsm₆)
  exact wpAny_mono (k h₆ F₆ (fun q hq => ⟨hfl₆.1 _ _ (hl q hq).1, (fun z => by have := (hl q hq).1; rw [z, hL] at this; cases this), (hl q hq).2⟩) ((hsm.trans hsm₅).trans hsm₆) (fun q hq env' he hf' => by
    have z := (hfl.2.2.1.mem (List.mem_filterMap.mpr ⟨env', he, hf'⟩)).1
    rw [(hl q hq).1] at z; cases z)) (fun _ _ q => q) fun _ _ x => x.elim
end
-- B53
section
section
variable {w : World} {p : Program} {loose : List Str} {mean : ExcName → Option Value} {mg mb : Str → Option Value}
  {dp un : Nat} {gd : Option (List Code)} {cn : Str} {cs : Scope} {a : Addr} {ccd : Value} {cl : List (Str × Addr)} {outer : List Env} {A₀ : Around} {base h₀ : Heap} {L : Addr} {m : Str → Option Value} {news : Led} {s : Shared} {Q E : Value → Shared → Prop}

theorem code_two {K : Frag} {A : Around} {env : Env} {R : Result → Shared → Prop} {name qual : Str} {params : Arguments} {body : List Stmt} {scope : Scope} {dV kV doc pm cdv ct oc : Value} {an od : Option Addr} {osl : Array (Option Value)} {f : Addr} {args : Args} {binds : List (Str × Value)}
    (B : Below A₀ base outer h₀) (F : Fr h₀ L s.heap m) (X₀ : K.In h₀) (N : News h₀ L s.heap news) (T : Top p loose mean mg mb h₀) (hA : A.frames = some (env :: outer)) (hf : env.frame = some L) (hke : env.scope.kind = .function)
    (ho : K.lookup f = some ⟨oc, od, .func (fnOf name qual params body scope dV kV doc pm an cdv ct), osl⟩) (hcd : codeIn K cdv qual = true) (hroom : A.depth < recursionLimit)
    (hbind : BindsTo s (fnOf name qual params body scope dV kV doc pm an cdv ct) args binds) (hloc : ∀ y ∈ binds, scope.names.lookup y.1 = some .local)
    (h : ∀ g L' h₁, Fr h₀ L g m → Fr g L' h₁ (fun y => binds.reverse.lookup y) → News g L' h₁ news → Below A base (env :: outer) g → K.In g → Top p loose mean mg mb g → h₀.StaysIn g → h₀.objs.size ≤ L' →
      wpAny (model PRG w) (A.deeper (envOf qual scope L' f cdv)) (execs body (envOf qual scope L' f cdv))
        (fun fl s' => R (.ok (.ret (match fl with | .ret v => v | _ => .none))) s')
        (fun e s' => wpAny (model PRG w) (A.deeper (envOf qual scope L' f cdv)) (leaving (envOf qual scope L' f cdv) e) (fun _ s'' => R (.error e) s'') (fun e' s'' => R (.error e') s'') s')
        { s with heap := h₁, toks := s.toks + binds.length })
    (hco : scope.isCoroutine = false) (hgen : scope.isGenerator = false) (hk : scope.kind = .function)
    (hcell : ∀ x ∈ scope.names, x.2 ≠ .cell) : codeAny (model PRG w) A (.call (.ref f) args) R s := by
  first | (refine foldG ?_; intro qG; obtain ⟨FG, BG, st, lv⟩ := groundX (R := R) B F N hA hf hke; k_unfold; clear qG) | obtain ⟨FG, BG, st, lv⟩ := groundX (R := R) B F N hA hf hke
  refine codeAny_call_def (fd := fnX name qual params body scope [] dV kV doc pm an cdv ct) (body := body) (binds := binds) hroom ((X₀.keeps F.keep) _ _ ho) rfl (T.nolimit.keeps F.keep) (codeRec_of (X₀.keeps F.keep) hcd) rfl hbind hcell hloc (fun h₁ hns hk₁ => ?_) hco hgen hk
  exact h _ s.heap.objs.size h₁ FG ⟨hns, fun b o e => hk₁ b o (of_hideAll _ e), Nat.le_of_eq (hideAll_size _ _)⟩
    (fun p hp => ⟨hk₁ _ _ (N p hp).1, Nat.ne_of_lt (Heap.lt_size (N p hp).1), hideAll_none _ (List.mem_map_of_mem hp)⟩) BG (X₀.keeps st) (T.keeps st) st (Nat.le_trans F.above (Nat.le_of_lt F.ns.lt))
/-- a call that ends by the own error, whoever calls -/
def Refuses (w : World) (p : Program) (loose : List Str) (mean : ExcName → Option Value) (mg mb : Str → Option Value) (f : Addr) (news : Led) (P : Led → Prop) : Prop :=
  ∀ (dp un : Nat) (gd : Option (List Code)) (cn : Str) (cs : Scope) (a : Addr) (ccd : Value) (cl : List (Str × Addr)) (outer : List Env) (A₀ : Around) (base h₀ : Heap) (L : Addr) (m : Str → Option Value) (s : Shared) (E : Value → Shared → Prop),
    Below A₀ base outer h₀ → Fr h₀ L s.heap m → (hd.heap_39 w.params).In h₀ → News h₀ L s.heap news → Top p loose mean mg mb h₀ → cs.kind = .function → dp + 6 < recursionLimit → un + 300 < cLine →
    (∀ e h' tk' g₂ news', P news' → Fr h₀ L g₂ m → RaisedN base (envX cn cs L a ccd cl :: outer) e (.ref 44) news' h' → g₂.UpToSlots h' → E (.ref e) { s with heap := h', toks := tk' }) →
    wpAny (model PRG w) (ktrTop dp un gd cn cs L a ccd cl outer) (call (.ref f) []) (fun _ _ => False) E s
theorem Refuses.use {f : Addr} {P : Led → Prop} (Rf : Refuses w p loose mean mg mb f news P)
  (B : Below A₀ base outer h₀) (F : Fr h₀ L s.heap m) (X : (hd.heap_39 w.params).In h₀) (N : News h₀ L s.heap news) (T : Top p loose mean mg mb h₀) (hk : cs.kind = .function) (hd : dp + 6 < recursionLimit) (hu : un + 300 < cLine)
  (h : ∀ e h' tk' g₂ news', P news' → Fr h₀ L g₂ m → RaisedN base (envX cn cs L a ccd cl :: outer) e (.ref 44) news' h' → g₂.UpToSlots h' → E (.ref e) { s with heap := h', toks := tk' }) :
  wpAny (model PRG w) (ktrTop dp un gd cn cs L a ccd cl outer) (call (.ref f) []) Q E s := wpAny_mono (Rf _ _ _ _ _ _ _ _ _ _ _ _ _ _ _ _ B F X N T hk hd hu h) (fun _ _ x => x.elim) (fun _ _ x => x)
local macro_rules | `(tactic| walk_at "exec Try") => `(tactic| refine halt ?_)
local macro_rules | `(tactic| walk_at "call ref") => `(tactic| refine halt ?_)
theorem refused_K {f : Addr} {P : Led → Prop} {oc : Value} {od : Option Addr} {fd : FuncData} {sl : Array (Option Value)} (hfn : (f, (⟨oc, od, .func fd, sl⟩ : Obj)) ∈ news) (Rf : Refuses w p loose mean mg mb f news P)
  (B : Below A₀ h₀ [] h₀) (F : Fr h₀ L s.heap m) (X : (hd.heap_39 w.params).In h₀) (N : News h₀ L s.heap news) (T : Top p loose mean mg mb h₀) (hk : cs.kind = .function)
  (hd : dp + 8 < recursionLimit) (hu : un + 400 < cLine)
  (h : ∀ h' tk' news', P news' → Fr h₀ L h' m → News h₀ L h' news' → Q (.bool true) { s with heap := h', toks := tk' }) :
  wpAny (model PRG w) (ktrTop dp un gd cn cs L a ccd cl []) (call (.ref 154) [.ref f]) Q E s := by
  refine wpAny_call ?_
  (refine' code_two ?k1 ?k2 ?k3 ?k4 ?k5 ?kA ?kF ?kK ?k6 ?k7 ?k8 ?k9 ?kB ?_ ?c2 ?c3 ?c4 ?c5; (case kA => exact rfl); (case kF => exact rfl); (case kK => assumption); (case k1 => k_asm); (case k2 => k_asm); (case k3 => k_asm); (case k4 => k_asm); (case k5 => k_asm); (case k6 => k_is); (case k7 => k_is); (case k8 => ktr_room); (case k9 => exact BindsTo.of_eq rfl); (case c5 => decide); (case kB => exact locs rfl); (case c2 => exact rfl); (case c3 => exact rfl); (case c4 => exact rfl))
  intro g L' h₁ FG F' N' B' X' T' st hL'
  dsimp only
  k_steps
  refine Halt.out ?_
  refine wpAny_Try_except ?_
  k_steps
  refine callWith_F0 (FnAt.of N' hfn) ?_
  dsimp only [List.nil_append, List.append_nil]
  k_dflt (refine' Refuses.use Rf ?k1 ?k2 ?k3 ?k4 ?k5 ?kK ?kd ?kv ?_; (case k1 => k_asm); (case k2 => k_asm); (case k3 => k_asm); (case k4 => k_asm); (case k5 => k_asm); (case kK => first | exact rfl | assumption); (case kd => ktr_room); (case kv => ktr_units))
  intro e h2 tk2 g2 news2 hP F2 R2 U2
  dsimp only
  refine caught_F (h := g2) rfl rfl ⟨F2.ns, fun b o q => F2.keep b o (st b o q), hL'⟩ U2 R2 X ?_ ?_
  · intro h3 F3 X3
    k_steps
  · intro h3 F3 N3 U3 hfr
    have Fc : Fr h₀ L h3 m := ⟨U3.ns (FG.ns.keeps F2.keep), F3.keep, F.above⟩
    have Nc : News h₀ L h3 news2 := fun q hq => ⟨(N3 q hq).1, fun z => hfr q hq _ (.tail _ (.head _)) (by rw [z]), (N3 q hq).2.2⟩
    dsimp only
    k_steps
    exact h h3 tk2 news2 hP Fc Nc
end
end
theorem rst25 : True ∧ True := by
  w_top off
  first
  | (walk1; done)
  | exact ⟨trivial, trivial⟩
-- B56
section
variable {w : World} {p : Program} {loose : List Str} {mean : ExcName → Option Value} {mg mb : Str → Option Value}
  {dp un : Nat} {gd : Option (List Code)} {cn : Str} {cs : Scope} {a : Addr} {ccd : Value} {cl : List (Str × Addr)} {outer : List Env} {A₀ : Around} {base h₀ : Heap} {L : Addr} {m : Str → Option Value} {news : Led} {s : Shared} {Q E : Value → Shared → Prop}

end
theorem dots_twoZ (x y : Int) (w h : Nat) : ∀ r ∈ dotsOf x y w h, r.length = 2 := by
  intro r hr
  rw [dotsOf] at hr
  obtain ⟨j, _, hr⟩ := List.mem_flatMap.mp hr
  rw [dotRow] at hr
  obtain ⟨i, _, rfl⟩ := List.mem_map.mp hr
  rfl
theorem dotsR_two (q : List Int) : ∀ r ∈ dotsR q, r.length = 2 := dots_twoZ _ _ _ _
def SortsTo (rows out : List (List Int)) : Prop := (rows.length < 2 ∧ out = rows) ∨ (2 ≤ rows.length ∧ ∃ p, sortRun rows = some p ∧ (∀ i ∈ p.toList, i < rows.length) ∧ p.toList.map (fun i => rows.getD i []) = out)
theorem sort_same {most x y w h : Int} (hm : 1 ≤ most) (hm5 : most ≤ 5) (hw : 0 ≤ w) (hw6 : w ≤ 6) (hh : 0 ≤ h) (hh6 : h ≤ 6) :
    ∃ out, SortsTo ((hvR most [x, y, w, h]).flatMap dotsR) out ∧ SortsTo (dotsOf x y w.toNat h.toNat) out ∧ ((hvR most [x, y, w, h]).flatMap dotsR).length ≤ 36 ∧ (dotsOf x y w.toNat h.toNat).length ≤ 36 := by
  obtain ⟨a, b, c, d⟩ := sort_law (x := x) (y := y) hm hm5 hw hw6 hh hh6
  by_cases hl : (dotsOf x y w.toNat h.toNat).length < 2
  · exact ⟨_, .inl ⟨by omega, (c hl).symm⟩, .inl ⟨hl, rfl⟩, by omega, b⟩
  · obtain ⟨p, q, out, h1, h2, h3, h4, h5, h6⟩ := d (by omega)
    exact ⟨out, .inr ⟨by omega, p, h1, h3, h5⟩, .inr ⟨by omega, q, h2, h4, h6⟩, by omega, b⟩
section
variable {prog : Program} {w : World} {A : Around} {E : Value → Shared → Prop} {s : Shared} {h₀ : Heap} {L : Addr} {m : Str → Option Value} {news : Led}
theorem sorted_any {l : Addr} {vs : List Value} {k : Nat} {rows out : List (List Int)} {Q : Value → Shared → Prop} (F : Fr h₀ L s.heap m) (N : News h₀ L s.heap news) (hl : (l, listOf vs.toArray k) ∈ news) (hv : ITups news vs rows) (h2r : ∀ r ∈ rows, r.length = 2)
    (hso : SortsTo rows out) (h64 : rows.length < 64)
    (h : ∀ D us n h', Fr h₀ L h' m → News h₀ L h' ((D, listOf us.toArray n) :: news) → ITups news us out → Q (.ref D) { s with heap := h' }) :
    wpAny (model prog w) A (call (.builtin "sorted") [.ref l]) Q E s := by
  have hlen := hv.length
  rcases hso with ⟨h1, rfl⟩ | ⟨h1, p, h2, h3, h4⟩
  · exact sorted_short F N hl (by omega) fun D n h' F' N' => h D vs n h' F' N' hv
  · exact sorted_L F N hl hv h2r (by omega) (by omega) h2 h3 h4 h
end
-- B57
theorem RaisedN.sub {base : Heap} {l : List Env} {e : Addr} {cls : Value} {news news' : Led} {h : Heap} (R : RaisedN base l e cls news h) (hs : ∀ q ∈ news', q ∈ news) : RaisedN base l e cls news' h := by
  first | (refine foldG ?_; intro qG; obtain ⟨B, a0, hB, hl, hf⟩ := R; k_unfold; clear qG) | obtain ⟨B, a0, hB, hl, hf⟩ := R
  exact ⟨B, a0, hB, fun q hq => hl q (hs q hq), hf⟩

section
variable {w : World} {p : Program} {loose : List Str} {mean : ExcName → Option Value} {mg mb : Str → Option Value}
  {dp un : Nat} {gd : Option (List Code)} {cn : Str} {cs : Scope} {a : Addr} {ccd : Value} {cl : List (Str × Addr)} {outer : List Env} {A₀ : Around} {base h₀ : Heap} {L : Addr} {m : Str → Option Value} {news : Led} {s : Shared} {Q E : Value → Shared → Prop}

/-- a lambda's frame passes the error on -/
theorem Refuses.intro {f : Addr} {P : Led → Prop}
    (h : ∀ (dp un : Nat) (gd : Option (List Code)) (cn : Str) (cs : Scope) (a : Addr) (ccd : Value) (cl : List (Str × Addr)) (outer : List Env) (A₀ : Around) (base h₀ : Heap) (L : Addr) (m : Str → Option Value) (s : Shared) (E : Value → Shared → Prop),
      Below A₀ base outer h₀ → Fr h₀ L s.heap m → (hd.heap_39 w.params).In h₀ → News h₀ L s.heap news → Top p loose mean mg mb h₀ → cs.kind = .function → dp + 6 < recursionLimit → un + 300 < cLine →
      (∀ e h' tk' g₂ news', P news' → Fr h₀ L g₂ m → RaisedN base (envX cn cs L a ccd cl :: outer) e (.ref 44) news' h' → g₂.UpToSlots h' → E (.ref e) { s with heap := h', toks := tk' }) →
      wpAny (model PRG w) (ktrTop dp un gd cn cs L a ccd cl outer) (call (.ref f) []) (fun _ _ => False) E s) : Refuses w p loose mean mg mb f news P := h
end
-- B58
section
variable {w : World} {p : Program} {loose : List Str} {mean : ExcName → Option Value} {mg mb : Str → Option Value}
  {dp un : Nat} {gd : Option (List Code)} {cn : Str} {cs : Scope} {a : Addr} {ccd : Value} {cl : List (Str × Addr)} {outer : List Env} {A₀ : Around} {base h₀ : Heap} {L : Addr} {m : Str → Option Value} {news : Led} {s : Shared} {Q E : Value → Shared → Prop}

/-- a lambda whose body ends by the own error refuses -/
theorem Refuses.lam {f c' : Addr} {P : Led → Prop} {name qual : Str} {params : Arguments} {body : Expr} {scope : Scope} {cl : List (Str × Addr)} {pm ctv : Value} {oc : Obj} {vs : Array Value} {t : Tok}
    (ho : (f, kla_obj name qual params body scope cl pm c' ctv) ∈ news) (hoc : (c', oc) ∈ news) (hd : oc.data = .fields vs) (hv : vs[1]? = some (.str qual t))
    (hbind : bindArgs (kla_fn name qual params body scope cl pm (.ref c') ctv) ⟨[], []⟩ = pure []) (hco : scope.isCoroutine = false) (hgen : scope.isGenerator = false) (hk : scope.kind = .function) (hcell : ∀ x ∈ scope.names, x.2 ≠ .cell)
    (h : ∀ (dp un : Nat) (gd : Option (List Code)) (outer : List Env) (A₀ : Around) (base h₀ : Heap) (L : Addr) (s : Shared) (E : Value → Shared → Prop),
      Below A₀ base outer h₀ → Fr h₀ L s.heap (fun y => ([] : List (Str × Value)).reverse.lookup y) → (Mine.hd.heap_39 w.params).In h₀ → News h₀ L s.heap news → Top p loose mean mg mb h₀ → dp + 4 < recursionLimit → un + 250 < cLine →
      (∀ e h' tk' g₂ news', P news' → Fr h₀ L g₂ (fun y => ([] : List (Str × Value)).reverse.lookup y) → RaisedN base (envX qual scope L f (.ref c') cl :: outer) e (.ref 44) news' h' → g₂.UpToSlots h' → E (.ref e) { s with heap := h', toks := tk' }) →
      wpAny (model PRG w) (ktrTop dp un gd qual scope L f (.ref c') cl outer) (eval body (envX qual scope L f (.ref c') cl)) (fun _ _ => False) E s) :
    Refuses w p loose mean mg mb f news P := by
  refine Refuses.intro ?_
  intro dp un gd cn cs a ccd cl9 outer A₀ base h₀ L m s E B F X N T hk9 hd9 hu9 hE
  refine wpAny_call ?_
  refine kla_code B F X N T rfl rfl hk9 ho (codeRec_news N hoc hd hv) (show dp < recursionLimit by omega) hbind (fun y hy => nomatch hy) (fun g L' h₁ FG F' N' B' X' T' => ?_) hco hgen hk hcell
  refine wpAny_mono (h (dp + 1) (un + 3) gd _ _ base g L' _ B' F' X' N' T' (by omega) (by omega) (E := fun e s' => wpAny (model PRG w) ((ktrTop dp un gd cn cs L a ccd cl9 outer).deeper (envX qual scope L' f (.ref c') cl)) (leaving (envX qual scope L' f (.ref c') cl) e) (fun _ s'' => E e s'') (fun e' s'' => E e' s'') s') ?_) (fun _ _ z => z.elim) (fun _ _ z => z)
  intro e h' tk' g₂ news' hP F₂ R U
  refine leave_onF B' rfl F₂ R U fun h3 R3 U3 => ?_
  exact hE e h3 _ _ news' hP FG R3 U3
end
-- B59
section
variable {w : World} {p : Program} {loose : List Str} {mean : ExcName → Option Value} {mg mb : Str → Option Value}
  {dp un : Nat} {gd : Option (List Code)} {cn : Str} {cs : Scope} {a : Addr} {ccd : Value} {cl : List (Str × Addr)} {outer : List Env} {A₀ : Around} {base h₀ : Heap} {L : Addr} {m : Str → Option Value} {news : Led} {s : Shared} {Q E : Value → Shared → Prop}

end
/-- the tiles drawn so far -/
inductive Drawn : Led → List Value → Nat → Prop
  | nil : Drawn [] [] 0
  | snoc {tl : Led} {ys : List Value} {i : Nat} {q : Addr} {a b c d : Int} {t1 t2 t3 t4 : Tok} : Drawn tl ys i → -3 ≤ a → a < 4 → -3 ≤ b → b < 4 → 0 ≤ c → c < 4 → 0 ≤ d → d < 4 →
      Drawn ((q, tupO [.int a t1, .int b t2, .int c t3, .int d t4] 0) :: tl) (ys ++ [.ref q]) (i + 1)
theorem Drawn.tups {tl : Led} {ys : List Value} {i : Nat} (h : Drawn tl ys i) : IsTups tl := by
  induction h with
  | nil => exact IsTups.nil
  | snoc _ _ _ _ _ _ _ _ _ ih =>
    intro q hq
    rcases List.mem_cons.mp hq with rfl | hq
    · exact ⟨_, _, rfl⟩
    · exact ih q hq
theorem Drawn.len {tl : Led} {ys : List Value} {i : Nat} (h : Drawn tl ys i) : ys.length = i := by
  induction h with
  | nil => rfl
  | snoc _ _ _ _ _ _ _ _ _ ih => simp [ih]
inductive Three (tl : Led) (ys : List Value) : Prop
  | mk (q1 q2 q3 : Addr) (x1 y1 w1 h1 x2 y2 w2 h2 x3 y3 w3 h3 : Int) (a1 a2 a3 a4 b1 b2 b3 b4 c1 c2 c3 c4 : Tok)
    (ey : ys = [.ref q1, .ref q2, .ref q3]) (et : tl = [(q3, tupO [.int x3 c1, .int y3 c2, .int w3 c3, .int h3 c4] 0), (q2, tupO [.int x2 b1, .int y2 b2, .int w2 b3, .int h2 b4] 0), (q1, tupO [.int x1 a1, .int y1 a2, .int w1 a3, .int h1 a4] 0)])
    (e1 : (-3 ≤ x1 ∧ x1 < 4) ∧ (-3 ≤ y1 ∧ y1 < 4) ∧ (0 ≤ w1 ∧ w1 < 4) ∧ (0 ≤ h1 ∧ h1 < 4)) (e2 : (-3 ≤ x2 ∧ x2 < 4) ∧ (-3 ≤ y2 ∧ y2 < 4) ∧ (0 ≤ w2 ∧ w2 < 4) ∧ (0 ≤ h2 ∧ h2 < 4)) (e3 : (-3 ≤ x3 ∧ x3 < 4) ∧ (-3 ≤ y3 ∧ y3 < 4) ∧ (0 ≤ w3 ∧ w3 < 4) ∧ (0 ≤ h3 ∧ h3 < 4))
theorem Drawn.three {tl : Led} {ys : List Value} (h : Drawn tl ys 3) : Three tl ys := by
  cases h with
  | snoc h a1 a2 a3 a4 a5 a6 a7 a8 =>
    cases h with
    | snoc h b1 b2 b3 b4 b5 b6 b7 b8 =>
      cases h with
      | snoc h c1 c2 c3 c4 c5 c6 c7 c8 =>
        cases h
        exact .mk _ _ _ _ _ _ _ _ _ _ _ _ _ _ _ _ _ _ _ _ _ _ _ _ _ _ _ rfl rfl ⟨⟨c1, c2⟩, ⟨c3, c4⟩, ⟨c5, c6⟩, ⟨c7, c8⟩⟩ ⟨⟨b1, b2⟩, ⟨b3, b4⟩, ⟨b5, b6⟩, ⟨b7, b8⟩⟩ ⟨⟨a1, a2⟩, ⟨a3, a4⟩, ⟨a5, a6⟩, ⟨a7, a8⟩⟩
-- B60
theorem goOnG {prog : Program} {w : World} {A : Around} {E : Value → Shared → Prop} {s : Shared} {g hA : Heap} {L : Addr} {m : Str → Option Value} {news : Led} {Q : Flow → Shared → Prop} {t : Sem Flow} {P : Led → Prop} (_F : Fr g L hA m) (N : News g L s.heap news) (hP : P news)
    (h : ∀ n, P n → News g L s.heap n → wpAny (model prog w) A t (GoOn g L m n s) (fun _ _ => False) s) (k : ∀ h tk, Fr g L h m → News g L h news → Q .next { s with heap := h, toks := tk }) : wpAny (model prog w) A t Q E s :=
  wpAny_mono (h news hP N) (fun f s' hc => by
    obtain @⟨h, tk, F, N⟩ := hc
    exact k h tk F N) fun _ _ e => e.elim
inductive StB (g : Heap) (L src : Addr) (sn : Nat) (oD : Obj) (h : Heap) : Prop
  | mk (wd ht sd : Int) (tw th tz : Tok) (oW oH oZ oS : Obj) (x1 y1 : Int) (tx1 ty1 : Tok) (dS : oS.data = .cell (some (.ref src))) (dW : oW.data = .cell (some (.int wd tw))) (dH : oH.data = .cell (some (.int ht th))) (dZ : oZ.data = .cell (some (.int sd tz)))
    (b1 : 0 ≤ wd) (b2 : wd < 7) (b3 : 0 ≤ ht) (b4 : ht < 7) (b5 : 1 ≤ sd) (b6 : sd ≤ 4) (b7 : 0 ≤ x1) (b8 : 0 ≤ y1) (b9 : y1 < 2147483647)
    (N : News g L h ((src, listOf #[.int x1 tx1, .int y1 ty1] sn) :: (L + 1 + 1 + 1 + 1 + 1, oW) :: (L + 1 + 1 + 1 + 1, oD) :: (L + 1 + 1 + 1, oS) :: (L + 1 + 1, oZ) :: (L + 1, oH) :: (168, tabObj #[]) :: []))
inductive StC (g : Heap) (L src l : Addr) (sn : Nat) (oW oS oZ oH : Obj) (h : Heap) : Prop
  | mk (n9 : Led) (t : Addr) (px py pw ph : Int) (t1 t2 t3 t4 : Tok) (mo : Int) (tmo : Tok) (oT : Obj) (x2 y2 : Int) (tx2 ty2 : Tok) (dT : oT.data = .cell (some (.ref t))) (c1 : -2 ≤ px) (c2 : px ≤ 2) (c3 : -2 ≤ py) (c4 : py ≤ 2) (c5 : 0 ≤ pw) (c6 : pw ≤ 6) (c7 : 0 ≤ ph) (c8 : ph ≤ 5) (c9 : 1 ≤ mo) (ca : mo ≤ 5) (cb : 0 ≤ x2) (cc : 0 ≤ y2) (cd : y2 < 2147483647)
    (F : Fr g L h (fun y => if y = Str.ofString "most" then some (.int mo tmo) else if y = Str.ofString "script" then some (.ref l) else none))
    (mW : (L + 1 + 1 + 1 + 1 + 1, oW) ∈ n9) (mT : (L + 1 + 1 + 1 + 1, oT) ∈ n9) (mS : (L + 1 + 1 + 1, oS) ∈ n9) (mZ : (L + 1 + 1, oZ) ∈ n9) (mH : (L + 1, oH) ∈ n9) (mt : (t, tupO [.int px t1, .int py t2, .int pw t3, .int ph t4] 0) ∈ n9)
    (a168 : ∀ q ∈ n9, q.1 ≠ 168) (asr : ∀ q ∈ n9, q.1 ≠ src)
    (N : News g L h ((src, listOf #[.int x2 tx2, .int y2 ty2] sn) :: (168, tabObj #[]) :: n9))
theorem StC.of {g : Heap} {L src l : Addr} {sn : Nat} {oW oS oZ oH : Obj} {h : Heap} {t : Addr} {px py pw ph : Int} {t1 t2 t3 t4 : Tok} {mo : Int} {tmo : Tok} {oT : Obj} {x2 y2 : Int} {tx2 ty2 : Tok}
    (N : News g L h ((t, tupO [.int px t1, .int py t2, .int pw t3, .int ph t4] 0) :: (src, listOf #[.int x2 tx2, .int y2 ty2] sn) :: (L + 1 + 1 + 1 + 1 + 1, oW) :: (L + 1 + 1 + 1 + 1, oT) :: (L + 1 + 1 + 1, oS) :: (L + 1 + 1, oZ) :: (L + 1, oH) :: (168, tabObj #[]) :: []))
    (F : Fr g L h (fun y => if y = Str.ofString "most" then some (.int mo tmo) else if y = Str.ofString "script" then some (.ref l) else none))
    (dT : oT.data = .cell (some (.ref t))) (c1 : -2 ≤ px) (c2 : px ≤ 2) (c3 : -2 ≤ py) (c4 : py ≤ 2) (c5 : 0 ≤ pw) (c6 : pw ≤ 6) (c7 : 0 ≤ ph) (c8 : ph ≤ 5) (c9 : 1 ≤ mo) (ca : mo ≤ 5) (cb : 0 ≤ x2) (cc : 0 ≤ y2) (cd : y2 < 2147483647)
    (a0 : ∀ q ∈ [(L + 1 + 1 + 1 + 1 + 1, oW), (L + 1 + 1 + 1, oS), (L + 1 + 1, oZ), (L + 1, oH)], q.1 ≠ 168 ∧ q.1 ≠ src) (a1 : L + 1 + 1 + 1 + 1 ≠ 168) (a2 : L + 1 + 1 + 1 + 1 ≠ src) : StC g L src l sn oW oS oZ oH h := by
  have nt0 : t ≠ 168 := News.twoPlaces N (.head _) (.tail _ (.tail _ (.tail _ (.tail _ (.tail _ (.tail _ (.tail _ (.head _)))))))) fun e => absurd (congrArg Obj.cls e) (by show Value.type "tuple" ≠ Value.none; decide)
  have nts : t ≠ src := News.twoPlaces N (.head _) (.tail _ (.head _)) fun e => absurd (congrArg Obj.cls e) (by show Value.type "tuple" ≠ Value.type "list"; decide)
  exact .mk ((t, tupO [.int px t1, .int py t2, .int pw t3, .int ph t4] 0) :: (L + 1 + 1 + 1 + 1, oT) :: [(L + 1 + 1 + 1 + 1 + 1, oW), (L + 1 + 1 + 1, oS), (L + 1 + 1, oZ), (L + 1, oH)]) t px py pw ph t1 t2 t3 t4 mo tmo oT x2 y2 tx2 ty2 dT c1 c2 c3 c4 c5 c6 c7 c8 c9 ca cb cc cd F
    (by k_mem) (by k_mem) (by k_mem) (by k_mem) (by k_mem) (by k_mem) (List.forall_mem_cons.mpr ⟨nt0, List.forall_mem_cons.mpr ⟨a1, fun q hq => (a0 q hq).1⟩⟩) (List.forall_mem_cons.mpr ⟨nts, List.forall_mem_cons.mpr ⟨a2, fun q hq => (a0 q hq).2⟩⟩) (newsSub N (by k_sub))
-- B61
section
variable {w : World} {p : Program} {loose : List Str} {mean : ExcName → Option Value} {mg mb : Str → Option Value}
  {dp un : Nat} {gd : Option (List Code)} {cn : Str} {cs : Scope} {a : Addr} {ccd : Value} {cl : List (Str × Addr)} {outer : List Env} {A₀ : Around} {base h₀ : Heap} {L : Addr} {m : Str → Option Value} {news : Led} {s : Shared} {Q E : Value → Shared → Prop}

theorem boxN_K {grain : Int} {tg : Tok}
  (B : Below A₀ base outer h₀) (F : Fr h₀ L s.heap m) (X : (hd.heap_39 w.params).In h₀) (N : News h₀ L s.heap news) (T : Top p loose mean mg mb h₀) (hk : cs.kind = .function)
  (hd : dp + 1 < recursionLimit) (hu : un + 20 < cLine)
  (h : ∀ h' tk', Fr h₀ L h' m → News h₀ L h' news → Q .none {s with heap := h', toks := tk'}) :
  wpAny (model PRG w) (ktrTop dp un gd cn cs L a ccd cl outer) (call (.ref 100) [.none, .int grain tg]) Q E s := by
  refine wpAny_call ?_
  k_dflt ktr_enter
  k_steps
  rename Fr _ _ _ _ => kF
  rename News _ _ _ _ => kN
  exact h _ _ kF kN
end
-- B63
noncomputable def lawStmt (i : Nat) : Stmt := (fB (stm 23)).getD i (.Pass default)
noncomputable def lawRest : List Stmt := (fB (stm 23)).drop 8
noncomputable def lawScope : Scope := by
  refine (?f : (x : Scope) → fS (stm 23) = x → Scope) _ (by (conv => lhs; whnf) <;> rfl)
  case f => exact fun x _ => x
-- B42
section
local macro_rules | `(tactic| k_steps) => `(tactic| repeat' (first | (k_unfold; (try (rename (Flow → Shared → Prop) => q8; clear q8)); (try (rename (Value → Shared → Prop) => q8; clear q8)); (try dsimp only)) | (k_end; kc_close) | walk1 | (dsimp only; walk1) | (leave1; walk_say "STEP leave1"; (try dsimp only)) | fail "no step"))
local macro_rules | `(tactic| walk_at "exec Assign") => `(tactic| ((fail_if_success (fail_if_success k_fold)); refine foldL ?_; intro qk; walk1))
local macro_rules | `(tactic| walk_at "exec Expr") => `(tactic| ((fail_if_success (fail_if_success k_fold)); refine foldL ?_; intro qk; walk1))
local macro_rules | `(tactic| walk_at "exec If") => `(tactic| ((fail_if_success (fail_if_success k_fold)); refine foldL ?_; intro qk; walk1))
local macro_rules | `(tactic| walk_at "exec Return") => `(tactic| ((fail_if_success (fail_if_success k_fold)); refine foldL ?_; intro qk; walk1))
local macro_rules | `(tactic| walk_at "eval BinOp") => `(tactic| ((fail_if_success (fail_if_success k_fold)); refine foldL ?_; intro qk; walk1))
local macro_rules | `(tactic| walk_at "eval Call") => `(tactic| ((fail_if_success (fail_if_success k_fold)); refine foldL ?_; intro qk; walk1))
local macro_rules | `(tactic| walk_at "eval Subscript") => `(tactic| ((fail_if_success (fail_if_success k_fold)); refine foldL ?_; intro qk; walk1))
local macro_rules | `(tactic| walk_at "eval Tuple") => `(tactic| ((fail_if_success (fail_if_success k_fold)); refine foldL ?_; intro qk; walk1))
local macro_rules | `(tactic| walk_at "eval List") => `(tactic| ((fail_if_success (fail_if_success k_fold)); refine foldL ?_; intro qk; walk1))
local macro_rules | `(tactic| walk_at "eval Compare") => `(tactic| ((fail_if_success (fail_if_success k_fold)); refine foldL ?_; intro qk; walk1))
local macro_rules | `(tactic| walk_at "isTrue Compare") => `(tactic| ((fail_if_success (fail_if_success k_fold)); refine foldL ?_; intro qk; walk1))
local macro_rules | `(tactic| walk_at "isTrue BoolOp") => `(tactic| ((fail_if_success (fail_if_success k_fold)); refine foldL ?_; intro qk; walk1))
local macro_rules | `(tactic| walk_at "callWith") => `(tactic| ((fail_if_success (fail_if_success k_fold)); refine foldL ?_; intro qk; walk1))
section
section
variable {w : World} {p : Program} {loose : List Str} {mean : ExcName → Option Value} {mg mb : Str → Option Value}
  {dp un : Nat} {gd : Option (List Code)} {cn : Str} {cs : Scope} {a : Addr} {ccd : Value} {cl : List (Str × Addr)} {outer : List Env} {A₀ : Around} {base h₀ : Heap} {L : Addr} {m : Str → Option Value} {news : Led} {s : Shared} {Q E : Value → Shared → Prop}
local macro_rules | `(tactic| ktr_enter) => `(tactic| (refine' code_defC ?k1 ?k2 ?k3 ?k4 ?k5 ?kA ?kF ?kK ?k6 ?k7 ?k8 ?k9 ?kB ?kD ?_ ?c2 ?c3 ?c4; (case kA => exact rfl); (case kF => exact rfl); (case kK => assumption); (case k1 => k_asm); (case k2 => k_asm); (case k3 => k_asm); (case k4 => k_asm); (case k5 => k_asm); (case k6 => k_is); (case k7 => k_is); (case k8 => ktr_room); (case k9 => exact BindsTo.of_eq rfl); (case kB => exact rfl); (case kD => decide +kernel); (case c2 => exact rfl); (case c3 => exact rfl); (case c4 => exact rfl); k_whole; intro g' L' h' tk' cells' FG' F' N' Y' B' X' T' l1; (try k_lt l1); k_cells Y'; (try simp only [List.cons_append, List.nil_append] at N'); (try dsimp only); (try k_fold)))
local macro_rules | `(tactic| walk_at "call ref") => `(tactic| refine halt ?_)
local macro_rules | `(tactic| walk_at "call ref") => `(tactic| (k_here; (with_reducible show wpAny _ _ (call (Value.ref 67) [_, _]) _ _ _); k_dflt (refine' common_K ?k1 ?k2 ?k3 ?k4 ?k5 ?kK ?km ?kn ?kd ?kv ?_ ?_; (case k1 => k_asm); (case k2 => k_asm); (case k3 => k_asm); (case k4 => k_asm); (case k5 => k_asm); (case kK => first | exact rfl | assumption); (case km => k_mem); (case kn => k_mem); (case kd => ktr_room); (case kv => ktr_units)); rotate_left 1; (intro r9 ca9 cb9 cc9 cd9 h9 tk9 nx9 ny9 F9 N9; (try dsimp only); (try k_fold)); rotate_left 1; (intro h9 tk9 or9 F9 N9; (try dsimp only); (try k_fold))))
local macro_rules | `(tactic| walk_at "call ref") => `(tactic| (k_here; (with_reducible show wpAny _ _ (call (Value.ref 86) [_, _, _]) _ _ _); k_dflt (refine' holds_K ?k1 ?k2 ?k3 ?k4 ?k5 ?kK ?km ?kd ?kv ?_; (case k1 => k_asm); (case k2 => k_asm); (case k3 => k_asm); (case k4 => k_asm); (case k5 => k_asm); (case kK => first | exact rfl | assumption); (case km => k_mem); (case kd => ktr_room); (case kv => ktr_units)); intro b9 h9 tk9 e9 F9 N9; (try dsimp only); (try k_fold)))

local macro_rules | `(tactic| walk_at "eval ListComp") => `(tactic| refine halt ?_)
local macro_rules | `(tactic| walk_at "exec Assign cons ListComp") => `(tactic| refine halt ?_)
local macro_rules | `(tactic| walk_at "exec If") => `(tactic| ((with_reducible have h9 : StopIf := by assumption); clear h9; refine halt ?_))
local macro_rules | `(tactic| walk_at "pyIter ref") => `(tactic| refine halt ?_)
local macro_rules | `(tactic| walk_at "subscriptTail Name Constant ref int") => `(tactic| ((with_reducible rename IsTup _ _ _ => h9); (refine' item_tupleT h9 ?a ?b ?c ?d ?_ ?e; (case a => decide); (case b => decide); (case c => rfl); (case d => rfl); (case e => with_unfolding_all rfl))))
local macro_rules | `(tactic| walk_at "subscriptTail Name Constant ref int") => `(tactic| ((with_reducible have h9 : StopIf := by assumption); clear h9; refine halt ?_))
local macro_rules | `(tactic| walk_at "call builtin:len") => `(tactic| refine halt ?_)
local macro_rules | `(tactic| walk_at "call type:set") => `(tactic| refine halt ?_)
local macro_rules | `(tactic| walk_at "exec For Name List cons nil") => `(tactic| refine halt ?_)
local macro_rules | `(tactic| walk_at "call ref") => `(tactic| (k_here; (with_reducible show wpAny _ _ (call (Value.ref 114) [_, _]) _ _ _); k_dflt (refine' take_U ?k1 ?k2 ?k3 ?k4 ?k5 ?kK ?kU ?kx ?ky ?kz ?kt ?ku ?kd ?kv ?_; (case k1 => k_asm); (case k2 => k_asm); (case k3 => k_asm); (case k4 => k_asm); (case k5 => k_asm); (case kK => first | exact rfl | assumption); (case kU => k_updF); (case kx => assumption); (case ky => assumption); (case kz => assumption); (case kt => omega); (case ku => omega); (case kd => ktr_room); (case kv => ktr_units)); intro d9 t9 h9 tk9 x9 y9 tx9 ty9 ha9 hb9 hc9 hd9 he9 F9 N9; (try dsimp only at N9); (try dsimp only); (try k_fold)))
local macro_rules | `(tactic| walk_at "compareOp NotEq ref ref") => `(tactic| refine halt ?_)
local macro_rules | `(tactic| walk_at "compareOp Eq ref ref") => `(tactic| refine halt ?_)
local macro_rules | `(tactic| walk_at "compareOp In ref ref") => `(tactic| refine halt ?_)
inductive RrS (g : Heap) (L : Addr) (h : Heap) (src : Addr) (ns : Nat) (tA tB lL : Addr) (o1 o2 oO : Obj) (rest : Led) : Prop
  | mk {u1 v1 sx sy : Int} {tu1 tv1 tu2 tv2 tsx tsy : Tok} (a : 0 ≤ sx) (b : 0 ≤ sy) (c : sy < 2147483647) (N : News g L h ((lL, listOf [.ref tA, .ref tB].toArray 0) :: (tB, tupO [.int 0 tu2, .int 0 tv2] 0) :: (tA, tupO [.int u1 tu1, .int v1 tv1] 0) :: (L + 1 + 1 + 1, o1) :: (L + 1 + 1, o2) :: (L + 1, oO) :: (src, listOf #[.int sx tsx, .int sy tsy] ns) :: rest)) : RrS g L h src ns tA tB lL o1 o2 oO rest
inductive Pt (v : Value) (N : Led) : Prop
  | mk {t : Addr} {u w : Int} {tu tv : Tok} {n : Nat} (e : v = .ref t) (m : (t, tupO [.int u tu, .int w tv] n) ∈ N) : Pt v N
theorem rowsR_K {src l : Addr} {sx sy : Int} {tsx tsy : Tok} {ns k : Nat} {rest : Led} {q1 q2 q3 : Addr} {x1 y1 w1 h1 x2 y2 w2 h2 x3 y3 w3 h3 : Int} {a1 a2 a3 a4 b1 b2 b3 b4 c1 c2 c3 c4 : Tok} {n1 n2 n3 : Nat}
  (B : Below A₀ base outer h₀) (F : Fr h₀ L s.heap m) (X : (hd.heap_39 w.params).In h₀)
  (N : News h₀ L s.heap ((src, listOf #[.int sx tsx, .int sy tsy] ns) :: rest)) (T : Top p loose mean mg mb h₀) (hk : cs.kind = .function)
  (ml : (l, listOf #[.ref q1, .ref q2, .ref q3] k) ∈ rest) (mq1 : (q1, tupO [.int x1 a1, .int y1 a2, .int w1 a3, .int h1 a4] n1) ∈ rest) (mq2 : (q2, tupO [.int x2 b1, .int y2 b2, .int w2 b3, .int h2 b4] n2) ∈ rest) (mq3 : (q3, tupO [.int x3 c1, .int y3 c2, .int w3 c3, .int h3 c4] n3) ∈ rest) (hsr : ∀ q ∈ rest, q.1 ≠ src)
  (hx1 : -3 ≤ x1 ∧ x1 < 4) (hy1 : -3 ≤ y1 ∧ y1 < 4) (hw1 : 0 ≤ w1 ∧ w1 < 4) (hh1 : 0 ≤ h1 ∧ h1 < 4)
  (hx2 : -3 ≤ x2 ∧ x2 < 4) (hy2 : -3 ≤ y2 ∧ y2 < 4) (hw2 : 0 ≤ w2 ∧ w2 < 4) (hh2 : 0 ≤ h2 ∧ h2 < 4)
  (hx3 : -3 ≤ x3 ∧ x3 < 4) (hy3 : -3 ≤ y3 ∧ y3 < 4) (hw3 : 0 ≤ w3 ∧ w3 < 4) (hh3 : 0 ≤ h3 ∧ h3 < 4)
  (hsx : 0 ≤ sx) (hsy : 0 ≤ sy) (hsy2 : sy < 2147483647)
  (hd : dp + 4 < recursionLimit) (hu : un + 400 < cLine)
  (h : ∀ h' tk' sx' sy' tsx' tsy', 0 ≤ sx' → 0 ≤ sy' → sy' < 2147483647 → Fr h₀ L h' m → News h₀ L h' ((src, listOf #[.int sx' tsx', .int sy' tsy'] ns) :: rest) → Q (.bool true) {s with heap := h', toks := tk'}) :
  wpAny (model PRG w) (ktrTop dp un gd cn cs L a ccd cl outer) (call (.ref 159) [.ref src, .ref l]) Q E s := by
  refine wpAny_call ?_
  k_dflt ktr_enter
  rename_i g L' h' tk' FG' F' B' X' T' l1 o1 o2 o3 d1 d2 d3 N'
  have hlt : ∀ q ∈ rest, q.1 < L' := tb_ltOf l1.2
  have r1 : ∀ q ∈ rest, q.1 ≠ L' + 1 := fun q hq => Nat.ne_of_lt (Nat.lt_succ_of_lt (hlt q hq))
  have r2 : ∀ q ∈ rest, q.1 ≠ L' + 1 + 1 := fun q hq => Nat.ne_of_lt (Nat.lt_succ_of_lt (Nat.lt_succ_of_lt (hlt q hq)))
  have r3 : ∀ q ∈ rest, q.1 ≠ L' + 1 + 1 + 1 := fun q hq => Nat.ne_of_lt (Nat.lt_succ_of_lt (Nat.lt_succ_of_lt (Nat.lt_succ_of_lt (hlt q hq))))
  have hsl : l ≠ src := hsr _ ml
  have rl1 : l ≠ L' + 1 := r1 _ ml
  have rl2 : l ≠ L' + 1 + 1 := r2 _ ml
  have rl3 : l ≠ L' + 1 + 1 + 1 := r3 _ ml
  replace N' := newsSub N' (news' := (L' + 1 + 1 + 1, o1) :: (L' + 1 + 1, o2) :: (L' + 1, o3) :: (src, listOf #[.int sx tsx, .int sy tsy] ns) :: (l, listOf #[.ref q1, .ref q2, .ref q3] k) :: rest) (by k_sub)
  k_steps
  rename_i hA oO Fa Na dO
  have Nb := Halt.out (show News g L' hA ((L' + 1 + 1 + 1, o1) :: (L' + 1 + 1, o2) :: (L' + 1, oO) :: (src, listOf #[.int sx tsx, .int sy tsy] ns) :: rest) from newsSub (newsTail Na) (by k_sub))
  clear Na rl1 rl2 rl3
  refine Halt.out ?_
  (with_unfolding_all refine' Assign_ListComp_K ?hsw (by assumption) ?hclos ?hcell ?hkind ?hnames ?hs ?_; (case hsw => exact rfl); (case hclos => exact rfl); (case hcell => decide); (case hkind => rfl); (case hnames => decide); (case hs => intro _; rfl))
  k_steps
  refine Halt.out ?_
  k_dflt (refine' dots_K ?k1 ?k2 ?k3 ?k4 ?k5 ?kK ?km ?kx ?ky ?kw ?kh ?kd ?kv ?_; (case k1 => k_asm); (case k2 => k_asm); (case k3 => k_asm); (case k4 => k_asm); (case k5 => k_asm); (case kK => first | exact rfl | assumption); (case kd => ktr_room); (case kv => ktr_units); (case km => k_mem); (case kx => first | exact rng (by assumption) rfl | omega); (case ky => first | exact rng (by assumption) rfl | omega); (case kw => first | exact rng (by assumption) rfl | omega); (case kh => first | exact rng (by assumption) rfl | omega))
  intro dl1 dvs1 dn1 dtl1 dh1 dtk1 dA1 dI1 dF1 dN1
  dsimp only
  k_steps
  refine Halt.out ?_
  refine pyIter_list_K rfl (.head _) (by assumption) dN1 ?_
  intro I he hIL hI0 hIa Fe Ne heI hIt
  refine CompInU.ofL Fe Ne heI hIa (hIt _ (.head _)) ?_
  intro C D oC hf tkf hIC hID hCD hoff Ff Nf hoC hItf
  first | (refine foldG ?_; intro qG; obtain ⟨mc0, hoC⟩ := hoC; k_unfold; clear qG) | obtain ⟨mc0, hoC⟩ := hoC
  refine start_K (depth := 0) rfl hItf.toAt rfl ?_
  have L9 := dots9 (x := x1) (y := y1) hw1 hh1
  have V9 := dI1.length
  refine' comp_leafT (dyn₀ := []) (fun i mc ys dyn => dyn = [] ∧ ITups dtl1 ys (((dotsOf x1 y1 w1.toNat h1.toNat).take i).filter fun r => decide (r ∈ dotsOf x2 y2 w2.toNat h2.toNat)) ∧ ys.length ≤ i) (turn_leaf1 _ _ _ _ _ _) (fun _ _ _ => rfl) (fun _ _ _ => rfl) (fun _ _ _ => rfl) rfl rfl hItf.toAt hIL hI0 hoff hIC hID hCD Ff Nf hoC (fun _ h => nomatch h) ⟨rfl, ITups.nil, Nat.zero_le _⟩ ?turn ?done
  case turn =>
    intro i v mc oI oC ys kk dyn hg tkg hi hv hP0 hns hoff4 hoC4 Fg Ng
    first | (refine foldG ?_; intro qG; obtain ⟨rfl, J2, J3⟩ := hP0; k_unfold; clear qG) | obtain ⟨rfl, J2, J3⟩ := hP0
    first | (refine foldG ?_; intro qG; obtain ⟨ta, tws, tn, tns, rfl, tm, ti, tr⟩ := dI1.get hv; k_unfold; clear qG) | obtain ⟨ta, tws, tn, tns, rfl, tm, ti, tr⟩ := dI1.get hv
    refine foldG ?_; intro qG; obtain @⟨mm, hoC6, hxm⟩ := NsV.of hoC4; k_unfold; clear qG
    clear hoC4
    dsimp only
    k_steps
    refine Halt.out ?_
    k_dflt (refine' dots_K ?k1 ?k2 ?k3 ?k4 ?k5 ?kK ?km ?kx ?ky ?kw ?kh ?kd ?kv ?_; (case k1 => k_asm); (case k2 => k_asm); (case k3 => k_asm); (case k4 => k_asm); (case k5 => k_asm); (case kK => first | exact rfl | assumption); (case kd => ktr_room); (case kv => ktr_units); (case km => k_mem); (case kx => first | exact rng (by assumption) rfl | omega); (case ky => first | exact rng (by assumption) rfl | omega); (case kw => first | exact rng (by assumption) rfl | omega); (case kh => first | exact rng (by assumption) rfl | omega))
    intro dl2 dvs2 dn2 dtl2 dh2 dtk2 dA2 dI2 dF2 dN2
    dsimp only
    k_steps
    refine Halt.out ?_
    refine in_rows dN2 (t := ta) (a := dl2) (.tail _ (List.mem_append_right _ (by k_mem))) (.head _) ti (dI2.mono (by k_sub)) (by ktr_units) ?_
    k_steps
    · rename_i hin
      refine CElt.intro (dyn := []) dF2 (newsSub dN2 (by k_sub)) hoC6 hoff4 (by omega) ⟨rfl, ?_, by simp; omega⟩
      rw [List.take_add_one, tr, List.filter_append, Option.toList_some, List.filter_cons, if_pos (decide_eq_true hin), List.filter_nil]
      exact J2.append (ITups.one tm ti)
    · rename_i hin
      refine CEnd.intro (dyn := []) dF2 (newsSub dN2 (by k_sub)) hoC6 hoff4 ⟨rfl, ?_, by omega⟩
      rw [List.take_add_one, tr, List.filter_append, Option.toList_some, List.filter_cons, if_neg (by simpa using hin), List.filter_nil, List.append_nil]
      exact J2
  case done =>
    intro mc oC ys kk dyn hg tkg hP0 Fg Ng hoC4 ho4
    first | (refine foldG ?_; intro qG; obtain ⟨rfl, J2, J3⟩ := hP0; k_unfold; clear qG) | obtain ⟨rfl, J2, J3⟩ := hP0
    rw [V9, List.take_of_length_le (Nat.le_refl _), both_dots hw1.1 hh1.1 hw2.1 hh2.1] at J2
    refine ⟨rfl, ?_⟩
    dsimp only
    k_steps
    rename Fr g _ _ _ => Fh
    rename News g _ _ _ => Nh
    refine UseEnd.intro Fh (newsSub Nh (news' := (C, oC) :: (D, listOf ys.toArray kk) :: (dl1, listOf dvs1.toArray dn1) :: (dtl1 ++ _)) (by k_sub)) hoC4 ?_ ?_
    · intro q hq
      rcases List.mem_cons.mp hq with rfl | hq
      · exact hCD.symm
      · exact (hoff q hq).2.1
    clear Fh Nh
    intro hh Fh Nh
    dsimp only
    have st : StopIf := trivial
    k_steps
    clear st
    refine Halt.out ?_
    refine goOn (by assumption) Nb ?_ ?_
    ·
      k_steps
      · rename_i or9 F9 N9
        have e0 : dotsOf (pmax x1 x2) (pmax y1 y2) (pmin (x1 + w1) (x2 + w2) - pmax x1 x2).toNat (pmin (y1 + h1) (y2 + h2) - pmax y1 y2).toNat = [] := dots_empty (or_sub or9)
        refine Halt.out ?_
        k_dflt (refine' dotsN_K ?k1 ?k2 ?k3 ?k4 ?k5 ?kK ?kd ?kv ?_; (case k1 => k_asm); (case k2 => k_asm); (case k3 => k_asm); (case k4 => k_asm); (case k5 => k_asm); (case kK => first | exact rfl | assumption); (case kd => ktr_room); (case kv => ktr_units))
        intro dl3 dvs3 dn3 dtl3 dh3 dtk3 dA3 dI3 dF3 dN3
        dsimp only
        k_steps
        refine Halt.out ?_
        refine ne_rows (by assumption) (a := dl3) (b := D) (.head _) (.tail _ (List.mem_append_right _ (.head _))) (dI3.mono (by k_sub)) (J2.mono (by k_sub)) (by ktr_units) ?_
        rw [e0]
        k_steps
        · rename_i N'
          refine Halt.out ?_
          refine eq_rows (by assumption) (a := D) (.tail _ (.tail _ (List.mem_append_right _ (.head _)))) (.head _) (J2.mono (by k_sub)) (rb := []) .nil (by ktr_units) ?_
          rw [e0]
          k_steps
          rename Fr g _ _ _ => Fz
          rename News g _ _ _ => Nz
          exact GoOn.intro Fz (newsSub Nz (by k_sub))
        · exfalso; omega
      · have e0 : dotsOf (pmax x1 x2) (pmax y1 y2) (pmin (x1 + w1) (x2 + w2) - pmax x1 x2).toNat (pmin (y1 + h1) (y2 + h2) - pmax y1 y2).toNat ≠ [] := dots_some (sub_pos' ‹¬ pmin (x1 + w1) (x2 + w2) ≤ pmax x1 x2›) (sub_pos' ‹¬ pmin (y1 + h1) (y2 + h2) ≤ pmax y1 y2›)
        have u1 := pmax_rng hx1 hx2
        have u2 := pmax_rng hy1 hy2
        have u3 := gap20 hx1 hw1 hx2.1 ‹¬ pmin (x1 + w1) (x2 + w2) ≤ pmax x1 x2›
        have u4 := gap20 hy1 hh1 hy2.1 ‹¬ pmin (y1 + h1) (y2 + h2) ≤ pmax y1 y2›
        refine Halt.out ?_
        k_dflt (refine' dots_K ?k1 ?k2 ?k3 ?k4 ?k5 ?kK ?km ?kx ?ky ?kw ?kh ?kd ?kv ?_; (case k1 => k_asm); (case k2 => k_asm); (case k3 => k_asm); (case k4 => k_asm); (case k5 => k_asm); (case kK => first | exact rfl | assumption); (case kd => ktr_room); (case kv => ktr_units); (case km => k_mem); (case kx => first | exact rng (by assumption) rfl | omega); (case ky => first | exact rng (by assumption) rfl | omega); (case kw => first | exact rng (by assumption) rfl | omega); (case kh => first | exact rng (by assumption) rfl | omega))
        intro dl3 dvs3 dn3 dtl3 dh3 dtk3 dA3 dI3 dF3 dN3
        dsimp only
        k_steps
        refine Halt.out ?_
        refine ne_rows (by assumption) (a := dl3) (b := D) (.head _) (.tail _ (List.mem_append_right _ (.tail _ (.head _)))) (dI3.mono (by k_sub)) (J2.mono (by k_sub)) (by ktr_units) ?_
        rw [decide_eq_true rfl]
        k_steps
        · exfalso; omega
        · refine Halt.out ?_
          refine eq_rows (by assumption) (a := D) (.tail _ (.tail _ (.tail _ (List.mem_append_right _ (by k_mem))))) (.head _) (J2.mono (by k_sub)) (rb := []) .nil (by ktr_units) ?_
          rw [decide_eq_false e0]
          k_steps
          rename Fr g _ _ _ => Fz
          rename News g _ _ _ => Nz
          exact GoOn.intro Fz (newsSub Nz (by k_sub))
    clear Fh Nh J2 J3 hoC4 ho4
    clear hIL hI0 hIa heI hIt hIC hID hCD hoff hoC hItf dA1 dI1 L9 V9
    intro hi tki Fh Nh
    dsimp only
    k_steps
    first | (refine foldG ?_; intro qG; obtain ⟨rows, hrows⟩ : ∃ rows : List (List Int), rows = [[x1, y1, w1, h1], [x2, y2, w2, h2], [x3, y3, w3, h3]] := ⟨_, rfl⟩; k_unfold; clear qG) | obtain ⟨rows, hrows⟩ : ∃ rows : List (List Int), rows = [[x1, y1, w1, h1], [x2, y2, w2, h2], [x3, y3, w3, h3]] := ⟨_, rfl⟩
    have hv3 : ITups rest [.ref q1, .ref q2, .ref q3] rows := by
      rw [hrows]
      exact .cons mq1 (.cons _ _ (.cons _ _ (.cons _ _ (.cons _ _ .nil)))) (.cons mq2 (.cons _ _ (.cons _ _ (.cons _ _ (.cons _ _ .nil)))) (.cons mq3 (.cons _ _ (.cons _ _ (.cons _ _ (.cons _ _ .nil)))) .nil))
    have hb : ∀ r ∈ rows, Box r := hrows ▸ three_box (.of hx1 hy1 hw1 hh1) (.of hx2 hy2 hw2 hh2) (.of hx3 hy3 hw3 hh3)
    have h4 : ∀ r ∈ rows, r.length = 4 := fun r hr => (hb r hr).1
    have hlen : rows.length = 3 := by rw [hrows]; rfl
    clear hrows
    refine Halt.out ?_
    (with_unfolding_all refine' Assign_ListComp_K ?hsw (by assumption) ?hclos ?hcell ?hkind ?hnames ?hs ?_; (case hsw => exact rfl); (case hclos => exact rfl); (case hcell => decide); (case hkind => rfl); (case hnames => decide); (case hs => intro _; rfl))
    k_steps
    refine Halt.out ?_
    refine pyIter_list_K rfl (l := l) (vs := [.ref q1, .ref q2, .ref q3]) (k := k) (by k_mem) (by assumption) Nh ?_
    intro I he hIL hI0 hIa Fe Ne heI hIt
    refine CompInU.ofL Fe Ne heI hIa (hIt _ (by k_mem)) ?_
    intro C D4 oC hf tkf hIC hID hCD hoff Ff Nf hoC hItf
    first | (refine foldG ?_; intro qG; obtain ⟨mc0, hoC⟩ := hoC; k_unfold; clear qG) | obtain ⟨mc0, hoC⟩ := hoC
    refine start_K (depth := 0) rfl hItf.toAt rfl ?_
    refine' comp_nest0 (dyn₀ := []) (fun i mc ys dyn => IsTups dyn ∧ ITups dyn ys ((rows.take i).flatMap dotsR) ∧ ys.length ≤ i * 9) (turn_nest _ _ _ _ _ _ _ _ _) (fun _ _ _ => rfl) (fun _ _ _ => rfl) (fun _ _ _ => rfl) rfl rfl (fun _ => rfl) hItf.toAt hIL hI0 hoff hIC hID hCD Ff Nf hoC (fun _ h => nomatch h) ⟨IsTups.nil, ITups.nil, Nat.zero_le _⟩ ?turn2 ?done2
    case turn2 =>
      intro i v mc oI oC ys kk dyn hg tkg hi hv hP0 hns hoff4 hoC4 Fg Ng
      first | (refine foldG ?_; intro qG; obtain ⟨J1, J2, J3⟩ := hP0; k_unfold; clear qG) | obtain ⟨J1, J2, J3⟩ := hP0
      have hi3 : i < 3 := hi
      first | (refine foldG ?_; intro qG; obtain ⟨q, x4, y4, w4, h4', t1, t2, t3, t4, n4, rfl, hq, hr⟩ := hv3.get4 h4 hv; k_unfold; clear qG) | obtain ⟨q, x4, y4, w4, h4', t1, t2, t3, t4, n4, rfl, hq, hr⟩ := hv3.get4 h4 hv
      refine foldG ?_; intro qG; obtain ⟨bx, bby, bw, bh⟩ := (hb _ (List.mem_of_getElem? hr)).four; k_unfold; clear qG
      refine foldG ?_; intro qG; obtain @⟨mm, hoC6, hxm⟩ := NsV.of hoC4; k_unfold; clear qG
      clear hoC4
      dsimp only
      k_steps
      refine Halt.out ?_
      k_dflt (refine' dots_KF ?k1 ?k2 ?k3 ?k4 ?k5 ?kK ?km ?kx ?ky ?kw ?kh ?kd ?kv ?_; (case k1 => k_asm); (case k2 => k_asm); (case k3 => k_asm); (case k4 => k_asm); (case k5 => k_asm); (case kK => first | exact rfl | assumption); (case kd => ktr_room); (case kv => ktr_units); (case km => k_mem); (case kx => first | exact rng (by assumption) rfl | omega); (case ky => first | exact rng (by assumption) rfl | omega); (case kw => first | exact rng (by assumption) rfl | omega); (case kh => first | exact rng (by assumption) rfl | omega))
      intro dl2 dvs2 dn2 dtl2 dh2 dtk2 dA2 dI2 dO2 dF2 dN2
      dsimp only
      first | (refine foldG ?_; intro qG; obtain ⟨tl2, ts2, tT2, tI2⟩ := dI2.own; k_unfold; clear qG) | obtain ⟨tl2, ts2, tT2, tI2⟩ := dI2.own
      have V2 := tI2.length
      have L2 := dots9 (x := x4) (y := y4) bw bh
      have ho2 : Offs I C D4 tl2 := tT2.offs dN2 (fun q hq => .tail _ (List.mem_append_left _ (ts2 q hq))) (.tail _ (List.mem_append_right _ (.head _))) (.tail _ (List.mem_append_right _ (.tail _ (.head _)))) (.tail _ (List.mem_append_right _ (.tail _ (.tail _ (.head _))))) hns hoC6
      have N2 : News g L' dh2 ((dl2, listOf dvs2.toArray dn2) :: (tl2 ++ (I, oI) :: (C, oC) :: (D4, listOf ys.toArray kk) :: (dyn ++ (L' + 1 + 1 + 1, o1) :: (L' + 1 + 1, o2) :: (L' + 1, oO) :: (src, listOf #[.int sx tsx, .int sy tsy] ns) :: rest))) := newsSub dN2 (by
        intro q hq
        rcases List.mem_cons.mp hq with rfl | hq
        · exact .head _
        · exact .tail _ ((List.mem_append.mp hq).elim (fun e => List.mem_append_left _ (ts2 q e)) (List.mem_append_right _)))
      clear dN2
      k_steps
      refine Halt.out ?_
      refine pyIter_list_K rfl (.head _) (by assumption) N2 ?_
      intro I2 h6 hIL2 hI02 hIa2 F6 N6 heI2 hIt2
      have hoff6 : Offs I2 C D4 ((I, oI) :: (dl2, listOf dvs2.toArray dn2) :: (tl2 ++ (L' + 1 + 1 + 1, o1) :: (L' + 1 + 1, o2) :: (L' + 1, oO) :: (src, listOf #[.int sx tsx, .int sy tsy] ns) :: rest)) := by
        intro p hp
        refine ⟨hIa2 p ?_, ?_⟩
        · revert p
          k_sub
        rcases List.mem_cons.mp hp with rfl | hp
        · exact ⟨hIC, hID⟩
        rcases List.mem_cons.mp hp with rfl | hp
        · exact ⟨fun e => dO2 (C, oC) (by k_mem) e.symm, fun e => dO2 (D4, listOf ys.toArray kk) (by k_mem) e.symm⟩
        rcases List.mem_append.mp hp with hp | hp
        · exact (ho2 p hp).2
        · exact (hoff p hp).2
      have hI2C : I2 ≠ C := (hIa2 (C, oC) (by k_mem)).symm
      have hI2D : I2 ≠ D4 := (hIa2 (D4, listOf ys.toArray kk) (by k_mem)).symm
      have hItI := (hIt2 ((I, oI) :: (dl2, listOf dvs2.toArray dn2) :: (tl2 ++ (L' + 1 + 1 + 1, o1) :: (L' + 1 + 1, o2) :: (L' + 1, oO) :: (src, listOf #[.int sx tsx, .int sy tsy] ns) :: rest)) (.tail _ (.head _))).toAt
      refine start_K (depth := 1) rfl hItI rfl ?_
      refine' comp_leaf0 (dyn₀ := dyn) (fun j mc ys dyn' => dyn' = dyn ∧ ITups (tl2 ++ dyn) ys ((rows.take i).flatMap dotsR ++ (dotsOf x4 y4 w4.toNat h4'.toNat).take j) ∧ ys.length ≤ i * 9 + j) (turn_leaf2 _ _ _ _ _ _ _ _ _) (fun _ _ _ => rfl) (fun _ _ _ => rfl) (fun _ _ _ => rfl) rfl rfl hItI hIL2 hI02 hoff6 hI2C hI2D hCD F6 (newsSub N6 (by k_sub)) hoC6 (fun p hp => ⟨hIa2 p (by k_mem), (hoff4 p hp).2⟩) ⟨rfl, by simpa using J2.mono (by k_sub), by omega⟩ ?turn3 ?done3
      case done3 =>
        intro mc2 oC2 ys2 k2 dyn2 h7 tk7 hP0 F7 N7 hoC7 ho7
        first | (refine foldG ?_; intro qG; obtain ⟨rfl, J5, J6⟩ := hP0; k_unfold; clear qG) | obtain ⟨rfl, J5, J6⟩ := hP0
        refine ⟨rfl, CEnd.intro (dyn := tl2 ++ dyn2) F7 (newsSub N7 (by k_sub)) hoC7 (fun p hp => ?_) ⟨tT2.append J1, ?_, by omega⟩⟩
        · exact (List.mem_append.mp hp).elim (ho2 p) (hoff4 p)
        · rw [List.take_add_one, hr, List.flatMap_append, Option.toList_some, List.flatMap_cons, List.flatMap_nil, List.append_nil]
          rw [List.take_of_length_le (Nat.le_of_eq V2.symm)] at J5
          exact J5
      case turn3 =>
        intro j v2 mc2 oI2 oC2 ys2 k2 dyn2 h7 tk7 hj hv2 hP0 hns2 hoff7 hoC7 F7 N7
        first | (refine foldG ?_; intro qG; obtain ⟨rfl, J5, J6⟩ := hP0; k_unfold; clear qG) | obtain ⟨rfl, J5, J6⟩ := hP0
        first | (refine foldG ?_; intro qG; obtain ⟨ta, tws, tn, tns, rfl, tm, ti, tr⟩ := tI2.get hv2; k_unfold; clear qG) | obtain ⟨ta, tws, tn, tns, rfl, tm, ti, tr⟩ := tI2.get hv2
        refine foldG ?_; intro qG; obtain @⟨mm2, hoC8, hxm2⟩ := NsV.of hoC7; k_unfold; clear qG
        clear hoC7
        k_steps
        refine CElt.intro (dyn := dyn2) (by assumption) (newsSub N7 (by k_sub)) hoC8 hoff7 (by omega) ⟨rfl, ?_, by simp; omega⟩
        rw [List.take_add_one, tr, Option.toList_some, ← List.append_assoc]
        exact J5.append (ITups.one (List.mem_append_left _ tm) ti)
    case done2 =>
      intro mc oC ys kk dyn hg tkg hP0 Fg Ng hoC4 ho4
      first | (refine foldG ?_; intro qG; obtain ⟨J1, J2, J3⟩ := hP0; k_unfold; clear qG) | obtain ⟨J1, J2, J3⟩ := hP0
      rw [List.take_of_length_le (by rw [hlen]; exact Nat.le_refl _)] at J2
      refine ⟨rfl, ?_⟩
      dsimp only
      k_steps
      rename Fr g _ _ _ => Fh
      rename News g _ _ _ => Nh
      refine UseEnd.intro Fh (newsSub Nh (news' := (C, oC) :: (D4, listOf ys.toArray kk) :: (dyn ++ _)) (by k_sub)) hoC4 ?_ ?_
      · intro q hq
        rcases List.mem_cons.mp hq with rfl | hq
        · exact hCD.symm
        rcases List.mem_append.mp hq with hq | hq
        · exact (ho4 q hq).2.1
        · exact (hoff q hq).2.1
      clear Fh Nh
      intro hh2 Fh Nh
      dsimp only
      have st : StopIf := trivial
      k_steps
      clear st
      refine Halt.out ?_
      refine goOn (by assumption) Nb ?_ ?_
      ·
        k_steps
        refine Halt.out ?_
        k_dflt (refine' clear_K (vs := [Value.ref q1, Value.ref q2, Value.ref q3]) (rows := rows) (k := k) ?k1 ?k2 ?k3 ?k4 ?k5 ?kK ?kl ?kw h4 (show 3 ≤ 1000 by decide) ?kd ?kv ?_; (case k1 => k_asm); (case k2 => k_asm); (case k3 => k_asm); (case k4 => k_asm); (case k5 => k_asm); (case kK => first | exact rfl | assumption); (case kd => ktr_room); (case kv => ktr_units); (case kl => k_mem); (case kw => exact hv3.mono (by k_sub)))
        intro bC hC tkC hbC FC NC
        dsimp only
        k_steps
        refine Halt.out ?_
        have J4 : ys.length ≤ 27 := J3
        refine len_list (NC.isList (by k_mem)) (by simp; omega) ?_
        simp only [List.size_toArray]
        k_steps
        refine Halt.out ?_
        have V3 := J2.length
        have hTl : ∀ r ∈ rows, Tile r := fun r hr => (hb r hr).tile
        have hDom := dom_in hb
        have hB2 := wide_in hb
        have eC := clear_len hb V3 hbC
        refine' TS.len_set_S (fun v s' hq => ?hT) (by assumption) NC rfl (by ktr_units) (.head _) (J2.mono (by k_sub)) hDom (Nat.le_trans J4 (by decide)) ?hS
        case hT =>
          k_steps
          exact hq
        case hS =>
          intro hS1 tkS1 tkS2 tS FS NS
          dsimp only
          have eD : (rows.map area).sum = (ys.length : Int) := by rw [V3]; exact dots_sum hTl
          k_steps
          · exact (bne_dec eC (by assumption)).elim
          refine Halt.out ?_
          k_dflt (refine' dots_of_K (vs := [Value.ref q1, Value.ref q2, Value.ref q3]) (rows := rows) (k := k) ?k1 ?k2 ?k3 ?k4 ?k5 ?kK ?kl ?kw h4 (show 3 ≤ 1000 by decide) ?kx ?kd ?kv ?_; (case k1 => k_asm); (case k2 => k_asm); (case k3 => k_asm); (case k4 => k_asm); (case k5 => k_asm); (case kK => first | exact rfl | assumption); (case kd => ktr_room); (case kv => ktr_units); (case kl => k_mem); (case kw => exact hv3.mono (by k_sub)); (case kx => exact hB2))
          intro tD hD tkD FD ND
          dsimp only
          rw [eD]
          k_steps
          refine Halt.out ?_
          refine len_list (ND.isList (by k_mem)) (by simp; omega) ?_
          simp only [List.size_toArray]
          k_steps
          · exact absurd rfl ‹(ys.length : Int) ≠ (ys.length : Int)›
          rename Fr g _ _ _ => Fz
          rename News g _ _ _ => Nz
          exact GoOn.intro Fz (newsSub Nz (by k_sub))
      clear Fh Nh J1 J2 J3 hoC4 ho4
      clear hIL hI0 hIa heI hIt hIC hID hCD hoff hoC hItf
      intro hi2 tki2 Fh Nh
      dsimp only
      k_steps
      refine Halt.out ?_
      with_unfolding_all refine' For_turns Fh ?_
      k_steps
      rename_i tA hA1 lA _ tB hB1 lB lL hL1 F5 N5 lL1
      refine Halt.out ?_
      have hRS : RrS g L' hL1 src ns tA tB lL o1 o2 oO rest := .mk (by assumption) (by assumption) (by assumption) N5
      refine foldG ?_; intro qG; obtain @⟨u1, v1, sx', sy', tu1, tv1, tu2, tv2, tsx', tsy', hsx', hsy', hsy2', N6⟩ := hRS; k_unfold; clear qG
      clear N5
      have hTl : ∀ r ∈ rows, Tile r := fun r hr => (hb r hr).tile
      refine for_list (l := lL) (vs := [.ref tA, .ref tB]) (k := 0) (dyn₀ := [(L' + 1 + 1 + 1, o1), (L' + 1 + 1, o2)]) (cst := ((lL, listOf [.ref tA, .ref tB].toArray 0) :: (tB, tupO [.int 0 tu2, .int 0 tv2] 0) :: (tA, tupO [.int u1 tu1, .int v1 tv1] 0) :: (L' + 1, oO) :: (src, listOf #[.int sx' tsx', .int sy' tsy'] ns) :: rest)) (fun m₀ i m dyn => m = m₀ ∧ ∃ oH oS vH vS, dyn = [(L' + 1 + 1 + 1, oH), (L' + 1 + 1, oS)] ∧ oH.data = .cell vH ∧ oS.data = .cell vS) rfl (.head _) F5 (newsSub N6 (by k_sub)) ⟨rfl, _, _, _, _, rfl, d1, d2⟩ ?turn4 ?done4
      case turn4 =>
        intro i v m7 dyn I oI h7 tk7 hv hP0 hns hdI hcI F7 N7
        first | (refine foldG ?_; intro qG; obtain ⟨rfl, oH, oS, vH, vS, rfl, eH, eS⟩ := hP0; k_unfold; clear qG) | obtain ⟨rfl, oH, oS, vH, vS, rfl, eH, eS⟩ := hP0
        dsimp only
        simp only [List.cons_append, List.nil_append] at N7
        have e1 : L' + 1 + 1 + 1 ≠ I := hdI _ (.head _)
        have e2 : L' + 1 + 1 ≠ I := hdI _ (.tail _ (.head _))
        have N8 := (show News g L' h7 _ from N7)
        have F8 := (show Fr g L' h7 _ from F7)
        clear N7 F7
        have hpt : Pt v ((lL, listOf [.ref tA, .ref tB].toArray 0) :: (tB, tupO [.int 0 tu2, .int 0 tv2] 0) :: (tA, tupO [.int u1 tu1, .int v1 tv1] 0) :: (L' + 1, oO) :: (src, listOf #[.int sx' tsx', .int sy' tsy'] ns) :: rest) := by
          rcases two_get hv with e | e
          · exact .mk e (.tail _ (.tail _ (.head _)))
          · exact .mk e (.tail _ (.head _))
        refine foldG ?_; intro qG; obtain @⟨tt, u, v5, tu, tv, tn, ev, ht⟩ := hpt; k_unfold; clear qG
        subst ev
        k_steps
        refine Halt.out ?_
        refine' wpAny_Assign_Name ?h1 ?hs
        case hs => exact rfl
        k_steps
        rename_i hS oS' F9 N9 dS
        refine Halt.out ?_
        (with_unfolding_all refine' ListComp_K (by assumption) ?hclos ?hcell ?hkind ?hnames ?hs ?_; (case hclos => exact rfl); (case hcell => decide); (case hkind => rfl); (case hnames => decide); (case hs => intro _; rfl))
        k_steps
        refine Halt.out ?_
        refine pyIter_list_K rfl (l := l) (vs := [Value.ref q1, Value.ref q2, Value.ref q3]) (k := k) (by k_mem) (by assumption) N9 ?_
        intro I3 he3 hIL3 hI03 hIa3 Fe3 Ne3 heI3 hIt3
        refine CompIn.ofL Fe3 Ne3 heI3 hIa3 (hIt3 _ (by k_mem)) ?_
        intro C3 D6 oC3 hf3 tkf3 hIC3 hID3 hCD3 hoff3 Ff3 Nf3 hoC3 hItf3
        first | (refine foldG ?_; intro qG; obtain ⟨mc3, hoC3⟩ := hoC3; k_unfold; clear qG) | obtain ⟨mc3, hoC3⟩ := hoC3
        refine start_K (depth := 0) rfl hItf3.toAt rfl ?_
        refine' comp_leafT (dyn₀ := []) (fun i mc ys dyn => dyn = [] ∧ ITups rest ys ((rows.take i).filter fun r => decide ([u, v5] ∈ dotsR r)) ∧ ys.length ≤ i) (turn_leaf1 _ _ _ _ _ _) (fun _ _ _ => rfl) (fun _ _ _ => rfl) (fun _ _ _ => rfl) rfl rfl hItf3.toAt hIL3 hI03 hoff3 hIC3 hID3 hCD3 Ff3 Nf3 hoC3 (fun _ h => nomatch h) ⟨rfl, ITups.nil, Nat.zero_le _⟩ ?turn5 ?done5
        case turn5 =>
          intro j v2 mc oI2 oC ys kk dyn hg tkg hj hv2 hP0 hns2 hoff4 hoC4 Fg Ng
          first | (refine foldG ?_; intro qG; obtain ⟨rfl, J2, J3⟩ := hP0; k_unfold; clear qG) | obtain ⟨rfl, J2, J3⟩ := hP0
          have hj3 : j < 3 := hj
          first | (refine foldG ?_; intro qG; obtain ⟨q, x4, y4, w4, h4', t1, t2, t3, t4, n4, rfl, hq, hr⟩ := hv3.get4 h4 hv2; k_unfold; clear qG) | obtain ⟨q, x4, y4, w4, h4', t1, t2, t3, t4, n4, rfl, hq, hr⟩ := hv3.get4 h4 hv2
          refine foldG ?_; intro qG; obtain ⟨bx, bby, bw, bh⟩ := (hb _ (List.mem_of_getElem? hr)).four; k_unfold; clear qG
          refine foldG ?_; intro qG; obtain @⟨mm, hoC6, hxm⟩ := NsV.of hoC4; k_unfold; clear qG
          clear hoC4
          dsimp only
          k_steps
          refine Halt.out ?_
          k_dflt (refine' dots_K ?k1 ?k2 ?k3 ?k4 ?k5 ?kK ?km ?kx ?ky ?kw ?kh ?kd ?kv ?_; (case k1 => k_asm); (case k2 => k_asm); (case k3 => k_asm); (case k4 => k_asm); (case k5 => k_asm); (case kK => first | exact rfl | assumption); (case kd => ktr_room); (case kv => ktr_units); (case km => k_mem); (case kx => first | exact rng (by assumption) rfl | omega); (case ky => first | exact rng (by assumption) rfl | omega); (case kw => first | exact rng (by assumption) rfl | omega); (case kh => first | exact rng (by assumption) rfl | omega))
          intro dl2 dvs2 dn2 dtl2 dh2 dtk2 dA2 dI2 dF2 dN2
          dsimp only
          k_steps
          refine Halt.out ?_
          refine in_rows dN2 (t := tt) (a := dl2) (.tail _ (List.mem_append_right _ (by k_mem))) (.head _) (.cons _ _ (.cons _ _ .nil)) (dI2.mono (by k_sub)) (by ktr_units) ?_
          k_steps
          · rename_i hin
            have hin2 : [u, v5] ∈ dotsR [x4, y4, w4, h4'] := hin
            refine CElt.intro (dyn := []) (by assumption) (newsSub dN2 (by k_sub)) hoC6 hoff4 (by omega) ⟨rfl, ?_, by simp; omega⟩
            rw [List.take_add_one, hr, List.filter_append, Option.toList_some, List.filter_cons, if_pos (decide_eq_true hin2), List.filter_nil]
            exact J2.append (ITups.one hq (.cons _ _ (.cons _ _ (.cons _ _ (.cons _ _ .nil)))))
          · rename_i hin
            have hin2 : ¬ [u, v5] ∈ dotsR [x4, y4, w4, h4'] := hin
            refine CEnd.intro (dyn := []) (by assumption) (newsSub dN2 (by k_sub)) hoC6 hoff4 ⟨rfl, ?_, by omega⟩
            rw [List.take_add_one, hr, List.filter_append, Option.toList_some, List.filter_cons, if_neg (fun e => hin2 (of_decide_eq_true e)), List.filter_nil, List.append_nil]
            exact J2
        case done5 =>
          intro mc oC ys kk dyn hg tkg hP0 Fg Ng hoC4 ho4
          first | (refine foldG ?_; intro qG; obtain ⟨rfl, J2, J3⟩ := hP0; k_unfold; clear qG) | obtain ⟨rfl, J2, J3⟩ := hP0
          rw [List.take_of_length_le (by rw [hlen]; exact Nat.le_refl _)] at J2
          have J4 : ys.length ≤ 3 := J3
          have e3 : L' + 1 + 1 + 1 ≠ D6 := (hoff3 (L' + 1 + 1 + 1, oH) (by k_mem)).2.2
          refine ⟨rfl, oC, mc, ys, kk, _, Fg, Ng, hoC4, hCD3, fun p hp => (hoff3 p hp).2.1, ?_⟩
          intro hh8 Fh8 Nh8
          dsimp only
          k_steps
          rename_i hH oH' FH NH dH _ _
          refine Halt.out ?_
          (with_unfolding_all refine' ListComp_K (by assumption) ?hclos ?hcell ?hkind ?hnames ?hs ?_; (case hclos => exact rfl); (case hcell => decide); (case hkind => rfl); (case hnames => decide); (case hs => intro _; rfl))
          k_steps
          refine Halt.out ?_
          refine pyIter_list_K rfl (l := l) (vs := [Value.ref q1, Value.ref q2, Value.ref q3]) (k := k) (by k_mem) (by assumption) NH ?_
          intro Ia hea hILa hI0a hIaa Fea Nea heIa hIta
          refine CompIn.ofL Fea Nea heIa hIaa (hIta _ (by k_mem)) ?_
          intro Ca Da oCa hfa tkfa hICa hIDa hCDa hoffa Ffa Nfa hoCa hItfa
          first | (refine foldG ?_; intro qG; obtain ⟨mca, hoCa⟩ := hoCa; k_unfold; clear qG) | obtain ⟨mca, hoCa⟩ := hoCa
          refine start_K (depth := 0) rfl hItfa.toAt rfl ?_
          refine' comp_leaf0 (dyn₀ := []) (fun i mc ys dyn => dyn = [] ∧ ys = ((rows.take i).map (holdB u v5)).map Value.bool ∧ ys.length ≤ i) (turn_leaf1 _ _ _ _ _ _) (fun _ _ _ => rfl) (fun _ _ _ => rfl) (fun _ _ _ => rfl) rfl rfl hItfa.toAt hILa hI0a hoffa hICa hIDa hCDa Ffa Nfa hoCa (fun _ h => nomatch h) ⟨rfl, rfl, Nat.zero_le _⟩ ?turn6 ?done6
          case turn6 =>
            intro j v2 mc oI2 oC ys kk dyn hg tkg hj hv2 hP0 hns2 hoff4 hoC4 Fg Ng
            first | (refine foldG ?_; intro qG; obtain ⟨rfl, Ja, Jb⟩ := hP0; k_unfold; clear qG) | obtain ⟨rfl, Ja, Jb⟩ := hP0
            have hj3 : j < 3 := hj
            first | (refine foldG ?_; intro qG; obtain ⟨q, x4, y4, w4, h4', t1, t2, t3, t4, n4, rfl, hq, hr⟩ := hv3.get4 h4 hv2; k_unfold; clear qG) | obtain ⟨q, x4, y4, w4, h4', t1, t2, t3, t4, n4, rfl, hq, hr⟩ := hv3.get4 h4 hv2
            refine foldG ?_; intro qG; obtain @⟨mm, hoC6, hxm⟩ := NsV.of hoC4; k_unfold; clear qG
            clear hoC4
            dsimp only
            have hT : IsTup hg tt [.int u tu, .int v5 tv].toArray := News.isTup Ng (by k_mem)
            k_steps
            rename _ = decide _ => e9
            rename News g _ _ _ => Nz
            refine CElt.intro (dyn := []) (by assumption) (newsSub Nz (by k_sub)) hoC6 hoff4 (by omega) ⟨rfl, ?_, by simp; omega⟩
            rw [List.take_add_one, hr, Ja, e9]
            simp [holdB]
          case done6 =>
            intro mc oC ys2 kk2 dyn hg tkg hP0 Fg Ng hoC4 ho4
            first | (refine foldG ?_; intro qG; obtain ⟨rfl, Ja, Jb⟩ := hP0; k_unfold; clear qG) | obtain ⟨rfl, Ja, Jb⟩ := hP0
            rw [List.take_of_length_le (by rw [hlen]; exact Nat.le_refl _)] at Ja
            refine ⟨rfl, oC, mc, ys2, kk2, _, Fg, Ng, hoC4, hCDa, fun p hp => (hoffa p hp).2.1, ?_⟩
            intro hh9 Fh9 Nh9
            dsimp only
            have hHold : rows.map (fun r => decide (r ∈ rows.filter fun r => decide ([u, v5] ∈ dotsR r))) = rows.map (holdB u v5) := by
              refine List.map_congr_left fun r hr => ?_
              have hi := hold_iff (hTl r hr) u v5
              cases hb : holdB u v5 r with
              | true => exact decide_eq_true (List.mem_filter.mpr ⟨hr, decide_eq_true (hi.mp hb)⟩)
              | false =>
                refine decide_eq_false fun e => ?_
                have hc := hi.mpr (of_decide_eq_true (List.mem_filter.mp e).2)
                rw [hb] at hc
                cases hc
            k_steps
            refine Halt.out ?_
            (with_unfolding_all refine' ListComp_K (by assumption) ?hclos ?hcell ?hkind ?hnames ?hs ?_; (case hclos => exact rfl); (case hcell => decide); (case hkind => rfl); (case hnames => decide); (case hs => intro _; rfl))
            k_steps
            refine Halt.out ?_
            refine pyIter_list_K rfl (l := l) (vs := [Value.ref q1, Value.ref q2, Value.ref q3]) (k := k) (by k_mem) (by assumption) Nh9 ?_
            intro Ib heb hILb hI0b hIab Feb Neb heIb hItb
            refine CompIn.ofL Feb Neb heIb hIab (hItb _ (by k_mem)) ?_
            intro Cb Db oCb hfb tkfb hICb hIDb hCDb hoffb Ffb Nfb hoCb hItfb
            first | (refine foldG ?_; intro qG; obtain ⟨mcb, hoCb⟩ := hoCb; k_unfold; clear qG) | obtain ⟨mcb, hoCb⟩ := hoCb
            refine start_K (depth := 0) rfl hItfb.toAt rfl ?_
            refine' comp_leaf0 (dyn₀ := []) (fun i mc ys dyn => dyn = [] ∧ ys = ((rows.take i).map (fun r => decide (r ∈ rows.filter fun r => decide ([u, v5] ∈ dotsR r)))).map Value.bool ∧ ys.length ≤ i) (turn_leaf1 _ _ _ _ _ _) (fun _ _ _ => rfl) (fun _ _ _ => rfl) (fun _ _ _ => rfl) rfl rfl hItfb.toAt hILb hI0b hoffb hICb hIDb hCDb Ffb Nfb hoCb (fun _ h => nomatch h) ⟨rfl, rfl, Nat.zero_le _⟩ ?turn7 ?done7
            case turn7 =>
              intro j v2 mc oI2 oC3 ys3 kk3 dyn hg3 tkg3 hj hv2 hP0 hns2 hoff4 hoC4 Fg3 Ng3
              first | (refine foldG ?_; intro qG; obtain ⟨rfl, Jc, Jd⟩ := hP0; k_unfold; clear qG) | obtain ⟨rfl, Jc, Jd⟩ := hP0
              have hj3 : j < 3 := hj
              first | (refine foldG ?_; intro qG; obtain ⟨q, x4, y4, w4, h4', t1, t2, t3, t4, n4, rfl, hq, hr⟩ := hv3.get4 h4 hv2; k_unfold; clear qG) | obtain ⟨q, x4, y4, w4, h4', t1, t2, t3, t4, n4, rfl, hq, hr⟩ := hv3.get4 h4 hv2
              refine foldG ?_; intro qG; obtain @⟨mm, hoC6, hxm⟩ := NsV.of hoC4; k_unfold; clear qG
              clear hoC4
              dsimp only
              k_steps
              refine Halt.out ?_
              refine in_rows (by assumption) (t := q) (a := D6) (by k_mem) (by k_mem) (.cons _ _ (.cons _ _ (.cons _ _ (.cons _ _ .nil)))) (J2.mono (by k_sub)) (by ktr_units) ?_
              k_steps
              refine CElt.intro (dyn := []) (by assumption) (newsSub Ng3 (by k_sub)) hoC6 hoff4 (by omega) ⟨rfl, ?_, by simp; omega⟩
              rw [List.take_add_one, hr, Jc]
              simp
            case done7 =>
              intro mc oC3 ys3 kk3 dyn hg3 tkg3 hP0 Fg3 Ng3 hoC4 ho4
              first | (refine foldG ?_; intro qG; obtain ⟨rfl, Jc, Jd⟩ := hP0; k_unfold; clear qG) | obtain ⟨rfl, Jc, Jd⟩ := hP0
              rw [List.take_of_length_le (by rw [hlen]; exact Nat.le_refl _), hHold] at Jc
              refine ⟨rfl, oC3, mc, ys3, kk3, _, Fg3, Ng3, hoC4, hCDb, fun p hp => (hoffb p hp).2.1, ?_⟩
              intro hh10 Fh10 Nh10
              dsimp only
              have hT : IsTup hh10 tt [.int u tu, .int v5 tv].toArray := News.isTup Nh10 (by k_mem)
              k_steps
              refine Halt.out ?_
              refine ne_bools (bs := rows.map (holdB u v5)) (a := Da) (b := Db) (k := kk2) (j := kk3) (by assumption) (by rw [← Ja]; k_mem) (by rw [← Jc]; k_mem) (by ktr_units) ?_
              k_steps
              refine Halt.out ?_
              k_dflt (refine' tile_at_K (vs := [Value.ref q1, Value.ref q2, Value.ref q3]) (rows := rows) (k := k) ?k1 ?k2 ?k3 ?k4 ?k5 ?kK ?kl ?kw h4 ?kd ?kv ?_; (case k1 => k_asm); (case k2 => k_asm); (case k3 => k_asm); (case k4 => k_asm); (case k5 => k_asm); (case kK => first | exact rfl | assumption); (case kd => ktr_room); (case kv => ktr_units); (case kl => k_mem); (case kw => exact hv3.mono (by k_sub)))
              intro hT1 tkT1 FT NT
              dsimp only
              first | (refine foldG ?_; intro qG; obtain ⟨hs, hr3, f1, f2, f3, f4⟩ := first_held (u := u) (v := v5) hv3 hTl; k_unfold; clear qG) | obtain ⟨hs, hr3, f1, f2, f3, f4⟩ := first_held (u := u) (v := v5) hv3 hTl
              rw [f3]
              have st : StopIf := trivial
              cases hF : rows.filter (fun r => decide ([u, v5] ∈ dotsR r)) with
              | nil =>
                rw [f4.mpr (f2.trans hF), List.headD_nil]
                rw [hF] at J2
                k_steps
                refine Halt.out ?_
                refine ne_rows (by assumption) (a := D6) (by k_mem) (.head _) (J2.mono (by k_sub)) (rb := []) .nil (by ktr_units) ?_
                rw [decide_eq_true rfl]
                k_steps
                rename Fr g _ _ _ => Fz
                rename News g _ _ _ => Nz
                refine ⟨_, _, _, [(L' + 1 + 1 + 1, oH'), (L' + 1 + 1, oS')] ++ ((lL, listOf [.ref tA, .ref tB].toArray 0) :: (tB, tupO [.int 0 tu2, .int 0 tv2] 0) :: (tA, tupO [.int u1 tu1, .int v1 tv1] 0) :: (L' + 1, oO) :: (src, listOf #[.int sx' tsx', .int sy' tsy'] ns) :: rest), rfl, Fz, newsSub Nz (by k_sub), fun p hp q hq => ?_, _, rfl, rfl, oH', oS', _, _, rfl, dH, dS⟩
                rw [List.mem_singleton.mp hq]
                rcases List.mem_append.mp hp with hp | hp
                · rcases List.mem_cons.mp hp with rfl | hp
                  · exact e1
                  · rw [List.mem_singleton.mp hp]; exact e2
                · exact hcI p hp
              | cons r0 rs =>
                rw [hF] at J2 f2
                subst f2
                cases J2 with
                | cons hmA hiA hrA =>
                  cases f1 with
                  | cons hmB hiB hrB =>
                    rw [List.headD_cons]
                    k_steps
                    refine Halt.out ?_
                    refine ne_rows (by assumption) (a := D6) (by k_mem) (.head _) (ra := r0 :: rs) (.cons (by k_mem) hiA (hrA.mono (by k_sub))) (rb := []) .nil (by ktr_units) ?_
                    rw [decide_eq_false (List.cons_ne_nil _ _)]
                    k_steps
                    refine Halt.out ?_
                    rename News g _ _ _ => Ny
                    have hlD := Ny.isList (a := D6) (by k_mem)
                    refine tail_any (Heap.IsList.typeIs hlD) PySem.slot_list_getitem.lookup (wpAny_getItem_list hlD (x := .ref _) (by decide) (by decide) (by simp; rfl) ?_) (by with_unfolding_all rfl)
                    k_steps
                    refine Halt.out ?_
                    refine ne_tups (by assumption) (by k_mem) (by k_mem) hiB hiA (by ktr_units) ?_
                    k_steps
                    rename Fr g _ _ _ => Fz
                    rename News g _ _ _ => Nz
                    refine ⟨_, _, _, [(L' + 1 + 1 + 1, oH'), (L' + 1 + 1, oS')] ++ ((lL, listOf [.ref tA, .ref tB].toArray 0) :: (tB, tupO [.int 0 tu2, .int 0 tv2] 0) :: (tA, tupO [.int u1 tu1, .int v1 tv1] 0) :: (L' + 1, oO) :: (src, listOf #[.int sx' tsx', .int sy' tsy'] ns) :: rest), rfl, Fz, newsSub Nz (by k_sub), fun p hp q hq => ?_, _, rfl, rfl, oH', oS', _, _, rfl, dH, dS⟩
                    rw [List.mem_singleton.mp hq]
                    rcases List.mem_append.mp hp with hp | hp
                    · rcases List.mem_cons.mp hp with rfl | hp
                      · exact e1
                      · rw [List.mem_singleton.mp hp]; exact e2
                    · exact hcI p hp
      case done4 =>
        intro m7 dyn h7 tk7 hP0 F7 N7
        first | (refine foldG ?_; intro qG; obtain ⟨rfl, oH, oS, vH, vS, rfl, eH, eS⟩ := hP0; k_unfold; clear qG) | obtain ⟨rfl, oH, oS, vH, vS, rfl, eH, eS⟩ := hP0
        dsimp only
        simp only [List.cons_append, List.nil_append] at N7
        have N8 := (show News g L' h7 _ from N7)
        have F8 := (show Fr g L' h7 _ from F7)
        clear N7 F7
        k_steps
        rename Fr h₀ _ _ _ => Fz
        rename News h₀ _ _ _ => Nz
        exact h _ _ _ _ _ _ hsx' hsy' hsy2' Fz (newsSub Nz (by k_sub))
end
end
theorem rst26 : True ∧ True := by
  w_top off
  first
  | (walk1; done)
  | exact ⟨trivial, trivial⟩
-- B62
section
local macro_rules | `(tactic| walk_at "call ref") => `(tactic| refine halt ?_)
local macro_rules | `(tactic| walk_at "call ref") => `(tactic| (k_here; (with_reducible show wpAny _ _ (call (Value.ref 114) [_, _]) _ _ _); k_dflt (refine' take_U ?k1 ?k2 ?k3 ?k4 ?k5 ?kK ?kU ?kx ?ky ?kz ?kt ?ku ?kd ?kv ?_; (case k1 => k_asm); (case k2 => k_asm); (case k3 => k_asm); (case k4 => k_asm); (case k5 => k_asm); (case kK => first | exact rfl | assumption); (case kU => k_updF); (case kx => assumption); (case ky => assumption); (case kz => assumption); (case kt => omega); (case ku => omega); (case kd => ktr_room); (case kv => ktr_units)); intro d9 t9 h9 tk9 x9 y9 tx9 ty9 ha9 hb9 hc9 hd9 he9 F9 N9; (try dsimp only at N9); (try dsimp only); (try k_fold)))
local macro_rules | `(tactic| walk_at "exec If") => `(tactic| ((with_reducible have h9 : StopIf := by assumption); clear h9; refine halt ?_))
local macro_rules | `(tactic| walk_at "eval ListComp") => `(tactic| refine halt ?_)
local macro_rules | `(tactic| walk_at "pyIter ref") => `(tactic| refine halt ?_)
local macro_rules | `(tactic| walk_at "compareOp NotEq ref ref") => `(tactic| refine halt ?_)
local macro_rules | `(tactic| walk_at "call builtin:sorted") => `(tactic| refine halt ?_)
section
variable {w : World} {p : Program} {loose : List Str} {mean : ExcName → Option Value} {mg mb : Str → Option Value}
  {dp un : Nat} {gd : Option (List Code)} {cn : Str} {cs : Scope} {a : Addr} {ccd : Value} {cl : List (Str × Addr)} {outer : List Env} {A₀ : Around} {base h₀ : Heap} {L : Addr} {m : Str → Option Value} {news : Led} {s : Shared} {Q E : Value → Shared → Prop}

theorem if3_K {GG : Heap} {t l fa : Addr} {px py pw ph mo : Int} {t1 t2 t3 t4 tmo : Tok} {oT : Obj} {n8 : Led}
  (K' : Below A₀ base outer GG) (F9 : Fr GG L s.heap (fun y => if y = Str.ofString "most" then some (.int mo tmo) else if y = Str.ofString "script" then some (.ref l) else none)) (X' : (hd.heap_39 w.params).In GG) (N9 : News GG L s.heap n8) (T : Top p loose mean mg mb GG)
  (mT : (L + 1 + 1 + 1 + 1, oT) ∈ n8) (mt : (t, tupO [.int px t1, .int py t2, .int pw t3, .int ph t4] 0) ∈ n8) (dT : oT.data = .cell (some (.ref t)))
  (bx1 : -2 ≤ px) (bx2 : px ≤ 2) (by1 : -2 ≤ py) (by2 : py ≤ 2) (bp1 : 0 ≤ pw) (bp2 : pw ≤ 6) (bq1 : 0 ≤ ph) (bq2 : ph ≤ 5) (bm1 : 1 ≤ mo) (bm2 : mo ≤ 5)
  (hdd : dp + 8 < recursionLimit) (huu : un + 400 < cLine) :
  wpAny (model PRG w) (ktrTop dp un gd (Str.ofString "law") lawScope L fa (.ref 170) (cellsFrom (L + 1) lawScope.names []) outer) (exec (lawStmt 5) (envOfC (Str.ofString "law") lawScope L fa (.ref 170))) (GoOn GG L (fun y => if y = Str.ofString "most" then some (.int mo tmo) else if y = Str.ofString "script" then some (.ref l) else none) n8 s) (fun _ _ => False) s := by
  unfold lawScope
  conv in (lawStmt 5) => whnf
  first | (refine foldG ?_; intro qG; obtain ⟨hs1, hs2, hs4⟩ := halves_small (most := mo) (x := px) (y := py) (w := pw) (h := ph) (by omega) bp1 bp2 bq1 (by omega); k_unfold; clear qG) | obtain ⟨hs1, hs2, hs4⟩ := halves_small (most := mo) (x := px) (y := py) (w := pw) (h := ph) (by omega) bp1 bp2 bq1 (by omega)
  first | (refine foldG ?_; intro qG; obtain ⟨out, so1, so2, so3, so4⟩ := sort_same (x := px) (y := py) bm1 bm2 bp1 bp2 bq1 (show ph ≤ 6 by omega); k_unfold; clear qG) | obtain ⟨out, so1, so2, so3, so4⟩ := sort_same (x := px) (y := py) bm1 bm2 bp1 bp2 bq1 (show ph ≤ 6 by omega)
  k_steps
  refine Halt.out ?_
  k_dflt (refine' halves_K ?k1 ?k2 ?k3 ?k4 ?k5 ?kK ?km ?kx ?ky ?kz ?kd ?kv ?_; (case k1 => k_asm); (case k2 => k_asm); (case k3 => k_asm); (case k4 => k_asm); (case k5 => k_asm); (case kK => first | exact rfl | assumption); (case kd => ktr_room); (case kv => ktr_units); (case km => k_mem); (case kx => omega); (case ky => omega); (case kz => omega))
  intro lh vh nh tlh h10 tk10 hA hI Fh Nh
  try dsimp only
  k_steps
  refine Halt.out ?_
  k_dflt (refine' cut_K ?k1 ?k2 ?k3 ?k4 ?k5 ?kK ?km ?kx ?ky ?kz ?kd ?kv ?_; (case k1 => k_asm); (case k2 => k_asm); (case k3 => k_asm); (case k4 => k_asm); (case k5 => k_asm); (case kK => first | exact rfl | assumption); (case kd => ktr_room); (case kv => ktr_units); (case km => k_mem); (case kx => omega); (case ky => omega); (case kz => omega))
  intro lc vc nc tlc h11 tk11 cA cI Fc Nc
  rw [hv_cut12] at cI
  try dsimp only
  k_steps
  refine Halt.out ?_
  refine ne_rows (by assumption) (a := lh) (b := lc) (.tail _ (List.mem_append_right _ (.head _))) (.head _) (hI.mono (by k_sub)) (cI.mono (by k_sub)) (by ktr_units) ?_
  rw [decide_eq_true rfl]
  have Nd : News GG L h11 n8 := newsSub Nc (by k_sub)
  clear Nc Nh
  k_steps
  refine Halt.out ?_
  (with_unfolding_all refine' ListComp_K (by assumption) ?hclos ?hcell ?hkind ?hnames ?hs ?_; (case hclos => exact rfl); (case hcell => decide); (case hkind => rfl); (case hnames => decide); (case hs => intro _; rfl))
  k_steps
  refine Halt.out ?_
  k_dflt (refine' halves_K ?k1 ?k2 ?k3 ?k4 ?k5 ?kK ?km ?kx ?ky ?kz ?kd ?kv ?_; (case k1 => k_asm); (case k2 => k_asm); (case k3 => k_asm); (case k4 => k_asm); (case k5 => k_asm); (case kK => first | exact rfl | assumption); (case kd => ktr_room); (case kv => ktr_units); (case km => k_mem); (case kx => omega); (case ky => omega); (case kz => omega))
  intro lh2 vh2 nh2 tlh2 h13 tk13 hA2 hI2 Fh2 Nh2
  try dsimp only
  k_steps
  refine Halt.out ?_
  refine pyIter_list_K rfl (.head _) (by assumption) Nh2 ?_
  intro I he hIL hI0 hIa Fe Ne heI hIt
  refine CompIn.ofL Fe Ne heI hIa (hIt _ (.head _)) ?_
  intro C D oC hf tkf hIC hID hCD hoff Ff Nf hoC hItf
  first | (refine foldG ?_; intro qG; obtain ⟨mc0, hoC⟩ := hoC; k_unfold; clear qG) | obtain ⟨mc0, hoC⟩ := hoC
  have V0 := hI2.length
  refine start_K (depth := 0) rfl hItf.toAt rfl ?_
  refine' comp_nest0 (dyn₀ := []) (fun i mc ys dyn => IsTups dyn ∧ ITups dyn ys (((hvR mo [px, py, pw, ph]).take i).flatMap dotsR) ∧ ys.length ≤ i * 36) (turn_nest _ _ _ _ _ _ _ _ _) (fun _ _ _ => rfl) (fun _ _ _ => rfl) (fun _ _ _ => rfl) rfl rfl (fun _ => rfl) hItf.toAt hIL hI0 hoff hIC hID hCD Ff Nf hoC (fun _ h => nomatch h) ⟨IsTups.nil, ITups.nil, Nat.zero_le _⟩ ?turn ?done
  case turn =>
    intro i v mc oI oC ys kk dyn hg tkg hi hv hP0 hns hoff4 hoC4 Fg Ng
    first | (refine foldG ?_; intro qG; obtain ⟨J1, J2, J3⟩ := hP0; k_unfold; clear qG) | obtain ⟨J1, J2, J3⟩ := hP0
    first | (refine foldG ?_; intro qG; obtain ⟨q, x4, y4, w4, h4', u1, u2, u3, u4, n4, rfl, hq, hr⟩ := hI2.get4 hs4 hv; k_unfold; clear qG) | obtain ⟨q, x4, y4, w4, h4', u1, u2, u3, u4, n4, rfl, hq, hr⟩ := hI2.get4 hs4 hv
    refine foldG ?_
    intro qG
    obtain ⟨hS1, hS2⟩ := hs1 _ (List.mem_of_getElem? hr)
    obtain ⟨bw, bw', bh, bh'⟩ := hS1.four
    obtain ⟨i1, i2, i3, i4, i5, i6⟩ := hS2.four
    clear hS1 hS2
    k_unfold
    clear qG
    refine foldG ?_; intro qG; obtain @⟨mm, hoC6, hxm⟩ := NsV.of hoC4; k_unfold; clear qG
    have hi9 : i ≤ 2000 := by omega
    clear hoC4 hs1 hs2 hs4 so1 so2 so3 so4
    try dsimp only
    k_steps
    refine Halt.out ?_
    k_dflt (refine' dots_KF ?k1 ?k2 ?k3 ?k4 ?k5 ?kK ?km ?kx ?ky ?kw ?kh ?kd ?kv ?_; (case k1 => k_asm); (case k2 => k_asm); (case k3 => k_asm); (case k4 => k_asm); (case k5 => k_asm); (case kK => first | exact rfl | assumption); (case kd => ktr_room); (case kv => ktr_units); (case km => k_mem); (case kx => omega); (case ky => omega); (case kw => omega); (case kh => omega))
    intro dl2 dvs2 dn2 dtl2 dh2 dtk2 dA2 dI2 dO2 dF2 dN2
    try dsimp only
    first | (refine foldG ?_; intro qG; obtain ⟨tl2, ts2, tT2, tI2⟩ := dI2.own; k_unfold; clear qG) | obtain ⟨tl2, ts2, tT2, tI2⟩ := dI2.own
    have V2 := tI2.length
    have L2 : (dotsOf x4 y4 w4.toNat h4'.toNat).length ≤ 36 := by
      rw [len_dots]; exact Nat.mul_le_mul (show w4.toNat ≤ 6 by omega) (show h4'.toNat ≤ 6 by omega)
    have ho2 : Offs I C D tl2 := tT2.offs dN2 (fun q hq => .tail _ (List.mem_append_left _ (ts2 q hq))) (.tail _ (List.mem_append_right _ (.head _))) (.tail _ (List.mem_append_right _ (.tail _ (.head _)))) (.tail _ (List.mem_append_right _ (.tail _ (.tail _ (.head _))))) hns hoC6
    have N2 : News GG L dh2 ((dl2, listOf dvs2.toArray dn2) :: (tl2 ++ (I, oI) :: (C, oC) :: (D, listOf ys.toArray kk) :: (dyn ++ (lh2, listOf vh2.toArray nh2) :: (tlh2 ++ n8)))) := newsSub dN2 (by
      intro q hq
      rcases List.mem_cons.mp hq with rfl | hq
      · exact .head _
      · exact .tail _ ((List.mem_append.mp hq).elim (fun e => List.mem_append_left _ (ts2 q e)) (List.mem_append_right _)))
    clear dN2
    k_steps
    refine Halt.out ?_
    refine pyIter_list_K rfl (.head _) (by assumption) N2 ?_
    intro I2 h6 hIL2 hI02 hIa2 F6 N6 heI2 hIt2
    have hoff6 : Offs I2 C D ((I, oI) :: (dl2, listOf dvs2.toArray dn2) :: (tl2 ++ (lh2, listOf vh2.toArray nh2) :: (tlh2 ++ n8))) := by
      intro p hp
      refine ⟨hIa2 p ?_, ?_⟩
      · revert p
        k_sub
      rcases List.mem_cons.mp hp with rfl | hp
      · exact ⟨hIC, hID⟩
      rcases List.mem_cons.mp hp with rfl | hp
      · exact ⟨fun e => dO2 (C, oC) (by k_mem) e.symm, fun e => dO2 (D, listOf ys.toArray kk) (by k_mem) e.symm⟩
      rcases List.mem_append.mp hp with hp | hp
      · exact (ho2 p hp).2
      · exact (hoff p hp).2
    have hI2C : I2 ≠ C := (hIa2 (C, oC) (by k_mem)).symm
    have hI2D : I2 ≠ D := (hIa2 (D, listOf ys.toArray kk) (by k_mem)).symm
    have hItI := (hIt2 ((I, oI) :: (dl2, listOf dvs2.toArray dn2) :: (tl2 ++ (lh2, listOf vh2.toArray nh2) :: (tlh2 ++ n8))) (.tail _ (.head _))).toAt
    refine start_K (depth := 1) rfl hItI rfl ?_
    refine' comp_leaf0 (dyn₀ := dyn) (fun j mc ys dyn' => dyn' = dyn ∧ ITups (tl2 ++ dyn) ys (((hvR mo [px, py, pw, ph]).take i).flatMap dotsR ++ (dotsOf x4 y4 w4.toNat h4'.toNat).take j) ∧ ys.length ≤ i * 36 + j) (turn_leaf2 _ _ _ _ _ _ _ _ _) (fun _ _ _ => rfl) (fun _ _ _ => rfl) (fun _ _ _ => rfl) rfl rfl hItI hIL2 hI02 hoff6 hI2C hI2D hCD F6 (newsSub N6 (by k_sub)) hoC6 (fun p hp => ⟨hIa2 p (by k_mem), (hoff4 p hp).2⟩) ⟨rfl, by simpa using J2.mono (by k_sub), by omega⟩ ?turn3 ?done3
    case done3 =>
      intro mc2 oC2 ys2 k2 dyn2 h7 tk7 hP0 F7 N7 hoC7 ho7
      first | (refine foldG ?_; intro qG; obtain ⟨rfl, J5, J6⟩ := hP0; k_unfold; clear qG) | obtain ⟨rfl, J5, J6⟩ := hP0
      refine ⟨rfl, CEnd.intro (dyn := tl2 ++ dyn2) F7 (newsSub N7 (by k_sub)) hoC7 (fun p hp => ?_) ⟨tT2.append J1, ?_, by omega⟩⟩
      · exact (List.mem_append.mp hp).elim (ho2 p) (hoff4 p)
      · rw [List.take_add_one, hr, List.flatMap_append, Option.toList_some, List.flatMap_cons, List.flatMap_nil, List.append_nil]
        rw [List.take_of_length_le (Nat.le_of_eq V2.symm)] at J5
        exact J5
    case turn3 =>
      intro j v2 mc2 oI2 oC2 ys2 k2 dyn2 h7 tk7 hj hv2 hP0 hns2 hoff7 hoC7 F7 N7
      first | (refine foldG ?_; intro qG; obtain ⟨rfl, J5, J6⟩ := hP0; k_unfold; clear qG) | obtain ⟨rfl, J5, J6⟩ := hP0
      first | (refine foldG ?_; intro qG; obtain ⟨ta, tws, tn, tns, rfl, tm, ti, tr⟩ := tI2.get hv2; k_unfold; clear qG) | obtain ⟨ta, tws, tn, tns, rfl, tm, ti, tr⟩ := tI2.get hv2
      refine foldG ?_; intro qG; obtain @⟨mm2, hoC8, hxm2⟩ := NsV.of hoC7; k_unfold; clear qG
      clear hoC7
      k_steps
      refine CElt.intro (dyn := dyn2) (by assumption) (newsSub N7 (by k_sub)) hoC8 hoff7 (by omega) ⟨rfl, ?_, by simp; omega⟩
      rw [List.take_add_one, tr, Option.toList_some, ← List.append_assoc]
      exact J5.append (ITups.one (List.mem_append_left _ tm) ti)
  case done =>
    intro mc oC ys kk dyn hg tkg hP0 Fg Ng hoC4 ho4
    first | (refine foldG ?_; intro qG; obtain ⟨J1, J2, J3⟩ := hP0; k_unfold; clear qG) | obtain ⟨J1, J2, J3⟩ := hP0
    rw [V0, List.take_of_length_le (Nat.le_refl _)] at J2
    refine ⟨rfl, oC, mc, ys, kk, dyn ++ (lh2, listOf vh2.toArray nh2) :: (tlh2 ++ n8), Fg, Ng, hoC4, hCD, fun p hp => ?_, ?_⟩
    · rcases List.mem_append.mp hp with hp | hp
      · exact (ho4 p hp).2.1
      · exact (hoff p hp).2.1
    intro hh Fi Ni
    try dsimp only
    have Ni2 : News GG L hh ((D, listOf ys.toArray kk) :: (dyn ++ n8)) := newsSub Ni (by k_sub)
    clear Ni
    k_steps
    refine Halt.out ?_
    refine sorted_any (by assumption) Ni2 (.head _) (J2.mono (by k_sub)) (fun r hr => ?_) so1 (by omega) ?_
    · first | (refine foldG ?_; intro qG; obtain ⟨q, _, hrq⟩ := List.mem_flatMap.mp hr; k_unfold; clear qG) | obtain ⟨q, _, hrq⟩ := List.mem_flatMap.mp hr
      exact dotsR_two q r hrq
    intro D7 us7 n7 h14 F14 N14 U14
    try dsimp only
    k_steps
    refine Halt.out ?_
    k_dflt (refine' dots_KF ?k1 ?k2 ?k3 ?k4 ?k5 ?kK ?km ?kx ?ky ?kw ?kh ?kd ?kv ?_; (case k1 => k_asm); (case k2 => k_asm); (case k3 => k_asm); (case k4 => k_asm); (case k5 => k_asm); (case kK => first | exact rfl | assumption); (case kd => ktr_room); (case kv => ktr_units); (case km => k_mem); (case kx => omega); (case ky => omega); (case kw => omega); (case kh => omega))
    intro dl8 dvs8 dn8 dtl8 dh8 dtk8 dA8 dI8 dO8 dF8 dN8
    try dsimp only
    k_steps
    refine Halt.out ?_
    refine sorted_any (by assumption) dN8 (.head _) (dI8.mono (by k_sub)) (dots_twoZ _ _ _ _) so2 (by omega) ?_
    intro D9 us9 n9 h15 F15 N15 U15
    try dsimp only
    k_steps
    refine Halt.out ?_
    refine ne_rows N15 (a := D7) (b := D9) (.tail _ (.tail _ (List.mem_append_right _ (.head _)))) (.head _) (U14.mono (by k_sub)) (U15.mono (by k_sub)) (by ktr_units) ?_
    rw [decide_eq_true rfl]
    k_steps
    rename Fr GG _ _ _ => Fz
    rename News GG _ _ _ => Nz
    exact GoOn.intro Fz (newsSub Nz (by k_sub))

end
-- B64
section
variable {w : World} {p : Program} {loose : List Str} {mean : ExcName → Option Value} {mg mb : Str → Option Value}
  {dp un : Nat} {gd : Option (List Code)} {cn : Str} {cs : Scope} {a : Addr} {ccd : Value} {cl : List (Str × Addr)} {outer : List Env} {A₀ : Around} {base h₀ : Heap} {L : Addr} {m : Str → Option Value} {news : Led} {s : Shared} {Q E : Value → Shared → Prop}
theorem if1_K {L : Nat} {GG : Heap} {l fa : Addr}
  (K' : Below A₀ base outer GG) (F9 : Fr GG L s.heap (fun y => if y = Str.ofString "script" then some (.ref l) else none)) (X' : (hd.heap_39 w.params).In GG) (T : Top p loose mean mg mb GG) (hdd : dp + 14 < recursionLimit) (huu : un + 600 < cLine)
  {n8 : Led} (N3 : News GG L s.heap n8) :
  wpAny (model PRG w) (ktrTop dp un gd (Str.ofString "law") lawScope L fa (.ref 170) (cellsFrom (L + 1) lawScope.names []) outer) (exec (lawStmt 1) (envOfC (Str.ofString "law") lawScope L fa (.ref 170))) (GoOn GG L (fun y => if y = Str.ofString "script" then some (.ref l) else none) n8 s) (fun _ _ => False) s := by
  unfold lawScope
  conv in (lawStmt 1) => whnf
  k_steps
  refine Halt.out ?_
  k_dflt (refine' boxR_K (l := 0) (t := 0) (r := 8) (u := 4) (g := 4) ?k1 ?k2 ?k3 ?k4 ?k5 ?kK ?hb ?b1 ?b2 ?b3 ?b4 ?b5 ?b6 ?b7 ?b8 ?b9 ?ba ?kd ?kv (due_none (by omega)) (due_some (by omega) (by omega) (by omega) (by omega) (by omega)) ?_; (case k1 => k_asm); (case k2 => k_asm); (case k3 => k_asm); (case k4 => k_asm); (case k5 => k_asm); (case kK => first | exact rfl | assumption); (case kd => ktr_room); (case kv => ktr_units); (case hb => k_mem); (case b1 => omega); (case b2 => omega); (case b3 => omega); (case b4 => omega); (case b5 => omega); (case b6 => omega); (case b7 => omega); (case b8 => omega); (case b9 => omega); (case ba => omega))
  intro hb tkb Fb Nb
  try dsimp only
  k_steps
  refine Halt.out ?_
  k_dflt (refine' boxN_K ?k1 ?k2 ?k3 ?k4 ?k5 ?kK  ?kd ?kv ?_; (case k1 => k_asm); (case k2 => k_asm); (case k3 => k_asm); (case k4 => k_asm); (case k5 => k_asm); (case kK => first | exact rfl | assumption); (case kd => ktr_room); (case kv => ktr_units))
  intro hc tkc Fc Nc
  try dsimp only
  k_steps
  refine Halt.out ?_
  k_dflt (refine' box_K ?k1 ?k2 ?k3 ?k4 ?k5 ?kK ?hb ?b1 ?b2 ?b3 ?b4 ?b5 ?b6 ?b7 ?b8 ?b9 ?ba ?kd ?kv ?_ ?_; (case k1 => k_asm); (case k2 => k_asm); (case k3 => k_asm); (case k4 => k_asm); (case k5 => k_asm); (case kK => first | exact rfl | assumption); (case kd => ktr_room); (case kv => ktr_units); (case hb => k_mem); (case b1 => decide); (case b2 => decide); (case b3 => decide); (case b4 => decide); (case b5 => decide); (case b6 => decide); (case b7 => decide); (case b8 => decide); (case b9 => decide); (case ba => decide))
  rotate_left 1
  · intro q c1 c2 c3 c4 h' tk' e1 e2
    exact absurd (Int.le_refl 5) e1
  intro hd tkd _ Fd Nd
  try dsimp only
  k_steps
  rename Fr GG _ _ _ => Fz
  rename News GG _ _ _ => Nz
  exact GoOn.intro Fz (newsSub Nz (by k_sub))

end
-- B65
section
variable {w : World} {p : Program} {loose : List Str} {mean : ExcName → Option Value} {mg mb : Str → Option Value}
  {dp un : Nat} {gd : Option (List Code)} {cn : Str} {cs : Scope} {a : Addr} {ccd : Value} {cl : List (Str × Addr)} {outer : List Env} {A₀ : Around} {base h₀ : Heap} {L : Addr} {m : Str → Option Value} {news : Led} {s : Shared} {Q E : Value → Shared → Prop}
theorem if2_K {L : Nat} {GG : Heap} {l fa : Addr}
  (K' : Below A₀ base outer GG) (F9 : Fr GG L s.heap (fun y => if y = Str.ofString "script" then some (.ref l) else none)) (X' : (hd.heap_39 w.params).In GG) (T : Top p loose mean mg mb GG) (hdd : dp + 14 < recursionLimit) (huu : un + 600 < cLine)
  {n8 : Led} {wd ht sd : Int} {tw th tz : Tok} {oW oH oZ : Obj} (N6 : News GG L s.heap n8) (mW : (L + 1 + 1 + 1 + 1 + 1, oW) ∈ n8) (mH : (L + 1, oH) ∈ n8) (mZ : (L + 1 + 1, oZ) ∈ n8) (dW : oW.data = .cell (some (.int wd tw))) (dH : oH.data = .cell (some (.int ht th))) (dZ : oZ.data = .cell (some (.int sd tz))) (bw1 : 0 ≤ wd) (bw2 : wd < 7) (bh1 : 0 ≤ ht) (bh2 : ht < 7) (bs1 : 1 ≤ sd) (bs2 : sd ≤ 4) :
  wpAny (model PRG w) (ktrTop dp un gd (Str.ofString "law") lawScope L fa (.ref 170) (cellsFrom (L + 1) lawScope.names []) outer) (exec (lawStmt 3) (envOfC (Str.ofString "law") lawScope L fa (.ref 170))) (GoOn GG L (fun y => if y = Str.ofString "script" then some (.ref l) else none) n8 s) (fun _ _ => False) s := by
  unfold lawScope
  conv in (lawStmt 3) => whnf
  k_steps
  refine Halt.out ?_
  k_dflt (refine' tiles_K ?k1 ?k2 ?k3 ?k4 ?k5 ?kK ?w0 ?w1 ?h0 ?h1 ?s0 ?s1 ?kd ?kv ?_; (case k1 => k_asm); (case k2 => k_asm); (case k3 => k_asm); (case k4 => k_asm); (case k5 => k_asm); (case kK => first | exact rfl | assumption); (case kd => ktr_room); (case kv => ktr_units); (case w0 => omega); (case w1 => omega); (case h0 => omega); (case h1 => omega); (case s0 => omega); (case s1 => omega))
  intro lt vt nt tlt h6 tk6 tA tI Ft Nt
  try dsimp only
  k_steps
  refine Halt.out ?_
  k_dflt (refine' rows_K ?k1 ?k2 ?k3 ?k4 ?k5 ?kK ?w0 ?w1 ?h0 ?h1 ?s0 ?s1 ?kd ?kv ?_; (case k1 => k_asm); (case k2 => k_asm); (case k3 => k_asm); (case k4 => k_asm); (case k5 => k_asm); (case kK => first | exact rfl | assumption); (case kd => ktr_room); (case kv => ktr_units); (case w0 => omega); (case w1 => omega); (case h0 => omega); (case h1 => omega); (case s0 => omega); (case s1 => omega))
  intro lr vr nr tlr h7 tk7 rA rI Fr7 Nr
  try dsimp only
  k_steps
  refine Halt.out ?_
  refine ne_rows (by assumption) (a := lt) (b := lr) (.tail _ (List.mem_append_right _ (.head _))) (.head _) (tI.mono (by k_sub)) (rI.mono (by k_sub)) (by ktr_units) ?_
  rw [decide_eq_true rfl]
  k_steps
  rename Fr GG _ _ _ => Fz
  rename News GG _ _ _ => Nz
  exact GoOn.intro Fz (newsSub Nz (by k_sub))

end
-- B66
section
variable {w : World} {p : Program} {loose : List Str} {mean : ExcName → Option Value} {mg mb : Str → Option Value}
  {dp un : Nat} {gd : Option (List Code)} {cn : Str} {cs : Scope} {a : Addr} {ccd : Value} {cl : List (Str × Addr)} {outer : List Env} {A₀ : Around} {base h₀ : Heap} {L : Addr} {m : Str → Option Value} {news : Led} {s : Shared} {Q E : Value → Shared → Prop}
theorem st2_K {L src : Nat} {GG : Heap} {l fa : Addr} {sn : Nat} {x0 y0 : Int} {tx0 ty0 : Tok} {oW oD oS oZ oH : Obj}
  (K' : Below A₀ base outer GG) (F9 : Fr GG L s.heap (fun y => if y = Str.ofString "script" then some (.ref l) else none)) (X' : (hd.heap_39 w.params).In GG) (T : Top p loose mean mg mb GG) (hdd : dp + 14 < recursionLimit) (huu : un + 600 < cLine)
  (hx0 : 0 ≤ x0) (hy0 : 0 ≤ y0) (hz0 : y0 < 2147483647) (N5 : News GG L s.heap ((src, listOf #[.int x0 tx0, .int y0 ty0] sn) :: (L + 1 + 1 + 1 + 1 + 1, oW) :: (L + 1 + 1 + 1 + 1, oD) :: (L + 1 + 1 + 1, oS) :: (L + 1 + 1, oZ) :: (L + 1, oH) :: (168, tabObj #[]) :: [])) (dS : oS.data = .cell (some (.ref src))) (e1 : oH.data = .cell none) (e2 : oZ.data = .cell none) (e4 : oD.data = .cell none) (e5 : oW.data = .cell none) (n0 : 168 ≠ src) (n1 : L + 1 ≠ src) (n2 : L + 1 + 1 ≠ src) (n3 : L + 1 + 1 + 1 ≠ src) (n4 : L + 1 + 1 + 1 + 1 ≠ src) (n5 : L + 1 + 1 + 1 + 1 + 1 ≠ src) (l0 : 168 < L) {Q : Flow → Shared → Prop} (k : ∀ h' tk', StB GG L src sn oD h' → Fr GG L h' (fun y => if y = Str.ofString "script" then some (.ref l) else none) → Q .next {s with heap := h', toks := tk'}) :
  wpAny (model PRG w) (ktrTop dp un gd (Str.ofString "law") lawScope L fa (.ref 170) (cellsFrom (L + 1) lawScope.names []) outer) (exec (lawStmt 2) (envOfC (Str.ofString "law") lawScope L fa (.ref 170))) Q E s := by
  unfold lawScope
  conv in (lawStmt 2) => whnf
  k_steps
  rename Fr GG _ _ _ => F6
  rename News GG _ _ _ => N6
  exact k _ _ (.mk _ _ _ _ _ _ _ _ _ _ _ _ _ _ (by assumption) (by assumption) (by assumption) (by assumption) (by assumption) (by assumption) (by assumption) (by assumption) (by omega) (by omega) (by assumption) (by assumption) (by assumption) (newsTail N6)) F6
end
-- B67
section
variable {w : World} {p : Program} {loose : List Str} {mean : ExcName → Option Value} {mg mb : Str → Option Value}
  {dp un : Nat} {gd : Option (List Code)} {cn : Str} {cs : Scope} {a : Addr} {ccd : Value} {cl : List (Str × Addr)} {outer : List Env} {A₀ : Around} {base h₀ : Heap} {L : Addr} {m : Str → Option Value} {news : Led} {s : Shared} {Q E : Value → Shared → Prop}
theorem st4_K {L src : Nat} {GG : Heap} {l fa : Addr} {sn : Nat} {x0 y0 : Int} {tx0 ty0 : Tok} {oW oD oS oZ oH : Obj}
  (K' : Below A₀ base outer GG) (F9 : Fr GG L s.heap (fun y => if y = Str.ofString "script" then some (.ref l) else none)) (X' : (hd.heap_39 w.params).In GG) (T : Top p loose mean mg mb GG) (hdd : dp + 14 < recursionLimit) (huu : un + 600 < cLine)
  (hx0 : 0 ≤ x0) (hy0 : 0 ≤ y0) (hz0 : y0 < 2147483647) (N5 : News GG L s.heap ((src, listOf #[.int x0 tx0, .int y0 ty0] sn) :: (L + 1 + 1 + 1 + 1 + 1, oW) :: (L + 1 + 1 + 1 + 1, oD) :: (L + 1 + 1 + 1, oS) :: (L + 1 + 1, oZ) :: (L + 1, oH) :: (168, tabObj #[]) :: [])) (dS : oS.data = .cell (some (.ref src))) (e4 : oD.data = .cell none) (n0 : 168 ≠ src) (n1 : L + 1 ≠ src) (n2 : L + 1 + 1 ≠ src) (n3 : L + 1 + 1 + 1 ≠ src) (n4 : L + 1 + 1 + 1 + 1 ≠ src) (n5 : L + 1 + 1 + 1 + 1 + 1 ≠ src) (l0 : 168 < L) {Q : Flow → Shared → Prop} (k : ∀ h' tk', StC GG L src l sn oW oS oZ oH h' → Q .next {s with heap := h', toks := tk'}) :
  wpAny (model PRG w) (ktrTop dp un gd (Str.ofString "law") lawScope L fa (.ref 170) (cellsFrom (L + 1) lawScope.names []) outer) (exec (lawStmt 4) (envOfC (Str.ofString "law") lawScope L fa (.ref 170))) Q E s := by
  unfold lawScope
  conv in (lawStmt 4) => whnf
  k_steps
  rename Fr GG _ _ _ => F8
  rename News GG _ _ _ => N8
  have a0 : ∀ q ∈ [(L + 1 + 1 + 1 + 1 + 1, oW), (L + 1 + 1 + 1, oS), (L + 1 + 1, oZ), (L + 1, oH)], q.1 ≠ 168 ∧ q.1 ≠ src := by
        intro q hq
        simp only [List.mem_cons, List.not_mem_nil, or_false] at hq
        rcases hq with rfl | rfl | rfl | rfl
        · exact ⟨(show (_ : Nat) ≠ _ by omega), n5⟩
        · exact ⟨(show (_ : Nat) ≠ _ by omega), n3⟩
        · exact ⟨(show (_ : Nat) ≠ _ by omega), n2⟩
        · exact ⟨(show (_ : Nat) ≠ _ by omega), n1⟩
  exact k _ _ (StC.of (newsTail N8) F8 (by assumption) (by omega) (by omega) (by omega) (by omega) (by omega) (by omega) (by omega) (by omega) (by omega) (by omega) (by assumption) (by assumption) (by assumption) a0 (show L + 1 + 1 + 1 + 1 ≠ 168 by omega) n4)
end
-- B68
section
variable {w : World} {p : Program} {loose : List Str} {mean : ExcName → Option Value} {mg mb : Str → Option Value}
  {dp un : Nat} {gd : Option (List Code)} {cn : Str} {cs : Scope} {a : Addr} {ccd : Value} {cl : List (Str × Addr)} {outer : List Env} {A₀ : Around} {base h₀ : Heap} {L : Addr} {m : Str → Option Value} {news : Led} {s : Shared} {Q E : Value → Shared → Prop}
theorem st6_K {L src : Nat} {GG : Heap} {l fa : Addr} {sn : Nat} {n9 : Led} {mo : Int} {tmo : Tok}
  (K' : Below A₀ GG [] GG) (F10 : Fr GG L s.heap (fun y => if y = Str.ofString "most" then some (.int mo tmo) else if y = Str.ofString "script" then some (.ref l) else none)) (X' : (hd.heap_39 w.params).In GG) (T : Top p loose mean mg mb GG) (codeHd : CodeHd GG (170, 168).1 (170, 168).2) (hdd : dp + 14 < recursionLimit) (huu : un + 600 < cLine)
  {x2 y2 : Int} {tx2 ty2 : Tok} (hx1 : 0 ≤ x2) (hy1 : 0 ≤ y2) (hy2 : y2 < 2147483647) (N10 : News GG L s.heap ((src, listOf #[.int x2 tx2, .int y2 ty2] sn) :: (168, tabObj #[]) :: n9)) {wd ht sd : Int} {tw th tz : Tok} {oW oH oZ oS oT : Obj} {t : Addr} (mW : (L + 1 + 1 + 1 + 1 + 1, oW) ∈ n9) (mT : (L + 1 + 1 + 1 + 1, oT) ∈ n9) (mS : (L + 1 + 1 + 1, oS) ∈ n9) (mZ : (L + 1 + 1, oZ) ∈ n9) (mH : (L + 1, oH) ∈ n9) (dT : oT.data = .cell (some (.ref t))) (dS : oS.data = .cell (some (.ref src))) (dW : oW.data = .cell (some (.int wd tw))) (dH : oH.data = .cell (some (.int ht th))) (dZ : oZ.data = .cell (some (.int sd tz))) (bw1 : 0 ≤ wd) (bw2 : wd < 7) (bh1 : 0 ≤ ht) (bh2 : ht < 7) (bs1 : 1 ≤ sd) (bs2 : sd ≤ 4) (a168 : ∀ q ∈ n9, q.1 ≠ 168) (asr : ∀ q ∈ n9, q.1 ≠ src) (n0 : 168 ≠ src) (l0 : 168 < L)
  {Q : Flow → Shared → Prop} (k : ∀ h' tk' (x y : Int) tx ty (c1 c2 : Addr), 0 ≤ x → 0 ≤ y → y < 2147483647 → Fr GG L h' (fun y => if y = Str.ofString "most" then some (.int mo tmo) else if y = Str.ofString "script" then some (.ref l) else none) → News GG L h' ((src, listOf #[.int x tx, .int y ty] sn) :: (168, tabObj ((#[] ++ #[rawInt ((144 : Nat) : Int), rawInt ((0 : Nat) : Int), .ref c1]) ++ #[rawInt ((145 : Nat) : Int), rawInt ((0 : Nat) : Int), .ref c2])) :: n9) → Q .next {s with heap := h', toks := tk'}) :
  wpAny (model PRG w) (ktrTop dp un gd (Str.ofString "law") lawScope L fa (.ref 170) (cellsFrom (L + 1) lawScope.names []) []) (exec (lawStmt 6) (envOfC (Str.ofString "law") lawScope L fa (.ref 170))) Q E s := by
  unfold lawScope
  conv in (lawStmt 6) => whnf
  try dsimp only
  k_steps
  rename_i f1 c1 oc1 vs1 tq1 ct1 hz1 tkz1 F11 N11 d11 d21 l11 l21
  refine Halt.out ?_
  k_dflt (refine' refused_K (P := fun n => ∀ q ∈ ((src, listOf #[.int x2 tx2, .int y2 ty2] sn) :: (168, tabObj (#[] ++ #[rawInt ((144 : Nat) : Int), rawInt ((0 : Nat) : Int), .ref c1])) :: n9 : Led), q ∈ n) ?hfn ?Rf1 ?k1 ?k2 ?k3 ?k4 ?k5 ?kK ?kd ?kv ?_; (case k1 => k_asm); (case k2 => k_asm); (case k3 => k_asm); (case k4 => k_asm); (case k5 => k_asm); (case kK => first | exact rfl | assumption); (case kd => ktr_room); (case kv => ktr_units); (case hfn => exact List.Mem.head _))
  case Rf1 =>
    refine Refuses.lam (.head _) (.tail _ (.head _)) d11 d21 rfl rfl rfl rfl (by decide) ?_
    clear F11 N11 K' X' T F10
    intro dp un gd outer A₀ base h₀ L9 s9 E9 B9 F9 X9 N9 T9 hd9 hu9 hE9
    k_steps
    refine Halt.out ?_
    k_dflt (refine' halves0_K ?k1 ?k2 ?k3 ?k4 ?k5 ?kK  ?kd ?kv ?_; (case k1 => k_asm); (case k2 => k_asm); (case k3 => k_asm); (case k4 => k_asm); (case k5 => k_asm); (case kK => first | exact rfl | assumption); (case kd => ktr_room); (case kv => ktr_units))
    intro e h' tk' g₂ F R U
    exact hE9 _ _ _ _ _ (by k_sub) F R U
  intro h13 tk13 nk1 hP1 F13 N13
  have N14 : News GG L h13 ((src, listOf #[.int x2 tx2, .int y2 ty2] sn) :: (168, tabObj (#[] ++ #[rawInt ((144 : Nat) : Int), rawInt ((0 : Nat) : Int), .ref c1])) :: n9) := newsSub N13 hP1
  clear N13 hP1 N11 F11
  try dsimp only
  k_steps
  rename_i f2 c2 oc2 vs2 tq2 ct2 hz2 tkz2 F12 N12 d12 d22 l12 l22
  refine Halt.out ?_
  k_dflt (refine' refused_K (P := fun n => ∃ (x3 y3 : Int) (tx3 ty3 : Tok), 0 ≤ x3 ∧ 0 ≤ y3 ∧ y3 < 2147483647 ∧ ∀ q ∈ ((src, listOf #[.int x3 tx3, .int y3 ty3] sn) :: (168, tabObj ((#[] ++ #[rawInt ((144 : Nat) : Int), rawInt ((0 : Nat) : Int), .ref c1]) ++ #[rawInt ((145 : Nat) : Int), rawInt ((0 : Nat) : Int), .ref c2])) :: n9 : Led), q ∈ n) ?hfn ?Rf2 ?k1 ?k2 ?k3 ?k4 ?k5 ?kK ?kd ?kv ?_; (case k1 => k_asm); (case k2 => k_asm); (case k3 => k_asm); (case k4 => k_asm); (case k5 => k_asm); (case kK => first | exact rfl | assumption); (case kd => ktr_room); (case kv => ktr_units); (case hfn => exact List.Mem.head _))
  case Rf2 =>
    refine Refuses.lam (.head _) (.tail _ (.head _)) d12 d22 rfl rfl rfl rfl (by decide) ?_
    clear F12 N12 K' X' T F10 F13 N14
    intro dp un gd outer A₀ base h₀ L9 s9 E9 B9 F9 X9 N9 T9 hd9 hu9 hE9
    have nf2 : f2 ≠ src := Nat.ne_of_gt (by omega)
    have nc2 : c2 ≠ src := Nat.ne_of_gt (by omega)
    k_steps
    refine Halt.out ?_
    k_dflt (refine' tilesX_K ?k1 ?k2 ?k3 ?k4 ?k5 ?kK ?hbad ?kd ?kv ?_; (case k1 => k_asm); (case k2 => k_asm); (case k3 => k_asm); (case k4 => k_asm); (case k5 => k_asm); (case kK => first | exact rfl | assumption); (case kd => ktr_room); (case kv => ktr_units); (case hbad => omega))
    intro e h' tk' g₂ F R U
    refine' hE9 _ _ _ _ _ ⟨_, _, _, _, ?b1, ?b2, ?b3, ?b4⟩ F R U
    case b4 => k_sub
    case b1 => assumption
    case b2 => assumption
    case b3 => assumption
  intro h14 tk14 nk2 hP2 F14 N15
  first | (refine foldG ?_; intro qG; obtain ⟨x3, y3, tx3, ty3, hx1, hy1, hy2, hP2⟩ := hP2; k_unfold; clear qG) | obtain ⟨x3, y3, tx3, ty3, hx1, hy1, hy2, hP2⟩ := hP2
  have N16 : News GG L h14 ((src, listOf #[.int x3 tx3, .int y3 ty3] sn) :: (168, tabObj ((#[] ++ #[rawInt ((144 : Nat) : Int), rawInt ((0 : Nat) : Int), .ref c1]) ++ #[rawInt ((145 : Nat) : Int), rawInt ((0 : Nat) : Int), .ref c2])) :: n9) := newsSub N15 hP2
  clear N15 hP2 N12 F12
  try dsimp only
  k_steps

  rename Fr GG _ _ _ => Fz
  rename News GG _ _ _ => Nz
  exact k _ _ _ _ _ _ _ _ hx1 hy1 hy2 Fz Nz
end
-- B69
section
variable {w : World} {p : Program} {loose : List Str} {mean : ExcName → Option Value} {mg mb : Str → Option Value}
  {dp un : Nat} {gd : Option (List Code)} {cn : Str} {cs : Scope} {a : Addr} {ccd : Value} {cl : List (Str × Addr)} {outer : List Env} {A₀ : Around} {base h₀ : Heap} {L : Addr} {m : Str → Option Value} {news : Led} {s : Shared} {Q E : Value → Shared → Prop}
theorem st7_K {L src : Nat} {GG : Heap} {l fa : Addr} {sn : Nat} {n9 : Led} {mo : Int} {tmo : Tok}
  (K' : Below A₀ GG [] GG) (F14 : Fr GG L s.heap (fun y => if y = Str.ofString "most" then some (.int mo tmo) else if y = Str.ofString "script" then some (.ref l) else none)) (X' : (hd.heap_39 w.params).In GG) (T : Top p loose mean mg mb GG) (codeHd : CodeHd GG (170, 168).1 (170, 168).2) (hdd : dp + 14 < recursionLimit) (huu : un + 600 < cLine)
  {x3 y3 : Int} {tx3 ty3 : Tok} {c1 c2 : Addr} (hx1 : 0 ≤ x3) (hy1 : 0 ≤ y3) (hy2 : y3 < 2147483647) (N16 : News GG L s.heap ((src, listOf #[.int x3 tx3, .int y3 ty3] sn) :: (168, tabObj ((#[] ++ #[rawInt ((144 : Nat) : Int), rawInt ((0 : Nat) : Int), .ref c1]) ++ #[rawInt ((145 : Nat) : Int), rawInt ((0 : Nat) : Int), .ref c2])) :: n9)) {wd ht sd : Int} {tw th tz : Tok} {oW oH oZ oS oT : Obj} {t : Addr} (mW : (L + 1 + 1 + 1 + 1 + 1, oW) ∈ n9) (mT : (L + 1 + 1 + 1 + 1, oT) ∈ n9) (mS : (L + 1 + 1 + 1, oS) ∈ n9) (mZ : (L + 1 + 1, oZ) ∈ n9) (mH : (L + 1, oH) ∈ n9) (dT : oT.data = .cell (some (.ref t))) (dS : oS.data = .cell (some (.ref src))) (dW : oW.data = .cell (some (.int wd tw))) (dH : oH.data = .cell (some (.int ht th))) (dZ : oZ.data = .cell (some (.int sd tz))) (bw1 : 0 ≤ wd) (bw2 : wd < 7) (bh1 : 0 ≤ ht) (bh2 : ht < 7) (bs1 : 1 ≤ sd) (bs2 : sd ≤ 4) (a168 : ∀ q ∈ n9, q.1 ≠ 168) (asr : ∀ q ∈ n9, q.1 ≠ src) (n0 : 168 ≠ src) (l0 : 168 < L)
  {Q : Flow → Shared → Prop} (k : ∀ h' tk' (x y : Int) tx ty (ps : Array Value), 0 ≤ x → 0 ≤ y → y < 2147483647 → Fr GG L h' (fun y => if y = Str.ofString "most" then some (.int mo tmo) else if y = Str.ofString "script" then some (.ref l) else none) → News GG L h' ((src, listOf #[.int x tx, .int y ty] sn) :: (168, tabObj ps) :: n9) → Q .next {s with heap := h', toks := tk'}) :
  wpAny (model PRG w) (ktrTop dp un gd (Str.ofString "law") lawScope L fa (.ref 170) (cellsFrom (L + 1) lawScope.names []) []) (exec (lawStmt 7) (envOfC (Str.ofString "law") lawScope L fa (.ref 170))) Q E s := by
  unfold lawScope
  conv in (lawStmt 7) => whnf
  try dsimp only
  k_steps
  rename_i f3 c3' oc3 vs3 tq3 ct3 hz3 tkz3 F16 N17 d13 d23 l13 l23
  refine Halt.out ?_
  k_dflt (refine' refused_K (P := fun n => ∃ ps3 : Array Value, ∀ q ∈ ((src, listOf #[.int x3 tx3, .int y3 ty3] sn) :: (168, tabObj ps3) :: n9 : Led), q ∈ n) ?hfn ?Rf3 ?k1 ?k2 ?k3 ?k4 ?k5 ?kK ?kd ?kv ?_; (case k1 => k_asm); (case k2 => k_asm); (case k3 => k_asm); (case k4 => k_asm); (case k5 => k_asm); (case kK => first | exact rfl | assumption); (case kd => ktr_room); (case kv => ktr_units); (case hfn => exact List.Mem.head _))
  case Rf3 =>
    refine Refuses.lam (.head _) (.tail _ (.head _)) d13 d23 rfl rfl rfl rfl (by decide) ?_
    clear F16 N17 K' X' T F14 N16
    intro dp un gd outer A₀ base h₀ L9 s9 E9 B9 F9 X9 N9 T9 hd9 hu9 hE9
    k_steps
    refine Halt.out ?_
    k_dflt (refine' tilesX_K ?k1 ?k2 ?k3 ?k4 ?k5 ?kK ?hbad ?kd ?kv ?_; (case k1 => k_asm); (case k2 => k_asm); (case k3 => k_asm); (case k4 => k_asm); (case k5 => k_asm); (case kK => first | exact rfl | assumption); (case kd => ktr_room); (case kv => ktr_units); (case hbad => omega))
    intro e h' tk' g₂ F R U
    refine' hE9 _ _ _ _ _ ⟨_, ?b4⟩ F R U
    case b4 => k_sub
  intro h15 tk15 nk3 hP3 F17 N18
  first | (refine foldG ?_; intro qG; obtain ⟨ps3, hP3⟩ := hP3; k_unfold; clear qG) | obtain ⟨ps3, hP3⟩ := hP3
  have N19 : News GG L h15 ((src, listOf #[.int x3 tx3, .int y3 ty3] sn) :: (168, tabObj ps3) :: n9) := newsSub N18 hP3
  clear N18 hP3 N17 F16
  try dsimp only
  k_steps
  refine Halt.out ?_
  (with_unfolding_all refine' ListComp_K (by assumption) ?hclos ?hcell ?hkind ?hnames ?hs ?_; (case hclos => exact rfl); (case hcell => decide); (case hkind => rfl); (case hnames => decide); (case hs => intro _; rfl))
  k_steps
  refine Halt.out ?_
  rename IsRange _ _ _ _ _ _ _ _ => R1
  rename Fr GG _ _ _ => F20
  rename News GG _ _ _ => N20
  refine pyIter_range_K (n := 3) rfl R1 (by decide) (by decide) F20 N20 ?_
  intro I he hIL hI0 hIa Fe Ne heI hIt
  refine ⟨I, _, IterAt PRG w _ ((168, tabObj ps3) :: n9) 3 _ I, rfl, Fe, Ne, heI, hIa, hIt _, fun _ _ => IterAt.grow, ?_⟩
  intro C D oC hf tkf hIC hID hCD hoff Ff Nf hoC hItf
  first | (refine foldG ?_; intro qG; obtain ⟨mc0, hoC⟩ := hoC; k_unfold; clear qG) | obtain ⟨mc0, hoC⟩ := hoC
  have hoS := hoff (src, listOf #[.int x3 tx3, .int y3 ty3] sn) (by k_mem)
  have hoR : ∀ p ∈ (168, tabObj ps3) :: n9, p.1 ≠ I ∧ p.1 ≠ C ∧ p.1 ≠ D := fun p hp => hoff p (.tail _ hp)
  have asR : ∀ q ∈ (168, tabObj ps3) :: n9, q.1 ≠ src := by k_all
  refine start_K (depth := 0) rfl hItf rfl ?_
  refine' comp_leaf0 (dyn₀ := [(src, listOf #[.int x3 tx3, .int y3 ty3] sn)]) (cst := (168, tabObj ps3) :: n9) (fun i mc ys dyn => ∃ (x y : Int) (tx ty : Tok) (tl : Led), dyn = (src, listOf #[.int x tx, .int y ty] sn) :: tl ∧ 0 ≤ x ∧ 0 ≤ y ∧ y < 2147483647 ∧ Drawn tl ys i) (turn_leaf1 _ _ _ _ _ _) (fun _ _ _ => rfl) (fun _ _ _ => rfl) (fun _ _ _ => rfl) rfl rfl hItf hIL hI0 hoR hIC hID hCD Ff (newsSub Nf (by k_sub)) hoC (fun p hp => by rw [List.mem_singleton.mp hp]; exact hoS) ⟨x3, y3, tx3, ty3, [], rfl, hx1, hy1, hy2, .nil⟩ ?turnT ?doneT
  case turnT =>
    intro i v mc oI oC ys kk dyn hg tkg hi hv hP0 hns hoff4 hoC4 Fg Ng
    first | (refine foldG ?_; intro qG; obtain ⟨x4, y4, tx4, ty4, tl, rfl, hx4, hy4, hy42, hDr⟩ := hP0; k_unfold; clear qG) | obtain ⟨x4, y4, tx4, ty4, tl, rfl, hx4, hy4, hy42, hDr⟩ := hP0
    have hDt := hDr.tups
    have hof := hDt.offs Ng (fun q hq => .tail _ (.tail _ (.tail _ (List.mem_append_left _ (.tail _ hq))))) (.head _) (.tail _ (.head _)) (.tail _ (.tail _ (.head _))) hns hoC4
    have hts : ∀ q ∈ tl, q.1 ≠ src := hDt.all.apartL Ng (fun q hq => .tail _ (.tail _ (.tail _ (List.mem_append_left _ (.tail _ hq))))) (.tail _ (.tail _ (.tail _ (List.mem_append_left _ (.head _)))))
    have hl3 := hDr.len
    have hi3 : i < 3 := hi
    have N5 : News GG L hg ((src, listOf #[.int x4 tx4, .int y4 ty4] sn) :: (I, oI) :: (C, oC) :: (D, listOf ys.toArray kk) :: (tl ++ (168, tabObj ps3) :: n9)) := newsSub Ng (by k_sub)
    clear Ng
    try dsimp only
    k_steps
    refine Halt.out ?_
    k_dflt (refine' tile_K (rest := (I, oI) :: (C, oC) :: (D, listOf ys.toArray kk) :: (tl ++ (168, tabObj ps3) :: n9)) ?k1 ?k2 ?k3 N5 ?k5 ?kK ?hne hx4 hy4 hy42 ?kd ?kv ?_; (case k1 => k_asm); (case k2 => k_asm); (case k3 => k_asm); (case k5 => k_asm); (case kK => first | exact rfl | assumption); (case kd => ktr_room); (case kv => ktr_units))
    · intro q hq
      rcases List.mem_cons.mp hq with rfl | hq
      · exact hoS.1.symm
      rcases List.mem_cons.mp hq with rfl | hq
      · exact hoS.2.1.symm
      rcases List.mem_cons.mp hq with rfl | hq
      · exact hoS.2.2.symm
      rcases List.mem_append.mp hq with hq | hq
      · exact hts q hq
      · exact asR q hq
    intro r a b c d u1 u2 u3 u4 h6 tk6 x5 y5 tx5 ty5 ga1 ga2 gb1 gb2 gc1 gc2 gd1 gd2 gx gy gy2 F6 N6
    try dsimp only
    k_steps
    have hr : IsTups [(r, tupO [.int a u1, .int b u2, .int c u3, .int d u4] 0)] := fun q hq => by rw [List.mem_singleton.mp hq]; exact ⟨_, _, rfl⟩
    have hro := hr.offs (D := D) N6 (by k_sub) (.tail _ (.tail _ (.head _))) (.tail _ (.tail _ (.tail _ (.head _)))) (.tail _ (.tail _ (.tail _ (.tail _ (.head _))))) hns hoC4
    refine CElt.intro (dyn := (src, listOf #[.int x5 tx5, .int y5 ty5] sn) :: (r, tupO [.int a u1, .int b u2, .int c u3, .int d u4] 0) :: tl) (by assumption) (newsSub N6 (by k_sub)) hoC4 (fun q hq => ?_) (by omega) ⟨x5, y5, tx5, ty5, _, rfl, gx, gy, gy2, .snoc hDr ga1 ga2 gb1 gb2 gc1 gc2 gd1 gd2⟩
    rcases List.mem_cons.mp hq with rfl | hq
    · exact hoS
    rcases List.mem_cons.mp hq with rfl | hq
    · exact hro _ (.head _)
    · exact hof q hq
  case doneT =>
    intro mc oC ys kk dyn hg tkg hP0 Fg Ng hoC4 ho4
    first | (refine foldG ?_; intro qG; obtain ⟨x4, y4, tx4, ty4, tl, rfl, hx4, hy4, hy42, hDr⟩ := hP0; k_unfold; clear qG) | obtain ⟨x4, y4, tx4, ty4, tl, rfl, hx4, hy4, hy42, hDr⟩ := hP0
    have hDt := hDr.tups
    have hts : ∀ q ∈ tl, q.1 ≠ src := hDt.all.apartL Ng (fun q hq => .tail _ (.tail _ (List.mem_append_left _ (.tail _ hq)))) (.tail _ (.tail _ (List.mem_append_left _ (.head _))))
    refine ⟨rfl, oC, mc, ys, kk, (src, listOf #[.int x4 tx4, .int y4 ty4] sn) :: (tl ++ (168, tabObj ps3) :: n9), Fg, newsSub Ng (by k_sub), hoC4, hCD, fun q hq => ?_, ?_⟩
    · rcases List.mem_cons.mp hq with rfl | hq
      · exact hoS.2.1
      rcases List.mem_append.mp hq with hq | hq
      · exact (ho4 q (.tail _ hq)).2.1
      · exact (hoR q hq).2.1
    first | (refine foldG ?_; intro qG; obtain ⟨q1, q2, q3, z1, z2, z3, z4, z5, z6, z7, z8, z9, za, zb, zc, a1, a2, a3, a4, b1, b2, b3, b4, g1, g2, g3, g4, rfl, rfl, zb1, zb2, zb3⟩ := hDr.three; k_unfold; clear qG) | obtain ⟨q1, q2, q3, z1, z2, z3, z4, z5, z6, z7, z8, z9, za, zb, zc, a1, a2, a3, a4, b1, b2, b3, b4, g1, g2, g3, g4, rfl, rfl, zb1, zb2, zb3⟩ := hDr.three
    intro hh Fi Ni
    try dsimp only
    k_steps
    refine Halt.out ?_
    k_dflt (refine' rowsR_K (src := src) (l := D) (rest := (D, listOf #[.ref q1, .ref q2, .ref q3] kk) :: ([(q3, tupO [.int z9 g1, .int za g2, .int zb g3, .int zc g4] 0), (q2, tupO [.int z5 b1, .int z6 b2, .int z7 b3, .int z8 b4] 0), (q1, tupO [.int z1 a1, .int z2 a2, .int z3 a3, .int z4 a4] 0)] ++ (168, tabObj ps3) :: n9)) ?k1 ?k2 ?k3 (newsSub Ni (by k_sub)) ?k5 ?kK (by k_mem) (by k_mem) (by k_mem) (by k_mem) ?e2 zb1.1 zb1.2.1 zb1.2.2.1 zb1.2.2.2 zb2.1 zb2.2.1 zb2.2.2.1 zb2.2.2.2 zb3.1 zb3.2.1 zb3.2.2.1 zb3.2.2.2 hx4 hy4 hy42 ?kd ?kv ?_; (case k1 => k_asm); (case k2 => k_asm); (case k3 => k_asm); (case k5 => k_asm); (case kK => first | exact rfl | assumption); (case kd => ktr_room); (case kv => ktr_units))
    · intro q hq
      rcases List.mem_cons.mp hq with rfl | hq
      · exact hoS.2.2.symm
      rcases List.mem_append.mp hq with hq | hq
      · exact hts q hq
      · exact asR q hq
    intro h20 tk20 x5 y5 tx5 ty5 gx gy gy2 F21 N21
    replace N21 := newsSub N21 (news' := (src, listOf #[.int x5 tx5, .int y5 ty5] sn) :: (168, tabObj ps3) :: n9) (by k_sub)
    k_steps
    rename Fr GG _ _ _ => Fz
    exact k _ _ _ _ _ _ _ gx gy gy2 Fz N21
end
-- B70
section
variable {w : World} {p : Program} {loose : List Str} {mean : ExcName → Option Value} {mg mb : Str → Option Value}
  {dp un : Nat} {gd : Option (List Code)} {cn : Str} {cs : Scope} {a : Addr} {ccd : Value} {cl : List (Str × Addr)} {outer : List Env} {A₀ : Around} {base h₀ : Heap} {L : Addr} {m : Str → Option Value} {news : Led} {s : Shared} {Q E : Value → Shared → Prop}
theorem fin_K {L src : Nat} {GG : Heap} {l fa : Addr} {sn : Nat} {n9 : Led} {mo : Int} {tmo : Tok}
  (K' : Below A₀ GG [] GG) (F21 : Fr GG L s.heap (fun y => if y = Str.ofString "most" then some (.int mo tmo) else if y = Str.ofString "script" then some (.ref l) else none)) (X' : (hd.heap_39 w.params).In GG) (T : Top p loose mean mg mb GG) (codeHd : CodeHd GG (170, 168).1 (170, 168).2) (hdd : dp + 14 < recursionLimit) (huu : un + 600 < cLine)
  {x5 y5 : Int} {tx5 ty5 : Tok} {ps3 : Array Value} (gx : 0 ≤ x5) (gy : 0 ≤ y5) (gy2 : y5 < 2147483647) (N21 : News GG L s.heap ((src, listOf #[.int x5 tx5, .int y5 ty5] sn) :: (168, tabObj ps3) :: n9)) {oS : Obj} (mS : (L + 1 + 1 + 1, oS) ∈ n9) (dS : oS.data = .cell (some (.ref src))) (a168 : ∀ q ∈ n9, q.1 ≠ 168) (asr : ∀ q ∈ n9, q.1 ≠ src) (n0 : 168 ≠ src) (l0 : 168 < L)
  {Q : Flow → Shared → Prop} (k : ∀ h' tk' m', Fr GG L h' m' → News GG L h' ((168, tabObj ps3) :: n9) → Q (.ret (.bool true)) {s with heap := h', toks := tk'}) :
  wpAny (model PRG w) (ktrTop dp un gd (Str.ofString "law") lawScope L fa (.ref 170) (cellsFrom (L + 1) lawScope.names []) []) (execs lawRest (envOfC (Str.ofString "law") lawScope L fa (.ref 170))) Q E s := by
  unfold lawScope
  conv in (lawRest) => whnf
  k_steps
  refine Halt.out ?_
  k_dflt (refine' boxR_K ?k1 ?k2 ?k3 ?k4 ?k5 ?kK ?hb ?b1 ?b2 ?b3 ?b4 ?b5 ?b6 ?b7 ?b8 ?b9 ?ba ?kd ?kv ?d1 ?d2 ?_; (case k1 => k_asm); (case k2 => k_asm); (case k3 => k_asm); (case k4 => k_asm); (case k5 => k_asm); (case kK => first | exact rfl | assumption); (case kd => ktr_room); (case kv => ktr_units); (case hb => k_mem); (case b1 => omega); (case b2 => omega); (case b3 => omega); (case b4 => omega); (case b5 => omega); (case b6 => omega); (case b7 => omega); (case b8 => omega); (case b9 => omega); (case ba => omega); (case d1 => exact due_none (by omega)); (case d2 => exact due_some (by omega) (by omega) (by omega) (by omega) (by omega)))
  intro h21 tk21 Fz Nz
  k_steps
  rename Fr GG _ _ _ => Fz
  rename News GG _ _ _ => Nz
  exact k _ _ _ Fz (newsSub Nz (by k_sub))
end
-- B71
end
end
section
local macro_rules | `(tactic| walk_at "call ref") => `(tactic| refine halt ?_)
local macro_rules | `(tactic| walk_at "call ref") => `(tactic| (k_here; (with_reducible show wpAny _ _ (call (Value.ref 114) [_, _]) _ _ _); k_dflt (refine' take_U ?k1 ?k2 ?k3 ?k4 ?k5 ?kK ?kU ?kx ?ky ?kz ?kt ?ku ?kd ?kv ?_; (case k1 => k_asm); (case k2 => k_asm); (case k3 => k_asm); (case k4 => k_asm); (case k5 => k_asm); (case kK => first | exact rfl | assumption); (case kU => k_updF); (case kx => assumption); (case ky => assumption); (case kz => assumption); (case kt => omega); (case ku => omega); (case kd => ktr_room); (case kv => ktr_units)); intro d9 t9 h9 tk9 x9 y9 tx9 ty9 ha9 hb9 hc9 hd9 he9 F9 N9; (try dsimp only at N9); (try dsimp only); (try k_fold)))
local macro_rules | `(tactic| walk_at "exec If") => `(tactic| ((with_reducible have h9 : StopIf := by assumption); clear h9; refine halt ?_))
local macro_rules | `(tactic| walk_at "eval ListComp") => `(tactic| refine halt ?_)
local macro_rules | `(tactic| walk_at "pyIter ref") => `(tactic| refine halt ?_)
local macro_rules | `(tactic| walk_at "compareOp NotEq ref ref") => `(tactic| refine halt ?_)
local macro_rules | `(tactic| walk_at "call builtin:sorted") => `(tactic| refine halt ?_)
local macro_rules | `(tactic| walk_at "exec Assign") => `(tactic| ((with_reducible have h9 : StopIf := by assumption); clear h9; refine halt ?_))
theorem deeper_caller (cn : Str) (cs : Scope) (L a : Addr) (cc : Value) : callerA.deeper (envOfC cn cs L a cc) = ktrTop (callerA.depth + 1) (callerA.units + 3) callerA.guards cn cs L a cc (cellsFrom (L + 1) cs.names []) [] := rfl
theorem law_holds : PySem.Challenge.rw_pf0184_01.Holds := by
  w_on
  refine holds_law ws fun said => ?_
  refine holds_open (q := hd.view_39) (loose := []) (Xt := fun s => xlAt hd.view_39 [] s && recOk (RowW.records PySem.Challenge.rw_pf0184_01.row.toRowW) s) (XP := XL hd.view_39 []) (Yf := Hook.obs (kmHook hd.heap_39 asK asK_eq [168])) (Ya := Hook.val (kmHook hd.heap_39 asK asK_eq [168])) (YP := Hook.says (kmHook hd.heap_39 asK asK_eq [168])) (N := 2252) hl (Hook.of (kmHook hd.heap_39 asK asK_eq [168])) (Hook.keeps (kmHook hd.heap_39 asK asK_eq [168])) (fun s e => xl_of s (Bool.and_eq_true_iff.mp e).1) XL.keeps (by rfl) (by rfl) (by rfl) (fun s e => recFacts_of (Bool.and_eq_true_iff.mp e).2) (by rfl) (by first | assumption | decide +kernel) (by decide +kernel) ⟨rfl, rfl, rfl, rfl, rfl, by decide +kernel⟩ ?hw ?hc
  case hw => w_witness2
  w_strict (
    k_go0
    (all_goals try k_fold)
    k_steps
    rename_i w s₀ s₁ mg mb Gd Y fa oF pm doc ho hg Xm Vm Tm Bm TE TW hcd ns hs9 hly hL9 hr9 hl2 wA wB l vs wC hLs ra9 w19 r09 hI hr8 hc1 hc2 hD h₁ tk₁ oE oD oC oB oA e5 e4 e3 e2 e1 X0 X' T' K' F' N' l0
    refine Halt.out ?_
    have hlen : ns.length ≤ 63 := by omega
    clear Y Xm Vm Tm Bm TE TW hcd hs9 hly hL9 hr9 hl2 hLs ra9 w19 r09 hr8 hc1 hc2 hD X0
    clear Gd ho hT8 hT9 wA wB wC
    generalize hGG : ghostOf s₁.heap [(170, 168)] = GG at X' T' K' F' lifted codeHd N' ⊢
    generalize hLL : s₁.heap.objs.size = L at F' N' l0 ⊢
    clear hGG hLL
    have F0 : Fr GG L h₁ (fun y => if y = Str.ofString "script" then some (.ref l) else none) := by with_unfolding_all exact F'
    have c1 : oA.data = .cell none := by with_unfolding_all exact e1
    have c2 : oB.data = .cell none := by with_unfolding_all exact e2
    have c3 : oC.data = .cell none := by with_unfolding_all exact e3
    have c4 : oD.data = .cell none := by with_unfolding_all exact e4
    have c5 : oE.data = .cell none := by with_unfolding_all exact e5
    clear F' e1 e2 e3 e4 e5
    rw [deeper_caller]
    first | (refine foldG ?_; intro qG; obtain ⟨p, loose, mean, T⟩ : ∃ p loose mean, Top p loose mean mg mb GG := ⟨_, _, _, T'⟩; k_unfold; clear qG) | obtain ⟨p, loose, mean, T⟩ : ∃ p loose mean, Top p loose mean mg mb GG := ⟨_, _, _, T'⟩
    clear T'
    k_dflt (refine' pool_K ?k1 ?k2 ?k3 ?k4 ?k5 ?kK ?hl ?hi ?hn ?kd ?kv ?_; (case k1 => k_asm); (case k2 => k_asm); (case k3 => k_asm); (case k4 => k_asm); (case k5 => k_asm); (case kK => first | exact rfl | assumption); (case kd => ktr_room); (case kv => ktr_units); (case hl => assumption); (case hi => assumption); (case hn => assumption))
    intro src sx sy tsx tsy sn h2 tk2 hsx hsy hsy2 hsn F2 N2
    dsimp only
    have n0 : 168 ≠ src := hsn (168, tabObj #[]) (by simp)
    have n1 : L + 1 ≠ src := hsn (L + 1, oA) (by simp)
    have n2 : L + 1 + 1 ≠ src := hsn (L + 1 + 1, oB) (by simp)
    have n3 : L + 1 + 1 + 1 ≠ src := hsn (L + 1 + 1 + 1, oC) (by simp)
    have n4 : L + 1 + 1 + 1 + 1 ≠ src := hsn (L + 1 + 1 + 1 + 1, oD) (by simp)
    have n5 : L + 1 + 1 + 1 + 1 + 1 ≠ src := hsn (L + 1 + 1 + 1 + 1 + 1, oE) (by simp)
    clear hsn
    have st : StopIf := trivial
    k_steps
    clear st
    refine Halt.out ?_
    rename Fr _ _ _ _ => F3
    rename News _ _ _ _ => N3
    try simp only [List.cons_append, List.nil_append] at N3
    refine goOnG (P := fun _ => True) F3 N3 trivial ?_ ?_
    · intro n8 _ N
      exact if1_K K' F3 X' T (by ktr_room) (by ktr_units) N
    clear N3
    intro h3 tk3 F4 N4
    (try dsimp only)
    have st : StopIf := trivial
    k_steps
    clear st
    refine Halt.out ?_
    refine st2_K K' F4 X' T (by ktr_room) (by ktr_units) hsx hsy hsy2 N4 (by assumption) c1 c2 c4 c5 n0 n1 n2 n3 n4 n5 l0 ?_
    intro h4 tk4 hSB F6
    first | (refine foldG ?_; intro qG; obtain ⟨wd, ht, sd, tw, th, tz, oW, oH, oZ, oS, x1, y1, tx1, ty1, dS, dW, dH, dZ, bw1, bw2, bh1, bh2, bs1, bs2, hx1, hy1, hy2, N6⟩ := hSB; k_unfold; clear qG) | obtain ⟨wd, ht, sd, tw, th, tz, oW, oH, oZ, oS, x1, y1, tx1, ty1, dS, dW, dH, dZ, bw1, bw2, bh1, bh2, bs1, bs2, hx1, hy1, hy2, N6⟩ := hSB
    (try dsimp only)
    have st : StopIf := trivial
    k_steps
    clear st
    refine Halt.out ?_
    refine goOnG (P := fun n => (L + 1 + 1 + 1 + 1 + 1, oW) ∈ n ∧ (L + 1, oH) ∈ n ∧ (L + 1 + 1, oZ) ∈ n) F6 N6 ⟨by k_mem, by k_mem, by k_mem⟩ ?_ ?_
    · intro n8 hP8 N
      exact if2_K K' F6 X' T (by ktr_room) (by ktr_units) N hP8.1 hP8.2.1 hP8.2.2 dW dH dZ bw1 bw2 bh1 bh2 bs1 bs2
    clear N6
    intro h6 tk6 F7 N7
    (try dsimp only)
    have st : StopIf := trivial
    k_steps
    clear st
    refine Halt.out ?_
    refine st4_K K' F7 X' T (by ktr_room) (by ktr_units) hx1 hy1 hy2 N7 dS c4 n0 n1 n2 n3 n4 n5 l0 ?_
    intro h7 tk7 hSC
    first | (refine foldG ?_; intro qG; obtain ⟨n9, t, px, py, pw, ph, t1, t2, t3, t4, mo, tmo, oT, x2, y2, tx2, ty2, dT, bx1, bx2, by1, by2, bp1, bp2, bq1, bq2, bm1, bm2, hx2, hy2, hz2, F9, mW, mT, mS, mZ, mH, mt, a168, asr, N9⟩ := hSC; k_unfold; clear qG) | obtain ⟨n9, t, px, py, pw, ph, t1, t2, t3, t4, mo, tmo, oT, x2, y2, tx2, ty2, dT, bx1, bx2, by1, by2, bp1, bp2, bq1, bq2, bm1, bm2, hx2, hy2, hz2, F9, mW, mT, mS, mZ, mH, mt, a168, asr, N9⟩ := hSC
    clear F7 N7
    (try dsimp only)
    have st : StopIf := trivial
    k_steps
    clear st
    refine Halt.out ?_
    refine goOnG (P := fun n => (L + 1 + 1 + 1 + 1, oT) ∈ n ∧ (t, tupO [.int px t1, .int py t2, .int pw t3, .int ph t4] 0) ∈ n) F9 N9 ⟨by k_mem, by k_mem⟩ ?_ ?_
    · intro n8 hP8 N
      exact if3_K K' F9 X' N T hP8.1 hP8.2 dT bx1 bx2 by1 by2 bp1 bp2 bq1 bq2 bm1 bm2 (by ktr_room) (by ktr_units)
    clear N9
    intro h8 tk8 F10 N10
    (try dsimp only)
    have st : StopIf := trivial
    k_steps
    clear st
    refine Halt.out ?_
    refine st6_K K' F10 X' T codeHd (by ktr_room) (by ktr_units) hx2 hy2 hz2 N10 mW mT mS mZ mH dT dS dW dH dZ bw1 bw2 bh1 bh2 bs1 bs2 a168 asr n0 l0 ?_
    intro h9 tk9 x3 y3 tx3 ty3 e1 e2 gx gy gz F11 N11
    clear F10 N10
    (try dsimp only)
    have st : StopIf := trivial
    k_steps
    clear st
    refine Halt.out ?_
    refine st7_K K' F11 X' T codeHd (by ktr_room) (by ktr_units) gx gy gz N11 mW mT mS mZ mH dT dS dW dH dZ bw1 bw2 bh1 bh2 bs1 bs2 a168 asr n0 l0 ?_
    intro h10 tk10 x5 y5 tx5 ty5 ps3 kx ky kz F12 N12
    clear F11 N11
    (try dsimp only)
    refine fin_K K' F12 X' T codeHd (by ktr_room) (by ktr_units) kx ky kz N12 mS dS a168 asr n0 l0 ?_
    intro h11 tk11 m' Fz Nz
    (try dsimp only)
    k_steps
  )
end
theorem rst27 : True ∧ True := by
  w_top off
  first
  | (walk1; done)
  | exact ⟨trivial, trivial⟩
end Mine
theorem PySem.Challenge.cw_pf0184_01_holds : PySem.Challenge.rw_pf0184_01.Holds :=
  Mine.law_holds
