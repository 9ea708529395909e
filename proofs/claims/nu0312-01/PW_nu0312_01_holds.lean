import PyProof.Rows.All
import Wide.All
import OpenK.AllK
import Wide.FinOn
import Lean
import PySem.Challenge.RW_nu0312_01
set_option Elab.async false
set_option maxRecDepth 100000
set_option linter.unusedVariables false
namespace Mine
open PySem PySem.W PyProof.Rows
noncomputable def stAt (i : Nat) : Stmt := PySem.Challenge.pw_nu0312_01.main.body.getD i (.Pass ⟨0, 0, 0, 0⟩)
noncomputable def fnP (i : Nat) : Arguments := match stAt i with
  | .FunctionDef _ p .. => p
  | _ => ⟨[], [], none, [], [], none, []⟩
noncomputable def fnB (i : Nat) : List Stmt := match stAt i with
  | .FunctionDef _ _ b .. => b
  | _ => []
noncomputable def fnS (i : Nat) : Scope := match stAt i with
  | .FunctionDef _ _ _ _ _ _ sc .. => sc
  | _ => ⟨.module, [], false, false, []⟩
def entV (o : Obj) (i : Nat) : Value := match o.data with
  | .dict es _ => match es.toList.drop i with
    | e :: _ => e.val
    | [] => .none
  | _ => .none
noncomputable def fnQ (i : Nat) : Pos := match stAt i with
  | .FunctionDef _ _ _ _ _ _ _ _ _ q => q
  | _ => ⟨0, 0, 0, 0⟩
noncomputable def hd.view_39 : Program := view PySem.Challenge.pw_nu0312_01 [1, 2, 3, 4, 5, 6, 7, 8, 9, 10, 11, 12, 13, 15, 16, 17, 18, 19, 20, 21, 22, 23, 24, 25]
noncomputable def hd.heap_39 : Params → Frag := fun P =>
  (nat_lit 2, Obj.mk Value.none none (Data.dict #[]) #[]) ::
  (nat_lit 3, Obj.mk (Value.type "dict") none (Data.dict #[DictEntry.mk (PyData.keyHash P (Str.ofString "__name__")) (Value.str (Str.ofString "__name__") 165) (Value.str (Str.ofString "law_nu0312_01") 297), DictEntry.mk (PyData.keyHash P (Str.ofString "__doc__")) (Value.str (Str.ofString "__doc__") 166) Value.none, DictEntry.mk (PyData.keyHash P (Str.ofString "__package__")) (Value.str (Str.ofString "__package__") 167) Value.none, DictEntry.mk (PyData.keyHash P (Str.ofString "__loader__")) (Value.str (Str.ofString "__loader__") 168) ((by refine' (?fL : ∀ x, entV (boot_o_3 P) 3 = x → _) _ ?pL; (case pL => (conv => lhs; whnf)); (case fL => exact fun x _ => x))), DictEntry.mk (PyData.keyHash P (Str.ofString "__spec__")) (Value.str (Str.ofString "__spec__") 169) Value.none, DictEntry.mk (PyData.keyHash P (Str.ofString "__annotations__")) (Value.str (Str.ofString "__annotations__") 170) (Value.ref 6), DictEntry.mk (PyData.keyHash P (Str.ofString "__builtins__")) (Value.str (Str.ofString "__builtins__") 171) (Value.ref 4), DictEntry.mk (PyData.keyHash P (Str.ofString "__file__")) (Value.str (Str.ofString "__file__") 173) (Value.str (Str.ofString "/claim/cut.py") 172), DictEntry.mk (PyData.keyHash P (Str.ofString "__cached__")) (Value.str (Str.ofString "__cached__") 174) Value.none, DictEntry.mk (PyData.keyHash P (Str.ofString "FULL")) (Value.str (Str.ofString "FULL") 190) (Value.int 4294967295 189), DictEntry.mk (PyData.keyHash P (Str.ofString "wrap")) (Value.str (Str.ofString "wrap") 198) (Value.ref 21), DictEntry.mk (PyData.keyHash P (Str.ofString "fits")) (Value.str (Str.ofString "fits") 205) (Value.ref 28), DictEntry.mk (PyData.keyHash P (Str.ofString "checked")) (Value.str (Str.ofString "checked") 212) (Value.ref 35), DictEntry.mk (PyData.keyHash P (Str.ofString "fold_unary")) (Value.str (Str.ofString "fold_unary") 220) (Value.ref 42), DictEntry.mk (PyData.keyHash P (Str.ofString "fold_division")) (Value.str (Str.ofString "fold_division") 229) (Value.ref 49), DictEntry.mk (PyData.keyHash P (Str.ofString "fold_binary")) (Value.str (Str.ofString "fold_binary") 238) (Value.ref 56), DictEntry.mk (PyData.keyHash P (Str.ofString "up_to_end")) (Value.str (Str.ofString "up_to_end") 246) (Value.ref 63), DictEntry.mk (PyData.keyHash P (Str.ofString "order_of")) (Value.str (Str.ofString "order_of") 255) (Value.ref 70), DictEntry.mk (PyData.keyHash P (Str.ofString "fold_relation")) (Value.str (Str.ofString "fold_relation") 268) (Value.ref 77), DictEntry.mk (PyData.keyHash P (Str.ofString "mask_range")) (Value.str (Str.ofString "mask_range") 276) (Value.ref 84), DictEntry.mk (PyData.keyHash P (Str.ofString "fold_set")) (Value.str (Str.ofString "fold_set") 286) (Value.ref 91), DictEntry.mk (PyData.keyHash P (Str.ofString "fold_shift")) (Value.str (Str.ofString "fold_shift") 296) (Value.ref 98), DictEntry.mk (PyData.keyHash P (Str.ofString "_law_pool")) (Value.str (Str.ofString "_law_pool") 311) (Value.ref 105), DictEntry.mk (PyData.keyHash P (Str.ofString "_law_pick")) (Value.str (Str.ofString "_law_pick") 320) (Value.ref 112), DictEntry.mk (PyData.keyHash P (Str.ofString "_law_number")) (Value.str (Str.ofString "_law_number") 329) (Value.ref 119), DictEntry.mk (PyData.keyHash P (Str.ofString "_law_bits")) (Value.str (Str.ofString "_law_bits") 335) (Value.ref 124), DictEntry.mk (PyData.keyHash P (Str.ofString "_law_word")) (Value.str (Str.ofString "_law_word") 341) (Value.ref 129), DictEntry.mk (PyData.keyHash P (Str.ofString "_law_signed")) (Value.str (Str.ofString "_law_signed") 349) (Value.ref 136), DictEntry.mk (PyData.keyHash P (Str.ofString "_law_over")) (Value.str (Str.ofString "_law_over") 356) (Value.ref 143), DictEntry.mk (PyData.keyHash P (Str.ofString "_law_shifted")) (Value.str (Str.ofString "_law_shifted") 366) (Value.ref 150), DictEntry.mk (PyData.keyHash P (Str.ofString "_law_order")) (Value.str (Str.ofString "_law_order") 377) (Value.ref 157), DictEntry.mk (PyData.keyHash P (Str.ofString "_law_truths")) (Value.str (Str.ofString "_law_truths") 384) (Value.ref 164), DictEntry.mk (PyData.keyHash P (Str.ofString "law")) (Value.str (Str.ofString "law") 390) (Value.ref 169)] 33) #[]) ::
  (nat_lit 15, Obj.mk (Value.type "tuple") none (Data.seq #[]) #[]) ::
  (nat_lit 17, Obj.mk (Value.type "tuple") none (Data.seq #[Value.str (Str.ofString "n") 194, Value.str (Str.ofString "low") 195]) #[]) ::
  (nat_lit 18, Obj.mk (Value.type "tuple") none (Data.seq #[]) #[]) ::
  (nat_lit 20, Obj.mk (Value.type "code") none (Data.fields #[Value.str (Str.ofString "wrap") 191, Value.str (Str.ofString "wrap") 192, Value.str (Str.ofString "/claim/cut.py") 193, Value.int 3 0, Value.int 1 0, Value.int 0 0, Value.int 0 0, Value.int 3 0, Value.ref 15, Value.bool true, Value.int 181 0, Value.ref 16, Value.none, Value.ref 17, Value.ref 18, Value.ref 19, Value.int 196 0, Value.int 3 0, Value.str (Str.ofString "/claim/cut.py") 197]) #[]) ::
  (nat_lit 21, Obj.mk (Value.type "function") none (Data.func (FuncData.mk (Str.ofString "wrap") (Str.ofString "wrap") (by refine' (?fP2 : ∀ x, fnP 2 = x → _) _ ?pP2; (case pP2 => (conv => lhs; whnf)); (case fP2 => exact fun x _ => x)) (FuncBody.stmts (by refine' (?fB2 : ∀ x, fnB 2 = x → _) _ ?pB2; (case pB2 => (conv => lhs; whnf)); (case fB2 => exact fun x _ => x))) (by refine' (?fS2 : ∀ x, fnS 2 = x → _) _ ?pS2; (case pS2 => (conv => lhs; whnf)); (case fS2 => exact fun x _ => x)) 3 [] Value.none Value.none Value.none (Value.str (Str.ofString "moduleyard.consts") 187) none (Value.ref 20) Value.none 0)) #[]) ::
  (nat_lit 22, Obj.mk (Value.type "tuple") none (Data.seq #[]) #[]) ::
  (nat_lit 24, Obj.mk (Value.type "tuple") none (Data.seq #[Value.str (Str.ofString "n") 202]) #[]) ::
  (nat_lit 25, Obj.mk (Value.type "tuple") none (Data.seq #[]) #[]) ::
  (nat_lit 27, Obj.mk (Value.type "code") none (Data.fields #[Value.str (Str.ofString "fits") 199, Value.str (Str.ofString "fits") 200, Value.str (Str.ofString "/claim/cut.py") 201, Value.int 6 0, Value.int 1 0, Value.int 0 0, Value.int 0 0, Value.int 3 0, Value.ref 22, Value.bool true, Value.int 181 0, Value.ref 23, Value.none, Value.ref 24, Value.ref 25, Value.ref 26, Value.int 203 0, Value.int 6 0, Value.str (Str.ofString "/claim/cut.py") 204]) #[]) ::
  (nat_lit 28, Obj.mk (Value.type "function") none (Data.func (FuncData.mk (Str.ofString "fits") (Str.ofString "fits") (by refine' (?fP3 : ∀ x, fnP 3 = x → _) _ ?pP3; (case pP3 => (conv => lhs; whnf)); (case fP3 => exact fun x _ => x)) (FuncBody.stmts (by refine' (?fB3 : ∀ x, fnB 3 = x → _) _ ?pB3; (case pB3 => (conv => lhs; whnf)); (case fB3 => exact fun x _ => x))) (by refine' (?fS3 : ∀ x, fnS 3 = x → _) _ ?pS3; (case pS3 => (conv => lhs; whnf)); (case fS3 => exact fun x _ => x)) 3 [] Value.none Value.none Value.none (Value.str (Str.ofString "moduleyard.consts") 187) none (Value.ref 27) Value.none 0)) #[]) ::
  (nat_lit 29, Obj.mk (Value.type "tuple") none (Data.seq #[]) #[]) ::
  (nat_lit 31, Obj.mk (Value.type "tuple") none (Data.seq #[Value.str (Str.ofString "n") 209]) #[]) ::
  (nat_lit 32, Obj.mk (Value.type "tuple") none (Data.seq #[]) #[]) ::
  (nat_lit 34, Obj.mk (Value.type "code") none (Data.fields #[Value.str (Str.ofString "checked") 206, Value.str (Str.ofString "checked") 207, Value.str (Str.ofString "/claim/cut.py") 208, Value.int 8 0, Value.int 1 0, Value.int 0 0, Value.int 0 0, Value.int 3 0, Value.ref 29, Value.bool true, Value.int 181 0, Value.ref 30, Value.none, Value.ref 31, Value.ref 32, Value.ref 33, Value.int 210 0, Value.int 8 0, Value.str (Str.ofString "/claim/cut.py") 211]) #[]) ::
  (nat_lit 35, Obj.mk (Value.type "function") none (Data.func (FuncData.mk (Str.ofString "checked") (Str.ofString "checked") (by refine' (?fP4 : ∀ x, fnP 4 = x → _) _ ?pP4; (case pP4 => (conv => lhs; whnf)); (case fP4 => exact fun x _ => x)) (FuncBody.stmts (by refine' (?fB4 : ∀ x, fnB 4 = x → _) _ ?pB4; (case pB4 => (conv => lhs; whnf)); (case fB4 => exact fun x _ => x))) (by refine' (?fS4 : ∀ x, fnS 4 = x → _) _ ?pS4; (case pS4 => (conv => lhs; whnf)); (case fS4 => exact fun x _ => x)) 3 [] Value.none Value.none Value.none (Value.str (Str.ofString "moduleyard.consts") 187) none (Value.ref 34) Value.none 0)) #[]) ::
  (nat_lit 36, Obj.mk (Value.type "tuple") none (Data.seq #[]) #[]) ::
  (nat_lit 38, Obj.mk (Value.type "tuple") none (Data.seq #[Value.str (Str.ofString "op") 216, Value.str (Str.ofString "x") 217]) #[]) ::
  (nat_lit 39, Obj.mk (Value.type "tuple") none (Data.seq #[]) #[]) ::
  (nat_lit 41, Obj.mk (Value.type "code") none (Data.fields #[Value.str (Str.ofString "fold_unary") 213, Value.str (Str.ofString "fold_unary") 214, Value.str (Str.ofString "/claim/cut.py") 215, Value.int 12 0, Value.int 2 0, Value.int 0 0, Value.int 0 0, Value.int 3 0, Value.ref 36, Value.bool true, Value.int 181 0, Value.ref 37, Value.none, Value.ref 38, Value.ref 39, Value.ref 40, Value.int 218 0, Value.int 12 0, Value.str (Str.ofString "/claim/cut.py") 219]) #[]) ::
  (nat_lit 42, Obj.mk (Value.type "function") none (Data.func (FuncData.mk (Str.ofString "fold_unary") (Str.ofString "fold_unary") (by refine' (?fP5 : ∀ x, fnP 5 = x → _) _ ?pP5; (case pP5 => (conv => lhs; whnf)); (case fP5 => exact fun x _ => x)) (FuncBody.stmts (by refine' (?fB5 : ∀ x, fnB 5 = x → _) _ ?pB5; (case pB5 => (conv => lhs; whnf)); (case fB5 => exact fun x _ => x))) (by refine' (?fS5 : ∀ x, fnS 5 = x → _) _ ?pS5; (case pS5 => (conv => lhs; whnf)); (case fS5 => exact fun x _ => x)) 3 [] Value.none Value.none Value.none (Value.str (Str.ofString "moduleyard.consts") 187) none (Value.ref 41) Value.none 0)) #[]) ::
  (nat_lit 43, Obj.mk (Value.type "tuple") none (Data.seq #[]) #[]) ::
  (nat_lit 45, Obj.mk (Value.type "tuple") none (Data.seq #[Value.str (Str.ofString "op") 224, Value.str (Str.ofString "x") 225, Value.str (Str.ofString "y") 226]) #[]) ::
  (nat_lit 46, Obj.mk (Value.type "tuple") none (Data.seq #[]) #[]) ::
  (nat_lit 48, Obj.mk (Value.type "code") none (Data.fields #[Value.str (Str.ofString "fold_division") 221, Value.str (Str.ofString "fold_division") 222, Value.str (Str.ofString "/claim/cut.py") 223, Value.int 18 0, Value.int 3 0, Value.int 0 0, Value.int 0 0, Value.int 3 0, Value.ref 43, Value.bool true, Value.int 181 0, Value.ref 44, Value.none, Value.ref 45, Value.ref 46, Value.ref 47, Value.int 227 0, Value.int 18 0, Value.str (Str.ofString "/claim/cut.py") 228]) #[]) ::
  (nat_lit 49, Obj.mk (Value.type "function") none (Data.func (FuncData.mk (Str.ofString "fold_division") (Str.ofString "fold_division") (by refine' (?fP6 : ∀ x, fnP 6 = x → _) _ ?pP6; (case pP6 => (conv => lhs; whnf)); (case fP6 => exact fun x _ => x)) (FuncBody.stmts (by refine' (?fB6 : ∀ x, fnB 6 = x → _) _ ?pB6; (case pB6 => (conv => lhs; whnf)); (case fB6 => exact fun x _ => x))) (by refine' (?fS6 : ∀ x, fnS 6 = x → _) _ ?pS6; (case pS6 => (conv => lhs; whnf)); (case fS6 => exact fun x _ => x)) 3 [] Value.none Value.none Value.none (Value.str (Str.ofString "moduleyard.consts") 187) none (Value.ref 48) Value.none 0)) #[]) ::
  (nat_lit 50, Obj.mk (Value.type "tuple") none (Data.seq #[]) #[]) ::
  (nat_lit 52, Obj.mk (Value.type "tuple") none (Data.seq #[Value.str (Str.ofString "op") 233, Value.str (Str.ofString "x") 234, Value.str (Str.ofString "y") 235]) #[]) ::
  (nat_lit 53, Obj.mk (Value.type "tuple") none (Data.seq #[]) #[]) ::
  (nat_lit 55, Obj.mk (Value.type "code") none (Data.fields #[Value.str (Str.ofString "fold_binary") 230, Value.str (Str.ofString "fold_binary") 231, Value.str (Str.ofString "/claim/cut.py") 232, Value.int 22 0, Value.int 3 0, Value.int 0 0, Value.int 0 0, Value.int 3 0, Value.ref 50, Value.bool true, Value.int 181 0, Value.ref 51, Value.none, Value.ref 52, Value.ref 53, Value.ref 54, Value.int 236 0, Value.int 22 0, Value.str (Str.ofString "/claim/cut.py") 237]) #[]) ::
  (nat_lit 56, Obj.mk (Value.type "function") none (Data.func (FuncData.mk (Str.ofString "fold_binary") (Str.ofString "fold_binary") (by refine' (?fP7 : ∀ x, fnP 7 = x → _) _ ?pP7; (case pP7 => (conv => lhs; whnf)); (case fP7 => exact fun x _ => x)) (FuncBody.stmts (by refine' (?fB7 : ∀ x, fnB 7 = x → _) _ ?pB7; (case pB7 => (conv => lhs; whnf)); (case fB7 => exact fun x _ => x))) (by refine' (?fS7 : ∀ x, fnS 7 = x → _) _ ?pS7; (case pS7 => (conv => lhs; whnf)); (case fS7 => exact fun x _ => x)) 3 [] Value.none Value.none Value.none (Value.str (Str.ofString "moduleyard.consts") 187) none (Value.ref 55) Value.none 0)) #[]) ::
  (nat_lit 57, Obj.mk (Value.type "tuple") none (Data.seq #[]) #[]) ::
  (nat_lit 59, Obj.mk (Value.type "tuple") none (Data.seq #[Value.str (Str.ofString "text") 242, Value.str (Str.ofString "place") 243]) #[]) ::
  (nat_lit 60, Obj.mk (Value.type "tuple") none (Data.seq #[]) #[]) ::
  (nat_lit 62, Obj.mk (Value.type "code") none (Data.fields #[Value.str (Str.ofString "up_to_end") 239, Value.str (Str.ofString "up_to_end") 240, Value.str (Str.ofString "/claim/cut.py") 241, Value.int 38 0, Value.int 1 0, Value.int 0 0, Value.int 0 0, Value.int 3 0, Value.ref 57, Value.bool true, Value.int 181 0, Value.ref 58, Value.none, Value.ref 59, Value.ref 60, Value.ref 61, Value.int 244 0, Value.int 38 0, Value.str (Str.ofString "/claim/cut.py") 245]) #[]) ::
  (nat_lit 63, Obj.mk (Value.type "function") none (Data.func (FuncData.mk (Str.ofString "up_to_end") (Str.ofString "up_to_end") (by refine' (?fP8 : ∀ x, fnP 8 = x → _) _ ?pP8; (case pP8 => (conv => lhs; whnf)); (case fP8 => exact fun x _ => x)) (FuncBody.stmts (by refine' (?fB8 : ∀ x, fnB 8 = x → _) _ ?pB8; (case pB8 => (conv => lhs; whnf)); (case fB8 => exact fun x _ => x))) (by refine' (?fS8 : ∀ x, fnS 8 = x → _) _ ?pS8; (case pS8 => (conv => lhs; whnf)); (case fS8 => exact fun x _ => x)) 3 [] Value.none Value.none Value.none (Value.str (Str.ofString "moduleyard.consts") 187) none (Value.ref 62) Value.none 0)) #[]) ::
  (nat_lit 64, Obj.mk (Value.type "tuple") none (Data.seq #[]) #[]) ::
  (nat_lit 66, Obj.mk (Value.type "tuple") none (Data.seq #[Value.str (Str.ofString "kind") 250, Value.str (Str.ofString "x") 251, Value.str (Str.ofString "y") 252]) #[]) ::
  (nat_lit 67, Obj.mk (Value.type "tuple") none (Data.seq #[]) #[]) ::
  (nat_lit 69, Obj.mk (Value.type "code") none (Data.fields #[Value.str (Str.ofString "order_of") 247, Value.str (Str.ofString "order_of") 248, Value.str (Str.ofString "/claim/cut.py") 249, Value.int 41 0, Value.int 3 0, Value.int 0 0, Value.int 0 0, Value.int 3 0, Value.ref 64, Value.bool true, Value.int 181 0, Value.ref 65, Value.none, Value.ref 66, Value.ref 67, Value.ref 68, Value.int 253 0, Value.int 41 0, Value.str (Str.ofString "/claim/cut.py") 254]) #[]) ::
  (nat_lit 70, Obj.mk (Value.type "function") none (Data.func (FuncData.mk (Str.ofString "order_of") (Str.ofString "order_of") (by refine' (?fP9 : ∀ x, fnP 9 = x → _) _ ?pP9; (case pP9 => (conv => lhs; whnf)); (case fP9 => exact fun x _ => x)) (FuncBody.stmts (by refine' (?fB9 : ∀ x, fnB 9 = x → _) _ ?pB9; (case pB9 => (conv => lhs; whnf)); (case fB9 => exact fun x _ => x))) (by refine' (?fS9 : ∀ x, fnS 9 = x → _) _ ?pS9; (case pS9 => (conv => lhs; whnf)); (case fS9 => exact fun x _ => x)) 3 [] Value.none Value.none Value.none (Value.str (Str.ofString "moduleyard.consts") 187) none (Value.ref 69) Value.none 0)) #[]) ::
  (nat_lit 71, Obj.mk (Value.type "tuple") none (Data.seq #[]) #[]) ::
  (nat_lit 73, Obj.mk (Value.type "tuple") none (Data.seq #[Value.str (Str.ofString "op") 259, Value.str (Str.ofString "kind") 260, Value.str (Str.ofString "x") 261, Value.str (Str.ofString "y") 262, Value.str (Str.ofString "same") 263, Value.str (Str.ofString "sign") 264, Value.str (Str.ofString "held") 265]) #[]) ::
  (nat_lit 74, Obj.mk (Value.type "tuple") none (Data.seq #[]) #[]) ::
  (nat_lit 76, Obj.mk (Value.type "code") none (Data.fields #[Value.str (Str.ofString "fold_relation") 256, Value.str (Str.ofString "fold_relation") 257, Value.str (Str.ofString "/claim/cut.py") 258, Value.int 48 0, Value.int 4 0, Value.int 0 0, Value.int 0 0, Value.int 3 0, Value.ref 71, Value.bool true, Value.int 181 0, Value.ref 72, Value.none, Value.ref 73, Value.ref 74, Value.ref 75, Value.int 266 0, Value.int 48 0, Value.str (Str.ofString "/claim/cut.py") 267]) #[]) ::
  (nat_lit 77, Obj.mk (Value.type "function") none (Data.func (FuncData.mk (Str.ofString "fold_relation") (Str.ofString "fold_relation") (by refine' (?fP10 : ∀ x, fnP 10 = x → _) _ ?pP10; (case pP10 => (conv => lhs; whnf)); (case fP10 => exact fun x _ => x)) (FuncBody.stmts (by refine' (?fB10 : ∀ x, fnB 10 = x → _) _ ?pB10; (case pB10 => (conv => lhs; whnf)); (case fB10 => exact fun x _ => x))) (by refine' (?fS10 : ∀ x, fnS 10 = x → _) _ ?pS10; (case pS10 => (conv => lhs; whnf)); (case fS10 => exact fun x _ => x)) 3 [] Value.none Value.none Value.none (Value.str (Str.ofString "moduleyard.consts") 187) none (Value.ref 76) Value.none 0)) #[]) ::
  (nat_lit 78, Obj.mk (Value.type "tuple") none (Data.seq #[]) #[]) ::
  (nat_lit 80, Obj.mk (Value.type "tuple") none (Data.seq #[Value.str (Str.ofString "a") 272, Value.str (Str.ofString "b") 273]) #[]) ::
  (nat_lit 81, Obj.mk (Value.type "tuple") none (Data.seq #[]) #[]) ::
  (nat_lit 83, Obj.mk (Value.type "code") none (Data.fields #[Value.str (Str.ofString "mask_range") 269, Value.str (Str.ofString "mask_range") 270, Value.str (Str.ofString "/claim/cut.py") 271, Value.int 63 0, Value.int 2 0, Value.int 0 0, Value.int 0 0, Value.int 3 0, Value.ref 78, Value.bool true, Value.int 181 0, Value.ref 79, Value.none, Value.ref 80, Value.ref 81, Value.ref 82, Value.int 274 0, Value.int 63 0, Value.str (Str.ofString "/claim/cut.py") 275]) #[]) ::
  (nat_lit 84, Obj.mk (Value.type "function") none (Data.func (FuncData.mk (Str.ofString "mask_range") (Str.ofString "mask_range") (by refine' (?fP11 : ∀ x, fnP 11 = x → _) _ ?pP11; (case pP11 => (conv => lhs; whnf)); (case fP11 => exact fun x _ => x)) (FuncBody.stmts (by refine' (?fB11 : ∀ x, fnB 11 = x → _) _ ?pB11; (case pB11 => (conv => lhs; whnf)); (case fB11 => exact fun x _ => x))) (by refine' (?fS11 : ∀ x, fnS 11 = x → _) _ ?pS11; (case pS11 => (conv => lhs; whnf)); (case fS11 => exact fun x _ => x)) 3 [] Value.none Value.none Value.none (Value.str (Str.ofString "moduleyard.consts") 187) none (Value.ref 83) Value.none 0)) #[]) ::
  (nat_lit 85, Obj.mk (Value.type "tuple") none (Data.seq #[]) #[]) ::
  (nat_lit 87, Obj.mk (Value.type "tuple") none (Data.seq #[Value.str (Str.ofString "elements") 280, Value.str (Str.ofString "found") 281, Value.str (Str.ofString "low") 282, Value.str (Str.ofString "high") 283]) #[]) ::
  (nat_lit 88, Obj.mk (Value.type "tuple") none (Data.seq #[]) #[]) ::
  (nat_lit 90, Obj.mk (Value.type "code") none (Data.fields #[Value.str (Str.ofString "fold_set") 277, Value.str (Str.ofString "fold_set") 278, Value.str (Str.ofString "/claim/cut.py") 279, Value.int 67 0, Value.int 1 0, Value.int 0 0, Value.int 0 0, Value.int 3 0, Value.ref 85, Value.bool true, Value.int 181 0, Value.ref 86, Value.none, Value.ref 87, Value.ref 88, Value.ref 89, Value.int 284 0, Value.int 67 0, Value.str (Str.ofString "/claim/cut.py") 285]) #[]) ::
  (nat_lit 91, Obj.mk (Value.type "function") none (Data.func (FuncData.mk (Str.ofString "fold_set") (Str.ofString "fold_set") (by refine' (?fP12 : ∀ x, fnP 12 = x → _) _ ?pP12; (case pP12 => (conv => lhs; whnf)); (case fP12 => exact fun x _ => x)) (FuncBody.stmts (by refine' (?fB12 : ∀ x, fnB 12 = x → _) _ ?pB12; (case pB12 => (conv => lhs; whnf)); (case fB12 => exact fun x _ => x))) (by refine' (?fS12 : ∀ x, fnS 12 = x → _) _ ?pS12; (case pS12 => (conv => lhs; whnf)); (case fS12 => exact fun x _ => x)) 3 [] Value.none Value.none Value.none (Value.str (Str.ofString "moduleyard.consts") 187) none (Value.ref 90) Value.none 0)) #[]) ::
  (nat_lit 92, Obj.mk (Value.type "tuple") none (Data.seq #[]) #[]) ::
  (nat_lit 94, Obj.mk (Value.type "tuple") none (Data.seq #[Value.str (Str.ofString "op") 290, Value.str (Str.ofString "x") 291, Value.str (Str.ofString "n") 292, Value.str (Str.ofString "low") 293]) #[]) ::
  (nat_lit 95, Obj.mk (Value.type "tuple") none (Data.seq #[]) #[]) ::
  (nat_lit 97, Obj.mk (Value.type "code") none (Data.fields #[Value.str (Str.ofString "fold_shift") 287, Value.str (Str.ofString "fold_shift") 288, Value.str (Str.ofString "/claim/cut.py") 289, Value.int 74 0, Value.int 3 0, Value.int 0 0, Value.int 0 0, Value.int 3 0, Value.ref 92, Value.bool true, Value.int 181 0, Value.ref 93, Value.none, Value.ref 94, Value.ref 95, Value.ref 96, Value.int 294 0, Value.int 74 0, Value.str (Str.ofString "/claim/cut.py") 295]) #[]) ::
  (nat_lit 98, Obj.mk (Value.type "function") none (Data.func (FuncData.mk (Str.ofString "fold_shift") (Str.ofString "fold_shift") (by refine' (?fP13 : ∀ x, fnP 13 = x → _) _ ?pP13; (case pP13 => (conv => lhs; whnf)); (case fP13 => exact fun x _ => x)) (FuncBody.stmts (by refine' (?fB13 : ∀ x, fnB 13 = x → _) _ ?pB13; (case pB13 => (conv => lhs; whnf)); (case fB13 => exact fun x _ => x))) (by refine' (?fS13 : ∀ x, fnS 13 = x → _) _ ?pS13; (case pS13 => (conv => lhs; whnf)); (case fS13 => exact fun x _ => x)) 3 [] Value.none Value.none Value.none (Value.str (Str.ofString "moduleyard.consts") 187) none (Value.ref 97) Value.none 0)) #[]) ::
  (nat_lit 99, Obj.mk (Value.type "tuple") none (Data.seq #[]) #[]) ::
  (nat_lit 101, Obj.mk (Value.type "tuple") none (Data.seq #[Value.str (Str.ofString "script") 302, Value.str (Str.ofString "figures") 303, Value.str (Str.ofString "mix") 304, Value.str (Str.ofString "cell") 305, Value.str (Str.ofString "big") 306, Value.str (Str.ofString "rest") 307, Value.str (Str.ofString "step") 308]) #[]) ::
  (nat_lit 102, Obj.mk (Value.type "tuple") none (Data.seq #[]) #[]) ::
  (nat_lit 104, Obj.mk (Value.type "code") none (Data.fields #[Value.str (Str.ofString "_law_pool") 299, Value.str (Str.ofString "_law_pool") 300, Value.str (Str.ofString "/claim/cut.py") 301, Value.int 84 0, Value.int 1 0, Value.int 0 0, Value.int 0 0, Value.int 3 0, Value.ref 99, Value.bool true, Value.int 181 0, Value.ref 100, Value.none, Value.ref 101, Value.ref 102, Value.ref 103, Value.int 309 0, Value.int 84 0, Value.str (Str.ofString "/claim/cut.py") 310]) #[]) ::
  (nat_lit 105, Obj.mk (Value.type "function") none (Data.func (FuncData.mk (Str.ofString "_law_pool") (Str.ofString "_law_pool") (by refine' (?fP15 : ∀ x, fnP 15 = x → _) _ ?pP15; (case pP15 => (conv => lhs; whnf)); (case fP15 => exact fun x _ => x)) (FuncBody.stmts (by refine' (?fB15 : ∀ x, fnB 15 = x → _) _ ?pB15; (case pB15 => (conv => lhs; whnf)); (case fB15 => exact fun x _ => x))) (by refine' (?fS15 : ∀ x, fnS 15 = x → _) _ ?pS15; (case pS15 => (conv => lhs; whnf)); (case fS15 => exact fun x _ => x)) 3 [] Value.none Value.none Value.none (Value.str (Str.ofString "law_nu0312_01") 297) none (Value.ref 104) Value.none 0)) #[]) ::
  (nat_lit 106, Obj.mk (Value.type "tuple") none (Data.seq #[]) #[]) ::
  (nat_lit 108, Obj.mk (Value.type "tuple") none (Data.seq #[Value.str (Str.ofString "pool") 315, Value.str (Str.ofString "bound_x") 316, Value.str (Str.ofString "figure") 317]) #[]) ::
  (nat_lit 109, Obj.mk (Value.type "tuple") none (Data.seq #[]) #[]) ::
  (nat_lit 111, Obj.mk (Value.type "code") none (Data.fields #[Value.str (Str.ofString "_law_pick") 312, Value.str (Str.ofString "_law_pick") 313, Value.str (Str.ofString "/claim/cut.py") 314, Value.int 99 0, Value.int 2 0, Value.int 0 0, Value.int 0 0, Value.int 3 0, Value.ref 106, Value.bool true, Value.int 181 0, Value.ref 107, Value.none, Value.ref 108, Value.ref 109, Value.ref 110, Value.int 318 0, Value.int 99 0, Value.str (Str.ofString "/claim/cut.py") 319]) #[]) ::
  (nat_lit 112, Obj.mk (Value.type "function") none (Data.func (FuncData.mk (Str.ofString "_law_pick") (Str.ofString "_law_pick") (by refine' (?fP16 : ∀ x, fnP 16 = x → _) _ ?pP16; (case pP16 => (conv => lhs; whnf)); (case fP16 => exact fun x _ => x)) (FuncBody.stmts (by refine' (?fB16 : ∀ x, fnB 16 = x → _) _ ?pB16; (case pB16 => (conv => lhs; whnf)); (case fB16 => exact fun x _ => x))) (by refine' (?fS16 : ∀ x, fnS 16 = x → _) _ ?pS16; (case pS16 => (conv => lhs; whnf)); (case fS16 => exact fun x _ => x)) 3 [] Value.none Value.none Value.none (Value.str (Str.ofString "law_nu0312_01") 297) none (Value.ref 111) Value.none 0)) #[]) ::
  (nat_lit 113, Obj.mk (Value.type "tuple") none (Data.seq #[]) #[]) ::
  (nat_lit 115, Obj.mk (Value.type "tuple") none (Data.seq #[Value.str (Str.ofString "pool") 324, Value.str (Str.ofString "cells") 325, Value.str (Str.ofString "rows") 326]) #[]) ::
  (nat_lit 116, Obj.mk (Value.type "tuple") none (Data.seq #[]) #[]) ::
  (nat_lit 118, Obj.mk (Value.type "code") none (Data.fields #[Value.str (Str.ofString "_law_number") 321, Value.str (Str.ofString "_law_number") 322, Value.str (Str.ofString "/claim/cut.py") 323, Value.int 109 0, Value.int 2 0, Value.int 0 0, Value.int 0 0, Value.int 3 0, Value.ref 113, Value.bool true, Value.int 181 0, Value.ref 114, Value.none, Value.ref 115, Value.ref 116, Value.ref 117, Value.int 327 0, Value.int 109 0, Value.str (Str.ofString "/claim/cut.py") 328]) #[]) ::
  (nat_lit 119, Obj.mk (Value.type "function") none (Data.func (FuncData.mk (Str.ofString "_law_number") (Str.ofString "_law_number") (by refine' (?fP17 : ∀ x, fnP 17 = x → _) _ ?pP17; (case pP17 => (conv => lhs; whnf)); (case fP17 => exact fun x _ => x)) (FuncBody.stmts (by refine' (?fB17 : ∀ x, fnB 17 = x → _) _ ?pB17; (case pB17 => (conv => lhs; whnf)); (case fB17 => exact fun x _ => x))) (by refine' (?fS17 : ∀ x, fnS 17 = x → _) _ ?pS17; (case pS17 => (conv => lhs; whnf)); (case fS17 => exact fun x _ => x)) 3 [] Value.none Value.none Value.none (Value.str (Str.ofString "law_nu0312_01") 297) none (Value.ref 118) Value.none 0)) #[]) ::
  (nat_lit 120, Obj.mk (Value.type "tuple") none (Data.seq #[]) #[]) ::
  (nat_lit 123, Obj.mk (Value.type "code") none (Data.fields #[Value.str (Str.ofString "_law_bits") 330, Value.str (Str.ofString "_law_bits") 331, Value.str (Str.ofString "/claim/cut.py") 332, Value.int 112 0, Value.int 1 0, Value.int 0 0, Value.int 0 0, Value.int 3 0, Value.ref 120, Value.bool true, Value.int 181 0, Value.ref 121, Value.none, Value.none, Value.none, Value.ref 122, Value.int 333 0, Value.int 112 0, Value.str (Str.ofString "/claim/cut.py") 334]) #[]) ::
  (nat_lit 124, Obj.mk (Value.type "function") none (Data.func (FuncData.mk (Str.ofString "_law_bits") (Str.ofString "_law_bits") (by refine' (?fP18 : ∀ x, fnP 18 = x → _) _ ?pP18; (case pP18 => (conv => lhs; whnf)); (case fP18 => exact fun x _ => x)) (FuncBody.stmts (by refine' (?fB18 : ∀ x, fnB 18 = x → _) _ ?pB18; (case pB18 => (conv => lhs; whnf)); (case fB18 => exact fun x _ => x))) (by refine' (?fS18 : ∀ x, fnS 18 = x → _) _ ?pS18; (case pS18 => (conv => lhs; whnf)); (case fS18 => exact fun x _ => x)) 3 [] Value.none Value.none Value.none (Value.str (Str.ofString "law_nu0312_01") 297) none (Value.ref 123) Value.none 0)) #[]) ::
  (nat_lit 125, Obj.mk (Value.type "tuple") none (Data.seq #[]) #[]) ::
  (nat_lit 128, Obj.mk (Value.type "code") none (Data.fields #[Value.str (Str.ofString "_law_word") 336, Value.str (Str.ofString "_law_word") 337, Value.str (Str.ofString "/claim/cut.py") 338, Value.int 114 0, Value.int 1 0, Value.int 0 0, Value.int 0 0, Value.int 3 0, Value.ref 125, Value.bool true, Value.int 181 0, Value.ref 126, Value.none, Value.none, Value.none, Value.ref 127, Value.int 339 0, Value.int 114 0, Value.str (Str.ofString "/claim/cut.py") 340]) #[]) ::
  (nat_lit 129, Obj.mk (Value.type "function") none (Data.func (FuncData.mk (Str.ofString "_law_word") (Str.ofString "_law_word") (by refine' (?fP19 : ∀ x, fnP 19 = x → _) _ ?pP19; (case pP19 => (conv => lhs; whnf)); (case fP19 => exact fun x _ => x)) (FuncBody.stmts (by refine' (?fB19 : ∀ x, fnB 19 = x → _) _ ?pB19; (case pB19 => (conv => lhs; whnf)); (case fB19 => exact fun x _ => x))) (by refine' (?fS19 : ∀ x, fnS 19 = x → _) _ ?pS19; (case pS19 => (conv => lhs; whnf)); (case fS19 => exact fun x _ => x)) 3 [] Value.none Value.none Value.none (Value.str (Str.ofString "law_nu0312_01") 297) none (Value.ref 128) Value.none 0)) #[]) ::
  (nat_lit 130, Obj.mk (Value.type "tuple") none (Data.seq #[]) #[]) ::
  (nat_lit 132, Obj.mk (Value.type "tuple") none (Data.seq #[Value.str (Str.ofString "number") 345, Value.str (Str.ofString "low") 346]) #[]) ::
  (nat_lit 133, Obj.mk (Value.type "tuple") none (Data.seq #[]) #[]) ::
  (nat_lit 135, Obj.mk (Value.type "code") none (Data.fields #[Value.str (Str.ofString "_law_signed") 342, Value.str (Str.ofString "_law_signed") 343, Value.str (Str.ofString "/claim/cut.py") 344, Value.int 116 0, Value.int 1 0, Value.int 0 0, Value.int 0 0, Value.int 3 0, Value.ref 130, Value.bool true, Value.int 181 0, Value.ref 131, Value.none, Value.ref 132, Value.ref 133, Value.ref 134, Value.int 347 0, Value.int 116 0, Value.str (Str.ofString "/claim/cut.py") 348]) #[]) ::
  (nat_lit 136, Obj.mk (Value.type "function") none (Data.func (FuncData.mk (Str.ofString "_law_signed") (Str.ofString "_law_signed") (by refine' (?fP20 : ∀ x, fnP 20 = x → _) _ ?pP20; (case pP20 => (conv => lhs; whnf)); (case fP20 => exact fun x _ => x)) (FuncBody.stmts (by refine' (?fB20 : ∀ x, fnB 20 = x → _) _ ?pB20; (case pB20 => (conv => lhs; whnf)); (case fB20 => exact fun x _ => x))) (by refine' (?fS20 : ∀ x, fnS 20 = x → _) _ ?pS20; (case pS20 => (conv => lhs; whnf)); (case fS20 => exact fun x _ => x)) 3 [] Value.none Value.none Value.none (Value.str (Str.ofString "law_nu0312_01") 297) none (Value.ref 135) Value.none 0)) #[]) ::
  (nat_lit 137, Obj.mk (Value.type "tuple") none (Data.seq #[]) #[]) ::
  (nat_lit 139, Obj.mk (Value.type "tuple") none (Data.seq #[Value.str (Str.ofString "number") 353]) #[]) ::
  (nat_lit 140, Obj.mk (Value.type "tuple") none (Data.seq #[]) #[]) ::
  (nat_lit 142, Obj.mk (Value.type "code") none (Data.fields #[Value.str (Str.ofString "_law_over") 350, Value.str (Str.ofString "_law_over") 351, Value.str (Str.ofString "/claim/cut.py") 352, Value.int 119 0, Value.int 1 0, Value.int 0 0, Value.int 0 0, Value.int 3 0, Value.ref 137, Value.bool true, Value.int 181 0, Value.ref 138, Value.none, Value.ref 139, Value.ref 140, Value.ref 141, Value.int 354 0, Value.int 119 0, Value.str (Str.ofString "/claim/cut.py") 355]) #[]) ::
  (nat_lit 143, Obj.mk (Value.type "function") none (Data.func (FuncData.mk (Str.ofString "_law_over") (Str.ofString "_law_over") (by refine' (?fP21 : ∀ x, fnP 21 = x → _) _ ?pP21; (case pP21 => (conv => lhs; whnf)); (case fP21 => exact fun x _ => x)) (FuncBody.stmts (by refine' (?fB21 : ∀ x, fnB 21 = x → _) _ ?pB21; (case pB21 => (conv => lhs; whnf)); (case fB21 => exact fun x _ => x))) (by refine' (?fS21 : ∀ x, fnS 21 = x → _) _ ?pS21; (case pS21 => (conv => lhs; whnf)); (case fS21 => exact fun x _ => x)) 3 [] Value.none Value.none Value.none (Value.str (Str.ofString "law_nu0312_01") 297) none (Value.ref 142) Value.none 0)) #[]) ::
  (nat_lit 144, Obj.mk (Value.type "tuple") none (Data.seq #[]) #[]) ::
  (nat_lit 146, Obj.mk (Value.type "tuple") none (Data.seq #[Value.str (Str.ofString "op") 360, Value.str (Str.ofString "number") 361, Value.str (Str.ofString "count") 362, Value.str (Str.ofString "row") 363]) #[]) ::
  (nat_lit 147, Obj.mk (Value.type "tuple") none (Data.seq #[]) #[]) ::
  (nat_lit 149, Obj.mk (Value.type "code") none (Data.fields #[Value.str (Str.ofString "_law_shifted") 357, Value.str (Str.ofString "_law_shifted") 358, Value.str (Str.ofString "/claim/cut.py") 359, Value.int 121 0, Value.int 3 0, Value.int 0 0, Value.int 0 0, Value.int 3 0, Value.ref 144, Value.bool true, Value.int 181 0, Value.ref 145, Value.none, Value.ref 146, Value.ref 147, Value.ref 148, Value.int 364 0, Value.int 121 0, Value.str (Str.ofString "/claim/cut.py") 365]) #[]) ::
  (nat_lit 150, Obj.mk (Value.type "function") none (Data.func (FuncData.mk (Str.ofString "_law_shifted") (Str.ofString "_law_shifted") (by refine' (?fP22 : ∀ x, fnP 22 = x → _) _ ?pP22; (case pP22 => (conv => lhs; whnf)); (case fP22 => exact fun x _ => x)) (FuncBody.stmts (by refine' (?fB22 : ∀ x, fnB 22 = x → _) _ ?pB22; (case pB22 => (conv => lhs; whnf)); (case fB22 => exact fun x _ => x))) (by refine' (?fS22 : ∀ x, fnS 22 = x → _) _ ?pS22; (case pS22 => (conv => lhs; whnf)); (case fS22 => exact fun x _ => x)) 3 [] Value.none Value.none Value.none (Value.str (Str.ofString "law_nu0312_01") 297) none (Value.ref 149) Value.none 0)) #[]) ::
  (nat_lit 151, Obj.mk (Value.type "tuple") none (Data.seq #[]) #[]) ::
  (nat_lit 153, Obj.mk (Value.type "tuple") none (Data.seq #[Value.str (Str.ofString "one") 370, Value.str (Str.ofString "two") 371, Value.str (Str.ofString "step") 372, Value.str (Str.ofString "left") 373, Value.str (Str.ofString "right") 374]) #[]) ::
  (nat_lit 154, Obj.mk (Value.type "tuple") none (Data.seq #[]) #[]) ::
  (nat_lit 156, Obj.mk (Value.type "code") none (Data.fields #[Value.str (Str.ofString "_law_order") 367, Value.str (Str.ofString "_law_order") 368, Value.str (Str.ofString "/claim/cut.py") 369, Value.int 128 0, Value.int 2 0, Value.int 0 0, Value.int 0 0, Value.int 3 0, Value.ref 151, Value.bool true, Value.int 181 0, Value.ref 152, Value.none, Value.ref 153, Value.ref 154, Value.ref 155, Value.int 375 0, Value.int 128 0, Value.str (Str.ofString "/claim/cut.py") 376]) #[]) ::
  (nat_lit 157, Obj.mk (Value.type "function") none (Data.func (FuncData.mk (Str.ofString "_law_order") (Str.ofString "_law_order") (by refine' (?fP23 : ∀ x, fnP 23 = x → _) _ ?pP23; (case pP23 => (conv => lhs; whnf)); (case fP23 => exact fun x _ => x)) (FuncBody.stmts (by refine' (?fB23 : ∀ x, fnB 23 = x → _) _ ?pB23; (case pB23 => (conv => lhs; whnf)); (case fB23 => exact fun x _ => x))) (by refine' (?fS23 : ∀ x, fnS 23 = x → _) _ ?pS23; (case pS23 => (conv => lhs; whnf)); (case fS23 => exact fun x _ => x)) 3 [] Value.none Value.none Value.none (Value.str (Str.ofString "law_nu0312_01") 297) none (Value.ref 156) Value.none 0)) #[]) ::
  (nat_lit 158, Obj.mk (Value.type "tuple") none (Data.seq #[]) #[]) ::
  (nat_lit 160, Obj.mk (Value.type "tuple") none (Data.seq #[Value.str (Str.ofString "sign") 381]) #[]) ::
  (nat_lit 161, Obj.mk (Value.type "tuple") none (Data.seq #[]) #[]) ::
  (nat_lit 163, Obj.mk (Value.type "code") none (Data.fields #[Value.str (Str.ofString "_law_truths") 378, Value.str (Str.ofString "_law_truths") 379, Value.str (Str.ofString "/claim/cut.py") 380, Value.int 137 0, Value.int 1 0, Value.int 0 0, Value.int 0 0, Value.int 3 0, Value.ref 158, Value.bool true, Value.int 181 0, Value.ref 159, Value.none, Value.ref 160, Value.ref 161, Value.ref 162, Value.int 382 0, Value.int 137 0, Value.str (Str.ofString "/claim/cut.py") 383]) #[]) ::
  (nat_lit 164, Obj.mk (Value.type "function") none (Data.func (FuncData.mk (Str.ofString "_law_truths") (Str.ofString "_law_truths") (by refine' (?fP24 : ∀ x, fnP 24 = x → _) _ ?pP24; (case pP24 => (conv => lhs; whnf)); (case fP24 => exact fun x _ => x)) (FuncBody.stmts (by refine' (?fB24 : ∀ x, fnB 24 = x → _) _ ?pB24; (case pB24 => (conv => lhs; whnf)); (case fB24 => exact fun x _ => x))) (by refine' (?fS24 : ∀ x, fnS 24 = x → _) _ ?pS24; (case pS24 => (conv => lhs; whnf)); (case fS24 => exact fun x _ => x)) 3 [] Value.none Value.none Value.none (Value.str (Str.ofString "law_nu0312_01") 297) none (Value.ref 163) Value.none 0)) #[]) ::
  (nat_lit 165, Obj.mk (Value.type "tuple") none (Data.seq #[]) #[]) ::
  (nat_lit 168, Obj.mk (Value.type "code") none (Data.fields #[Value.str (Str.ofString "law") 385, Value.str (Str.ofString "law") 386, Value.str (Str.ofString "/claim/cut.py") 387, Value.int 139 0, Value.int 1 0, Value.int 0 0, Value.int 0 0, Value.int 3 0, Value.ref 165, Value.bool true, Value.int 181 0, Value.ref 166, Value.none, Value.none, Value.none, Value.ref 167, Value.int 388 0, Value.int 139 0, Value.str (Str.ofString "/claim/cut.py") 389]) #[]) ::
  (nat_lit 169, Obj.mk (Value.type "function") none (Data.func (FuncData.mk (Str.ofString "law") (Str.ofString "law") (by refine' (?fP25 : ∀ x, fnP 25 = x → _) _ ?pP25; (case pP25 => (conv => lhs; whnf)); (case fP25 => exact fun x _ => x)) (FuncBody.stmts (by refine' (?fB25 : ∀ x, fnB 25 = x → _) _ ?pB25; (case pB25 => (conv => lhs; whnf)); (case fB25 => exact fun x _ => x))) (by refine' (?fS25 : ∀ x, fnS 25 = x → _) _ ?pS25; (case pS25 => (conv => lhs; whnf)); (case fS25 => exact fun x _ => x)) 3 [] Value.none Value.none Value.none (Value.str (Str.ofString "law_nu0312_01") 297) none (Value.ref 168) Value.none 0)) #[]) ::
  []
def hd.as : List Addr := [2, 3, 15, 17, 18, 20, 21, 22, 24, 25, 27, 28, 29, 31, 32, 34, 35, 36, 38, 39, 41, 42, 43, 45, 46, 48, 49, 50, 52, 53, 55, 56, 57, 59, 60, 62, 63, 64, 66, 67, 69, 70, 71, 73, 74, 76, 77, 78, 80, 81, 83, 84, 85, 87, 88, 90, 91, 92, 94, 95, 97, 98, 99, 101, 102, 104, 105, 106, 108, 109, 111, 112, 113, 115, 116, 118, 119, 120, 123, 124, 125, 128, 129, 130, 132, 133, 135, 136, 137, 139, 140, 142, 143, 144, 146, 147, 149, 150, 151, 153, 154, 156, 157, 158, 160, 161, 163, 164, 165, 168, 169]
theorem hd.as_eq : ∀ P, hd.as = (hd.heap_39 P).map (·.1) := fun _ => by kernel_rfl
noncomputable def hd.law : DefRec := ⟨Str.ofString "law", fnP 25, fnB 25, fnS 25, fnQ 25⟩
set_option maxHeartbeats 8000000 in
theorem hd.left : LeftO PySem.Challenge.pw_nu0312_01 hd.view_39 [] (fun s => xlAt hd.view_39 [] s && recOk [] s) (kHook hd.heap_39 hd.as hd.as_eq).obs (kHook hd.heap_39 hd.as hd.as_eq).val 1576 := by
  intro w
  kernel_rfl
theorem hd.s1 : namesResolve PySem.Challenge.rw_nu0312_01.row.prog = true := by kernel_rfl
theorem hd.s2 : noRoadLSs { strict := !(importedModules PySem.Challenge.rw_nu0312_01.row.prog.main.body).all cThrough.contains, foot := none, bare := (["vars", "dir", "locals"] : List Str).filter (readsOut PySem.Challenge.rw_nu0312_01.row.prog PySem.Challenge.rw_nu0312_01.row.prog.main.body) } PySem.Challenge.rw_nu0312_01.row.prog.main.body = true := by kernel_rfl
theorem hd.s3 : namesMeet PySem.Challenge.rw_nu0312_01.row.prog PySem.Challenge.rw_nu0312_01.row.prog.main.body (fun _ n => attrL n) = true := by kernel_rfl
theorem hd.s4 : noRoadLSs { strict := true, foot := some PySem.Challenge.rw_nu0312_01.bound', writes := PySem.Challenge.rw_nu0312_01.writes, may := PySem.Challenge.rw_nu0312_01.may } PySem.Challenge.rw_nu0312_01.footing = true := by kernel_rfl
theorem hd.s5 : (PySem.Challenge.rw_nu0312_01.bound'.all fun n => !builtinNamed n || PySem.Challenge.rw_nu0312_01.about == [n] || !PySem.Challenge.rw_nu0312_01.reads n) = true := by kernel_rfl
theorem hd.s6 : namesMeet PySem.Challenge.rw_nu0312_01.prog PySem.Challenge.rw_nu0312_01.footing (fun sc n => (!(["type", "isinstance", "issubclass", "getattr", "hasattr"] : List Str).contains n || sc.names.lookup n == some .globalImplicit) &&
    (PySem.Challenge.rw_nu0312_01.may != some n || sc.kind == .module || sc.names.lookup n == some .globalImplicit)) = true := by kernel_rfl
theorem hd.s7 : noClassBlock PySem.Challenge.rw_nu0312_01.prog PySem.Challenge.rw_nu0312_01.footing = true := by kernel_rfl
theorem hd.s8 : (PySem.Challenge.rw_nu0312_01.own.all fun n => !builtinNamed n) = true := by kernel_rfl
theorem hd.s9 : namesMeet PySem.Challenge.rw_nu0312_01.prog PySem.Challenge.rw_nu0312_01.footing (fun sc n => sc.kind == .module || sc.names.lookup n != some .globalExplicit) = true := by kernel_rfl
set_option maxHeartbeats 8000000 in
theorem hd.said : PySem.Challenge.rw_nu0312_01.wellSaid = true := by
  delta OpenLaw.wellSaid
  repeat' (with_reducible refine look_both ?_ ?_)
  all_goals (try (delta OpenRow.wellSaid; repeat' (with_reducible refine look_both ?_ ?_)))
  all_goals (try (delta OpenRow.partSaid; repeat' (with_reducible refine look_both ?_ ?_)))
  all_goals (try (delta looksOpen; repeat' (with_reducible refine look_both ?_ ?_)))
  all_goals (with_reducible first | exact hd.s1 | exact hd.s2 | exact hd.s3 | exact hd.s4 | exact hd.s5 | exact hd.s6 | exact hd.s7 | exact hd.s8 | exact hd.s9 | skip)
  all_goals kernel_rfl
set_option maxHeartbeats 8000000 in
theorem hd (walk : WalkO hd.view_39 [] (XL hd.view_39 []) (kHook hd.heap_39 hd.as hd.as_eq).says PySem.Challenge.rw_nu0312_01.row.toRowW hd.law [] (fun f vs => PySem.call f vs)) : PySem.Challenge.rw_nu0312_01.Holds := by
  refine holds_law hd.said fun said => ?_
  refine holds_open (q := hd.view_39) (loose := []) (Xt := fun s => xlAt hd.view_39 [] s && recOk [] s) (XP := XL hd.view_39 []) (Yf := (kHook hd.heap_39 hd.as hd.as_eq).obs) (Ya := (kHook hd.heap_39 hd.as hd.as_eq).val) (YP := (kHook hd.heap_39 hd.as hd.as_eq).says) (N := 1576) (d := hd.law) (kwd := []) hd.left (Hook.of (kHook hd.heap_39 hd.as hd.as_eq)) (Hook.keeps (kHook hd.heap_39 hd.as hd.as_eq)) (fun s e => xl_of s (Bool.and_eq_true_iff.mp e).1) XL.keeps (by kernel_rfl) (by kernel_rfl) (by kernel_rfl) (fun s e => recFacts_of (Bool.and_eq_true_iff.mp e).2) (by kernel_rfl) said (by kernel_rfl) ⟨rfl, rfl, rfl, rfl, rfl, by decide +kernel⟩ ?hw walk
  case hw => w_witness2
section
noncomputable abbrev P0 : Program := PySem.Challenge.rw_nu0312_01.row.toRowW.prog
noncomputable abbrev LL : List Str := looseW hd.view_39 []
theorem fill : hd.heap_39 = hd.heap_39 ∧ PySem.Challenge.rw_nu0312_01 = PySem.Challenge.rw_nu0312_01 := by
  k_fill
  exact ⟨rfl, rfl⟩

/-- a call of the def at f with the values vs, under a ledger, ends as R says -/
def Claim (w : World) (mean : ExcName → Option Value) (mg mb : Str → Option Value) (dd uu : Nat) (f : Addr) (vs : List Value) (news : List (Addr × Obj)) (pre : Prop)
    (R : Heap → Addr → (Str → Option Value) → Shared → (Value → Shared → Prop) → Prop) : Prop :=
  ∀ (dp un : Nat) (gd : Option (List Code)) (cn : Str) (cs : Scope) (a : Addr) (ccd : Value) (cl : List (Str × Addr)) (outer : List Env) (A₀ : Around) (base h₀ : Heap) (L : Addr) (m : Str → Option Value) (s : Shared) (Q E : Value → Shared → Prop),
    Below A₀ base outer h₀ → Fr h₀ L s.heap m → (hd.heap_39 w.params).In h₀ → News h₀ L s.heap news → Top hd.view_39 LL mean mg mb h₀ → cs.kind = .function →
    dp + dd < recursionLimit → un + uu < cLine → pre → R h₀ L m s Q → 
    wpAny (model PySem.Challenge.rw_nu0312_01.row.toRowW.prog w) (ktrTop dp un gd cn cs L a ccd cl outer) (call (.ref f) vs) Q E s

abbrev RInt (news : List (Addr × Obj)) (x : Int) (h₀ : Heap) (L : Addr) (m : Str → Option Value) (s : Shared) (Q : Value → Shared → Prop) : Prop :=
  ∀ (t : Tok) (h' : Heap) (tk' : Nat), Fr h₀ L h' m → News h₀ L h' news → Q (.int x t) { s with heap := h', toks := tk' }
abbrev RBool (news : List (Addr × Obj)) (x : Bool) (h₀ : Heap) (L : Addr) (m : Str → Option Value) (s : Shared) (Q : Value → Shared → Prop) : Prop :=
  ∀ (h' : Heap) (tk' : Nat), Fr h₀ L h' m → News h₀ L h' news → Q (.bool x) { s with heap := h', toks := tk' }
abbrev tupO (x : Int) (t1 : Tok) (c : Str) (t2 : Tok) (n : Nat) : Obj := { cls := .type "tuple", data := .seq #[.int x t1, .str c t2] n }
abbrev RTup (news : List (Addr × Obj)) (x : Int) (c : Str) (h₀ : Heap) (L : Addr) (m : Str → Option Value) (s : Shared) (Q : Value → Shared → Prop) : Prop :=
  ∀ (D : Addr) (t1 t2 : Tok) (n : Nat) (h' : Heap) (tk' : Nat), Fr h₀ L h' m → News h₀ L h' ((D, tupO x t1 c t2 n) :: news) → LCg.Off1 D news → Q (.ref D) { s with heap := h', toks := tk' }
theorem use {w : World} {mean : ExcName → Option Value} {mg mb : Str → Option Value} {dd uu : Nat} {f : Addr} {vs : List Value} {news : List (Addr × Obj)} {pre : Prop}
    {R : Heap → Addr → (Str → Option Value) → Shared → (Value → Shared → Prop) → Prop} (C : Claim w mean mg mb dd uu f vs news pre R)
    {dp un : Nat} {gd : Option (List Code)} {cn : Str} {cs : Scope} {a : Addr} {ccd : Value} {cl : List (Str × Addr)} {outer : List Env} {A₀ : Around} {base h₀ : Heap} {L : Addr} {m : Str → Option Value} {s : Shared} {Q E : Value → Shared → Prop}
    (k1 : Below A₀ base outer h₀) (k2 : Fr h₀ L s.heap m) (k3 : (hd.heap_39 w.params).In h₀) (k4 : News h₀ L s.heap news) (k5 : Top hd.view_39 LL mean mg mb h₀) (kK : cs.kind = .function)
    (kd : dp + dd < recursionLimit) (ku : un + uu < cLine) (kp : pre) (kR : R h₀ L m s Q) :
    wpAny (model PySem.Challenge.rw_nu0312_01.row.toRowW.prog w) (ktrTop dp un gd cn cs L a ccd cl outer) (call (.ref f) vs) Q E s :=
  C _ _ _ _ _ _ _ _ _ _ _ _ _ _ _ _ _ k1 k2 k3 k4 k5 kK kd ku kp kR
abbrev RList (news : List (Addr × Obj)) (ns : List Int) (h₀ : Heap) (L : Addr) (m : Str → Option Value) (s : Shared) (Q : Value → Shared → Prop) : Prop :=
  ∀ (D : Addr) (vs : List Value) (n : Nat) (h' : Heap) (tk' : Nat), IntsAre vs ns → Fr h₀ L h' m → News h₀ L h' ((D, PySem.W.listOf vs.toArray n) :: news) → LCg.Off1 D news → Q (.ref D) { s with heap := h', toks := tk' }
theorem off_lt {D : Nat} : ∀ {l : List (Addr × Obj)}, AllLt D l → LCg.Off1 D l
  | [], _ => trivial
  | _ :: _, h => ⟨Nat.ne_of_lt h.1, off_lt h.2⟩
theorem off_all {D : Nat} {l : List (Addr × Obj)} (h : ∀ p ∈ l, p.1 < D) : LCg.Off1 D l := off_lt (allLt_of h)
theorem off_of {D : Nat} : ∀ {l : List (Addr × Obj)}, (∀ p ∈ l, p.1 ≠ D) → LCg.Off1 D l
  | [], _ => trivial
  | _ :: _, h => ⟨h _ (.head _), off_of fun q hq => h q (.tail _ hq)⟩
theorem off_mem {D : Nat} : ∀ {l : List (Addr × Obj)}, LCg.Off1 D l → ∀ p ∈ l, p.1 ≠ D
  | [], _, _, hm => nomatch hm
  | _ :: _, h, p, hm => by
    rcases List.mem_cons.mp hm with rfl | hm
    · exact h.1
    · exact off_mem h.2 p hm
section
variable {h₀ h' : Heap} {L D : Addr} {m : Str → Option Value} {news news' : List (Addr × Obj)} {s : Shared} {Q : Value → Shared → Prop} {t t1 t2 : Tok} {tk' n : Nat}
theorem retI {x y : Int} (hret : RInt news x h₀ L m s Q) (F : Fr h₀ L h' m) (N : News h₀ L h' news') (hn : ∀ p ∈ news, p ∈ news') (e : y = x) : Q (.int y t) { s with heap := h', toks := tk' } := by
  subst e
  exact hret t h' tk' F (cb_drop N hn)
theorem retB {x y : Bool} (hret : RBool news x h₀ L m s Q) (F : Fr h₀ L h' m) (N : News h₀ L h' news') (hn : ∀ p ∈ news, p ∈ news') (e : y = x) : Q (.bool y) { s with heap := h', toks := tk' } := by
  subst e
  exact hret h' tk' F (cb_drop N hn)
theorem retT {x y : Int} {c d : Str} (hret : RTup news x c h₀ L m s Q) (F : Fr h₀ L h' m) (N : News h₀ L h' news') (hm : (D, tupO y t1 d t2 n) ∈ news') (hn : ∀ p ∈ news, p ∈ news') (hl : LCg.Off1 D news) (e : y = x) (e2 : d = c) : Q (.ref D) { s with heap := h', toks := tk' } := by
  subst e; subst e2
  refine hret D t1 t2 n h' tk' F (fun p hp => ?_) hl
  rcases List.mem_cons.mp hp with rfl | hp
  · exact N _ hm
  · exact N p (hn p hp)
theorem retL {ms ns : List Int} {vs : List Value} (hret : RList news ns h₀ L m s Q) (F : Fr h₀ L h' m) (N : News h₀ L h' news') (hm : (D, PySem.W.listOf vs.toArray n) ∈ news') (hn : ∀ p ∈ news, p ∈ news') (hl : LCg.Off1 D news) (hi : IntsAre vs ms) (e : ms = ns) : Q (.ref D) { s with heap := h', toks := tk' } := by
  subst e
  refine hret D vs n h' tk' hi F (fun p hp => ?_) hl
  rcases List.mem_cons.mp hp with rfl | hp
  · exact N _ hm
  · exact N p (hn p hp)
end
/-- membership of a whole ledger in a longer one -/
theorem sub_self {l : List (Addr × Obj)} : ∀ p ∈ l, p ∈ l := fun _ h => h
theorem sub_cons {l l' : List (Addr × Obj)} {q : Addr × Obj} (h : ∀ p ∈ l, p ∈ l') : ∀ p ∈ l, p ∈ q :: l' := fun p hp => List.mem_cons_of_mem _ (h p hp)

/-- 32 bits, signed -/
def sgn (n : Int) : Int := if n % 4294967296 > 2147483647 then n % 4294967296 - 4294967296 else n % 4294967296
def fitsB (n : Int) : Bool := decide (-2147483648 ≤ n) && decide (n ≤ 2147483647)
def ovf (n : Int) : Str := if fitsB n = true then Str.ofString "" else Str.ofString "constant_overflow"
theorem ovf_in {n : Int} (h : fitsB n = true) : Str.ofString "" = ovf n := by unfold ovf; rw [if_pos h]
theorem ovf_out {n : Int} (h : fitsB n = false) : Str.ofString "constant_overflow" = ovf n := by unfold ovf; rw [if_neg (by rw [h]; decide)]
theorem fits_iff {n : Int} : fitsB n = true ↔ (-2147483648 ≤ n ∧ n ≤ 2147483647) := by unfold fitsB; simp
theorem fits_not {n : Int} : fitsB n = false ↔ ¬ (-2147483648 ≤ n ∧ n ≤ 2147483647) := by rw [← fits_iff]; simp
def divv (x y : Int) : Int := if y ≤ 0 then 0 else x.fdiv y
def modv (x y : Int) : Int := if y ≤ 0 then 0 else x.fmod y
def divc (y : Int) : Str := if y ≤ 0 then Str.ofString "division" else Str.ofString ""
def shc (n : Int) : Str := if n < 0 ∨ 31 < n then Str.ofString "bad_shift" else Str.ofString ""
def lslv (x n : Int) : Int := if n < 0 ∨ 31 < n then x else sgn (x * 2 ^ n.toNat)
def asrv (x n : Int) : Int := if n < 0 ∨ 31 < n then x else x.fdiv (2 ^ n.toNat)
def rorv (x n : Int) : Int := if n < 0 ∨ 31 < n then x else sgn (Builtin.bitOr ((x % 4294967296).fdiv (2 ^ n.toNat)) (x % 4294967296 * 2 ^ (32 - n).toNat))
def maskv (a b : Int) : Int := if b < a then 0 else (2 ^ (b - a + 1).toNat - 1) * 2 ^ a.toNat
theorem sgn_fits {n : Int} (h1 : -2147483648 ≤ n) (h2 : n ≤ 2147483647) : sgn n = n := by
  unfold sgn; split <;> omega
theorem sgn_range (n : Int) : -2147483648 ≤ sgn n ∧ sgn n ≤ 2147483647 := by
  unfold sgn; split <;> omega
theorem room0 {n a k : Nat} (h : n + a < k) : n < k := Nat.lt_of_le_of_lt (Nat.le_add_right n a) h
theorem room1 {n a b k : Nat} (h : n + a < k) (e : Nat.ble b a = true) : n + b < k := Nat.lt_of_le_of_lt (Nat.add_le_add_left (Nat.le_of_ble_eq_true e) n) h
theorem room2 {n a b c k : Nat} (h : n + a < k) (e : Nat.ble (c + b) a = true) : n + c + b < k := by
  rw [Nat.add_assoc]; exact room1 h e
theorem room3 {n a b c d k : Nat} (h : n + a < k) (e : Nat.ble (c + (d + b)) a = true) : n + c + d + b < k := by
  rw [Nat.add_assoc (n + c)]; exact room2 h e
end
section
/-- maps that agree but for some names -/
def Same (l : List Str) (m m' : Str → Option Value) : Prop := ∀ nm, nm ∉ l → m' nm = m nm
theorem same_refl {l : List Str} {m : Str → Option Value} : Same l m m := fun _ _ => rfl
theorem same_put {l : List Str} {m m' : Str → Option Value} {x : Str} {v : Option Value} (h : Same l m m') (hx : x ∈ l) : Same l m (fun y => if y = x then v else m' y) := fun nm hn => by
  show (if nm = x then v else m' nm) = m nm
  rw [if_neg (show ¬ nm = x from fun e => hn (by rw [e]; exact hx)), h nm hn]
theorem same_look {l : List Str} {m m' : Str → Option Value} {x : Str} {v : Option Value} (h : Same l m m') (hx : m x = v) : Same l m (fun y => if y = x then v else m' y) := fun nm hn => by
  show (if nm = x then v else m' nm) = m nm
  by_cases e : nm = x
  · rw [if_pos e, e, hx]
  · rw [if_neg e, h nm hn]
theorem same_trans {l k : List Str} {m m' m'' : Str → Option Value} (h : Same l m m') (h' : Same k m' m'') : Same (l ++ k) m m'' := fun nm hn => by
  rw [h' nm (fun x => hn (List.mem_append_right _ x)), h nm (fun x => hn (List.mem_append_left _ x))]
theorem same_widen {l k : List Str} {m m' : Str → Option Value} (h : Same l m m') (hs : ∀ x ∈ l, x ∈ k) : Same k m m' := fun nm hn => h nm fun x => hn (hs _ x)
theorem same_again {l : List Str} {m m' m'' : Str → Option Value} (h : Same l m m') (h' : Same l m' m'') : Same l m m'' := fun nm hn => by rw [h' nm hn, h nm hn]
theorem fr_look {h₀ h : Heap} {L : Addr} {m : Str → Option Value} {x : Str} {v : Value} (F : Fr h₀ L h m) (e : m x = some v) : Fr h₀ L h (fun y => if y = x then some v else m y) := by
  have : (fun y => if y = x then some v else m y) = m := by
    funext y
    by_cases h : y = x
    · rw [if_pos h, h, e]
    · rw [if_neg h]
  rw [this]; exact F

theorem allLt_ne {d : Addr} : ∀ {l : List (Addr × Obj)}, AllLt d l → ∀ p ∈ l, p.1 ≠ d
  | [], _, _, h => nomatch h
  | _ :: _, h, p, hp => by
    rcases List.mem_cons.mp hp with rfl | hp
    · exact Nat.ne_of_lt h.1
    · exact allLt_ne h.2 p hp
theorem offL_ne {d : Addr} {l : List (Addr × Obj)} (h : LCg.Off1 d l) : ∀ p ∈ l, p.1 ≠ d := off_mem h
section
variable {prog : Program} {w : World} {A : Around} {E : Value → Shared → Prop} {s : Shared} {env : Env} {h₀ : Heap} {target : Expr} {body : List Stmt} {Q : Flow → Shared → Prop}
/-- how a turn ends: a return leaves the loop, else the state holds again -/
def TurnEnd (h₀ : Heap) (L : Addr) (s : Shared) (T : List (Addr × Obj)) (J : (Str → Option Value) → List (Addr × Obj) → Prop) (Q : Flow → Shared → Prop) (f : Flow) (s₃ : Shared) : Prop :=
  match f with
  | .ret v => Q (.ret v) s₃
  | .brk => Q .next s₃
  | _ => ∃ h' tk m' cs', s₃ = { s with heap := h', toks := tk } ∧ Fr h₀ L h' m' ∧ News h₀ L h' (cs' ++ T) ∧ J m' cs'
theorem iter_core {I ax : Addr} {lo : Obj} {n : Nat} {P : Nat → Value → Prop} {St : Nat → Heap → Prop} {hp : Heap} {m₀ : Str → Option Value} {cs₀ T : List (Addr × Obj)}
    (W : Walks prog w A I [I, ax] [I] n P St) (hgo : ∀ i v (s : Shared) (Q' : Unit → Shared → Prop) (E : Value → Shared → Prop), St i s.heap → Q' () s → wpAny (model prog w) A (letOwnedTupleGo target (.ref I) v) Q' E s)
    (hst : St 0 hp) (hI : h₀.get? I = none) (hIL : env.locals ≠ I) (F : Fr h₀ env.locals hp m₀) (N : News h₀ env.locals hp (cs₀ ++ T)) (hm : (ax, lo) ∈ T) (hoff : ∀ p ∈ T, ∀ q ∈ cs₀, p.1 ≠ q.1) (hold : ∀ p ∈ cs₀ ++ T, p.1 ≠ I)
    (J : Nat → (Str → Option Value) → List (Addr × Obj) → Prop) (hJ : ∀ i m cs, J i m cs → cs.map (·.1) = cs₀.map (·.1)) (h0 : J 0 m₀ cs₀)
    (step : ∀ i v m₁ cs₁ T' h₁ tk₁, P i v → J i m₁ cs₁ → (∀ p ∈ T, p ∈ T') → (∀ p ∈ T', ∀ q ∈ cs₁, p.1 ≠ q.1) → Fr h₀ env.locals h₁ m₁ → News h₀ env.locals h₁ (cs₁ ++ T') →
      wpAny (model prog w) A (assign target env v) (fun _ s₂ => wpAny (model prog w) A (execs body env) (TurnEnd h₀ env.locals s T' (J (i + 1)) Q) E s₂) E { s with heap := h₁, toks := tk₁ })
    (after : ∀ h' tk m' cs', Fr h₀ env.locals h' m' → News h₀ env.locals h' (cs' ++ T) → J n m' cs' → Q .next { s with heap := h', toks := tk }) :
    TurnsAt prog w A h₀ env target body Q E (.ref I) { s with heap := hp } := by
  have hax := N _ (List.mem_append_right _ hm)
  have adr : ∀ {i m cs}, J i m cs → ∀ p ∈ cs, ∃ q ∈ cs₀, p.1 = q.1 := fun {i m cs} j p hp => by
    have : p.1 ∈ cs₀.map (·.1) := by rw [← hJ i m cs j]; exact List.mem_map_of_mem hp
    obtain ⟨q, hq, e⟩ := List.mem_map.mp this
    exact ⟨q, hq, e.symm⟩
  let JJ : Nat → (Str → Option Value) → List (Addr × Obj) → Prop := fun i m l => ∃ cs, l = cs ++ T ∧ J i m cs
  refine ⟨I, _, _, n, fun i v _ => P i v, _, _, m₀, cs₀ ++ T, JJ, rfl, KTurns.ofWalks W hgo, ?_, ?_, ?_, hst, F, N, ⟨cs₀, rfl, h0⟩, ?_, ?_⟩
  · intro hmm
    rcases List.mem_cons.mp hmm with e | hmm
    · exact hIL e
    · exact hax.2.1 (List.mem_singleton.mp hmm).symm
  · intro b hb
    rw [List.mem_singleton.mp hb]
    exact hI
  · intro p hp hI'
    exact hold p hp (List.mem_singleton.mp hI')
  · rintro i v m₁ l₁ h₁ tk₁ own hin hP ⟨cs₁, rfl, hj⟩ hoff₁ hown hget hall hst F₁ N₁
    have off' : ∀ p ∈ T ++ own, ∀ q ∈ cs₁, p.1 ≠ q.1 := by
      intro p hp q hq
      obtain ⟨q', hq', e⟩ := adr hj q hq
      rw [e]
      rcases List.mem_append.mp hp with hp | hp
      · exact hoff p hp q' hq'
      · rcases List.mem_cons.mp (hown p hp) with h1 | h1
        · rw [h1]; exact fun x => hold q' (List.mem_append_left _ hq') x.symm
        · rw [List.mem_singleton.mp h1]; exact hoff _ hm q' hq'
    have N₂ : News h₀ env.locals h₁ (cs₁ ++ (T ++ own)) := fun p hp => by
      rcases List.mem_append.mp hp with hp | hp
      · exact N₁ _ (List.mem_append_right _ (List.mem_append_left _ hp))
      · rcases List.mem_append.mp hp with hp | hp
        · exact N₁ _ (List.mem_append_right _ (List.mem_append_right _ hp))
        · exact N₁ _ (List.mem_append_left _ hp)
    refine wpAny_mono (step i v m₁ cs₁ (T ++ own) h₁ tk₁ hP hj (fun p hp => List.mem_append_left _ hp) off' F₁ N₂) (fun _ s₃ hh => wpAny_mono hh (fun f s₄ p => ?_) fun _ _ e => e) fun _ _ e => e
    have fin : (∃ h' tk m' cs', s₄ = { s with heap := h', toks := tk } ∧ Fr h₀ env.locals h' m' ∧ News h₀ env.locals h' (cs' ++ (T ++ own)) ∧ J (i + 1) m' cs') →
        LoopStepU h₀ env.locals [I] own (JJ (i + 1)) { s with heap := h₁, toks := tk₁ } .next s₄ := by
      rintro ⟨h', tk, m', cs', e, F', N', j'⟩
      refine ⟨rfl, h', tk, m', cs' ++ T, e, F', fun p hp => ?_, fun p hp hI => ?_, cs', rfl, j'⟩
      · rcases List.mem_append.mp hp with hp | hp
        · exact N' _ (List.mem_append_right _ (List.mem_append_right _ hp))
        · rcases List.mem_append.mp hp with hp | hp
          · exact N' _ (List.mem_append_left _ hp)
          · exact N' _ (List.mem_append_right _ (List.mem_append_left _ hp))
      · rcases List.mem_append.mp hp with hp | hp
        · obtain ⟨q', hq', e'⟩ := adr j' p hp
          exact hold q' (List.mem_append_left _ hq') (e' ▸ List.mem_singleton.mp hI)
        · exact hold p (List.mem_append_right _ hp) (List.mem_singleton.mp hI)
    cases f with
    | ret v => exact p
    | brk => exact p
    | next => exact fin p
    | cont => exact fin p
  · rintro h' tk m' l' F' N' _ ⟨cs', rfl, j⟩
    exact after h' tk m' cs' F' N' j
theorem iter_J {ax : Addr} {lo : Obj} {vs : List Value} {n : Nat} {m₀ : Str → Option Value} {cs₀ T : List (Addr × Obj)}
    (hh : A.handled = none) (F : Fr h₀ env.locals s.heap m₀) (N : News h₀ env.locals s.heap (cs₀ ++ T)) (hm : (ax, lo) ∈ T) (hoff : ∀ p ∈ T, ∀ q ∈ cs₀, p.1 ≠ q.1) (hc : lo.cls = .type "list") (hd : lo.data = .seq vs.toArray n)
    (J : Nat → (Str → Option Value) → List (Addr × Obj) → Prop) (hJ : ∀ i m cs, J i m cs → cs.map (·.1) = cs₀.map (·.1)) (h0 : J 0 m₀ cs₀)
    (step : ∀ i v m₁ cs₁ T' h₁ tk₁, vs[i]? = some v → J i m₁ cs₁ → (∀ p ∈ T, p ∈ T') → (∀ p ∈ T', ∀ q ∈ cs₁, p.1 ≠ q.1) → Fr h₀ env.locals h₁ m₁ → News h₀ env.locals h₁ (cs₁ ++ T') →
      wpAny (model prog w) A (assign target env v) (fun _ s₂ => wpAny (model prog w) A (execs body env) (TurnEnd h₀ env.locals s T' (J (i + 1)) Q) E s₂) E { s with heap := h₁, toks := tk₁ })
    (after : ∀ h' tk m' cs', Fr h₀ env.locals h' m' → News h₀ env.locals h' (cs' ++ T) → J vs.length m' cs' → Q .next { s with heap := h', toks := tk }) :
    wpAny (model prog w) A (pyIter (.ref ax)) (fun it s₂ => TurnsAt prog w A h₀ env target body Q E it s₂) E s := by
  have hax := N _ (List.mem_append_right _ hm)
  have hl : s.heap.IsList ax vs.toArray := ⟨lo, hax.1, hc, n, hd⟩
  have hne : ax ≠ s.heap.objs.size := Nat.ne_of_lt (Heap.lt_size hax.1)
  refine wpAny_pyIter_list hl ?_
  have W := Walks.list (prog := prog) (w := w) hh s.heap.objs.size ax hne vs.toArray
  have hlen : vs.toArray.size = vs.length := by simp
  rw [hlen] at W
  exact iter_core W (fun i v s Q' E st q => letGo_listiter st.1 q) ⟨⟨_, Heap.get?_push_size _ rfl, rfl, rfl⟩, hl.at fun o e => Heap.get?_push_of_some _ e⟩ (next_is_new F) (Nat.ne_of_lt F.ns.lt) (F.push _)
    (fun p hp => ⟨Heap.get?_push_of_some _ (N p hp).1, (N p hp).2⟩) hm hoff (fun p hp => Nat.ne_of_lt (Heap.lt_size (N p hp).1)) J hJ h0
    (fun i v m₁ cs₁ T' h₁ tk₁ hv => step i v m₁ cs₁ T' h₁ tk₁ (by simpa using hv)) after
theorem iter_keys {K : Type} [DecidableEq K] {knd : KeyKind prog w K} {kvs : List (K × Value)} {ax : Addr} {lo : Obj} {m₀ : Str → Option Value} {cs₀ T : List (Addr × Obj)}
    (hh : A.handled = none) (F : Fr h₀ env.locals s.heap m₀) (N : News h₀ env.locals s.heap (cs₀ ++ T)) (hm : (ax, lo) ∈ T) (hoff : ∀ p ∈ T, ∀ q ∈ cs₀, p.1 ≠ q.1) (hd : lo.IsDictOf knd kvs) (lw : (ax == sysModules) = false)
    (J : Nat → (Str → Option Value) → List (Addr × Obj) → Prop) (hJ : ∀ i m cs, J i m cs → cs.map (·.1) = cs₀.map (·.1)) (h0 : J 0 m₀ cs₀)
    (step : ∀ i v m₁ cs₁ T' h₁ tk₁, (∃ k x, kvs[i]? = some (k, x) ∧ knd.is k v = true) → J i m₁ cs₁ → (∀ p ∈ T, p ∈ T') → (∀ p ∈ T', ∀ q ∈ cs₁, p.1 ≠ q.1) → Fr h₀ env.locals h₁ m₁ → News h₀ env.locals h₁ (cs₁ ++ T') →
      wpAny (model prog w) A (assign target env v) (fun _ s₂ => wpAny (model prog w) A (execs body env) (TurnEnd h₀ env.locals s T' (J (i + 1)) Q) E s₂) E { s with heap := h₁, toks := tk₁ })
    (after : ∀ h' tk m' cs', Fr h₀ env.locals h' m' → News h₀ env.locals h' (cs' ++ T) → J kvs.length m' cs' → Q .next { s with heap := h', toks := tk }) :
    wpAny (model prog w) A (pyIter (.ref ax)) (fun it s₂ => TurnsAt prog w A h₀ env target body Q E it s₂) E s := by
  have hax := N _ (List.mem_append_right _ hm)
  obtain ⟨ep, hat⟩ := (kda_dict N (List.mem_append_right _ hm) hd).dictAt
  have hne : ax ≠ s.heap.objs.size := Nat.ne_of_lt hat.lt_size
  refine wpAny_pyIter_dict lw hat ?_
  exact iter_core (Walks.dictKeys (knd := knd) hh s.heap.objs.size ax hne kvs ep) (fun i v s Q' E st q => letGo_keyiter st.1 q) ⟨⟨_, Heap.get?_push_size _ rfl, rfl, rfl⟩, hat.push _⟩ (next_is_new F) (Nat.ne_of_lt F.ns.lt) (F.push _)
    (fun p hp => ⟨Heap.get?_push_of_some _ (N p hp).1, (N p hp).2⟩) hm hoff (fun p hp => Nat.ne_of_lt (Heap.lt_size (N p hp).1)) J hJ h0
    (fun i v m₁ cs₁ T' h₁ tk₁ hv => step i v m₁ cs₁ T' h₁ tk₁ hv) after
end
end
section
local macro_rules | `(tactic| walk_at "mine off") => `(tactic| first | assumption | exact off_all (by assumption) | exact off_lt (by assumption) | (rename _ ∧ LCg.Off1 _ _ => hzz; exact hzz.2) | (rename _ ∧ AllLt _ _ => hzz; exact off_lt hzz.2) | (rename _ ∧ _ ∧ AllLt _ _ => hzz; exact off_lt hzz.2.2) | ((simp only [LCg.Off1, and_true]); (repeat' (refine And.intro ?_ ?_)) <;> omega))
local macro_rules | `(tactic| walk_at "mine sub") => `(tactic| first | exact sub_self | exact (fun p hp => List.mem_append_left _ hp) | (refine sub_cons ?_; walk_at "mine sub"))
local macro_rules | `(tactic| walk_at "mine mem") => `(tactic| first | exact List.Mem.head _ | (refine List.Mem.tail _ ?_; walk_at "mine mem"))
local macro_rules | `(tactic| walk_at "mine room") => `(tactic| first | exact room0 (by assumption) | exact room1 (by assumption) rfl | exact room2 (by assumption) rfl | exact room3 (by assumption) rfl)
local macro_rules | `(tactic| ktr_room) => `(tactic| walk_at "mine room")
local macro_rules | `(tactic| ktr_units) => `(tactic| walk_at "mine room")
local macro_rules | `(tactic| cb_room) => `(tactic| walk_at "mine room")
local macro_rules | `(tactic| cb_units) => `(tactic| walk_at "mine room")
local macro_rules | `(tactic| walk_at "mine clr") => `(tactic| ((repeat (with_reducible rename @Ne _ _ _ => hz9; clear hz9)); (repeat (with_reducible rename (@Ne _ _ _ ∧ _) => hz9; clear hz9)); (repeat (with_reducible rename ((_ ∧ _) ∧ LCg.Off3 _ _ _ _) => hz9; clear hz9))))
local macro_rules | `(tactic| omega) => `(tactic| first | walk_at "mine room" | ((walk_at "mine clr"); omega (config := {})))
local macro_rules | `(tactic| walk_at "mine pre") => `(tactic| (first | exact True.intro | ((try dsimp only); first | assumption | omega | (refine ⟨by assumption, ?_⟩; omega) | (refine And.intro ?_ ?_ <;> omega))))
set_option hygiene false
local macro_rules | `(tactic| walk_at "mine tl") => `(tactic| ((case k1 => k_asm); (case k2 => k_asm); (case k3 => k_asm); (case k5 => k_asm); (case kK => first | exact rfl | assumption); (case kd => ktr_room); (case ku => ktr_units)))
local macro_rules | `(tactic| walk_at "mine in") => `(tactic| ((first | (with_reducible intro D9 t9 u9 n9 h9 tk9 F9 N9 l9) | (with_reducible intro t9 h9 tk9 F9 N9) | (intro h9 tk9 F9 N9)); (try dsimp only); (try simp only [LCg.Off1, and_true] at l9); (try k_fold); (try k_sweep)))
local macro_rules | `(tactic| walk_at "mine old") => `(tactic| ((case k1 => k_asm); (case k2 => k_asm); (case k3 => k_asm); (case k4 => k_asm); (case k5 => k_asm); (case kK => first | exact rfl | assumption); (case kd => ktr_room); (case ku => ktr_units); (case kp => first | exact True.intro | ((try dsimp only); first | assumption | omega | (refine And.intro ?_ ?_ <;> omega)))))
local macro_rules | `(tactic| walk_at "mine kp") => `(tactic| ((case k4 => k_asm); (case kp => walk_at "mine pre")))
set_option hygiene true
section

theorem p32 : (2 : Int) ^ Int.toNat 32 = 4294967296 := by decide
theorem p31 : (2 : Int) ^ Int.toNat 31 = 2147483648 := by decide
theorem fm32 (n : Int) : n.fmod 4294967296 = n % 4294967296 := Int.fmod_eq_emod_of_nonneg _ (by decide)
theorem log2_small {y : Int} (h : y.natAbs < 4294967296) : y.natAbs.log2 < 9000 := by
  by_cases h0 : y.natAbs = 0
  · rw [h0]; decide +kernel
  · have h30 : y.natAbs.log2 < 32 := (Nat.log2_lt h0).mpr h
    omega
theorem xorFull {n : Int} (h0 : 0 ≤ n) (h1 : n ≤ 4294967295) : Builtin.bitXor n 4294967295 = 4294967295 - n := by
  rw [bitXor_and, bitAnd_m32]
  omega
set_option maxHeartbeats 8000000 in
theorem wrap_c (w : World) (mean : ExcName → Option Value) (mg mb : Str → Option Value) (news : List (Addr × Obj)) (n : Int) (t : Tok) :
    Claim w mean mg mb 1 8 21 [.int n t] news (True) (RInt news (sgn n)) := by
  unfold Claim
  intro _ _ _ _ _ _ _ _ _ _ _ _ _ _ _ _ _ _ _ _ _ _ _ _ _ hp hret
  refine wpAny_call ?_
  k_dflt cell_enter
  k_steps
  all_goals (refine retI hret (by assumption) (by assumption) (by walk_at "mine sub") ?_)
  all_goals (simp only [bitAnd_m32] at *; unfold sgn; split <;> omega)
set_option hygiene false
local macro_rules | `(tactic| walk_at "call ref") => `(tactic| (k_here; k_dflt ((refine' use (wrap_c _ _ _ _ _ _ _) ?k1 ?k2 ?k3 ?k4 ?k5 ?kK ?kd ?ku ?kp ?_); (walk_at "mine old"); (intro t9 h9 tk9 F9 N9; (try dsimp only); (try k_fold); (try k_sweep)))))
set_option hygiene true
set_option maxHeartbeats 8000000 in
theorem fits_c (w : World) (mean : ExcName → Option Value) (mg mb : Str → Option Value) (news : List (Addr × Obj)) (n : Int) (t : Tok) :
    Claim w mean mg mb 1 8 28 [.int n t] news (True) (RBool news (fitsB n)) := by
  unfold Claim
  intro _ _ _ _ _ _ _ _ _ _ _ _ _ _ _ _ _ _ _ _ _ _ _ _ _ hp hret
  refine wpAny_call ?_
  k_dflt cell_enter
  k_steps
  all_goals (refine retB hret (by assumption) (by assumption) (by walk_at "mine sub") ?_)
  all_goals (unfold fitsB; simp only [Bool.decide_eq_true, decide_eq_true_eq, decide_eq_false_iff_not] at *; simp [*])
set_option hygiene false
local macro_rules | `(tactic| walk_at "call ref") => `(tactic| (k_here; k_dflt ((refine' use (fits_c _ _ _ _ _ _ _) ?k1 ?k2 ?k3 ?k4 ?k5 ?kK ?kd ?ku ?kp ?_); (walk_at "mine old"); (intro h9 tk9 F9 N9; (try dsimp only); (try k_fold); (try k_sweep)))))
set_option hygiene true
set_option maxHeartbeats 8000000 in
theorem checked_c (w : World) (mean : ExcName → Option Value) (mg mb : Str → Option Value) (news : List (Addr × Obj)) (n : Int) (t : Tok) :
    Claim w mean mg mb 2 16 35 [.int n t] news (True) (RTup news (sgn n) (ovf n)) := by
  unfold Claim
  intro _ _ _ _ _ _ _ _ _ _ _ _ _ _ _ _ _ _ _ _ _ _ _ _ _ hp hret
  refine wpAny_call ?_
  k_dflt cell_enter
  k_steps
  all_goals (refine retT hret (by assumption) (by assumption) (by walk_at "mine mem") (by walk_at "mine sub") (by walk_at "mine off") ?_ ?_)
  · have := fits_iff.mp (by assumption); rw [sgn_fits] <;> omega
  · exact ovf_in (by assumption)
  · rfl
  · exact ovf_out (by assumption)
set_option hygiene false
local macro_rules | `(tactic| walk_at "call ref") => `(tactic| (k_here; k_dflt ((refine' use (checked_c _ _ _ _ _ _ _) ?k1 ?k2 ?k3 ?k4 ?k5 ?kK ?kd ?ku ?kp ?_); (walk_at "mine old"); (intro D9 t9 u9 n9 h9 tk9 F9 N9 l9; (try dsimp only); (try simp only [LCg.Off1, and_true] at l9); (try k_fold); (try k_sweep)))))
set_option hygiene true
set_option maxHeartbeats 8000000 in
theorem lsigned_c (w : World) (mean : ExcName → Option Value) (mg mb : Str → Option Value) (news : List (Addr × Obj)) (n : Int) (t : Tok) :
    Claim w mean mg mb 1 8 136 [.int n t] news (True) (RInt news (sgn n)) := by
  unfold Claim
  intro _ _ _ _ _ _ _ _ _ _ _ _ _ _ _ _ _ _ _ _ _ _ _ _ _ hp hret
  refine wpAny_call ?_
  k_dflt cell_enter
  k_steps
  all_goals (refine retI hret (by assumption) (by assumption) (by walk_at "mine sub") ?_)
  all_goals (simp only [p32, p31, fm32] at *; unfold sgn; split <;> omega)
set_option hygiene false
local macro_rules | `(tactic| walk_at "call ref") => `(tactic| (k_here; k_dflt ((refine' use (lsigned_c _ _ _ _ _ _ _) ?k1 ?k2 ?k3 ?k4 ?k5 ?kK ?kd ?ku ?kp ?_); (walk_at "mine old"); (intro t9 h9 tk9 F9 N9; (try dsimp only); (try k_fold); (try k_sweep)))))
set_option hygiene true
set_option maxHeartbeats 8000000 in
theorem lover_c (w : World) (mean : ExcName → Option Value) (mg mb : Str → Option Value) (news : List (Addr × Obj)) (n : Int) (t : Tok) :
    Claim w mean mg mb 2 16 143 [.int n t] news (True) (RTup news (sgn n) (ovf n)) := by
  unfold Claim
  intro _ _ _ _ _ _ _ _ _ _ _ _ _ _ _ _ _ _ _ _ _ _ _ _ _ hp hret
  refine wpAny_call ?_
  k_dflt cell_enter
  k_steps
  all_goals (refine retT hret (by assumption) (by assumption) (by walk_at "mine mem") (by walk_at "mine sub") (by walk_at "mine off") ?_ ?_)
  all_goals first | rfl | (refine ovf_in (fits_iff.mpr ?_); simp only [p31] at *; omega) | (refine ovf_out (fits_not.mpr ?_); simp only [p31] at *; omega)
set_option hygiene false
local macro_rules | `(tactic| walk_at "call ref") => `(tactic| (k_here; k_dflt ((refine' use (lover_c _ _ _ _ _ _ _) ?k1 ?k2 ?k3 ?k4 ?k5 ?kK ?kd ?ku ?kp ?_); (walk_at "mine old"); (intro D9 t9 u9 n9 h9 tk9 F9 N9 l9; (try dsimp only); (try simp only [LCg.Off1, and_true] at l9); (try k_fold); (try k_sweep)))))
set_option hygiene true
set_option maxHeartbeats 8000000 in
theorem mask_c (w : World) (mean : ExcName → Option Value) (mg mb : Str → Option Value) (news : List (Addr × Obj)) (a b : Int) (t u : Tok) :
    Claim w mean mg mb 1 8 84 [.int a t, .int b u] news (0 ≤ a ∧ a ≤ 31 ∧ 0 ≤ b ∧ b ≤ 31) (RInt news (maskv a b)) := by
  unfold Claim
  intro _ _ _ _ _ _ _ _ _ _ _ _ _ _ _ _ _ _ _ _ _ _ _ _ _ hp hret
  refine wpAny_call ?_
  k_dflt cell_enter
  k_steps
  all_goals (refine retI hret (by assumption) (by assumption) (by walk_at "mine sub") ?_)
  · unfold maskv; rw [if_pos (by assumption)]
  · unfold maskv; rw [if_neg (by assumption), Int.one_mul]
set_option hygiene false
local macro_rules | `(tactic| walk_at "call ref") => `(tactic| (k_here; k_dflt ((refine' use (mask_c _ _ _ _ _ _ _ _ _) ?k1 ?k2 ?k3 ?k4 ?k5 ?kK ?kd ?ku ?kp ?_); (walk_at "mine old"); (intro t9 h9 tk9 F9 N9; (try dsimp only); (try k_fold); (try k_sweep)))))
set_option hygiene true
set_option maxHeartbeats 8000000 in
theorem neg_c (w : World) (mean : ExcName → Option Value) (mg mb : Str → Option Value) (news : List (Addr × Obj)) (n : Int) (t u : Tok) :
    Claim w mean mg mb 3 24 42 [.str (Str.ofString "neg") u, .int n t] news (True) (RTup news (sgn (-n)) (ovf (-n))) := by
  unfold Claim
  intro _ _ _ _ _ _ _ _ _ _ _ _ _ _ _ _ _ _ _ _ _ _ _ _ _ hp hret
  refine wpAny_call ?_
  k_dflt cell_enter
  k_steps
  all_goals (refine retT hret (by assumption) (by assumption) (by walk_at "mine mem") (by walk_at "mine sub") (by walk_at "mine off") ?_ ?_)
  all_goals rw [Int.zero_sub]
set_option hygiene false
local macro_rules | `(tactic| walk_at "call ref") => `(tactic| (k_here; k_dflt ((refine' use (neg_c _ _ _ _ _ _ _ _) ?k1 ?k2 ?k3 ?k4 ?k5 ?kK ?kd ?ku ?kp ?_); (walk_at "mine old"); (intro D9 t9 u9 n9 h9 tk9 F9 N9 l9; (try dsimp only); (try simp only [LCg.Off1, and_true] at l9); (try k_fold); (try k_sweep)))))
set_option hygiene true
set_option maxHeartbeats 8000000 in
theorem not_c (w : World) (mean : ExcName → Option Value) (mg mb : Str → Option Value) (news : List (Addr × Obj)) (n : Int) (t u : Tok) :
    Claim w mean mg mb 3 24 42 [.str (Str.ofString "not") u, .int n t] news (True) (RTup news (1 - n) (Str.ofString "")) := by
  unfold Claim
  intro _ _ _ _ _ _ _ _ _ _ _ _ _ _ _ _ _ _ _ _ _ _ _ _ _ hp hret
  refine wpAny_call ?_
  k_dflt cell_enter
  k_steps
  all_goals (refine retT hret (by assumption) (by assumption) (by walk_at "mine mem") (by walk_at "mine sub") (by walk_at "mine off") ?_ ?_)
  all_goals rfl
set_option hygiene false
local macro_rules | `(tactic| walk_at "call ref") => `(tactic| (k_here; k_dflt ((refine' use (not_c _ _ _ _ _ _ _ _) ?k1 ?k2 ?k3 ?k4 ?k5 ?kK ?kd ?ku ?kp ?_); (walk_at "mine old"); (intro D9 t9 u9 n9 h9 tk9 F9 N9 l9; (try dsimp only); (try simp only [LCg.Off1, and_true] at l9); (try k_fold); (try k_sweep)))))
set_option hygiene true
set_option maxHeartbeats 8000000 in
theorem comp_c (w : World) (mean : ExcName → Option Value) (mg mb : Str → Option Value) (news : List (Addr × Obj)) (n : Int) (t u : Tok) :
    Claim w mean mg mb 3 24 42 [.str (Str.ofString "s~") u, .int n t] news (0 ≤ n ∧ n ≤ 4294967295) (RTup news (4294967295 - n) (Str.ofString "")) := by
  unfold Claim
  intro _ _ _ _ _ _ _ _ _ _ _ _ _ _ _ _ _ _ _ _ _ _ _ _ _ hp hret
  refine wpAny_call ?_
  k_dflt cell_enter
  k_steps
  all_goals (refine retT hret (by assumption) (by assumption) (by walk_at "mine mem") (by walk_at "mine sub") (by walk_at "mine off") ?_ ?_)
  · exact xorFull hp.1 hp.2
  · rfl
set_option hygiene false
local macro_rules | `(tactic| walk_at "call ref") => `(tactic| (k_here; k_dflt ((refine' use (comp_c _ _ _ _ _ _ _ _) ?k1 ?k2 ?k3 ?k4 ?k5 ?kK ?kd ?ku ?kp ?_); (walk_at "mine old"); (intro D9 t9 u9 n9 h9 tk9 F9 N9 l9; (try dsimp only); (try simp only [LCg.Off1, and_true] at l9); (try k_fold); (try k_sweep)))))
set_option hygiene true
end
section

local macro_rules | `(tactic| walk_at "binaryOp FloorDiv int int") => `(tactic| (k_here; k_dflt ((refine' floordiv_int ?kbe ?_ (Or.inl (PyProof.noPylong_of_log2 (log2_small ?kbp)))); (case kbe => omega); (case kbp => omega))))
local macro_rules | `(tactic| walk_at "binaryOp LShift int int") => `(tactic| (k_here; k_dflt ((refine' lshift_int_small ?kb1 ?kb2 ?kb3 ?_); (case kb1 => omega); (case kb2 => omega); (case kb3 => ((try simp only [bitAnd_m32]); omega)))))
theorem retP2 {h₀ h' : Heap} {L D : Addr} {m : Str → Option Value} {news news' : List (Addr × Obj)} {s : Shared} {Q : Value → Shared → Prop} {t1 t2 : Tok} {tk' n : Nat} {p : Int × Str} {a : Int} {b : Str} (hret : RTup news p.1 p.2 h₀ L m s Q) (F : Fr h₀ L h' m) (N : News h₀ L h' news') (hm : (D, tupO a t1 b t2 n) ∈ news') (hn : ∀ p ∈ news, p ∈ news') (hl : LCg.Off1 D news) (e : (a, b) = p) : Q (.ref D) { s with heap := h', toks := tk' } := by
  subst e
  exact retT hret F N hm hn hl rfl rfl
def dmv (op : Str) (x y : Int) : Int × Str := if y ≤ 0 then (0, Str.ofString "division") else bif op == Str.ofString "DIV" then (x.fdiv y, Str.ofString "") else (x.fmod y, Str.ofString "")
def fbv (op : Str) (x y : Int) : Int × Str :=
  bif op == Str.ofString "+" then (sgn (x + y), ovf (x + y)) else bif op == Str.ofString "-" then (sgn (x - y), ovf (x - y)) else bif op == Str.ofString "*" then (sgn (x * y), ovf (x * y))
  else bif op == Str.ofString "DIV" then dmv op x y else bif op == Str.ofString "MOD" then dmv op x y
  else bif op == Str.ofString "s+" then (Builtin.bitOr x y, Str.ofString "") else bif op == Str.ofString "OR" then (Builtin.bitOr x y, Str.ofString "")
  else bif op == Str.ofString "s*" then (Builtin.bitAnd x y, Str.ofString "") else bif op == Str.ofString "&" then (Builtin.bitAnd x y, Str.ofString "")
  else bif op == Str.ofString "s-" then (Builtin.bitAnd x (Builtin.bitXor y 4294967295), Str.ofString "") else (Builtin.bitXor x y, Str.ofString "")
theorem bif_t {α : Type} {b : Bool} {x y : α} (h : b = true) : (bif b then x else y) = x := by rw [h]; rfl
theorem bif_f {α : Type} {b : Bool} {x y : α} (h : b = false) : (bif b then x else y) = y := by rw [h]; rfl
set_option hygiene false
local macro_rules | `(tactic| walk_at "call ref") => `(tactic| (k_here; k_dflt ((first | (refine' use (checked_c _ _ _ _ _ _ _) ?k1 ?k2 ?k3 ?k4 ?k5 ?kK ?kd ?ku ?kp ?_; (walk_at "mine kp")) | (refine' use (wrap_c _ _ _ _ _ _ _) ?k1 ?k2 ?k3 ?k4 ?k5 ?kK ?kd ?ku ?kp ?_; (walk_at "mine kp"))); (walk_at "mine tl"); (walk_at "mine in"))))
set_option hygiene true
set_option maxHeartbeats 8000000 in
theorem dm_c (w : World) (mean : ExcName → Option Value) (mg mb : Str → Option Value) (news : List (Addr × Obj)) (op : Str) (x y : Int) (t u v : Tok) :
    Claim w mean mg mb 3 24 49 [.str op t, .int x u, .int y v] news ((-4294967295 ≤ y ∧ y ≤ 4294967295)) (RTup news (dmv op x y).1 (dmv op x y).2) := by
  unfold Claim
  intro _ _ _ _ _ _ _ _ _ _ _ _ _ _ _ _ _ _ _ _ _ _ _ _ _ hp hret
  refine wpAny_call ?_
  k_dflt cell_enter
  k_steps
  all_goals (refine retP2 hret (by assumption) (by assumption) (by walk_at "mine mem") (by walk_at "mine sub") (by walk_at "mine off") ?_)
  all_goals (unfold dmv; first | rw [if_pos (by assumption)] | rw [if_neg (by assumption), bif_t (by assumption)] | rw [if_neg (by assumption), bif_f (by assumption)])
set_option hygiene false
local macro_rules | `(tactic| walk_at "call ref") => `(tactic| (k_here; k_dflt ((first | (refine' use (dm_c _ _ _ _ _ _ _ _ _ _ _) ?k1 ?k2 ?k3 ?k4 ?k5 ?kK ?kd ?ku ?kp ?_; (walk_at "mine kp"))); (walk_at "mine tl"); (walk_at "mine in"))))
set_option hygiene true
set_option maxHeartbeats 8000000 in
theorem fb_c (w : World) (mean : ExcName → Option Value) (mg mb : Str → Option Value) (news : List (Addr × Obj)) (op : Str) (x y : Int) (t u v : Tok) :
    Claim w mean mg mb 4 40 56 [.str op t, .int x u, .int y v] news ((-4294967295 ≤ x ∧ x ≤ 4294967295) ∧ (-4294967295 ≤ y ∧ y ≤ 4294967295)) (RTup news (fbv op x y).1 (fbv op x y).2) := by
  unfold Claim
  intro _ _ _ _ _ _ _ _ _ _ _ _ _ _ _ _ _ _ _ _ _ _ _ _ _ hp hret
  refine wpAny_call ?_
  k_dflt cell_enter
  k_steps
  all_goals (refine retP2 hret (by assumption) (by assumption) (by walk_at "mine mem") (by walk_at "mine sub") (by walk_at "mine off") ?_)
  all_goals (unfold fbv; repeat (first | (rw [bif_t (by assumption)]; done) | rw [bif_f (by assumption)]))
def fsv (op : Str) (x n : Int) : Int × Str := if n < 0 ∨ 31 < n then (x, Str.ofString "bad_shift") else bif op == Str.ofString "LSL" then (sgn (x * 2 ^ n.toNat), Str.ofString "") else bif op == Str.ofString "ASR" then (x.fdiv (2 ^ n.toNat), Str.ofString "") else (sgn (Builtin.bitOr ((x % 4294967296).fdiv (2 ^ n.toNat)) (x % 4294967296 * 2 ^ (32 - n).toNat)), Str.ofString "")
set_option maxHeartbeats 8000000 in
theorem fs_c (w : World) (mean : ExcName → Option Value) (mg mb : Str → Option Value) (news : List (Addr × Obj)) (op : Str) (x n : Int) (t u v : Tok) :
    Claim w mean mg mb 4 40 98 [.str op t, .int x u, .int n v] news ((-2147483648 ≤ x ∧ x ≤ 2147483647)) (RTup news (fsv op x n).1 (fsv op x n).2) := by
  unfold Claim
  intro _ _ _ _ _ _ _ _ _ _ _ _ _ _ _ _ _ _ _ _ _ _ _ _ _ hp hret
  refine wpAny_call ?_
  k_dflt cell_enter
  k_steps
  all_goals (refine retP2 hret (by assumption) (by assumption) (by walk_at "mine mem") (by walk_at "mine sub") (by walk_at "mine off") ?_)
  all_goals (try simp only [bitAnd_m32])
  all_goals (unfold fsv; first | rw [if_pos (by omega)] | (rw [if_neg (by omega)]; repeat (first | (rw [bif_t (by assumption)]; done) | rw [bif_f (by assumption)])))
theorem fbv_add (x y : Int) : fbv (Str.ofString "+") x y = (sgn (x + y), ovf (x + y)) := by
  unfold fbv; repeat (first | (rw [bif_t (by decide +kernel)]; done) | rw [bif_f (by decide +kernel)])
theorem add_c (w : World) (mean : ExcName → Option Value) (mg mb : Str → Option Value) (news : List (Addr × Obj)) (x y : Int) (t u v : Tok) :
    Claim w mean mg mb 4 40 56 [.str (Str.ofString "+") t, .int x u, .int y v] news ((-4294967295 ≤ x ∧ x ≤ 4294967295) ∧ (-4294967295 ≤ y ∧ y ≤ 4294967295)) (RTup news (sgn (x + y)) (ovf (x + y))) := by
  unfold Claim
  intro _ _ _ _ _ _ _ _ _ _ _ _ _ _ _ _ _ k1 k2 k3 k4 k5 kK kd ku hp hret
  refine use (fb_c w mean mg mb news (Str.ofString "+") x y t u v) k1 k2 k3 k4 k5 kK kd ku hp ?_
  rw [fbv_add]; exact hret
theorem fbv_sub (x y : Int) : fbv (Str.ofString "-") x y = (sgn (x - y), ovf (x - y)) := by
  unfold fbv; repeat (first | (rw [bif_t (by decide +kernel)]; done) | rw [bif_f (by decide +kernel)])
theorem sub_c (w : World) (mean : ExcName → Option Value) (mg mb : Str → Option Value) (news : List (Addr × Obj)) (x y : Int) (t u v : Tok) :
    Claim w mean mg mb 4 40 56 [.str (Str.ofString "-") t, .int x u, .int y v] news ((-4294967295 ≤ x ∧ x ≤ 4294967295) ∧ (-4294967295 ≤ y ∧ y ≤ 4294967295)) (RTup news (sgn (x - y)) (ovf (x - y))) := by
  unfold Claim
  intro _ _ _ _ _ _ _ _ _ _ _ _ _ _ _ _ _ k1 k2 k3 k4 k5 kK kd ku hp hret
  refine use (fb_c w mean mg mb news (Str.ofString "-") x y t u v) k1 k2 k3 k4 k5 kK kd ku hp ?_
  rw [fbv_sub]; exact hret
theorem fbv_mul (x y : Int) : fbv (Str.ofString "*") x y = (sgn (x * y), ovf (x * y)) := by
  unfold fbv; repeat (first | (rw [bif_t (by decide +kernel)]; done) | rw [bif_f (by decide +kernel)])
theorem mul_c (w : World) (mean : ExcName → Option Value) (mg mb : Str → Option Value) (news : List (Addr × Obj)) (x y : Int) (t u v : Tok) :
    Claim w mean mg mb 4 40 56 [.str (Str.ofString "*") t, .int x u, .int y v] news ((-4294967295 ≤ x ∧ x ≤ 4294967295) ∧ (-4294967295 ≤ y ∧ y ≤ 4294967295)) (RTup news (sgn (x * y)) (ovf (x * y))) := by
  unfold Claim
  intro _ _ _ _ _ _ _ _ _ _ _ _ _ _ _ _ _ k1 k2 k3 k4 k5 kK kd ku hp hret
  refine use (fb_c w mean mg mb news (Str.ofString "*") x y t u v) k1 k2 k3 k4 k5 kK kd ku hp ?_
  rw [fbv_mul]; exact hret
theorem fbv_sor (x y : Int) : fbv (Str.ofString "s+") x y = (Builtin.bitOr x y, Str.ofString "") := by
  unfold fbv; repeat (first | (rw [bif_t (by decide +kernel)]; done) | rw [bif_f (by decide +kernel)])
theorem sor_c (w : World) (mean : ExcName → Option Value) (mg mb : Str → Option Value) (news : List (Addr × Obj)) (x y : Int) (t u v : Tok) :
    Claim w mean mg mb 4 40 56 [.str (Str.ofString "s+") t, .int x u, .int y v] news ((-4294967295 ≤ x ∧ x ≤ 4294967295) ∧ (-4294967295 ≤ y ∧ y ≤ 4294967295)) (RTup news (Builtin.bitOr x y) (Str.ofString "")) := by
  unfold Claim
  intro _ _ _ _ _ _ _ _ _ _ _ _ _ _ _ _ _ k1 k2 k3 k4 k5 kK kd ku hp hret
  refine use (fb_c w mean mg mb news (Str.ofString "s+") x y t u v) k1 k2 k3 k4 k5 kK kd ku hp ?_
  rw [fbv_sor]; exact hret
theorem fbv_or (x y : Int) : fbv (Str.ofString "OR") x y = (Builtin.bitOr x y, Str.ofString "") := by
  unfold fbv; repeat (first | (rw [bif_t (by decide +kernel)]; done) | rw [bif_f (by decide +kernel)])
theorem or_c (w : World) (mean : ExcName → Option Value) (mg mb : Str → Option Value) (news : List (Addr × Obj)) (x y : Int) (t u v : Tok) :
    Claim w mean mg mb 4 40 56 [.str (Str.ofString "OR") t, .int x u, .int y v] news ((-4294967295 ≤ x ∧ x ≤ 4294967295) ∧ (-4294967295 ≤ y ∧ y ≤ 4294967295)) (RTup news (Builtin.bitOr x y) (Str.ofString "")) := by
  unfold Claim
  intro _ _ _ _ _ _ _ _ _ _ _ _ _ _ _ _ _ k1 k2 k3 k4 k5 kK kd ku hp hret
  refine use (fb_c w mean mg mb news (Str.ofString "OR") x y t u v) k1 k2 k3 k4 k5 kK kd ku hp ?_
  rw [fbv_or]; exact hret
theorem fbv_sand (x y : Int) : fbv (Str.ofString "s*") x y = (Builtin.bitAnd x y, Str.ofString "") := by
  unfold fbv; repeat (first | (rw [bif_t (by decide +kernel)]; done) | rw [bif_f (by decide +kernel)])
theorem sand_c (w : World) (mean : ExcName → Option Value) (mg mb : Str → Option Value) (news : List (Addr × Obj)) (x y : Int) (t u v : Tok) :
    Claim w mean mg mb 4 40 56 [.str (Str.ofString "s*") t, .int x u, .int y v] news ((-4294967295 ≤ x ∧ x ≤ 4294967295) ∧ (-4294967295 ≤ y ∧ y ≤ 4294967295)) (RTup news (Builtin.bitAnd x y) (Str.ofString "")) := by
  unfold Claim
  intro _ _ _ _ _ _ _ _ _ _ _ _ _ _ _ _ _ k1 k2 k3 k4 k5 kK kd ku hp hret
  refine use (fb_c w mean mg mb news (Str.ofString "s*") x y t u v) k1 k2 k3 k4 k5 kK kd ku hp ?_
  rw [fbv_sand]; exact hret
theorem fbv_and (x y : Int) : fbv (Str.ofString "&") x y = (Builtin.bitAnd x y, Str.ofString "") := by
  unfold fbv; repeat (first | (rw [bif_t (by decide +kernel)]; done) | rw [bif_f (by decide +kernel)])
theorem and_c (w : World) (mean : ExcName → Option Value) (mg mb : Str → Option Value) (news : List (Addr × Obj)) (x y : Int) (t u v : Tok) :
    Claim w mean mg mb 4 40 56 [.str (Str.ofString "&") t, .int x u, .int y v] news ((-4294967295 ≤ x ∧ x ≤ 4294967295) ∧ (-4294967295 ≤ y ∧ y ≤ 4294967295)) (RTup news (Builtin.bitAnd x y) (Str.ofString "")) := by
  unfold Claim
  intro _ _ _ _ _ _ _ _ _ _ _ _ _ _ _ _ _ k1 k2 k3 k4 k5 kK kd ku hp hret
  refine use (fb_c w mean mg mb news (Str.ofString "&") x y t u v) k1 k2 k3 k4 k5 kK kd ku hp ?_
  rw [fbv_and]; exact hret
theorem fbv_sdiff (x y : Int) : fbv (Str.ofString "s-") x y = (Builtin.bitAnd x (Builtin.bitXor y 4294967295), Str.ofString "") := by
  unfold fbv; repeat (first | (rw [bif_t (by decide +kernel)]; done) | rw [bif_f (by decide +kernel)])
theorem sdiff_c (w : World) (mean : ExcName → Option Value) (mg mb : Str → Option Value) (news : List (Addr × Obj)) (x y : Int) (t u v : Tok) :
    Claim w mean mg mb 4 40 56 [.str (Str.ofString "s-") t, .int x u, .int y v] news ((-4294967295 ≤ x ∧ x ≤ 4294967295) ∧ (-4294967295 ≤ y ∧ y ≤ 4294967295)) (RTup news (Builtin.bitAnd x (Builtin.bitXor y 4294967295)) (Str.ofString "")) := by
  unfold Claim
  intro _ _ _ _ _ _ _ _ _ _ _ _ _ _ _ _ _ k1 k2 k3 k4 k5 kK kd ku hp hret
  refine use (fb_c w mean mg mb news (Str.ofString "s-") x y t u v) k1 k2 k3 k4 k5 kK kd ku hp ?_
  rw [fbv_sdiff]; exact hret
theorem fbv_sxor (x y : Int) : fbv (Str.ofString "s/") x y = (Builtin.bitXor x y, Str.ofString "") := by
  unfold fbv; repeat (first | (rw [bif_t (by decide +kernel)]; done) | rw [bif_f (by decide +kernel)])
theorem sxor_c (w : World) (mean : ExcName → Option Value) (mg mb : Str → Option Value) (news : List (Addr × Obj)) (x y : Int) (t u v : Tok) :
    Claim w mean mg mb 4 40 56 [.str (Str.ofString "s/") t, .int x u, .int y v] news ((-4294967295 ≤ x ∧ x ≤ 4294967295) ∧ (-4294967295 ≤ y ∧ y ≤ 4294967295)) (RTup news (Builtin.bitXor x y) (Str.ofString "")) := by
  unfold Claim
  intro _ _ _ _ _ _ _ _ _ _ _ _ _ _ _ _ _ k1 k2 k3 k4 k5 kK kd ku hp hret
  refine use (fb_c w mean mg mb news (Str.ofString "s/") x y t u v) k1 k2 k3 k4 k5 kK kd ku hp ?_
  rw [fbv_sxor]; exact hret
end
section
local macro_rules | `(tactic| walk_at "mine enterC") => `(tactic| k_dflt (refine' code_defC ?k1 ?k2 ?k3 ?k4 ?k5 ?kA ?kF ?kK ?k6 ?k7 ?k8 ?k9 ?kB ?kD ?_ ?c2 ?c3 ?c4; (case kA => exact rfl); (case kF => exact rfl); (case kK => assumption); (case k1 => k_asm); (case k2 => k_asm); (case k3 => k_asm); (case k4 => k_asm); (case k5 => k_asm); (case k6 => k_is); (case k7 => k_is); (case k8 => ktr_room); (case k9 => exact BindsTo.of_eq rfl); (case kB => exact rfl); (case kD => decide +kernel); (case c2 => exact rfl); (case c3 => exact rfl); (case c4 => exact rfl); k_whole; intro g' L' h' tk' cells' FG' F' N' Y' B' X' T' l1; (try k_lt l1); k_cells Y'; (try simp only [List.cons_append, List.nil_append] at N'); (try dsimp only); (try k_lift B'); (try k_fold)))
set_option hygiene false
local macro_rules | `(tactic| walk_at "call ref") => `(tactic| (k_here; k_dflt ((refine' use (lsigned_c _ _ _ _ _ _ _) ?k1 ?k2 ?k3 ?k4 ?k5 ?kK ?kd ?ku ?kp ?_); (walk_at "mine old"); (intro t9 h9 tk9 F9 N9; (try dsimp only); (try k_fold); (try k_sweep)))))
set_option hygiene true

local macro_rules | `(tactic| k_mem) => `(tactic| assumption)
theorem row_bits {ns : List Int} {j : Nat} (h : ∀ x ∈ ns, 0 ≤ x ∧ x ≤ 1) : Builtin.Int.intBits (ns.getD j 0) ≤ 64 := by
  refine PySem.intBits_le_64 ?_ ?_ <;>
  · by_cases hj : j < ns.length
    · have e : ns.getD j 0 = ns[j] := by simp [List.getD, hj]
      have := h _ (List.getElem_mem hj)
      rw [e]; omega
    · have e : ns.getD j 0 = 0 := by simp [List.getD, Nat.not_lt.mp hj]
      rw [e]; omega
local macro_rules | `(tactic| mul_fits) => `(tactic| exact PySem.IntMulOk.of_left (row_bits (by assumption)))
def wordL (ns : List Int) : Int := ((rangeKs 0 32).map fun k => ns.getD k.toNat 0 * 2 ^ k.toNat).sum
def bitsL (n : Int) : List Int := (rangeKs 0 32).map fun k => (n.fdiv (2 ^ k.toNat)).fmod 2
theorem bitsL_length (n : Int) : (bitsL n).length = 32 := by unfold bitsL; simp [rangeKs_length]
theorem bits_vs {vs : List Value} {n : Int} (h : IntsAre vs (bitsL n)) : vs.length = 32 := by rw [h.length, bitsL_length]
theorem bits_len {vs : List Value} {n : Int} (_h : IntsAre vs (bitsL n)) : (bitsL n).length = 32 := bitsL_length n
theorem bitsL_01 (n : Int) : ∀ x ∈ bitsL n, 0 ≤ x ∧ x ≤ 1 := by
  intro x hx
  unfold bitsL at hx
  obtain ⟨k, _, rfl⟩ := List.mem_map.1 hx
  rw [Int.fmod_eq_emod_of_nonneg _ (by decide)]
  omega
set_option maxHeartbeats 8000000 in
theorem lbits_c (w : World) (mean : ExcName → Option Value) (mg mb : Str → Option Value) (news : List (Addr × Obj)) (n : Int) (t : Tok) :
    Claim w mean mg mb 1 8 124 [.int n t] news (True) (RList news (bitsL n)) := by
  unfold Claim
  intro _ _ _ _ _ _ _ _ _ _ _ _ _ _ _ _ _ _ _ _ _ _ _ _ _ hp hret
  refine wpAny_call ?_
  walk_at "mine enterC"
  k_steps
  all_goals (refine retL hret (by assumption) (by assumption) (by walk_at "mine mem") (by walk_at "mine sub") (by walk_at "mine off") (by assumption) ?_)
  all_goals rfl
set_option hygiene false
local macro_rules | `(tactic| walk_at "call ref") => `(tactic| (k_here; k_dflt ((refine' use (lbits_c _ _ _ _ _ _ _) ?k1 ?k2 ?k3 ?k4 ?k5 ?kK ?kd ?ku ?kp ?_); (walk_at "mine old"); (intro D9 vs9 n9 h9 tk9 I9 F9 N9 l9; (try dsimp only); (try simp only [LCg.Off1, and_true] at l9); (have L9 := bits_vs I9); (have M9 := bits_len I9); (try k_fold); (try k_sweep)))))
set_option hygiene true
set_option maxHeartbeats 8000000 in
theorem lword_c (w : World) (mean : ExcName → Option Value) (mg mb : Str → Option Value) (news : List (Addr × Obj)) (l : Addr) (vs : List Value) (ns : List Int) (n : Nat) :
    Claim w mean mg mb 1 8 129 [.ref l] news ((l, PySem.W.listOf vs.toArray n) ∈ news ∧ IntsAre vs ns ∧ ns.length = 32 ∧ ∀ x ∈ ns, 0 ≤ x ∧ x ≤ 1) (RInt news (wordL ns)) := by
  unfold Claim
  intro _ _ _ _ _ _ _ _ _ _ _ _ _ _ _ _ _ _ _ _ _ _ _ _ _ hp hret
  refine wpAny_call ?_
  obtain ⟨hm, hI, hL, hB⟩ := hp; walk_at "mine enterC"
  k_steps
  all_goals (refine retI hret (by assumption) (by assumption) (by walk_at "mine sub") ?_)
  all_goals rfl
set_option hygiene false
local macro_rules | `(tactic| walk_at "call ref") => `(tactic| (k_here; k_dflt ((refine' use (lword_c _ _ _ _ _ _ _ _ _) ?k1 ?k2 ?k3 ?k4 ?k5 ?kK ?kd ?ku ?kp ?_); (case k1 => k_asm); (case k2 => k_asm); (case k3 => k_asm); (case k4 => k_asm); (case k5 => k_asm); (case kK => first | exact rfl | assumption); (case kd => ktr_room); (case ku => ktr_units); (case kp => (refine ⟨?kpa, ?kpb, ?kpc, ?kpd⟩; (case kpa => k_mem); (case kpb => l_ints); (case kpc => walk_at "mine len32"); (case kpd => walk_at "mine bits01"))); (intro t9 h9 tk9 F9 N9; (try dsimp only); (try k_fold); (try k_sweep)))))
set_option hygiene true

abbrev A01 (l : List Int) : Prop := ∀ x ∈ l, 0 ≤ x ∧ x ≤ 1
theorem a01_app {l r : List Int} (h : A01 l) (k : A01 r) : A01 (l ++ r) := fun x hx => by
  rcases List.mem_append.1 hx with hx | hx
  · exact h x hx
  · exact k x hx
theorem a01_take {l : List Int} {n : Nat} (h : A01 l) : A01 (l.take n) := fun x hx => h x (List.mem_of_mem_take hx)
theorem a01_drop {l : List Int} {n : Nat} (h : A01 l) : A01 (l.drop n) := fun x hx => h x (List.mem_of_mem_drop hx)
theorem a01_rep {a : Int} {n : Nat} (h : 0 ≤ a ∧ a ≤ 1) : A01 (List.replicate n [a]).flatten := fun x hx => by
  rw [List.flatten_replicate_singleton] at hx
  rw [(List.mem_replicate.1 hx).2]; exact h
theorem a01_get {l : List Int} {j : Nat} (h : A01 l) : 0 ≤ l.getD j 0 ∧ l.getD j 0 ≤ 1 := by
  by_cases hj : j < l.length
  · have e : l.getD j 0 = l[j] := by simp [List.getD, hj]
    rw [e]; exact h _ (List.getElem_mem hj)
  · have e : l.getD j 0 = 0 := by simp [List.getD, Nat.not_lt.mp hj]
    rw [e]; omega
theorem len_rep {α : Type} (n : Nat) (a : α) : (List.replicate n [a]).flatten.length = n := by rw [List.flatten_replicate_singleton, List.length_replicate]
local macro_rules | `(tactic| walk_at "mine len32") => `(tactic| (simp only [List.length_take, List.length_append, List.length_drop, len_rep, bitsL_length]; omega))
local macro_rules | `(tactic| walk_at "mine bits01") => `(tactic| first | exact bitsL_01 _ | (refine a01_take ?_; walk_at "mine bits01") | (refine a01_drop ?_; walk_at "mine bits01") | exact a01_rep (by omega) | exact a01_rep (a01_get (bitsL_01 _)) | (refine a01_app ?_ ?_ <;> walk_at "mine bits01"))
local macro_rules | `(tactic| walk_at "subscriptTail Name Slice ref ref") => `(tactic| (k_here; (with_reducible show wpAny _ _ (subscriptTail _ (PySem.Expr.Slice _ _ none _) (Value.ref _) (Value.ref _)) _ _ _); k_dflt (refine' kmk_slice_ints ?F ?N ?l ?p ?q ?i ?m ?c ?_ ?s ?t ?z; (case F => k_asm); (case N => k_asm); (case l => kmk_list); (case p => kmk_part); (case q => kmk_part); (case i => l_ints); (case m => first | exact kmk_upto (by l_ints) (by omega) | exact kmk_from (by l_ints) (by omega)); (case c => kmk_len); (case s => with_unfolding_all rfl); (case t => kmk_pure); (case z => exact kmk_sz (by l_ints) (by (simp only [sizeLine_eq, List.length_append, len_rep]; omega)))); intro D' ws' h' F' N' l1 hI' hC' hL'; (try simp only [Int.reduceNeg, Int.neg_neg, Int.reduceToNat] at hI' hC' hL'); (try k_lt l1); (try k_sweep)))
def lslL (x n : Int) : List Int := List.take 32 ((List.replicate n.toNat [0]).flatten ++ bitsL x)
def asrL (x n : Int) : List Int := List.drop n.toNat (bitsL x ++ (List.replicate n.toNat [(bitsL x).getD 31 0]).flatten)
def rorL (x n : Int) : List Int := List.drop n.toNat (bitsL x) ++ List.take n.toNat (bitsL x)
def lshv (op : Str) (x n : Int) : Int := bif op == Str.ofString "LSL" then sgn (wordL (lslL x n)) else bif op == Str.ofString "ASR" then sgn (wordL (asrL x n)) else sgn (wordL (rorL x n))
set_option maxHeartbeats 8000000 in
theorem lsh_c (w : World) (mean : ExcName → Option Value) (mg mb : Str → Option Value) (news : List (Addr × Obj)) (op : Str) (x n : Int) (t u v : Tok) :
    Claim w mean mg mb 3 24 150 [.str op t, .int x u, .int n v] news (0 ≤ n ∧ n ≤ 31) (RInt news (lshv op x n)) := by
  unfold Claim
  intro _ _ _ _ _ _ _ _ _ _ _ _ _ _ _ _ _ _ _ _ _ _ _ _ _ hp hret
  refine wpAny_call ?_
  k_dflt cell_enter
  k_steps
  all_goals (refine retI hret (by assumption) (by assumption) (by walk_at "mine sub") ?_)
  all_goals (unfold lshv; (repeat (first | rw [bif_t (by assumption)] | rw [bif_f (by assumption)])); (try rfl))
end
section
/-- the number whose bits below n are b -/
def wn (b : Nat → Bool) : Nat → Nat
  | 0 => 0
  | n + 1 => 2 ^ n * (b n).toNat + wn b n
theorem wn_lt (b : Nat → Bool) : ∀ n, wn b n < 2 ^ n
  | 0 => by simp [wn]
  | n + 1 => by
    have h := wn_lt b n
    have h2 : 2 ^ (n + 1) = 2 ^ n + 2 ^ n := by rw [Nat.pow_succ]; omega
    cases hb : b n <;> simp [wn, hb] <;> omega
theorem wn_bit (b : Nat → Bool) : ∀ n i, (wn b n).testBit i = (decide (i < n) && b i)
  | 0, i => by simp [wn]
  | n + 1, i => by
    rw [wn, Nat.testBit_two_pow_mul_add _ (wn_lt b n)]
    by_cases h : i < n
    · rw [if_pos h, wn_bit b n i]
      have : i < n + 1 := by omega
      simp [h, this]
    · rw [if_neg h]
      by_cases e : i = n
      · subst e
        rw [Nat.sub_self]
        cases b i <;> simp
      · have h2 : ¬ i < n + 1 := by omega
        have h3 : 0 < i - n := by omega
        obtain ⟨j, hj⟩ : ∃ j, i - n = j + 1 := ⟨i - n - 1, by omega⟩
        rw [hj]
        cases b n <;> simp [h2, Nat.testBit_succ]
theorem wn_eq {b : Nat → Bool} {n X : Nat} (hX : X < 2 ^ n) (h : ∀ i, i < n → X.testBit i = b i) : wn b n = X := by
  refine Nat.eq_of_testBit_eq fun i => ?_
  rw [wn_bit]
  by_cases hi : i < n
  · simp [hi, h i hi]
  · have : X.testBit i = false := Nat.testBit_lt_two_pow (Nat.lt_of_lt_of_le hX (Nat.pow_le_pow_right (by decide) (by omega)))
    simp [hi, this]
theorem word_sum (ns : List Int) (b : Nat → Bool) : ∀ n, (∀ k, k < n → ns.getD k 0 = ((b k).toNat : Int)) →
    ((rangeKs 0 n).map fun k => ns.getD k.toNat 0 * 2 ^ k.toNat).sum = ((wn b n : Nat) : Int)
  | 0, _ => by simp [rangeKs, wn]
  | n + 1, h => by
    have hs : rangeKs 0 (n + 1) = rangeKs 0 n ++ [(n : Int)] := by
      simp [rangeKs, List.range_succ]
    rw [hs, List.map_append, List.sum_append, word_sum ns b n (fun k hk => h k (by omega)), wn]
    simp only [List.map_cons, List.map_nil, List.sum_cons, List.sum_nil, Int.toNat_natCast, Int.add_zero]
    rw [h n (by omega), Nat.add_comm, Int.natCast_add, Int.natCast_mul, Int.natCast_pow, Int.mul_comm]
    rfl
theorem word_wn {ns : List Int} {b : Nat → Bool} (h : ∀ k, k < 32 → ns.getD k 0 = ((b k).toNat : Int)) : wordL ns = ((wn b 32 : Nat) : Int) := word_sum ns b 32 h
/-- the 32 low bits of an int, as a natural number -/
def WN (x : Int) : Nat := (x % 4294967296).toNat
theorem WN_lt (x : Int) : WN x < 2 ^ 32 := by unfold WN; have : (2 : Nat) ^ 32 = 4294967296 := by decide
                                              omega
theorem WN_cast (x : Int) : (WN x : Int) = x % 4294967296 := by unfold WN; omega
theorem sgn_WN (x : Int) : sgn (WN x) = sgn x := by
  have h : (WN x : Int) % 4294967296 = x % 4294967296 := by rw [WN_cast]; omega
  unfold sgn; rw [h]
theorem bit_WN (x : Int) {k : Nat} (hk : k < 32) : (x.fdiv (2 ^ k)).fmod 2 = (((WN x).testBit k).toNat : Int) := by
  have hp : (0 : Int) < 2 ^ k := Int.pow_pos (by decide)
  rw [Int.fdiv_eq_ediv_of_nonneg _ (Int.le_of_lt hp), Int.fmod_eq_emod_of_nonneg _ (by decide)]
  have h1 : (((WN x).testBit k).toNat) = WN x / 2 ^ k % 2 := by rw [Nat.toNat_testBit]
  rw [h1, Int.natCast_emod, Int.natCast_ediv, WN_cast, Int.natCast_pow]
  have h2 : (4294967296 : Int) = 2 ^ k * (2 * 2 ^ (31 - k)) := by
    rw [← Int.pow_succ', ← Int.pow_add]
    have : k + (31 - k + 1) = 32 := by omega
    rw [this]; decide
  have h3 := Int.emod_add_mul_ediv x 4294967296
  have h4 : x = x % 4294967296 + 2 ^ k * (2 * (2 ^ (31 - k) * (x / 4294967296))) := by
    have e : 2 ^ k * (2 * (2 ^ (31 - k) * (x / 4294967296))) = 4294967296 * (x / 4294967296) := by
      conv => rhs; rw [h2]
      simp only [Int.mul_assoc]
      rw [← h2]
    rw [e]; omega
  conv => lhs; rw [h4]
  rw [Int.add_mul_ediv_left _ _ (Int.ne_of_gt hp)]
  simp [Int.add_mul_emod_self_left]
theorem bits_get (x : Int) {k : Nat} (hk : k < 32) : (bitsL x).getD k 0 = (((WN x).testBit k).toNat : Int) := by
  have : (bitsL x).getD k 0 = (x.fdiv (2 ^ k)).fmod 2 := by
    unfold bitsL rangeKs
    simp [List.getD, hk]
  rw [this, bit_WN x hk]
/-- a list of the low bits of y is y, signed -/
theorem sgn_word {y : Int} {l : List Int} (h : ∀ k, k < 32 → l.getD k 0 = (((WN y).testBit k).toNat : Int)) : sgn (wordL l) = sgn y := by
  rw [word_wn h, wn_eq (WN_lt y) (fun _ _ => rfl), sgn_WN]
theorem getD_app_l {l r : List Int} {k : Nat} (h : k < l.length) : (l ++ r).getD k 0 = l.getD k 0 := by
  simp [List.getD, List.getElem?_append_left h]
theorem getD_app_r {l r : List Int} {k : Nat} (h : l.length ≤ k) : (l ++ r).getD k 0 = r.getD (k - l.length) 0 := by
  simp [List.getD, List.getElem?_append_right h]
theorem getD_take {l : List Int} {n k : Nat} (h : k < n) : (l.take n).getD k 0 = l.getD k 0 := by
  simp [List.getD, h]
theorem getD_drop {l : List Int} {n k : Nat} : (l.drop n).getD k 0 = l.getD (n + k) 0 := by
  simp [List.getD, List.getElem?_drop]
theorem getD_rep {n k : Nat} {a : Int} (h : k < n) : ((List.replicate n [a]).flatten).getD k 0 = a := by
  rw [List.flatten_replicate_singleton]
  simp [List.getD, h]
theorem len_rp {n : Nat} {a : Int} : ((List.replicate n [a]).flatten).length = n := by rw [List.flatten_replicate_singleton, List.length_replicate]
theorem pow_split {n k : Nat} (h : n ≤ k) : (2 : Int) ^ k = 2 ^ n * 2 ^ (k - n) := by
  rw [← Int.pow_add]; congr 1; omega
theorem same_lsl {x n : Int} (h : 0 ≤ n ∧ n ≤ 31) : sgn (x * 2 ^ n.toNat) = sgn (wordL (lslL x n)) := by
  refine (sgn_word fun k hk => ?_).symm
  obtain ⟨m, rfl⟩ : ∃ m : Nat, n = m := ⟨n.toNat, by omega⟩
  have hp : ∀ j : Nat, (0 : Int) < 2 ^ j := fun j => Int.pow_pos (by decide)
  simp only [Int.toNat_natCast] at *
  rw [← bit_WN _ hk]
  unfold lslL
  simp only [Int.toNat_natCast]
  rw [getD_take hk]
  by_cases hm : k < m
  · rw [getD_app_l (by rw [len_rp]; exact hm), getD_rep hm]
    rw [pow_split (Nat.le_of_lt hm), Int.fdiv_eq_ediv_of_nonneg _ (Int.le_of_lt (hp k)), Int.fmod_eq_emod_of_nonneg _ (by decide),
      show x * (2 ^ k * 2 ^ (m - k)) = 2 ^ k * (x * 2 ^ (m - k)) by ac_rfl, Int.mul_ediv_cancel_left _ (Int.ne_of_gt (hp k))]
    obtain ⟨j, hj⟩ : ∃ j, m - k = j + 1 := ⟨m - k - 1, by omega⟩
    rw [hj, Int.pow_succ, ← Int.mul_assoc, Int.mul_emod_left]
  · rw [getD_app_r (by rw [len_rp]; omega), len_rp, bits_get _ (by omega), ← bit_WN _ (by omega)]
    rw [pow_split (Nat.not_lt.mp hm), Int.fdiv_eq_ediv_of_nonneg _ (Int.le_of_lt (hp _)), Int.fdiv_eq_ediv_of_nonneg _ (Int.le_of_lt (by rw [← pow_split (Nat.not_lt.mp hm)]; exact hp k)),
      Int.mul_comm x, Int.mul_ediv_mul_of_pos _ _ (hp m)]
theorem fdiv_two {x a b : Int} (ha : 0 < a) (hb : 0 < b) : (x.fdiv a).fdiv b = x.fdiv (a * b) := by
  rw [Int.fdiv_eq_ediv_of_nonneg _ (Int.le_of_lt ha), Int.fdiv_eq_ediv_of_nonneg _ (Int.le_of_lt hb), Int.fdiv_eq_ediv_of_nonneg _ (Int.le_of_lt (Int.mul_pos ha hb)),
    Int.ediv_ediv_of_nonneg (Int.le_of_lt ha)]
theorem same_asr {x n : Int} (h : 0 ≤ n ∧ n ≤ 31) (hb : -2147483648 ≤ x ∧ x ≤ 2147483647) : x.fdiv (2 ^ n.toNat) = sgn (wordL (asrL x n)) := by
  obtain ⟨m, rfl⟩ : ∃ m : Nat, n = m := ⟨n.toNat, by omega⟩
  have hp : ∀ j : Nat, (0 : Int) < 2 ^ j := fun j => Int.pow_pos (by decide)
  unfold asrL
  simp only [Int.toNat_natCast] at *
  have hq : -2147483648 ≤ x.fdiv (2 ^ m) ∧ x.fdiv (2 ^ m) ≤ 2147483647 := by
    rw [Int.fdiv_eq_ediv_of_nonneg _ (Int.le_of_lt (hp m))]
    have h1 := Int.emod_nonneg x (Int.ne_of_gt (hp m))
    have h2 := Int.emod_lt_of_pos x (hp m)
    have h3 := Int.emod_add_mul_ediv x (2 ^ m)
    have h4 := hp m
    generalize x / 2 ^ m = q at *
    generalize (2 : Int) ^ m = p at *
    by_cases hq : 0 ≤ q
    · have : q ≤ p * q := by
        have := Int.mul_le_mul_of_nonneg_right (show (1 : Int) ≤ p by omega) hq
        omega
      omega
    · have h5 : p * (q + 1) ≤ 1 * (q + 1) := Int.mul_le_mul_of_nonpos_right (show (1 : Int) ≤ p by omega) (by omega)
      rw [Int.mul_add] at h5
      omega
  rw [← sgn_fits hq.1 hq.2]
  refine (sgn_word fun k hk => ?_).symm
  rw [← bit_WN _ hk, getD_drop, fdiv_two (hp m) (hp k), ← Int.pow_add]
  by_cases hm : m + k < 32
  · rw [getD_app_l (by rw [bitsL_length]; exact hm), bits_get _ hm, ← bit_WN _ hm]
  · rw [getD_app_r (by rw [bitsL_length]; omega), getD_rep (by rw [bitsL_length]; omega), bits_get _ (by decide), ← bit_WN _ (by decide)]
    have hbig : (2147483648 : Int) ≤ 2 ^ (m + k) := by
      rw [pow_split (show 31 ≤ m + k by omega)]
      have := hp (m + k - 31)
      have e : (2 : Int) ^ 31 = 2147483648 := by decide
      rw [e]; omega
    rw [Int.fdiv_eq_ediv_of_nonneg _ (Int.le_of_lt (hp _)), Int.fdiv_eq_ediv_of_nonneg _ (Int.le_of_lt (hp _))]
    have e : (2 : Int) ^ 31 = 2147483648 := by decide
    rw [e]
    have h1 := Int.emod_nonneg x (Int.ne_of_gt (hp (m+k)))
    have h2 := Int.emod_lt_of_pos x (hp (m+k))
    have h3 := Int.emod_add_mul_ediv x (2 ^ (m+k))
    have h4 := hp (m+k)
    congr 1
    by_cases hx : 0 ≤ x
    · have : x / 2 ^ (m + k) = 0 := Int.ediv_eq_zero_of_lt hx (by omega)
      rw [this]; omega
    · have : x / 2 ^ (m + k) = -1 := by
        have e1 : x = (x + 2 ^ (m+k)) + 2 ^ (m+k) * (-1) := by omega
        rw [e1, Int.add_mul_ediv_left _ _ (Int.ne_of_gt h4), Int.ediv_eq_zero_of_lt (by omega) (by omega)]; omega
      rw [this]; omega
theorem band_nots (a b : Nat) : Builtin.bitAnd (Builtin.bitNot (a : Int)) (Builtin.bitNot (b : Int)) = Builtin.bitNot ((a ||| b : Nat) : Int) := by
  have n1 : ¬ (0 ≤ Builtin.bitNot (a : Int)) := by unfold Builtin.bitNot; omega
  have n2 : ¬ (0 ≤ Builtin.bitNot (b : Int)) := by unfold Builtin.bitNot; omega
  have e1 : (Builtin.bitNot (Builtin.bitNot (a : Int))).toNat = a := by unfold Builtin.bitNot; omega
  have e2 : (Builtin.bitNot (Builtin.bitNot (b : Int))).toNat = b := by unfold Builtin.bitNot; omega
  unfold Builtin.bitAnd
  rw [decide_eq_false n1, decide_eq_false n2]
  simp only [e1, e2]
theorem bor_nat (a b : Nat) : Builtin.bitOr (a : Int) (b : Int) = ((a ||| b : Nat) : Int) := by
  unfold Builtin.bitOr
  rw [band_nots]
  unfold Builtin.bitNot
  omega
theorem band_nat (a b : Nat) : Builtin.bitAnd (a : Int) (b : Int) = ((a &&& b : Nat) : Int) := by
  simp only [Builtin.bitAnd]
  have h1 : decide ((0 : Int) ≤ (a : Int)) = true := by simp
  have h2 : decide ((0 : Int) ≤ (b : Int)) = true := by simp
  rw [h1, h2]
  simp
theorem and_two_pow_mul (n a b : Nat) (h : b < 2 ^ n) : (2 ^ n * a) ||| b = 2 ^ n * a + b := (Nat.two_pow_add_eq_or_of_lt h a).symm
theorem WN_ofNat (a : Nat) {k : Nat} (hk : k < 32) : (WN (a : Int)).testBit k = a.testBit k := by
  have : WN (a : Int) = a % 2 ^ 32 := by unfold WN; have : (2 : Nat) ^ 32 = 4294967296 := by decide
                                         omega
  rw [this, Nat.testBit_mod_two_pow]; simp [hk]
theorem same_ror {x n : Int} (h : 0 ≤ n ∧ n ≤ 31) : sgn (Builtin.bitOr ((x % 4294967296).fdiv (2 ^ n.toNat)) (x % 4294967296 * 2 ^ (32 - n).toNat)) = sgn (wordL (rorL x n)) := by
  obtain ⟨m, rfl⟩ : ∃ m : Nat, n = m := ⟨n.toNat, by omega⟩
  have hp : ∀ j : Nat, (0 : Int) < 2 ^ j := fun j => Int.pow_pos (by decide)
  have e1 : (x % 4294967296).fdiv (2 ^ m) = ((WN x >>> m : Nat) : Int) := by
    rw [Int.fdiv_eq_ediv_of_nonneg _ (Int.le_of_lt (hp m)), ← WN_cast, Nat.shiftRight_eq_div_pow, Int.natCast_ediv, Int.natCast_pow]; rfl
  have e2 : x % 4294967296 * 2 ^ (32 - m) = ((WN x <<< (32 - m) : Nat) : Int) := by
    rw [← WN_cast, Nat.shiftLeft_eq, Int.natCast_mul, Int.natCast_pow]; rfl
  unfold rorL
  have e3 : ((32 : Int) - (m : Int)).toNat = 32 - m := by omega
  simp only [Int.toNat_natCast, e3] at *
  rw [e1, e2, bor_nat]
  refine (sgn_word fun k hk => ?_).symm
  rw [WN_ofNat _ hk, Nat.testBit_or, Nat.testBit_shiftRight, Nat.testBit_shiftLeft]
  have hl : (List.drop m (bitsL x)).length = 32 - m := by simp [bitsL_length]
  by_cases hm : k < 32 - m
  · rw [getD_app_l (by rw [hl]; exact hm), getD_drop, bits_get _ (by omega)]
    have : ¬ (32 - m ≤ k) := by omega
    simp [this]
  · rw [getD_app_r (by rw [hl]; omega), hl, getD_take (by omega), bits_get _ (by omega)]
    have h1 : 32 - m ≤ k := by omega
    have h2 : (WN x).testBit (m + k) = false := Nat.testBit_lt_two_pow (Nat.lt_of_lt_of_le (WN_lt x) (Nat.pow_le_pow_right (by decide) (by omega)))
    simp [h1, h2]
/-- the bit at k of a list of bits -/
def bb (l : List Int) (k : Nat) : Bool := decide (l.getD k 0 = 1)
theorem get01 {l : List Int} {j : Nat} (h : A01 l) : 0 ≤ l.getD j 0 ∧ l.getD j 0 ≤ 1 := by
  by_cases hj : j < l.length
  · have e : l.getD j 0 = l[j] := by simp [List.getD, hj]
    rw [e]; exact h _ (List.getElem_mem hj)
  · have e : l.getD j 0 = 0 := by simp [List.getD, Nat.not_lt.mp hj]
    rw [e]; omega
theorem bb_get {l : List Int} (h : A01 l) (k : Nat) : l.getD k 0 = ((bb l k).toNat : Int) := by
  have := get01 (j := k) h
  unfold bb
  by_cases e : l.getD k 0 = 1
  · rw [e]; rfl
  · rw [decide_eq_false e]
    show l.getD k 0 = 0
    omega
theorem word_bb {l : List Int} (h : A01 l) : wordL l = ((wn (bb l) 32 : Nat) : Int) := word_wn fun k _ => bb_get h k
theorem wn_or (f g : Nat → Bool) (n : Nat) : wn f n ||| wn g n = wn (fun k => f k || g k) n := by
  refine (wn_eq (Nat.or_lt_two_pow (wn_lt f n) (wn_lt g n)) fun i hi => ?_).symm
  rw [Nat.testBit_or, wn_bit, wn_bit]; simp [hi]
theorem wn_and (f g : Nat → Bool) (n : Nat) : wn f n &&& wn g n = wn (fun k => f k && g k) n := by
  refine (wn_eq (Nat.and_lt_two_pow _ (wn_lt g n)) fun i hi => ?_).symm
  rw [Nat.testBit_and, wn_bit, wn_bit]; simp [hi]
theorem wn_xor (f g : Nat → Bool) : ∀ n, wn (fun k => f k || g k) n = wn (fun k => f k ^^ g k) n + wn (fun k => f k && g k) n
  | 0 => by simp [wn]
  | n + 1 => by
    simp only [wn]
    rw [wn_xor f g n]
    cases f n <;> cases g n <;> simp <;> omega
theorem wn_cong {f g : Nat → Bool} {n : Nat} (h : ∀ k, k < n → f k = g k) : wn f n = wn g n := by
  refine (wn_eq (wn_lt f n) fun i hi => ?_).symm
  rw [wn_bit]; simp [hi, h i hi]
theorem wn_congI {f g : Nat → Bool} {n : Nat} (h : ∀ k, k < n → f k = g k) : ((wn f n : Nat) : Int) = ((wn g n : Nat) : Int) := by rw [wn_cong h]
theorem wn_eqI {b : Nat → Bool} {n X : Nat} (hX : X < 2 ^ n) (h : ∀ i, i < n → X.testBit i = b i) : ((X : Nat) : Int) = ((wn b n : Nat) : Int) := by rw [wn_eq hX h]
theorem wn_zero {f : Nat → Bool} {n : Nat} : wn f n = 0 ↔ ∀ k, k < n → f k = false := by
  constructor
  · intro h k hk
    have := wn_bit f n k
    rw [h] at this
    simp [hk] at this
    exact this
  · intro h
    rw [wn_cong (g := fun _ => false) h]
    exact wn_eq (Nat.two_pow_pos n) (fun i _ => by simp)
theorem bor_wn (f g : Nat → Bool) (n : Nat) : Builtin.bitOr ((wn f n : Nat) : Int) ((wn g n : Nat) : Int) = ((wn (fun k => f k || g k) n : Nat) : Int) := by rw [bor_nat, wn_or]
theorem band_wn (f g : Nat → Bool) (n : Nat) : Builtin.bitAnd ((wn f n : Nat) : Int) ((wn g n : Nat) : Int) = ((wn (fun k => f k && g k) n : Nat) : Int) := by rw [band_nat, wn_and]
theorem bxor_wn (f g : Nat → Bool) (n : Nat) : Builtin.bitXor ((wn f n : Nat) : Int) ((wn g n : Nat) : Int) = ((wn (fun k => f k ^^ g k) n : Nat) : Int) := by
  rw [Builtin.bitXor, bor_wn, band_wn, wn_xor]; omega
theorem full_wn : (4294967295 : Int) = ((wn (fun _ => true) 32 : Nat) : Int) := by decide +kernel
theorem word_or {u v : List Int} (hu : A01 u) (hv : A01 v) : Builtin.bitOr (wordL u) (wordL v) = ((wn (fun k => bb u k || bb v k) 32 : Nat) : Int) := by
  rw [word_bb hu, word_bb hv, bor_wn]
theorem word_and {u v : List Int} (hu : A01 u) (hv : A01 v) : Builtin.bitAnd (wordL u) (wordL v) = ((wn (fun k => bb u k && bb v k) 32 : Nat) : Int) := by
  rw [word_bb hu, word_bb hv, band_wn]
theorem word_xor {u v : List Int} (hu : A01 u) (hv : A01 v) : Builtin.bitXor (wordL u) (wordL v) = ((wn (fun k => bb u k ^^ bb v k) 32 : Nat) : Int) := by
  rw [word_bb hu, word_bb hv, bxor_wn]
theorem word_diff {u v : List Int} (hu : A01 u) (hv : A01 v) : Builtin.bitAnd (wordL u) (Builtin.bitXor (wordL v) 4294967295) = ((wn (fun k => bb u k && !bb v k) 32 : Nat) : Int) := by
  rw [word_bb hu, word_bb hv, full_wn, bxor_wn, band_wn]
  exact wn_congI fun k _ => by cases bb u k <;> cases bb v k <;> rfl
/-- a row of an operator's table: 00, 01, 10, 11 -/
theorem word_tab {u v due : List Int} {f : Bool → Bool → Bool} {tab : List Int} (hu : A01 u) (hv : A01 v)
    (ht : tab = [((f false false).toNat : Int), ((f false true).toNat : Int), ((f true false).toNat : Int), ((f true true).toNat : Int)])
    (hd : ∀ k, k < 32 → due.getD k 0 = tab.getD (2 * u.getD k 0 + v.getD k 0).toNat 0) : wordL due = ((wn (fun k => f (bb u k) (bb v k)) 32 : Nat) : Int) := by
  refine word_wn fun k hk => ?_
  rw [hd k hk, bb_get hu, bb_get hv, ht]
  cases bb u k <;> cases bb v k <;> rfl
theorem word_sub {u v : List Int} (hu : A01 u) (hv : A01 v) : Builtin.bitAnd (wordL u) (Builtin.bitXor (wordL v) 4294967295) = 0 ↔ ∀ k, k < 32 → ¬ (v.getD k 0 < u.getD k 0) := by
  rw [word_diff hu hv, Int.natCast_eq_zero, wn_zero]
  refine forall_congr' fun k => forall_congr' fun _ => ?_
  rw [bb_get hu, bb_get hv]
  cases bb u k <;> cases bb v k <;> simp
theorem word_lt (l : List Int) (h : A01 l) : 0 ≤ wordL l ∧ wordL l ≤ 4294967295 := by
  rw [word_bb h]
  have := wn_lt (bb l) 32
  have e : (2 : Nat) ^ 32 = 4294967296 := by decide
  omega
theorem word_at {u : List Int} {c : Int} (hu : A01 u) (h : 0 ≤ c ∧ c ≤ 31) : Builtin.bitAnd ((wordL u).fdiv (2 ^ c.toNat)) 1 = u.getD c.toNat 0 := by
  have hp : (0 : Int) < 2 ^ c.toNat := Int.pow_pos (by decide)
  rw [bitAnd_m1, ← Int.fmod_eq_emod_of_nonneg _ (by decide), bit_WN _ (by omega), word_bb hu, WN_ofNat _ (by omega), wn_bit, bb_get hu]
  have : c.toNat < 32 := by omega
  simp [this]
theorem mask_wn {a b : Int} (ha : 0 ≤ a ∧ a ≤ 31) (hb : 0 ≤ b ∧ b ≤ 31) : maskv a b = ((wn (fun k => decide (a ≤ k) && decide ((k : Int) ≤ b)) 32 : Nat) : Int) := by
  unfold maskv
  obtain ⟨i, rfl⟩ : ∃ m : Nat, a = m := ⟨a.toNat, by omega⟩
  obtain ⟨j, rfl⟩ : ∃ m : Nat, b = m := ⟨b.toNat, by omega⟩
  by_cases h : (j : Int) < i
  · rw [if_pos h]
    have : wn (fun k => decide ((i : Int) ≤ k) && decide ((k : Int) ≤ j)) 32 = 0 := wn_zero.2 fun k _ => by simp; omega
    rw [this]; rfl
  · rw [if_neg h]
    have e : ((j : Int) - i + 1).toNat = j - i + 1 := by omega
    rw [e, Int.toNat_natCast]
    have e2 : ((2 : Int) ^ (j - i + 1) - (1 : Int)) * (2 : Int) ^ i = (((2 ^ (j - i + 1) - 1) <<< i : Nat) : Int) := by
      have : 1 ≤ 2 ^ (j - i + 1) := Nat.one_le_two_pow
      rw [Nat.shiftLeft_eq, Int.natCast_mul, Int.natCast_sub this, Int.natCast_pow, Int.natCast_pow]; rfl
    rw [e2]
    have hlt : (2 ^ (j - i + 1) - 1) <<< i < 2 ^ 32 := by
      rw [Nat.shiftLeft_eq]
      have h1 : 2 ^ (j - i + 1) * 2 ^ i = 2 ^ (j + 1) := by rw [← Nat.pow_add]; congr 1; omega
      have h2 : 2 ^ (j + 1) ≤ 2 ^ 32 := Nat.pow_le_pow_right (by decide) (by omega)
      have h3 : 0 < 2 ^ i := Nat.two_pow_pos i
      rw [Nat.sub_mul, h1]; omega
    refine wn_eqI hlt fun k hk => ?_
    rw [Nat.testBit_shiftLeft, Nat.testBit_two_pow_sub_one]
    by_cases c1 : i ≤ k <;> by_cases c2 : k ≤ j
    · have : k - i < j - i + 1 := by omega
      simp [c1, c2, this]
    · have : ¬ (k - i < j - i + 1) := by omega
      simp [c1, c2, this]
    · simp [c1]
    · simp [c1]
end
section

local macro_rules | `(tactic| walk_at "binaryOp RShift int int") => `(tactic| (k_here; k_dflt ((refine' rshift_int ?kb1 ?_); (case kb1 => omega))))
def ordI (x y : Int) : Int := if x = y then 0 else if x < y then -1 else 1
def inv (x y : Int) : Int := if x < 0 ∨ 31 < x then 0 else Builtin.bitAnd (y.fdiv (2 ^ x.toNat)) 1
def inc (x : Int) : Str := if x < 0 ∨ 31 < x then Str.ofString "bad_element" else Str.ofString ""
abbrev RStr (news : List (Addr × Obj)) (x : Str) (h₀ : Heap) (L : Addr) (m : Str → Option Value) (s : Shared) (Q : Value → Shared → Prop) : Prop :=
  ∀ (t : Tok) (h' : Heap) (tk' : Nat), Fr h₀ L h' m → News h₀ L h' news → Q (.str x t) { s with heap := h', toks := tk' }
theorem retS {h₀ h' : Heap} {L : Addr} {m : Str → Option Value} {news news' : List (Addr × Obj)} {s : Shared} {Q : Value → Shared → Prop} {t : Tok} {tk' : Nat} {x y : Str} (hret : RStr news x h₀ L m s Q) (F : Fr h₀ L h' m) (N : News h₀ L h' news') (hn : ∀ p ∈ news, p ∈ news') (e : y = x) : Q (.str y t) { s with heap := h', toks := tk' } := by
  subst e
  exact hret t h' tk' F (cb_drop N hn)
def texts : List Str := [Str.ofString "", Str.ofString "a", Str.ofString "ab", Str.ofString "a\x00z", Str.ofString "b", Str.ofString "ÿ", Str.ofString "aB"]
def upTo (l : Str) : Str := if l = Str.ofString "a\x00z" then Str.ofString "a" else l
theorem upto_in {l : Str} (h : l ∈ texts) : l = Str.ofString "" ∨ l = Str.ofString "a" ∨ l = Str.ofString "ab" ∨ l = Str.ofString "a\x00z" ∨ l = Str.ofString "b" ∨ l = Str.ofString "ÿ" ∨ l = Str.ofString "aB" := by simpa [texts] using h
set_option maxHeartbeats 8000000 in
theorem ordI_c (w : World) (mean : ExcName → Option Value) (mg mb : Str → Option Value) (news : List (Addr × Obj)) (x y : Int) (t u v : Tok) :
    Claim w mean mg mb 1 8 70 [.str (Str.ofString "number") t, .int x u, .int y v] news (True) (RInt news (ordI x y)) := by
  unfold Claim
  intro _ _ _ _ _ _ _ _ _ _ _ _ _ _ _ _ _ _ _ _ _ _ _ _ _ hp hret
  refine wpAny_call ?_
  k_dflt cell_enter
  k_steps
  all_goals (refine retI hret (by assumption) (by assumption) (by walk_at "mine sub") ?_)
  all_goals (unfold ordI; first | rw [if_pos (by assumption)] | rw [if_neg (by assumption), if_pos (by assumption)] | rw [if_neg (by assumption), if_neg (by assumption)])
set_option hygiene false
local macro_rules | `(tactic| walk_at "call ref") => `(tactic| (k_here; k_dflt ((refine' use (ordI_c _ _ _ _ _ _ _ _ _ _) ?k1 ?k2 ?k3 ?k4 ?k5 ?kK ?kd ?ku ?kp ?_); (walk_at "mine old"); (intro t9 h9 tk9 F9 N9; (try dsimp only); (try k_fold); (try k_sweep)))))
set_option hygiene true
set_option maxHeartbeats 8000000 in
theorem upto_c (w : World) (mean : ExcName → Option Value) (mg mb : Str → Option Value) (news : List (Addr × Obj)) (l : Str) (t : Tok) :
    Claim w mean mg mb 1 8 63 [.str l t] news (l ∈ texts) (RStr news (upTo l)) := by
  unfold Claim
  intro _ _ _ _ _ _ _ _ _ _ _ _ _ _ _ _ _ _ _ _ _ _ _ _ _ hp hret
  rcases upto_in hp with hp | hp | hp | hp | hp | hp | hp <;> subst hp
  all_goals refine wpAny_call ?_
  all_goals k_dflt cell_enter
  k_steps
  all_goals (refine retS hret (by assumption) (by assumption) (by walk_at "mine sub") ?_)
  all_goals decide +kernel
set_option hygiene false
local macro_rules | `(tactic| walk_at "call ref") => `(tactic| (k_here; k_dflt ((refine' use (upto_c _ _ _ _ _ _ _) ?k1 ?k2 ?k3 ?k4 ?k5 ?kK ?kd ?ku ?kp ?_); (walk_at "mine old"); (intro t9 h9 tk9 F9 N9; (try dsimp only); (try k_fold); (try k_sweep)))))
set_option hygiene true

def ordS (x y : Str) : Int := if (upTo x == upTo y) = true then 0 else if (upTo x).cps.toList < (upTo y).cps.toList then -1 else 1
set_option maxHeartbeats 8000000 in
theorem ordS_c (w : World) (mean : ExcName → Option Value) (mg mb : Str → Option Value) (news : List (Addr × Obj)) (x y : Str) (t u v : Tok) :
    Claim w mean mg mb 2 16 70 [.str (Str.ofString "text") t, .str x u, .str y v] news (x ∈ texts ∧ y ∈ texts) (RInt news (ordS x y)) := by
  unfold Claim
  intro _ _ _ _ _ _ _ _ _ _ _ _ _ _ _ _ _ _ _ _ _ _ _ _ _ hp hret
  have hp1 := hp.1; have hp2 := hp.2
  refine wpAny_call ?_
  k_dflt cell_enter
  k_steps
  all_goals (refine retI hret (by assumption) (by assumption) (by walk_at "mine sub") ?_)
  all_goals (unfold ordS; first | rw [if_pos (by assumption)] | rw [if_neg (by simp [*]), if_pos (by assumption)] | rw [if_neg (by simp [*]), if_neg (by assumption)])
set_option hygiene false
local macro_rules | `(tactic| walk_at "call ref") => `(tactic| (k_here; k_dflt ((refine' use (ordS_c _ _ _ _ _ _ _ _ _ _) ?k1 ?k2 ?k3 ?k4 ?k5 ?kK ?kd ?ku ?kp ?_); (walk_at "mine old"); (intro t9 h9 tk9 F9 N9; (try dsimp only); (try k_fold); (try k_sweep)))))
set_option hygiene true
set_option maxHeartbeats 8000000 in
theorem rsub_c (w : World) (mean : ExcName → Option Value) (mg mb : Str → Option Value) (news : List (Addr × Obj)) (x y : Int) (t u v z : Tok) :
    Claim w mean mg mb 2 16 77 [.str (Str.ofString "s<=") t, .str (Str.ofString "number") z, .int x u, .int y v] news (True) (RTup news (if Builtin.bitAnd x (Builtin.bitXor y 4294967295) = 0 then 1 else 0) (Str.ofString "")) := by
  unfold Claim
  intro _ _ _ _ _ _ _ _ _ _ _ _ _ _ _ _ _ _ _ _ _ _ _ _ _ hp hret
  refine wpAny_call ?_
  k_dflt cell_enter
  k_steps
  all_goals (refine retT hret (by assumption) (by assumption) (by walk_at "mine mem") (by walk_at "mine sub") (by walk_at "mine off") ?_ ?_)
  all_goals first | rfl | rw [if_pos (by assumption)] | rw [if_neg (by assumption)]
set_option hygiene false
local macro_rules | `(tactic| walk_at "call ref") => `(tactic| (k_here; k_dflt ((refine' use (rsub_c _ _ _ _ _ _ _ _ _ _ _) ?k1 ?k2 ?k3 ?k4 ?k5 ?kK ?kd ?ku ?kp ?_); (walk_at "mine old"); (intro D9 t9 u9 n9 h9 tk9 F9 N9 l9; (try dsimp only); (try simp only [LCg.Off1, and_true] at l9); (try k_fold); (try k_sweep)))))
set_option hygiene true
set_option maxHeartbeats 8000000 in
theorem rsup_c (w : World) (mean : ExcName → Option Value) (mg mb : Str → Option Value) (news : List (Addr × Obj)) (x y : Int) (t u v z : Tok) :
    Claim w mean mg mb 2 16 77 [.str (Str.ofString "s>=") t, .str (Str.ofString "number") z, .int x u, .int y v] news (True) (RTup news (if Builtin.bitAnd y (Builtin.bitXor x 4294967295) = 0 then 1 else 0) (Str.ofString "")) := by
  unfold Claim
  intro _ _ _ _ _ _ _ _ _ _ _ _ _ _ _ _ _ _ _ _ _ _ _ _ _ hp hret
  refine wpAny_call ?_
  k_dflt cell_enter
  k_steps
  all_goals (refine retT hret (by assumption) (by assumption) (by walk_at "mine mem") (by walk_at "mine sub") (by walk_at "mine off") ?_ ?_)
  all_goals first | rfl | rw [if_pos (by assumption)] | rw [if_neg (by assumption)]
set_option hygiene false
local macro_rules | `(tactic| walk_at "call ref") => `(tactic| (k_here; k_dflt ((refine' use (rsup_c _ _ _ _ _ _ _ _ _ _ _) ?k1 ?k2 ?k3 ?k4 ?k5 ?kK ?kd ?ku ?kp ?_); (walk_at "mine old"); (intro D9 t9 u9 n9 h9 tk9 F9 N9 l9; (try dsimp only); (try simp only [LCg.Off1, and_true] at l9); (try k_fold); (try k_sweep)))))
set_option hygiene true
set_option maxHeartbeats 8000000 in
theorem rin_c (w : World) (mean : ExcName → Option Value) (mg mb : Str → Option Value) (news : List (Addr × Obj)) (x y : Int) (t u v z : Tok) :
    Claim w mean mg mb 2 16 77 [.str (Str.ofString "IN") t, .str (Str.ofString "number") z, .int x u, .int y v] news (True) (RTup news (inv x y) (inc x)) := by
  unfold Claim
  intro _ _ _ _ _ _ _ _ _ _ _ _ _ _ _ _ _ _ _ _ _ _ _ _ _ hp hret
  refine wpAny_call ?_
  k_dflt cell_enter
  k_steps
  all_goals (refine retT hret (by assumption) (by assumption) (by walk_at "mine mem") (by walk_at "mine sub") (by walk_at "mine off") ?_ ?_)
  all_goals first | (unfold inv; first | rw [if_pos (by omega)] | rw [if_neg (by omega)]) | (unfold inc; first | rw [if_pos (by omega)] | rw [if_neg (by omega)])
set_option hygiene false
local macro_rules | `(tactic| walk_at "call ref") => `(tactic| (k_here; k_dflt ((refine' use (rin_c _ _ _ _ _ _ _ _ _ _ _) ?k1 ?k2 ?k3 ?k4 ?k5 ?kK ?kd ?ku ?kp ?_); (walk_at "mine old"); (intro D9 t9 u9 n9 h9 tk9 F9 N9 l9; (try dsimp only); (try simp only [LCg.Off1, and_true] at l9); (try k_fold); (try k_sweep)))))
set_option hygiene true

def rlOps : List Str := [Str.ofString "=", Str.ofString "#", Str.ofString "<", Str.ofString "<=", Str.ofString ">", Str.ofString ">="]
def relB (op : Str) (g : Int) : Bool := if op = Str.ofString "=" then g == 0 else if op = Str.ofString "#" then g != 0 else if op = Str.ofString "<" then decide (g < 0) else if op = Str.ofString "<=" then decide (g ≤ 0) else if op = Str.ofString ">" then decide (0 < g) else decide (0 ≤ g)
def relv (op : Str) (g : Int) : Int := if relB op g = true then 1 else 0
theorem in6 {a b c d e f op : Str} (h : op ∈ [a, b, c, d, e, f]) : op = a ∨ op = b ∨ op = c ∨ op = d ∨ op = e ∨ op = f := by simpa using h
theorem held_at {op : Str} {g : Int} (h : op ∈ rlOps) : valueAt ([(Str.ofString "=", .bool (g == 0)), (Str.ofString "#", .bool (g != 0)), (Str.ofString "<", .bool (decide (g < 0))), (Str.ofString "<=", .bool (decide (g ≤ 0))), (Str.ofString ">", .bool (decide (0 < g))), (Str.ofString ">=", .bool (decide (0 ≤ g)))] : List (Str × Value)) op = some (.bool (relB op g)) := by
  rcases in6 h with rfl | rfl | rfl | rfl | rfl | rfl <;> rfl
theorem relv_1 {op : Str} {g : Int} (h : relB op g = true) : 1 = relv op g := (if_pos h).symm
theorem relv_0 {op : Str} {g : Int} (h : relB op g = false) : 0 = relv op g := (if_neg (by rw [h]; decide)).symm
theorem str_no {prog : Program} {w : World} {A : Around} {E : Value → Shared → Prop} {s : Shared} {op c : Str} {t u : Tok} {Q : Value → Shared → Prop} (h : op ∈ rlOps) (hc : c ∉ rlOps) (hQ : Q (.bool false) s) : wpAny (model prog w) A (compareOp .Eq (.str op t) (.str c u)) Q E s := by
  refine eq_str ?_
  have e : (op == c) = false := by
    rw [beq_eq_false_iff_ne]; rintro rfl; exact hc h
  rw [e]; exact hQ
local macro_rules | `(tactic| walk_at "compareOp Eq str str") => `(tactic| (k_here; k_dflt ((refine' str_no ?ka ?kb ?_); (case ka => assumption); (case kb => decide +kernel))))
local macro_rules | `(tactic| walk_at "subscriptTail Name Name ref str") => `(tactic| (k_here; (with_reducible show wpAny _ _ (subscriptTail _ _ (Value.ref _) (Value.str _ _)) _ _ _); k_dflt (refine kdt_tail (knd := PySem.strKind _ _) (by k_asm) (by k_mem) (by assumption) (kdt_getItem (knd := PySem.strKind _ _) (by k_asm) (by k_mem) (by assumption) (strKind_is _ _ _ _) (held_at (by assumption)) ?_))))
set_option hygiene false
local macro_rules | `(tactic| walk_at "call ref") => `(tactic| (k_here; k_dflt ((first | (refine' use (ordI_c _ _ _ _ _ _ _ _ _ _) ?k1 ?k2 ?k3 ?k4 ?k5 ?kK ?kd ?ku ?kp ?_; (walk_at "mine kp")) | (refine' use (ordS_c _ _ _ _ _ _ _ _ _ _) ?k1 ?k2 ?k3 ?k4 ?k5 ?kK ?kd ?ku ?kp ?_; (case k4 => k_asm); (case kp => exact ⟨by assumption, by assumption⟩))); (walk_at "mine tl"); (walk_at "mine in"))))
set_option hygiene true
set_option maxHeartbeats 8000000 in
theorem rn_c (w : World) (mean : ExcName → Option Value) (mg mb : Str → Option Value) (news : List (Addr × Obj)) (op : Str) (x y : Int) (t u v z : Tok) :
    Claim w mean mg mb 3 32 77 [.str op t, .str (Str.ofString "number") z, .int x u, .int y v] news (op ∈ rlOps) (RTup news (relv op (ordI x y)) (Str.ofString "")) := by
  unfold Claim
  intro _ _ _ _ _ _ _ _ _ _ _ _ _ _ _ _ _ _ _ _ _ _ _ _ _ hp hret
  refine wpAny_call ?_
  k_dflt cell_enter
  k_steps
  all_goals (refine retT hret (by assumption) (by assumption) (by walk_at "mine mem") (by walk_at "mine sub") (by walk_at "mine off") ?_ ?_)
  all_goals first | rfl | exact relv_1 (by assumption) | exact relv_0 (by assumption)
set_option maxHeartbeats 8000000 in
theorem rt_c (w : World) (mean : ExcName → Option Value) (mg mb : Str → Option Value) (news : List (Addr × Obj)) (op : Str) (x y : Str) (t u v z : Tok) :
    Claim w mean mg mb 3 32 77 [.str op t, .str (Str.ofString "text") z, .str x u, .str y v] news (op ∈ rlOps ∧ x ∈ texts ∧ y ∈ texts) (RTup news (relv op (ordS x y)) (Str.ofString "")) := by
  unfold Claim
  intro _ _ _ _ _ _ _ _ _ _ _ _ _ _ _ _ _ _ _ _ _ _ _ _ _ hp hret
  obtain ⟨hop, hp1, hp2⟩ := hp
  refine wpAny_call ?_
  k_dflt cell_enter
  k_steps
  all_goals (refine retT hret (by assumption) (by assumption) (by walk_at "mine mem") (by walk_at "mine sub") (by walk_at "mine off") ?_ ?_)
  all_goals first | rfl | exact relv_1 (by assumption) | exact relv_0 (by assumption)
theorem nn_1 {b : Bool} (h : (true == b) = true) : (1 : Int) = bif b then 1 else 0 := by cases b; exact absurd h (by decide); rfl
theorem nn_0 {b : Bool} (h : (true == b) = false) : (0 : Int) = bif b then 1 else 0 := by cases b; rfl; exact absurd h (by decide)
theorem xn_1 {b : Bool} (h : (false == b) = true) : (1 : Int) = bif b then 0 else 1 := by cases b; rfl; exact absurd h (by decide)
theorem xn_0 {b : Bool} (h : (false == b) = false) : (0 : Int) = bif b then 0 else 1 := by cases b; exact absurd h (by decide); rfl
set_option maxHeartbeats 8000000 in
theorem rnn_c (w : World) (mean : ExcName → Option Value) (mg mb : Str → Option Value) (news : List (Addr × Obj)) (op : Str) (t z : Tok) :
    Claim w mean mg mb 3 32 77 [.str op t, .str (Str.ofString "number") z, .none, .none] news (op ∈ rlOps) (RTup news (bif op == Str.ofString "=" then 1 else 0) (Str.ofString "")) := by
  unfold Claim
  intro _ _ _ _ _ _ _ _ _ _ _ _ _ _ _ _ _ _ _ _ _ _ _ _ _ hp hret
  refine wpAny_call ?_
  k_dflt cell_enter
  k_steps
  all_goals (refine retT hret (by assumption) (by assumption) (by walk_at "mine mem") (by walk_at "mine sub") (by walk_at "mine off") ?_ ?_)
  all_goals first | exact nn_1 (by assumption) | exact nn_0 (by assumption) | exact xn_1 (by assumption) | exact xn_0 (by assumption) | rfl
set_option maxHeartbeats 8000000 in
theorem rxn_c (w : World) (mean : ExcName → Option Value) (mg mb : Str → Option Value) (news : List (Addr × Obj)) (op : Str) (x : Int) (t u z : Tok) :
    Claim w mean mg mb 3 32 77 [.str op t, .str (Str.ofString "number") z, .int x u, .none] news (op ∈ rlOps) (RTup news (bif op == Str.ofString "=" then 0 else 1) (Str.ofString "")) := by
  unfold Claim
  intro _ _ _ _ _ _ _ _ _ _ _ _ _ _ _ _ _ _ _ _ _ _ _ _ _ hp hret
  refine wpAny_call ?_
  k_dflt cell_enter
  k_steps
  all_goals (refine retT hret (by assumption) (by assumption) (by walk_at "mine mem") (by walk_at "mine sub") (by walk_at "mine off") ?_ ?_)
  all_goals first | exact nn_1 (by assumption) | exact nn_0 (by assumption) | exact xn_1 (by assumption) | exact xn_0 (by assumption) | rfl
end
section
local macro_rules | `(tactic| walk_at "mine enterC") => `(tactic| k_dflt (refine' code_defC ?k1 ?k2 ?k3 ?k4 ?k5 ?kA ?kF ?kK ?k6 ?k7 ?k8 ?k9 ?kB ?kD ?_ ?c2 ?c3 ?c4; (case kA => exact rfl); (case kF => exact rfl); (case kK => assumption); (case k1 => k_asm); (case k2 => k_asm); (case k3 => k_asm); (case k4 => k_asm); (case k5 => k_asm); (case k6 => k_is); (case k7 => k_is); (case k8 => ktr_room); (case k9 => exact BindsTo.of_eq rfl); (case kB => exact rfl); (case kD => decide +kernel); (case c2 => exact rfl); (case c3 => exact rfl); (case c4 => exact rfl); k_whole; intro g' L' h' tk' cells' FG' F' N' Y' B' X' T' l1; (try k_lt l1); k_cells Y'; (try simp only [List.cons_append, List.nil_append] at N'); (try dsimp only); (try k_lift B'); (try k_fold)))

abbrev RTruth (w : World) (news : List (Addr × Obj)) (g : Int) (h₀ : Heap) (L : Addr) (m : Str → Option Value) (s : Shared) (Q : Value → Shared → Prop) : Prop :=
  ∀ (d : Addr) (o : Obj) (h' : Heap) (tk' : Nat), Fr h₀ L h' m → News h₀ L h' ((d, o) :: news) → LCg.Off1 d news → (d == sysModules) = false →
    o.IsDictOf (PySem.strKind PySem.Challenge.rw_nu0312_01.row.toRowW.prog w) [(Str.ofString "=", .bool (g == 0)), (Str.ofString "#", .bool (g != 0)), (Str.ofString "<", .bool (decide (g < 0))), (Str.ofString "<=", .bool (decide (g < 1))), (Str.ofString ">", .bool (decide (0 < g))), (Str.ofString ">=", .bool (decide (-1 < g)))] → PyProof.V.FlatPairs PyData.str [(Str.ofString "=", .bool (g == 0)), (Str.ofString "#", .bool (g != 0)), (Str.ofString "<", .bool (decide (g < 0))), (Str.ofString "<=", .bool (decide (g < 1))), (Str.ofString ">", .bool (decide (0 < g))), (Str.ofString ">=", .bool (decide (-1 < g)))] [(.str (Str.ofString "="), .bool (g == 0)), (.str (Str.ofString "#"), .bool (g != 0)), (.str (Str.ofString "<"), .bool (decide (g < 0))), (.str (Str.ofString "<="), .bool (decide (g < 1))), (.str (Str.ofString ">"), .bool (decide (0 < g))), (.str (Str.ofString ">="), .bool (decide (-1 < g)))] → Q (.ref d) { s with heap := h', toks := tk' }
theorem retD {w : World} {h₀ h' : Heap} {L d : Addr} {m : Str → Option Value} {news news' : List (Addr × Obj)} {s : Shared} {Q : Value → Shared → Prop} {tk' : Nat} {o : Obj} {g : Int} (hret : RTruth w news g h₀ L m s Q) (F : Fr h₀ L h' m) (N : News h₀ L h' news') (hm : (d, o) ∈ news') (hn : ∀ p ∈ news, p ∈ news') (hl : LCg.Off1 d news) (lo : (d == sysModules) = false)
    (hd : o.IsDictOf (PySem.strKind PySem.Challenge.rw_nu0312_01.row.toRowW.prog w) [(Str.ofString "=", .bool (g == 0)), (Str.ofString "#", .bool (g != 0)), (Str.ofString "<", .bool (decide (g < 0))), (Str.ofString "<=", .bool (decide (g < 1))), (Str.ofString ">", .bool (decide (0 < g))), (Str.ofString ">=", .bool (decide (-1 < g)))]) (hf : PyProof.V.FlatPairs PyData.str [(Str.ofString "=", .bool (g == 0)), (Str.ofString "#", .bool (g != 0)), (Str.ofString "<", .bool (decide (g < 0))), (Str.ofString "<=", .bool (decide (g < 1))), (Str.ofString ">", .bool (decide (0 < g))), (Str.ofString ">=", .bool (decide (-1 < g)))] [(.str (Str.ofString "="), .bool (g == 0)), (.str (Str.ofString "#"), .bool (g != 0)), (.str (Str.ofString "<"), .bool (decide (g < 0))), (.str (Str.ofString "<="), .bool (decide (g < 1))), (.str (Str.ofString ">"), .bool (decide (0 < g))), (.str (Str.ofString ">="), .bool (decide (-1 < g)))]) : Q (.ref d) { s with heap := h', toks := tk' } := by
  refine hret d o h' tk' F (fun p hp => ?_) hl lo hd hf
  rcases List.mem_cons.mp hp with rfl | hp
  · exact N _ hm
  · exact N p (hn p hp)
set_option maxHeartbeats 8000000 in
theorem truths_c (w : World) (mean : ExcName → Option Value) (mg mb : Str → Option Value) (news : List (Addr × Obj)) (g : Int) (t : Tok) :
    Claim w mean mg mb 1 8 164 [.int g t] news (True) (RTruth w news g) := by
  unfold Claim
  intro _ _ _ _ _ _ _ _ _ _ _ _ _ _ _ _ _ _ _ _ _ _ _ _ _ hp hret
  refine wpAny_call ?_
  k_dflt cell_enter
  k_steps
  all_goals (refine retD hret (by assumption) (by assumption) (by walk_at "mine mem") (by walk_at "mine sub") (by first | assumption | exact off_all (by assumption)) (by assumption) (by assumption) (by assumption))
set_option hygiene false
local macro_rules | `(tactic| walk_at "call ref") => `(tactic| (k_here; k_dflt ((refine' use (truths_c _ _ _ _ _ _ _) ?k1 ?k2 ?k3 ?k4 ?k5 ?kK ?kd ?ku ?kp ?_); (walk_at "mine old"); (intro D9 o9 h9 tk9 F9 N9 l9 lo9 hd9 hf9; (try dsimp only); (try simp only [LCg.Off1, and_true] at l9); (try k_fold); (try k_sweep)))))
set_option hygiene true
end
section
local macro_rules | `(tactic| walk_at "mine apart") => `(tactic| skip)
local macro_rules | `(tactic| walk_at "mine enterC") => `(tactic| k_dflt (refine' code_defC ?k1 ?k2 ?k3 ?k4 ?k5 ?kA ?kF ?kK ?k6 ?k7 ?k8 ?k9 ?kB ?kD ?_ ?c2 ?c3 ?c4; (case kA => exact rfl); (case kF => exact rfl); (case kK => assumption); (case k1 => k_asm); (case k2 => k_asm); (case k3 => k_asm); (case k4 => k_asm); (case k5 => k_asm); (case k6 => k_is); (case k7 => k_is); (case k8 => ktr_room); (case k9 => exact BindsTo.of_eq rfl); (case kB => exact rfl); (case kD => decide +kernel); (case c2 => exact rfl); (case c3 => exact rfl); (case c4 => exact rfl); k_whole; intro g' L' h' tk' cells' FG' F' N' Y' B' X' T' l1; (try k_lt l1); k_cells Y'; (try simp only [List.cons_append, List.nil_append] at N'); (try dsimp only); (try k_lift B'); (try k_fold)))

def chAt (x : Str) (j : Int) : Int := if j < (x.length : Int) then (((Txt.item x j).cps.getD 0 0 : Nat) : Int) else 0
theorem chAt_in {x : Str} {j : Int} (h : j < (x.length : Int)) : chAt x j = (((Txt.item x j).cps.getD 0 0 : Nat) : Int) := if_pos h
theorem chAt_out {x : Str} {j : Int} (h : ¬ j < (x.length : Int)) : chAt x j = 0 := if_neg h
def EqUp (x y : Str) (n : Nat) : Prop := ∀ j : Nat, j < n → chAt x j = chAt y j ∧ chAt x j ≠ 0
theorem equp_nil (x y : Str) : EqUp x y ([] : List Int).length := fun _ h => nomatch h
theorem equp_step {x y : Str} {pre : List Int} {k : Int} (h : EqUp x y pre.length) (hk : k = 0 + (pre.length : Int)) (h1 : chAt x k = chAt y k) (h2 : chAt x k ≠ 0) : EqUp x y (pre ++ [k]).length := by
  intro j hj
  rw [List.length_append, List.length_singleton] at hj
  by_cases h3 : j < pre.length
  · exact h j h3
  · have : (j : Int) = k := by omega
    rw [this]; exact ⟨h1, h2⟩
def lordA (x y : Str) : Nat → Nat → Int
  | 0, _ => 0
  | f + 1, k => if chAt x k ≠ chAt y k then (if chAt x k < chAt y k then -1 else 1) else if chAt x k = 0 then 0 else lordA x y f (k + 1)
def lord (x y : Str) : Int := lordA x y 4 0
theorem lord_skip (x y : Str) : ∀ (k f : Nat), EqUp x y k → lordA x y (k + f) 0 = lordA x y f k := by
  have gen : ∀ (k f i : Nat), (∀ j : Nat, i ≤ j → j < i + k → chAt x j = chAt y j ∧ chAt x j ≠ 0) → lordA x y (k + f) i = lordA x y f (i + k) := by
    intro k
    induction k with
    | zero => intro f i _; simp
    | succ k ih =>
      intro f i h
      have h0 := h i (Nat.le_refl _) (by omega)
      rw [show k + 1 + f = (k + f) + 1 by omega]
      rw [lordA, if_neg (by simp [h0.1]), if_neg h0.2, ih f (i + 1) (fun j h1 h2 => h j (by omega) (by omega))]
      congr 1; omega
  intro k f h
  rw [gen k f 0 (fun j _ h2 => h j (by omega)), Nat.zero_add]
theorem lord_at {x y : Str} {pre : List Int} {k : Int} (h : EqUp x y pre.length) (hk : k = 0 + (pre.length : Int)) (hl : pre.length < 4) :
    lord x y = if chAt x k ≠ chAt y k then (if chAt x k < chAt y k then -1 else 1) else if chAt x k = 0 then 0 else lordA x y (3 - pre.length) (pre.length + 1) := by
  have e := lord_skip x y pre.length (4 - pre.length) h
  rw [show pre.length + (4 - pre.length) = 4 by omega] at e
  unfold lord
  rw [e, show 4 - pre.length = (3 - pre.length) + 1 by omega, lordA]
  have : (pre.length : Int) = k := by omega
  rw [this]
theorem lt_four {p a b : Nat} (h : p < ((if (b : Int) > (a : Int) then (b : Int) else (a : Int)) + 1 - 0).toNat) (ha : a ≤ 3) (hb : b ≤ 3) : p < 4 := by
  split at h <;> omega
theorem equp_end {x y : Str} {a b : Nat} (h : EqUp x y (rangeKs 0 ((if (b : Int) > (a : Int) then (b : Int) else (a : Int)) + 1 - 0).toNat).length) (ha : x.length = a) : False := by
  rw [rangeKs_length] at h
  have h1 := h x.length (by split <;> omega)
  rw [chAt_out (x := x) (by omega)] at h1
  exact h1.2 rfl
set_option maxHeartbeats 8000000 in
theorem lord_c (w : World) (mean : ExcName → Option Value) (mg mb : Str → Option Value) (news : List (Addr × Obj)) (x y : Str) (t u : Tok) :
    Claim w mean mg mb 1 8 157 [.str x t, .str y u] news (x.length ≤ 3 ∧ y.length ≤ 3) (RInt news (lord x y)) := by
  unfold Claim
  intro _ _ _ _ _ _ _ _ _ _ _ _ _ _ _ _ _ _ _ _ _ _ _ _ _ hp hret
  refine wpAny_call ?_
  have hp1 := hp.1; have hp2 := hp.2
  k_dflt cell_enter
  (k_with "state" => (first | exact equp_nil _ _ | (refine equp_step (by assumption) (by assumption) ?_ ?_ <;> (simp only [chAt]; (try rw [if_pos (by assumption)]); (try rw [if_pos (by assumption)]); (try rw [if_neg (by assumption)]); (try rw [if_neg (by assumption)]); first | assumption | omega))))
  (k_with "pyIter ref" => k_search (fun pre => EqUp x y pre.length))
  k_steps
  all_goals (refine retI hret (by assumption) (by assumption) (by walk_at "mine sub") ?_)
  all_goals first
    | exact (equp_end (by assumption) rfl).elim
    | (rw [lord_at (by assumption) (by assumption) (lt_four (by assumption) hp1 hp2)]; (first | rw [chAt_in (x := x) (by assumption)] | rw [chAt_out (x := x) (by assumption)]); (first | rw [chAt_in (x := y) (by assumption)] | rw [chAt_out (x := y) (by assumption)]); (repeat' split) <;> omega)
set_option hygiene false
local macro_rules | `(tactic| walk_at "call ref") => `(tactic| (k_here; k_dflt ((refine' use (lord_c _ _ _ _ _ _ _ _ _) ?k1 ?k2 ?k3 ?k4 ?k5 ?kK ?kd ?ku ?kp ?_); (walk_at "mine old"); (intro t9 h9 tk9 F9 N9; (try dsimp only); (try k_fold); (try k_sweep)))))
set_option hygiene true
end
section
local macro_rules | `(tactic| walk_at "mine enterC") => `(tactic| k_dflt (refine' code_defC ?k1 ?k2 ?k3 ?k4 ?k5 ?kA ?kF ?kK ?k6 ?k7 ?k8 ?k9 ?kB ?kD ?_ ?c2 ?c3 ?c4; (case kA => exact rfl); (case kF => exact rfl); (case kK => assumption); (case k1 => k_asm); (case k2 => k_asm); (case k3 => k_asm); (case k4 => k_asm); (case k5 => k_asm); (case k6 => k_is); (case k7 => k_is); (case k8 => ktr_room); (case k9 => exact BindsTo.of_eq rfl); (case kB => exact rfl); (case kD => decide +kernel); (case c2 => exact rfl); (case c3 => exact rfl); (case c4 => exact rfl); k_whole; intro g' L' h' tk' cells' FG' F' N' Y' B' X' T' l1; (try k_lt l1); k_cells Y'; (try simp only [List.cons_append, List.nil_append] at N'); (try dsimp only); (try k_lift B'); (try k_fold)))
local macro_rules | `(tactic| walk_at "binaryOp Pow int int") => `(tactic| (k_here; k_dflt ((refine' pow_int_small ?kb1 ?kb2 ?kb3 ?_); (case kb1 => decide); (case kb2 => decide); (case kb3 => decide))))

local macro_rules | `(tactic| k_mem) => `(tactic| assumption)
theorem upd_mem {d : Addr} {o o' : Obj} {l l' : List (Addr × Obj)} (h : Upd d o o' l l') : (d, o') ∈ l' := by
  obtain ⟨pre, post, _, rfl, _, _⟩ := h.split
  exact List.mem_append_right _ (.head _)
local macro_rules | `(tactic| is_list) => `(tactic| (rename (∀ _, Upd _ _ _ _ _) => hU9; exact News.isList (by k_asm) (upd_mem (hU9 _))))
local macro_rules | `(tactic| is_list) => `(tactic| exact News.isList (by k_asm) (by assumption))
theorem same_news {h₀ h : Heap} {L d : Addr} {o : Obj} {l l' : List (Addr × Obj)} (U : Upd d o o l l') (N : News h₀ L h l) : News h₀ L h l' := by
  obtain ⟨pre, post, rfl, rfl, _, _⟩ := U.split
  exact N
theorem retP {h₀ h' : Heap} {L : Addr} {m : Str → Option Value} {s : Shared} {Q : Value → Shared → Prop} {t t1 t2 : Tok} {tk' n : Nat} {fl : Addr} {b r i x : Int} {news' : Obj → List (Addr × Obj)}
    (hret : ∀ (r : Int) (t : Tok) (idx mix : Int) (t1 t2 : Tok) (h' : Heap) (tk' : Nat), 0 ≤ r → r < b → 0 ≤ idx → 0 ≤ mix → mix < 1009 → Fr h₀ L h' m → News h₀ L h' (news' (PySem.W.listOf #[.ref fl, .int idx t1, .int mix t2] n)) → Q (.int r t) { s with heap := h', toks := tk' })
    (F : Fr h₀ L h' m) (N : News h₀ L h' (news' (PySem.W.listOf #[.ref fl, .int i t1, .int x t2] n))) (hr : 0 ≤ r ∧ r < b) (hi : 0 ≤ i) (hx : 0 ≤ x ∧ x < 1009) : Q (.int r t) { s with heap := h', toks := tk' } :=
  hret r t i x t1 t2 h' tk' hr.1 hr.2 hi hx.1 hx.2 F N
theorem fmod_in {a b : Int} (hb : 0 < b) : 0 ≤ a.fmod b ∧ a.fmod b < b := by
  rw [Int.fmod_eq_emod_of_nonneg _ (Int.le_of_lt hb)]
  exact ⟨Int.emod_nonneg _ (by omega), Int.emod_lt_of_pos _ hb⟩
theorem getItem_lit {prog : Program} {w : World} {A : Around} {E : Value → Shared → Prop} {s : Shared} {l : Addr} {vs : List Value} {k : Int} {u : Tok} {v : Value} {Q : Value → Shared → Prop}
    (hl : s.heap.IsList l vs.toArray) (h0 : 0 ≤ k) (hhi : k < 2 ^ 63) (hx : vs[k.toNat]? = some v) (h : Q v s) : wpAny (model prog w) A (getItem (.ref l) (.int k u)) Q E s :=
  wpAny_getItem_list hl h0 hhi (by simpa using hx) h
local macro_rules | `(tactic| walk_at "getItem ref int") => `(tactic| (k_here; (with_unfolding_all refine' getItem_lit ?k1 ?k2 ?k3 ?k4 ?_; (case k1 => is_list); (case k2 => decide); (case k3 => decide); (case k4 => rfl); k_whole)))
local macro_rules | `(tactic| k_upd) => `(tactic| (rename (∀ _, Upd _ _ _ _ _) => hU9; exact hU9 _))
abbrev poolO (fl : Addr) (idx : Int) (t1 : Tok) (mix : Int) (t2 : Tok) (n : Nat) : Obj := PySem.W.listOf #[.ref fl, .int idx t1, .int mix t2] n
abbrev RPick (fl : Addr) (n : Nat) (b : Int) (news' : Obj → List (Addr × Obj)) (h₀ : Heap) (L : Addr) (m : Str → Option Value) (s : Shared) (Q : Value → Shared → Prop) : Prop :=
  ∀ (r : Int) (t : Tok) (idx mix : Int) (t1 t2 : Tok) (h' : Heap) (tk' : Nat), 0 ≤ r → r < b → 0 ≤ idx → 0 ≤ mix → mix < 1009 → Fr h₀ L h' m → News h₀ L h' (news' (poolO fl idx t1 mix t2 n)) → Q (.int r t) { s with heap := h', toks := tk' }
set_option maxHeartbeats 8000000 in
theorem pick_c (w : World) (mean : ExcName → Option Value) (mg mb : Str → Option Value) (news : List (Addr × Obj)) (pl fl : Addr) (idx mix : Int) (t1 t2 : Tok) (n k : Nat) (vs : List Value) (ns : List Int) (b : Int) (u : Tok) (news' : Obj → List (Addr × Obj)) :
    Claim w mean mg mb 1 8 112 [.ref pl, .int b u] news ((∀ o', Upd pl (poolO fl idx t1 mix t2 n) o' news (news' o')) ∧ (pl, poolO fl idx t1 mix t2 n) ∈ news ∧ (fl, PySem.W.listOf vs.toArray k) ∈ news ∧ IntsAre vs ns ∧ ns.length < 1000 ∧ 0 < b ∧ 0 ≤ idx ∧ 0 ≤ mix ∧ mix < 1009) (RPick fl n b news') := by
  unfold Claim
  intro _ _ _ _ _ _ _ _ _ _ _ _ _ _ _ _ _ _ _ _ _ _ _ _ _ hp hret
  refine wpAny_call ?_
  obtain ⟨hU, hm1, hm2, hI, hl, hb, hi0, hx0, hx1⟩ := hp
  k_dflt cell_enter
  k_steps
  all_goals first
    | refine retP hret (by assumption) (by assumption) ?_ ?_ ?_
    | refine retP hret (by assumption) (same_news (hU _) (by assumption)) ?_ ?_ ?_
  all_goals first | exact fmod_in hb | exact fmod_in (by decide) | omega
set_option hygiene false
local macro_rules | `(tactic| walk_at "call ref") => `(tactic| (k_here; k_dflt ((refine' use (pick_c _ _ _ _ _ _ _ _ _ _ _ _ _ _ _ _ _ _) ?k1 ?k2 ?k3 ?k4 ?k5 ?kK ?kd ?ku ?kp ?_); (case k1 => k_asm); (case k2 => k_asm); (case k3 => k_asm); (case k4 => k_asm); (case k5 => k_asm); (case kK => first | exact rfl | assumption); (case kd => ktr_room); (case ku => ktr_units); (case kp => (refine ⟨?kpu, ?kpm, ?kpn, ?kpi, ?kpl, ?kpb, ?kpx, ?kpy, ?kpz⟩; (case kpm => k_mem); (case kpn => k_mem); (case kpi => l_ints); (case kpl => walk_at "mine figs"); (case kpu => (intro o9; walk_at "mine upd")); (case kpb => l_fact); (case kpx => l_fact); (case kpy => l_fact); (case kpz => l_fact))); (intro r9 t9 i9 x9 u9 v9 h9 tk9 a9 b9 c9 d9 e9 F9 N9; (try dsimp only); (try dsimp only at N9); (try k_fold); (try k_sweep)))))
set_option hygiene true

theorem allLt_mem {D : Nat} {p : Addr × Obj} : ∀ {l : List (Addr × Obj)}, AllLt D l → p ∈ l → p.1 < D
  | [], _, hm => nomatch hm
  | _ :: _, h, hm => by
    rcases List.mem_cons.mp hm with rfl | hm
    · exact h.1
    · exact allLt_mem h.2 hm
local macro_rules | `(tactic| walk_at "mine figs") => `(tactic| assumption)
theorem ne_lt {D a : Nat} {o : Obj} {l : List (Addr × Obj)} (h : AllLt D l) (hm : (a, o) ∈ l) : D ≠ a := Nat.ne_of_gt (allLt_mem h hm)
theorem ne_all {D a : Nat} {o : Obj} {l : List (Addr × Obj)} (h : ∀ p ∈ l, p.1 < D) (hm : (a, o) ∈ l) : D ≠ a := Nat.ne_of_gt (h _ hm)
local macro_rules | `(tactic| walk_at "mine ne") => `(tactic| ((try dsimp only); first | omega | exact ne_lt (by assumption) (by assumption) | exact ne_all (by assumption) (by assumption) | (rename _ ∧ AllLt _ _ => hzz; exact ne_lt hzz.2 (by assumption))))
local macro_rules | `(tactic| walk_at "mine upd") => `(tactic| first | k_upd | (refine' Upd.tail ?ua ?ub; (case ua => walk_at "mine ne"); (case ub => walk_at "mine upd")))
abbrev B32 (v : Int) : Prop := -2147483648 ≤ v ∧ v ≤ 2147483647
abbrev RNum (fl : Addr) (n : Nat) (news' : Obj → List (Addr × Obj)) (h₀ : Heap) (L : Addr) (m : Str → Option Value) (s : Shared) (Q : Value → Shared → Prop) : Prop :=
  ∀ (r : Int) (t : Tok) (idx mix : Int) (t1 t2 : Tok) (h' : Heap) (tk' : Nat), B32 r → 0 ≤ idx → 0 ≤ mix → mix < 1009 → Fr h₀ L h' m → News h₀ L h' (news' (poolO fl idx t1 mix t2 n)) → Q (.int r t) { s with heap := h', toks := tk' }
theorem retN {h₀ h' : Heap} {L : Addr} {m : Str → Option Value} {s : Shared} {Q : Value → Shared → Prop} {t t1 t2 : Tok} {tk' n : Nat} {fl : Addr} {r i x : Int} {news' : Obj → List (Addr × Obj)} {led : List (Addr × Obj)}
    (hret : RNum fl n news' h₀ L m s Q)
    (F : Fr h₀ L h' m) (N : News h₀ L h' led) (hn : ∀ p ∈ news' (PySem.W.listOf #[.ref fl, .int i t1, .int x t2] n), p ∈ led) (hr : B32 r) (hi : 0 ≤ i) (hx : 0 ≤ x) (hx2 : x < 1009) : Q (.int r t) { s with heap := h', toks := tk' } :=
  hret r t i x t1 t2 h' tk' hr hi hx hx2 F (cb_drop N hn)
theorem b32_get {l : List Int} {j : Nat} (h : ∀ x ∈ l, B32 x) : B32 (l.getD j 0) := by
  by_cases hj : j < l.length
  · have e : l.getD j 0 = l[j] := by simp [List.getD, hj]
    rw [e]; exact h _ (List.getElem_mem hj)
  · have e : l.getD j 0 = 0 := by simp [List.getD, Nat.not_lt.mp hj]
    rw [e]; exact ⟨by decide, by decide⟩
theorem b32_rows {cs : List Int} (h : ∀ x ∈ cs, B32 x) : ∀ x ∈ ([7, -8, 0, 1, -1, 2 ^ Int.toNat 31 - 1, -2 ^ Int.toNat 31, 46341, 65536, 100] ++ cs : List Int), B32 x := by
  intro x hx
  rcases List.mem_append.1 hx with hx | hx
  · have hh : ∀ x ∈ ([7, -8, 0, 1, -1, 2 ^ Int.toNat 31 - 1, -2 ^ Int.toNat 31, 46341, 65536, 100] : List Int), B32 x := by decide
    exact hh x hx
  · exact h x hx
set_option maxHeartbeats 8000000 in
theorem number_c (w : World) (mean : ExcName → Option Value) (mg mb : Str → Option Value) (news : List (Addr × Obj)) (pl fl : Addr) (idx mix : Int) (t1 t2 : Tok) (n k : Nat) (vs : List Value) (ns : List Int) (news' : Obj → List (Addr × Obj)) (cl : Addr) (ws : List Value) (cs : List Int) (j : Nat) :
    Claim w mean mg mb 2 16 119 [.ref pl, .ref cl] news ((∀ o', Upd pl (poolO fl idx t1 mix t2 n) o' news (news' o')) ∧ (pl, poolO fl idx t1 mix t2 n) ∈ news ∧ (fl, PySem.W.listOf vs.toArray k) ∈ news ∧ (cl, PySem.W.listOf ws.toArray j) ∈ news ∧ IntsAre vs ns ∧ IntsAre ws cs ∧ ns.length < 1000 ∧ cs.length ≤ 4 ∧ (∀ x ∈ cs, B32 x) ∧ 0 ≤ idx ∧ 0 ≤ mix ∧ mix < 1009) (RNum fl n news') := by
  unfold Claim
  intro _ _ _ _ _ _ _ _ _ _ _ _ _ _ _ _ _ _ _ _ _ _ _ _ _ hp hret
  refine wpAny_call ?_
  obtain ⟨hU, hm1, hm2, hm3, hI, hJ, hl, hc, hB, hi0, hx0, hx1⟩ := hp
  k_dflt cell_enter
  k_steps
  all_goals (refine retN hret (by assumption) (by assumption) (by first | exact sub_cons (sub_cons sub_self)) (b32_get (b32_rows hB)) (by assumption) (by assumption) (by assumption))
set_option hygiene false
local macro_rules | `(tactic| walk_at "call ref") => `(tactic| (k_here; k_dflt ((refine' use (number_c _ _ _ _ _ _ _ _ _ _ _ _ _ _ _ _ _ _ _ _) ?k1 ?k2 ?k3 ?k4 ?k5 ?kK ?kd ?ku ?kp ?_); (case k1 => k_asm); (case k2 => k_asm); (case k3 => k_asm); (case k4 => k_asm); (case k5 => k_asm); (case kK => first | exact rfl | assumption); (case kd => ktr_room); (case ku => ktr_units); (case kp => (refine ⟨?kpu, ?kpm, ?kpn, ?kpo, ?kpi, ?kpj, ?kpl, ?kpb, ?kpc, ?kpx, ?kpy, ?kpz⟩; (case kpm => k_mem); (case kpn => k_mem); (case kpo => k_mem); (case kpi => l_ints); (case kpj => l_ints); (case kpl => walk_at "mine figs"); (case kpu => (intro o9; walk_at "mine upd")); (case kpb => walk_at "mine figs"); (case kpc => walk_at "mine figs"); (case kpx => l_fact); (case kpy => l_fact); (case kpz => l_fact))); (intro r9 t9 i9 x9 u9 v9 h9 tk9 a9 c9 d9 e9 F9 N9; (try dsimp only); (try dsimp only at N9); (try k_fold); (try k_sweep)))))
set_option hygiene true
end
section
local macro_rules | `(tactic| walk_at "mine enterC") => `(tactic| k_dflt (refine' code_defC ?k1 ?k2 ?k3 ?k4 ?k5 ?kA ?kF ?kK ?k6 ?k7 ?k8 ?k9 ?kB ?kD ?_ ?c2 ?c3 ?c4; (case kA => exact rfl); (case kF => exact rfl); (case kK => assumption); (case k1 => k_asm); (case k2 => k_asm); (case k3 => k_asm); (case k4 => k_asm); (case k5 => k_asm); (case k6 => k_is); (case k7 => k_is); (case k8 => ktr_room); (case k9 => exact BindsTo.of_eq rfl); (case kB => exact rfl); (case kD => decide +kernel); (case c2 => exact rfl); (case c3 => exact rfl); (case c4 => exact rfl); k_whole; intro g' L' h' tk' cells' FG' F' N' Y' B' X' T' l1; (try k_lt l1); k_cells Y'; (try simp only [List.cons_append, List.nil_append] at N'); (try dsimp only); (try k_lift B'); (try k_fold)))
local macro_rules | `(tactic| walk_at "binaryOp Pow int int") => `(tactic| (k_here; k_dflt ((refine' pow_int_small ?kb1 ?kb2 ?kb3 ?_); (case kb1 => decide); (case kb2 => decide); (case kb3 => decide))))

def ClaimB (w : World) (mean : ExcName → Option Value) (mg mb : Str → Option Value) (dd uu : Nat) (f : Addr) (vs : List Value) (news : List (Addr × Obj)) (pre : Heap → Prop)
    (R : Heap → Addr → (Str → Option Value) → Shared → (Value → Shared → Prop) → Prop) : Prop :=
  ∀ (dp un : Nat) (gd : Option (List Code)) (cn : Str) (cs : Scope) (a : Addr) (ccd : Value) (cl : List (Str × Addr)) (outer : List Env) (A₀ : Around) (base h₀ : Heap) (L : Addr) (m : Str → Option Value) (s : Shared) (Q E : Value → Shared → Prop),
    Below A₀ base outer h₀ → Fr h₀ L s.heap m → (hd.heap_39 w.params).In h₀ → News h₀ L s.heap news → Top hd.view_39 LL mean mg mb h₀ → cs.kind = .function →
    dp + dd < recursionLimit → un + uu < cLine → pre base → R h₀ L m s Q → 
    wpAny (model PySem.Challenge.rw_nu0312_01.row.toRowW.prog w) (ktrTop dp un gd cn cs L a ccd cl outer) (call (.ref f) vs) Q E s
local macro_rules | `(tactic| walk_at "call builtin:len") => `(tactic| (k_here; (rename News _ _ _ _ => nE9); simp only [List.push_toArray] at nE9))
theorem lt_pre {D : Nat} : ∀ {l r : List (Addr × Obj)}, AllLt D (l ++ r) → AllLt D l
  | [], _, _ => trivial
  | _ :: _, _, h => ⟨h.1, lt_pre h.2⟩
local macro_rules | `(tactic| walk_at "mine sub") => `(tactic| exact (fun p hp => List.mem_append_left _ (List.mem_append_left _ hp)))
theorem useB {w : World} {mean : ExcName → Option Value} {mg mb : Str → Option Value} {dd uu : Nat} {f : Addr} {vs : List Value} {news : List (Addr × Obj)} {pre : Heap → Prop}
    {R : Heap → Addr → (Str → Option Value) → Shared → (Value → Shared → Prop) → Prop} (C : ClaimB w mean mg mb dd uu f vs news pre R)
    {dp un : Nat} {gd : Option (List Code)} {cn : Str} {cs : Scope} {a : Addr} {ccd : Value} {cl : List (Str × Addr)} {outer : List Env} {A₀ : Around} {base h₀ : Heap} {L : Addr} {m : Str → Option Value} {s : Shared} {Q E : Value → Shared → Prop}
    (k1 : Below A₀ base outer h₀) (k2 : Fr h₀ L s.heap m) (k3 : (hd.heap_39 w.params).In h₀) (k4 : News h₀ L s.heap news) (k5 : Top hd.view_39 LL mean mg mb h₀) (kK : cs.kind = .function)
    (kd : dp + dd < recursionLimit) (ku : un + uu < cLine) (kp : pre base) (kR : R h₀ L m s Q) :
    wpAny (model PySem.Challenge.rw_nu0312_01.row.toRowW.prog w) (ktrTop dp un gd cn cs L a ccd cl outer) (call (.ref f) vs) Q E s :=
  C _ _ _ _ _ _ _ _ _ _ _ _ _ _ _ _ _ k1 k2 k3 k4 k5 kK kd ku kp kR
abbrev RPool (news : List (Addr × Obj)) (h₀ : Heap) (L : Addr) (m : Str → Option Value) (s : Shared) (Q : Value → Shared → Prop) : Prop :=
  ∀ (pl fl : Addr) (vs : List Value) (ns : List Int) (k n : Nat) (mix : Int) (t1 t2 : Tok) (h' : Heap) (tk' : Nat), IntsAre vs ns → ns.length < 1000 → 0 ≤ mix → mix < 1009 → Fr h₀ L h' m →
    News h₀ L h' ((pl, poolO fl 0 t1 mix t2 n) :: (fl, PySem.W.listOf vs.toArray k) :: news) → @LT.lt Nat _ fl pl → (∀ p ∈ news, @LT.lt Nat _ p.1 fl) → Q (.ref pl) { s with heap := h', toks := tk' }
theorem retPool {h₀ h' : Heap} {L : Addr} {m : Str → Option Value} {s : Shared} {Q : Value → Shared → Prop} {t1 t2 : Tok} {tk' n k : Nat} {pl fl : Addr} {mix : Int} {vs : List Value} {ns : List Int} {news led : List (Addr × Obj)}
    (hret : RPool news h₀ L m s Q) (F : Fr h₀ L h' m) (N : News h₀ L h' led) (hp : (pl, PySem.W.listOf #[.ref fl, .int 0 t1, .int mix t2] n) ∈ led) (hf : (fl, PySem.W.listOf vs.toArray k) ∈ led) (hn : ∀ p ∈ news, p ∈ led)
    (hI : IntsAre vs ns) (hl : ns.length < 1000) (h0 : 0 ≤ mix) (h1 : mix < 1009) (hne : @LT.lt Nat _ fl pl) (o1 : ∀ p ∈ news, @LT.lt Nat _ p.1 fl) : Q (.ref pl) { s with heap := h', toks := tk' } := by
  refine hret pl fl vs ns k n mix t1 t2 h' tk' hI hl h0 h1 F (fun p hp' => ?_) hne o1
  rcases List.mem_cons.mp hp' with rfl | hp'
  · exact N _ hp
  · rcases List.mem_cons.mp hp' with rfl | hp'
    · exact N _ hf
    · exact N p (hn p hp')
set_option maxHeartbeats 8000000 in
theorem pool_c (w : World) (mean : ExcName → Option Value) (mg mb : Str → Option Value) (news : List (Addr × Obj)) (l : Addr) (vs : List Value) (ns : List Int) :
    ClaimB w mean mg mb 1 8 105 [.ref l] news (fun base => base.IsList l vs.toArray ∧ IntsAre vs ns ∧ ns.length ≤ 63) (RPool news) := by
  unfold ClaimB
  intro _ _ _ _ _ _ _ _ _ _ _ _ _ _ _ _ _ _ _ _ _ _ _ _ _ hp hret
  refine wpAny_call ?_
  obtain ⟨hl, hI, hn⟩ := hp
  k_dflt cell_enter
  (k_with "pyIter ref" => (k_of "cell" => k_state (fun pre m items => 0 ≤ m ∧ m < 1009 ∧ items.length ≤ 400) "mix" "figures"))
  (k_with "pyIter ref" => (k_of "step" => k_state (fun pre r items => items.length ≤ 400 + pre.length) "rest" "figures"))
  k_steps
  all_goals (refine retPool hret (by assumption) (by assumption) (by walk_at "mine mem") (by walk_at "mine mem") (by walk_at "mine sub") (by l_ints) ?_ ?_ ?_ ?_ ?_)
  all_goals first
    | assumption
    | exact (fmod_in (by decide)).1
    | exact (fmod_in (by decide)).2
    | (rename _ ∧ _ ∧ AllLt _ _ => hzz; exact hzz.2.1)
    | (simp only [List.length_append, List.length_cons, List.length_nil]; omega)
    | (rename List.length _ ≤ 400 + List.length (rangeKs _ _) => hzz; rw [rangeKs_length] at hzz; omega)
    | omega
local macro_rules | `(tactic| walk_at "call ref") => `(tactic| (k_here; k_dflt ((refine' useB (pool_c _ _ _ _ _ _ _ _) ?k1 ?k2 ?k3 ?k4 ?k5 ?kK ?kd ?ku ?kp ?_); (case k1 => k_asm); (case k2 => k_asm); (case k3 => k_asm); (case k4 => k_asm); (case k5 => k_asm); (case kK => first | exact rfl | assumption); (case kd => ktr_room); (case ku => ktr_units); (case kp => exact ⟨by assumption, by assumption, by assumption⟩); (intro pl9 fl9 vs9 ns9 k9 n9 x9 t9 u9 h9 tk9 I9 a9 b9 c9 F9 N9 d9 e9; (try dsimp only); (k_lt e9); (try k_fold); (try k_sweep)))))
end
section
set_option hygiene false
local macro_rules | `(tactic| walk_at "call ref") => `(tactic| (k_here; k_dflt ((refine' use (mask_c _ _ _ _ _ _ _ _ _) ?k1 ?k2 ?k3 ?k4 ?k5 ?kK ?kd ?ku ?kp ?_); (walk_at "mine old"); (intro t9 h9 tk9 F9 N9; (try dsimp only); (try k_fold); (try k_sweep)))))
set_option hygiene true

abbrev spanO (a : Int) (t : Tok) (b : Int) (u : Tok) (c : Nat) : Obj := { cls := .type "tuple", data := .seq #[.int a t, .int b u] c }
def setGo : List (Int × Int) → Int → Int × Str
  | [], acc => (acc, Str.ofString "")
  | p :: r, acc => if p.1 < 0 ∨ 31 < p.1 ∨ p.2 < 0 ∨ 31 < p.2 then (0, Str.ofString "bad_element") else setGo r (Builtin.bitOr acc (maskv p.1 p.2))
theorem setGo_bad {p : Int × Int} {r : List (Int × Int)} {acc : Int} (h : p.1 < 0 ∨ 31 < p.1 ∨ p.2 < 0 ∨ 31 < p.2) : setGo (p :: r) acc = (0, Str.ofString "bad_element") := by rw [setGo, if_pos h]
theorem setGo_ok {p : Int × Int} {r : List (Int × Int)} {acc : Int} (h : ¬ (p.1 < 0 ∨ 31 < p.1 ∨ p.2 < 0 ∨ 31 < p.2)) : setGo (p :: r) acc = setGo r (Builtin.bitOr acc (maskv p.1 p.2)) := by rw [setGo, if_neg h]
end
section
local macro_rules | `(tactic| walk_at "mine enterC") => `(tactic| k_dflt (refine' code_defC ?k1 ?k2 ?k3 ?k4 ?k5 ?kA ?kF ?kK ?k6 ?k7 ?k8 ?k9 ?kB ?kD ?_ ?c2 ?c3 ?c4; (case kA => exact rfl); (case kF => exact rfl); (case kK => assumption); (case k1 => k_asm); (case k2 => k_asm); (case k3 => k_asm); (case k4 => k_asm); (case k5 => k_asm); (case k6 => k_is); (case k7 => k_is); (case k8 => ktr_room); (case k9 => exact BindsTo.of_eq rfl); (case kB => exact rfl); (case kD => decide +kernel); (case c2 => exact rfl); (case c3 => exact rfl); (case c4 => exact rfl); k_whole; intro g' L' h' tk' cells' FG' F' N' Y' B' X' T' l1; (try k_lt l1); k_cells Y'; (try simp only [List.cons_append, List.nil_append] at N'); (try dsimp only); (try k_lift B'); (try k_fold)))

def bodyOf : Stmt → List Stmt
  | .FunctionDef _ _ b .. => b
  | _ => []
def scopeOf : Stmt → Scope
  | .FunctionDef _ _ _ _ _ _ sc .. => sc
  | _ => { kind := .module, names := [], isGenerator := false, isCoroutine := false, more := [] }
noncomputable def lawDef : Stmt := PySem.Challenge.pw_nu0312_01.main.body.getD 25 (.Pass ⟨0,0,0,0⟩)
noncomputable def lawB : List Stmt := bodyOf lawDef
noncomputable def lawSt (k : Nat) : Stmt := lawB.getD k (.Pass ⟨0,0,0,0⟩)
noncomputable def lawScope : Scope := scopeOf lawDef
abbrev cells6 (c1 c2 c3 c4 c5 c6 : Addr) : List (Str × Addr) := [(Str.ofString "spans_x", c6), (Str.ofString "tables", c5), (Str.ofString "v", c4), (Str.ofString "u", c3), (Str.ofString "op", c2), (Str.ofString "pool", c1)]
noncomputable abbrev lawEnv (L a : Addr) (ccd : Value) (c1 c2 c3 c4 c5 c6 : Addr) : Env := envX (Str.ofString "law") lawScope L a ccd (cells6 c1 c2 c3 c4 c5 c6)
noncomputable abbrev lawAr (dp un : Nat) (gd : Option (List Code)) (L a : Addr) (ccd : Value) (c1 c2 c3 c4 c5 c6 : Addr) (outer : List Env) : Around := ktrTop dp un gd (Str.ofString "law") lawScope L a ccd (cells6 c1 c2 c3 c4 c5 c6) outer

theorem units_ok {n : Nat} (h : n + 100 < cLine) : n + 64 < cLine := by omega
theorem strok_ovf (n : Int) : PyData.strOk (ovf n) = true := by unfold ovf; split <;> decide +kernel
theorem ne_tup {prog : Program} {w : World} {A : Around} {E : Value → Shared → Prop} {s : Shared} {D1 D2 : Addr} {x y : Int} {c d : Str} {t1 t2 u1 u2 : Tok} {n1 n2 : Nat} {Q : Value → Shared → Prop}
    (h1 : s.heap.get? D1 = some (tupO x t1 c u1 n1)) (h2 : s.heap.get? D2 = some (tupO y t2 d u2 n2)) (hu : A.units + 64 < cLine) (e : x = y) (e2 : c = d) (hs : PyData.strOk c = true) (h : Q (.bool false) s) :
    wpAny (model prog w) A (compareOp .NotEq (.ref D1) (.ref D2)) Q E s := by
  subst e; subst e2
  refine ne_dataH (reads_tuple_at h1 rfl rfl (ReadsAll.cons (Reads.int _ _) (ReadsAll.cons (Reads.str _ _) ReadsAll.nil))) (reads_tuple_at h2 rfl rfl (ReadsAll.cons (Reads.int _ _) (ReadsAll.cons (Reads.str _ _) ReadsAll.nil))) (by simp [SeqAt.shaped, PyData.canLay0, PyData.canLayAll0, PyData.depth, PyData.depthAll, hs]) (by simp [SeqAt.shaped, PyData.canLay0, PyData.canLayAll0, PyData.depth, PyData.depthAll, hs]) hu ?_
  simp only [PyData.eqv, PyData.eqvAll, beq_self_eq_true, Bool.and_true, Bool.true_and, Bool.not_true, decide_true]
  exact h
local macro_rules | `(tactic| walk_at "mine same") => `(tactic| rfl)
local macro_rules | `(tactic| walk_at "compareOp NotEq ref ref") => `(tactic| (k_here; k_dflt ((refine' ne_tup ?ka ?kb ?kc ?kd ?ke ?kf ?_); (case ka => exact News.get (by k_asm) (by k_mem)); (case kb => exact News.get (by k_asm) (by k_mem)); (case kc => exact units_ok (by assumption)); (case kd => walk_at "mine same"); (case ke => walk_at "mine same"); (case kf => first | exact strok_ovf _ | decide +kernel))))
theorem ne_int_same {prog : Program} {w : World} {A : Around} {E : Value → Shared → Prop} {s : Shared} {a b : Int} {t u : Tok} {Q : Value → Shared → Prop} (e : a = b) (h : Q (.bool false) s) : wpAny (model prog w) A (compareOp .NotEq (.int a t) (.int b u)) Q E s := by
  subst e
  refine ne_int ?_
  simpa using h
theorem ne_bool_same {prog : Program} {w : World} {A : Around} {E : Value → Shared → Prop} {s : Shared} {a b : Bool} {Q : Value → Shared → Prop} (e : a = b) (h : Q (.bool false) s) : wpAny (model prog w) A (compareOp .NotEq (.bool a) (.bool b)) Q E s := by
  subst e
  refine ne_bool ?_
  simpa using h
theorem ne_str_same {prog : Program} {w : World} {A : Around} {E : Value → Shared → Prop} {s : Shared} {a b : Str} {t u : Tok} {Q : Value → Shared → Prop} (e : a = b) (h : Q (.bool false) s) : wpAny (model prog w) A (compareOp .NotEq (.str a t) (.str b u)) Q E s := by
  subst e
  refine ne_str ?_
  simpa using h
theorem fits_ovf (n : Int) : fitsB n = (ovf n == Str.ofString "") := by
  unfold ovf
  cases h : fitsB n with
  | true => rw [if_pos rfl]; decide
  | false => rw [if_neg (by decide)]; decide
local macro_rules | `(tactic| walk_at "compareOp NotEq int int") => `(tactic| (k_here; k_dflt ((refine' ne_int_same ?ka ?_); (case ka => walk_at "mine same"))))
local macro_rules | `(tactic| walk_at "compareOp NotEq bool bool") => `(tactic| (k_here; k_dflt ((refine' ne_bool_same ?ka ?_); (case ka => walk_at "mine same"))))
local macro_rules | `(tactic| walk_at "compareOp NotEq str str") => `(tactic| (k_here; k_dflt ((refine' ne_str_same ?ka ?_); (case ka => walk_at "mine same"))))
end
section
theorem fdiv_bounds {x y : Int} (h : 0 < y) : x.fdiv y * y ≤ x ∧ x < x.fdiv y * y + y := by
  rw [Int.fdiv_eq_ediv_of_nonneg _ (Int.le_of_lt h)]
  have h1 := Int.emod_nonneg x (show y ≠ 0 by omega)
  have h2 := Int.emod_lt_of_pos x h
  have h3 := Int.emod_add_mul_ediv x y
  rw [Int.mul_comm] at h3
  omega
theorem fmod_zero {x y : Int} (h : 0 < y) : (x - x.fmod y).fmod y = 0 := by
  rw [Int.fmod_eq_emod_of_nonneg _ (Int.le_of_lt h), Int.fmod_eq_emod_of_nonneg _ (Int.le_of_lt h)]
  have h3 := Int.emod_add_mul_ediv x y
  have : x - x % y = y * (x / y) := by omega
  rw [this]
  exact Int.mul_emod_right y (x / y)

theorem b64 {x : Int} (h : -2147483648 ≤ x ∧ x ≤ 2147483647) : -4294967295 ≤ x ∧ x ≤ 4294967295 := ⟨Int.le_trans (by decide) h.1, Int.le_trans h.2 (by decide)⟩
theorem fbv_div (x y : Int) : fbv (Str.ofString "DIV") x y = dmv (Str.ofString "DIV") x y := by
  unfold fbv; repeat (first | (rw [bif_t (by decide +kernel)]; done) | rw [bif_f (by decide +kernel)])
theorem fbv_mod (x y : Int) : fbv (Str.ofString "MOD") x y = dmv (Str.ofString "MOD") x y := by
  unfold fbv; repeat (first | (rw [bif_t (by decide +kernel)]; done) | rw [bif_f (by decide +kernel)])
def dmOps : List Str := [Str.ofString "DIV", Str.ofString "MOD"]
theorem in2 {a b op : Str} (h : op ∈ [a, b]) : op = a ∨ op = b := by simpa using h
theorem in3 {a b c op : Str} (h : op ∈ [a, b, c]) : op = a ∨ op = b ∨ op = c := by simpa using h
theorem fbv_lo {op : Str} {x y : Int} (h : op ∈ dmOps) (hy : y ≤ 0) : fbv op x y = (0, Str.ofString "division") := by
  rcases in2 h with rfl | rfl
  · rw [fbv_div]; exact if_pos hy
  · rw [fbv_mod]; exact if_pos hy
theorem dmv_div {x y : Int} (h : ¬ y ≤ 0) : fbv (Str.ofString "DIV") x y = (x.fdiv y, Str.ofString "") := by
  rw [fbv_div]; unfold dmv; rw [if_neg h, bif_t (by decide +kernel)]
theorem dmv_mod {x y : Int} (h : ¬ y ≤ 0) : fbv (Str.ofString "MOD") x y = (x.fmod y, Str.ofString "") := by
  rw [fbv_mod]; unfold dmv; rw [if_neg h, bif_f (by decide +kernel)]
theorem dm_lo (w : World) (mean : ExcName → Option Value) (mg mb : Str → Option Value) (news : List (Addr × Obj)) (op : Str) (x y : Int) (t u v : Tok) :
    Claim w mean mg mb 4 40 56 [.str op t, .int x u, .int y v] news (op ∈ dmOps ∧ y ≤ 0 ∧ (-2147483648 ≤ x ∧ x ≤ 2147483647) ∧ (-2147483648 ≤ y ∧ y ≤ 2147483647)) (RTup news 0 (Str.ofString "division")) := by
  unfold Claim
  intro _ _ _ _ _ _ _ _ _ _ _ _ _ _ _ _ _ k1 k2 k3 k4 k5 kK kd ku hp hret
  obtain ⟨hop, hy, hp⟩ := hp
  refine use (fb_c w mean mg mb news op x y t u v) k1 k2 k3 k4 k5 kK kd ku ⟨b64 hp.1, b64 hp.2⟩ ?_
  rw [fbv_lo hop hy]; exact hret
theorem div_hi (w : World) (mean : ExcName → Option Value) (mg mb : Str → Option Value) (news : List (Addr × Obj)) (x y : Int) (t u v : Tok) :
    Claim w mean mg mb 4 40 56 [.str (Str.ofString "DIV") t, .int x u, .int y v] news (0 < y ∧ (-2147483648 ≤ x ∧ x ≤ 2147483647) ∧ (-2147483648 ≤ y ∧ y ≤ 2147483647)) (RTup news (x.fdiv y) (Str.ofString "")) := by
  unfold Claim
  intro _ _ _ _ _ _ _ _ _ _ _ _ _ _ _ _ _ k1 k2 k3 k4 k5 kK kd ku hp hret
  obtain ⟨hy, hp⟩ := hp
  refine use (fb_c w mean mg mb news (Str.ofString "DIV") x y t u v) k1 k2 k3 k4 k5 kK kd ku ⟨b64 hp.1, b64 hp.2⟩ ?_
  rw [dmv_div (Int.not_le.mpr hy)]; exact hret
theorem mod_hi (w : World) (mean : ExcName → Option Value) (mg mb : Str → Option Value) (news : List (Addr × Obj)) (x y : Int) (t u v : Tok) :
    Claim w mean mg mb 4 40 56 [.str (Str.ofString "MOD") t, .int x u, .int y v] news (0 < y ∧ (-2147483648 ≤ x ∧ x ≤ 2147483647) ∧ (-2147483648 ≤ y ∧ y ≤ 2147483647)) (RTup news (x.fmod y) (Str.ofString "")) := by
  unfold Claim
  intro _ _ _ _ _ _ _ _ _ _ _ _ _ _ _ _ _ k1 k2 k3 k4 k5 kK kd ku hp hret
  obtain ⟨hy, hp⟩ := hp
  refine use (fb_c w mean mg mb news (Str.ofString "MOD") x y t u v) k1 k2 k3 k4 k5 kK kd ku ⟨b64 hp.1, b64 hp.2⟩ ?_
  rw [dmv_mod (Int.not_le.mpr hy)]; exact hret

def shOps : List Str := [Str.ofString "LSL", Str.ofString "ASR", Str.ofString "ROR"]
def shv (op : Str) (x n : Int) : Int := bif op == Str.ofString "LSL" then sgn (x * 2 ^ n.toNat) else bif op == Str.ofString "ASR" then x.fdiv (2 ^ n.toNat) else sgn (Builtin.bitOr ((x % 4294967296).fdiv (2 ^ n.toNat)) (x % 4294967296 * 2 ^ (32 - n).toNat))
theorem shv_eq {op : Str} {x n : Int} (hop : op ∈ shOps) (h : 0 ≤ n ∧ n ≤ 31) (hb : -2147483648 ≤ x ∧ x ≤ 2147483647) : shv op x n = lshv op x n := by
  unfold shv lshv
  rw [same_lsl h, same_asr h hb, same_ror h]
theorem fsv_lo {op : Str} {x n : Int} (h : n < 0 ∨ 31 < n) : fsv op x n = (x, Str.ofString "bad_shift") := if_pos h
theorem fsv_hi {op : Str} {x n : Int} (h : ¬ (n < 0 ∨ 31 < n)) : fsv op x n = (shv op x n, Str.ofString "") := by
  unfold fsv shv; rw [if_neg h]
  cases op == Str.ofString "LSL" <;> cases op == Str.ofString "ASR" <;> rfl
theorem shift_lo (w : World) (mean : ExcName → Option Value) (mg mb : Str → Option Value) (news : List (Addr × Obj)) (op : Str) (x n : Int) (t u v : Tok) :
    Claim w mean mg mb 4 40 98 [.str op t, .int x u, .int n v] news ((n < 0 ∨ 31 < n) ∧ -2147483648 ≤ x ∧ x ≤ 2147483647) (RTup news x (Str.ofString "bad_shift")) := by
  unfold Claim
  intro _ _ _ _ _ _ _ _ _ _ _ _ _ _ _ _ _ k1 k2 k3 k4 k5 kK kd ku hp hret
  refine use (fs_c w mean mg mb news op x n t u v) k1 k2 k3 k4 k5 kK kd ku hp.2 ?_
  rw [fsv_lo hp.1]; exact hret
theorem shift_hi (w : World) (mean : ExcName → Option Value) (mg mb : Str → Option Value) (news : List (Addr × Obj)) (op : Str) (x n : Int) (t u v : Tok) :
    Claim w mean mg mb 4 40 98 [.str op t, .int x u, .int n v] news ((0 ≤ n ∧ n ≤ 31) ∧ -2147483648 ≤ x ∧ x ≤ 2147483647) (RTup news (shv op x n) (Str.ofString "")) := by
  unfold Claim
  intro _ _ _ _ _ _ _ _ _ _ _ _ _ _ _ _ _ k1 k2 k3 k4 k5 kK kd ku hp hret
  refine use (fs_c w mean mg mb news op x n t u v) k1 k2 k3 k4 k5 kK kd ku hp.2 ?_
  rw [fsv_hi (fun h => h.elim (fun a => absurd hp.1.1 (Int.not_le.mpr a)) (fun a => absurd hp.1.2 (Int.not_le.mpr a)))]; exact hret
theorem rin_lo (w : World) (mean : ExcName → Option Value) (mg mb : Str → Option Value) (news : List (Addr × Obj)) (x y : Int) (t u v z : Tok) :
    Claim w mean mg mb 2 16 77 [.str (Str.ofString "IN") t, .str (Str.ofString "number") z, .int x u, .int y v] news (x < 0 ∨ 31 < x) (RTup news 0 (Str.ofString "bad_element")) := by
  unfold Claim
  intro _ _ _ _ _ _ _ _ _ _ _ _ _ _ _ _ _ k1 k2 k3 k4 k5 kK kd ku hp hret
  refine use (rin_c w mean mg mb news x y t u v z) k1 k2 k3 k4 k5 kK kd ku True.intro ?_
  rw [show inv x y = 0 from if_pos hp, show inc x = Str.ofString "bad_element" from if_pos hp]; exact hret
theorem rin_hi (w : World) (mean : ExcName → Option Value) (mg mb : Str → Option Value) (news : List (Addr × Obj)) (x y : Int) (t u v z : Tok) :
    Claim w mean mg mb 2 16 77 [.str (Str.ofString "IN") t, .str (Str.ofString "number") z, .int x u, .int y v] news (0 ≤ x ∧ x ≤ 31) (RTup news (Builtin.bitAnd (y.fdiv (2 ^ x.toNat)) 1) (Str.ofString "")) := by
  unfold Claim
  intro _ _ _ _ _ _ _ _ _ _ _ _ _ _ _ _ _ k1 k2 k3 k4 k5 kK kd ku hp hret
  refine use (rin_c w mean mg mb news x y t u v z) k1 k2 k3 k4 k5 kK kd ku True.intro ?_
  rw [show inv x y = Builtin.bitAnd (y.fdiv (2 ^ x.toNat)) 1 from if_neg (fun h => h.elim (fun a => absurd hp.1 (Int.not_le.mpr a)) (fun a => absurd hp.2 (Int.not_le.mpr a))), show inc x = Str.ofString "" from if_neg (fun h => h.elim (fun a => absurd hp.1 (Int.not_le.mpr a)) (fun a => absurd hp.2 (Int.not_le.mpr a)))]; exact hret
end
section
local macro_rules | `(tactic| k_ne) => `(tactic| k_dflt (first | (refine' And.left (b := _) ?hzz; (case hzz => assumption)) | (refine' Ne.symm (And.left (b := _) ?hzz); (case hzz => assumption))))
local macro_rules | `(tactic| walk_at "mine all") => `(tactic| first | walk_at "mine sub" | exact List.forall_mem_nil _ | (refine List.forall_mem_cons.mpr ⟨?maa, ?mab⟩; (case maa => walk_at "mine mem"); (case mab => walk_at "mine all")))
local macro_rules | `(tactic| walk_at "mine rd") => `(tactic| first | assumption | (refine (if_neg (by decide +kernel)).trans ?_; walk_at "mine rd"))
local macro_rules | `(tactic| k_all) => `(tactic| first | assumption | exact allLt_ne (by assumption) | exact allLt_ne (And.right (by assumption)) | exact allLt_ne (And.right (And.right (by assumption))) | exact allLt_ne (And.right (And.right (And.right (by assumption)))) | exact offL_ne (by assumption) | exact offL_ne (And.right (by assumption)) | exact offL_ne (And.right (And.right (by assumption))) | exact offL_ne (And.right (And.right (And.right (by assumption)))))
local macro_rules | `(tactic| walk_at "mine map") => `(tactic| first | exact same_refl | assumption | (refine same_put ?_ (by k_mem); walk_at "mine map") | (refine same_look ?_ (by assumption); walk_at "mine map"))
local macro_rules | `(tactic| walk_at "compareOp NotEq ref ref") => `(tactic| (k_here; k_dflt ((refine' ne_tup ?ka ?kb ?kc ?kd ?ke ?kf ?_); (case ka => exact News.get (by k_asm) (by k_mem)); (case kb => exact News.get (by k_asm) (by k_mem)); (case kc => exact units_ok (by assumption)); (case kd => walk_at "mine same"); (case ke => walk_at "mine same"); (case kf => first | exact strok_ovf _ | decide +kernel))))
local macro_rules | `(tactic| walk_at "compareOp NotEq int int") => `(tactic| (k_here; k_dflt ((refine' ne_int_same ?ka ?_); (case ka => walk_at "mine same"))))
local macro_rules | `(tactic| walk_at "compareOp NotEq bool bool") => `(tactic| (k_here; k_dflt ((refine' ne_bool_same ?ka ?_); (case ka => walk_at "mine same"))))
local macro_rules | `(tactic| walk_at "compareOp NotEq str str") => `(tactic| (k_here; k_dflt ((refine' ne_str_same ?ka ?_); (case ka => walk_at "mine same"))))
section
def forTarget : Stmt → Expr
  | .For t _ _ _ _ => t
  | _ => .Name (Str.ofString "") ⟨0,0,0,0⟩
def forBody : Stmt → List Stmt
  | .For _ _ b _ _ => b
  | _ => []
set_option hygiene false
local macro_rules | `(tactic| walk_at "call ref") => `(tactic| (k_here; k_dflt ((first | (refine' use (shift_lo _ _ _ _ _ _ _ _ _ _ _) ?k1 ?k2 ?k3 ?k4 ?k5 ?kK ?kd ?ku ?kp ?_; (walk_at "mine kp")) | (refine' use (shift_hi _ _ _ _ _ _ _ _ _ _ _) ?k1 ?k2 ?k3 ?k4 ?k5 ?kK ?kd ?ku ?kp ?_; (walk_at "mine kp")) | (refine' use (lsh_c _ _ _ _ _ _ _ _ _ _ _) ?k1 ?k2 ?k3 ?k4 ?k5 ?kK ?kd ?ku ?kp ?_; (walk_at "mine kp"))); (walk_at "mine tl"); (walk_at "mine in"))))
set_option hygiene true
local macro_rules | `(tactic| walk_at "mine same") => `(tactic| first | rfl | exact shv_eq (by assumption) (by omega) (by omega))
set_option maxHeartbeats 8000000 in
theorem turn9 (w : World) (mean : ExcName → Option Value) (mg mb : Str → Option Value) (dp un : Nat) (gd : Option (List Code)) (a : Addr) (ccd : Value) (outer : List Env) (A₀ : Around) (base h₀ : Heap) (L : Addr) (c1 c2 c3 c4 c5 c6 : Addr) (m : Str → Option Value) (s : Shared) (Q : Flow → Shared → Prop) (E : Value → Shared → Prop) (T : List (Addr × Obj)) (one count : Int) (t1 t3 : Tok) (op : Str) (t : Tok) (o2 : Obj) (v2 : Option Value) (B : Below A₀ base outer h₀) (X : (hd.heap_39 w.params).In h₀) (Tp : Top hd.view_39 LL mean mg mb h₀) (hdp : dp + 10 < recursionLimit) (hun : un + 100 < cLine)
    (hop : op ∈ shOps) (hb1 : -2147483648 ≤ one ∧ one ≤ 2147483647) (h1 : m (Str.ofString "one") = some (.int one t1)) (h3 : m (Str.ofString "count") = some (.int count t3)) (d2 : o2.data = Data.cell v2)
    (hT : ∀ p ∈ T, p.1 ≠ c2) (F : Fr h₀ L s.heap m) (N : News h₀ L s.heap ((c2, o2) :: T))
    (hk : ∀ (m' : Str → Option Value) (h' : Heap) (tk' : Nat) (o2' : Obj) (v2' : Option Value), Same [Str.ofString "value", Str.ofString "code"] m m' → o2'.data = Data.cell v2' → Fr h₀ L h' m' → News h₀ L h' ((c2, o2') :: T) → Q .next { s with heap := h', toks := tk' }) :
    wpAny (model PySem.Challenge.rw_nu0312_01.row.toRowW.prog w) (lawAr dp un gd L a ccd c1 c2 c3 c4 c5 c6 outer) (assign (forTarget (lawSt 9)) (lawEnv L a ccd c1 c2 c3 c4 c5 c6) (.str op t)) (fun _ s₂ => wpAny (model PySem.Challenge.rw_nu0312_01.row.toRowW.prog w) (lawAr dp un gd L a ccd c1 c2 c3 c4 c5 c6 outer) (execs (forBody (lawSt 9)) (lawEnv L a ccd c1 c2 c3 c4 c5 c6)) Q E s₂) E s := by
  conv in (forTarget _) => whnf
  conv in (forBody _) => whnf
  have F1 := (fr_look (x := Str.ofString "one") (fr_look (x := Str.ofString "count") F (by walk_at "mine rd")) (by walk_at "mine rd"))
  clear F
  have hlo : (count < 0 ∨ 31 < count) ∨ (0 ≤ count ∧ count ≤ 31) := by omega
  rcases hlo with hlo | hlo
  all_goals k_steps
  all_goals ((refine' hk _ _ _ _ _ ?qm ?q0 ?qF ?qN); (case qF => assumption); (case qN => exact cb_drop (by assumption) (by walk_at "mine all")); (case q0 => assumption); (case qm => walk_at "mine map"))
end
section
def forIter : Stmt → Expr
  | .For _ i _ _ _ => i
  | _ => .Name (Str.ofString "") ⟨0,0,0,0⟩
def forPos : Stmt → Pos
  | .For _ _ _ _ p => p
  | _ => ⟨0,0,0,0⟩
theorem abs_post {α : Type} {M : Model} {A : Around} {t : Sem α} {Q : α → Shared → Prop} {E : Value → Shared → Prop} {s : Shared} (h : ∀ Q' : α → Shared → Prop, (∀ v s', Q v s' → Q' v s') → wpAny M A t Q' E s) : wpAny M A t Q E s := h Q fun _ _ x => x
def StrsIn (vs : List Value) (ops : List Str) : Prop := ∀ v ∈ vs, ∃ op t, v = .str op t ∧ op ∈ ops
theorem strs_nil {ops : List Str} : StrsIn [] ops := fun _ h => nomatch h
theorem strs_cons {ops : List Str} {op : Str} {t : Tok} {vs : List Value} (h : op ∈ ops) (r : StrsIn vs ops) : StrsIn (.str op t :: vs) ops := fun v hv => by
  rcases List.mem_cons.mp hv with rfl | hv
  · exact ⟨op, t, rfl, h⟩
  · exact r v hv
theorem all_cons {α : Type} {P : α → Prop} {a : α} {l : List α} (h : P a) (r : ∀ x ∈ l, P x) : ∀ x ∈ a :: l, P x := fun x hx => by
  rcases List.mem_cons.mp hx with rfl | hx
  · exact h
  · exact r x hx

/-- a loop over a display of written words: the turn's law gives the loop's -/
theorem for_strs (w : World) (mean : ExcName → Option Value) (mg mb : Str → Option Value) (dp un : Nat) (gd : Option (List Code)) (a : Addr) (ccd : Value) (outer : List Env) (A₀ : Around) (base h₀ : Heap) (L : Addr) (c1 c2 c3 c4 c5 c6 : Addr) (m : Str → Option Value) (s : Shared) (Q : Flow → Shared → Prop) (E : Value → Shared → Prop) (T : List (Addr × Obj)) (rest : List Stmt) (st : Stmt) (ops nm : List Str) (o2 : Obj) (v2 : Option Value)
    (hst : st = .For (forTarget st) (forIter st) (forBody st) [] (forPos st)) (hfs : ∀ x, foldedSetIterable (forIter st) (lawEnv L a ccd c1 c2 c3 c4 c5 c6) x = pure x)
    (hE : PassesOwn (model PySem.Challenge.rw_nu0312_01.row.toRowW.prog w) (lawAr dp un gd L a ccd c1 c2 c3 c4 c5 c6 outer) (lawEnv L a ccd c1 c2 c3 c4 c5 c6) E)
    (d2 : o2.data = Data.cell v2) (hT : ∀ p ∈ T, p.1 ≠ c2) (F : Fr h₀ L s.heap m) (N : News h₀ L s.heap ((c2, o2) :: T))
    (disp : ∀ Q' : Value → Shared → Prop, (∀ (D : Addr) (vs : List Value) (n : Nat) (h' : Heap) (tk' : Nat), StrsIn vs ops → Fr h₀ L h' m → News h₀ L h' ((D, PySem.W.listOf vs.toArray n) :: (c2, o2) :: T) → (@Ne Nat D c2) → Q' (.ref D) { s with heap := h', toks := tk' }) →
      wpAny (model PySem.Challenge.rw_nu0312_01.row.toRowW.prog w) (lawAr dp un gd L a ccd c1 c2 c3 c4 c5 c6 outer) (eval (forIter st) (lawEnv L a ccd c1 c2 c3 c4 c5 c6)) Q' E s)
    (turn : ∀ (Q' : Flow → Shared → Prop) (T' : List (Addr × Obj)) (op : Str) (t : Tok) (m₁ : Str → Option Value) (o : Obj) (v : Option Value) (s₁ : Shared), op ∈ ops → Same nm m m₁ → (∀ p ∈ T, p ∈ T') → o.data = Data.cell v → (∀ p ∈ T', p.1 ≠ c2) → Fr h₀ L s₁.heap m₁ → News h₀ L s₁.heap ((c2, o) :: T') →
      (∀ (m' : Str → Option Value) (h' : Heap) (tk' : Nat) (o' : Obj) (v' : Option Value), Same nm m₁ m' → o'.data = Data.cell v' → Fr h₀ L h' m' → News h₀ L h' ((c2, o') :: T') → Q' .next { s₁ with heap := h', toks := tk' }) →
      wpAny (model PySem.Challenge.rw_nu0312_01.row.toRowW.prog w) (lawAr dp un gd L a ccd c1 c2 c3 c4 c5 c6 outer) (assign (forTarget st) (lawEnv L a ccd c1 c2 c3 c4 c5 c6) (.str op t)) (fun _ s₂ => wpAny (model PySem.Challenge.rw_nu0312_01.row.toRowW.prog w) (lawAr dp un gd L a ccd c1 c2 c3 c4 c5 c6 outer) (execs (forBody st) (lawEnv L a ccd c1 c2 c3 c4 c5 c6)) Q' E s₂) E s₁)
    (hk : ∀ (m' : Str → Option Value) (h' : Heap) (tk' : Nat) (o' : Obj) (v' : Option Value), Same nm m m' → o'.data = Data.cell v' → Fr h₀ L h' m' → News h₀ L h' ((c2, o') :: T) → wpAny (model PySem.Challenge.rw_nu0312_01.row.toRowW.prog w) (lawAr dp un gd L a ccd c1 c2 c3 c4 c5 c6 outer) (execs rest (lawEnv L a ccd c1 c2 c3 c4 c5 c6)) Q E { s with heap := h', toks := tk' }) :
    wpAny (model PySem.Challenge.rw_nu0312_01.row.toRowW.prog w) (lawAr dp un gd L a ccd c1 c2 c3 c4 c5 c6 outer) (execs (st :: rest) (lawEnv L a ccd c1 c2 c3 c4 c5 c6)) Q E s := by
  rw [hst]
  refine wpAny_execs_cons (For_turns F (disp _ ?_) hfs hE)
  intro D vs n h' tk' hvs F' N' hD
  refine iter_J (s := { s with heap := h', toks := tk' }) (cs₀ := [(c2, o2)]) (T := (D, PySem.W.listOf vs.toArray n) :: T) (vs := vs) rfl F' (cb_drop N' ?_) (.head _) ?_ rfl rfl
    (fun _ m' cs => Same nm m m' ∧ ∃ (o : Obj) (v : Option Value), cs = [(c2, o)] ∧ o.data = Data.cell v) ?_ ⟨same_refl, o2, v2, rfl, d2⟩ ?_ ?_
  · intro p hp
    rcases List.mem_cons.mp hp with rfl | hp
    · exact .tail _ (.head _)
    · rcases List.mem_cons.mp hp with rfl | hp
      · exact .head _
      · exact .tail _ (.tail _ hp)
  · intro p hp q hq
    rw [List.mem_singleton.mp hq]
    rcases List.mem_cons.mp hp with rfl | hp
    · exact hD
    · exact hT p hp
  · rintro i m' cs ⟨_, o, v, rfl, _⟩
    rfl
  · rintro i v m₁ cs₁ T' h₁ tk₁ hv ⟨hs, o, v', rfl, hd⟩ hTT hoff F₁ N₁
    obtain ⟨op, t, rfl, hop⟩ := hvs v (List.mem_of_getElem? hv)
    refine turn _ T' op t m₁ o v' { s with heap := h₁, toks := tk₁ } hop hs (fun p hp => hTT p (.tail _ hp)) hd (fun p hp => hoff p hp _ (.head _)) F₁ N₁ ?_
    intro m'' h'' tk'' o'' v'' hs'' hd'' F'' N''
    exact ⟨h'', tk'', m'', [(c2, o'')], rfl, F'', N'', same_again hs hs'', o'', v'', rfl, hd''⟩
  · rintro h'' tk'' m'' cs'' F'' N'' ⟨hs'', o'', v'', rfl, hd''⟩
    exact hk m'' h'' tk'' o'' v'' hs'' hd'' F'' (cb_drop N'' fun p hp => by
      rcases List.mem_cons.mp hp with rfl | hp
      · exact .head _
      · exact .tail _ (.tail _ hp))
local macro_rules | `(tactic| walk_at "mine strs") => `(tactic| first | exact strs_nil | (refine strs_cons (by k_mem) ?_; walk_at "mine strs"))
set_option maxHeartbeats 8000000 in
theorem b9 (w : World) (mean : ExcName → Option Value) (mg mb : Str → Option Value) (dp un : Nat) (gd : Option (List Code)) (a : Addr) (ccd : Value) (outer : List Env) (A₀ : Around) (base h₀ : Heap) (L : Addr) (c1 c2 c3 c4 c5 c6 : Addr) (m : Str → Option Value) (s : Shared) (Q : Flow → Shared → Prop) (E : Value → Shared → Prop) (T : List (Addr × Obj)) (rest : List Stmt) (one count : Int) (t1 t3 : Tok) (o2 : Obj) (v2 : Option Value) (B : Below A₀ base outer h₀) (X : (hd.heap_39 w.params).In h₀) (Tp : Top hd.view_39 LL mean mg mb h₀) (hdp : dp + 10 < recursionLimit) (hun : un + 100 < cLine) (hE : PassesOwn (model PySem.Challenge.rw_nu0312_01.row.toRowW.prog w) (lawAr dp un gd L a ccd c1 c2 c3 c4 c5 c6 outer) (lawEnv L a ccd c1 c2 c3 c4 c5 c6) E)
    (hb1 : -2147483648 ≤ one ∧ one ≤ 2147483647) (h1 : m (Str.ofString "one") = some (.int one t1)) (h3 : m (Str.ofString "count") = some (.int count t3)) (d2 : o2.data = Data.cell v2)
    (hT : ∀ p ∈ T, p.1 ≠ c2) (F : Fr h₀ L s.heap m) (N : News h₀ L s.heap ((c2, o2) :: T))
    (hk : ∀ (m' : Str → Option Value) (h' : Heap) (tk' : Nat) (o2' : Obj) (v2' : Option Value), Same [Str.ofString "value", Str.ofString "code"] m m' → o2'.data = Data.cell v2' → Fr h₀ L h' m' → News h₀ L h' ((c2, o2') :: T) → wpAny (model PySem.Challenge.rw_nu0312_01.row.toRowW.prog w) (lawAr dp un gd L a ccd c1 c2 c3 c4 c5 c6 outer) (execs rest (lawEnv L a ccd c1 c2 c3 c4 c5 c6)) Q E { s with heap := h', toks := tk' }) :
    wpAny (model PySem.Challenge.rw_nu0312_01.row.toRowW.prog w) (lawAr dp un gd L a ccd c1 c2 c3 c4 c5 c6 outer) (execs (lawSt 9 :: rest) (lawEnv L a ccd c1 c2 c3 c4 c5 c6)) Q E s := by
  refine for_strs w mean mg mb dp un gd a ccd outer A₀ base h₀ L c1 c2 c3 c4 c5 c6 m s Q E T rest (lawSt 9) shOps [Str.ofString "value", Str.ofString "code"] o2 v2 rfl (fun _ => rfl) hE d2 hT F N ?_ ?_ hk
  · intro Q' hQ
    conv in (forIter _) => whnf
    k_steps
    all_goals ((refine' hQ _ _ _ _ _ ?qa ?qb ?qc ?qd); (case qb => assumption); (case qc => assumption); (case qa => walk_at "mine strs"); (case qd => (rename _ ∧ AllLt _ _ => hz; exact Nat.ne_of_gt hz.1)))
  · intro Q' T' op t m₁ o v s₁ hop hs hTT hd hT' F₁ N₁ hk'
    exact turn9 w mean mg mb dp un gd a ccd outer A₀ base h₀ L c1 c2 c3 c4 c5 c6 m₁ s₁ Q' E T' one count t1 t3 op t o v B X Tp hdp hun hop hb1 ((hs _ (by decide +kernel)).trans h1) ((hs _ (by decide +kernel)).trans h3) hd hT' F₁ N₁ hk'
end
section
local macro_rules | `(tactic| walk_at "compareOp NotEq ref ref") => `(tactic| (k_here; k_dflt ((refine' ne_tup ?ka ?kb ?kc ?kd ?ke ?kf ?_); (case ka => exact News.get (by k_asm) (by k_mem)); (case kb => exact News.get (by k_asm) (by k_mem)); (case kc => exact units_ok (by assumption)); (case kd => walk_at "mine same"); (case ke => walk_at "mine same"); (case kf => first | exact strok_ovf _ | decide +kernel))))
local macro_rules | `(tactic| walk_at "mine strs") => `(tactic| first | exact strs_nil | (refine strs_cons (by k_mem) ?_; walk_at "mine strs"))
section
local macro_rules | `(tactic| walk_at "mine same") => `(tactic| rfl)
set_option hygiene false
local macro_rules | `(tactic| walk_at "call ref") => `(tactic| (k_here; k_dflt ((first | (refine' use (add_c _ _ _ _ _ _ _ _ _ _) ?k1 ?k2 ?k3 ?k4 ?k5 ?kK ?kd ?ku ?kp ?_; (walk_at "mine kp")) | (refine' use (sub_c _ _ _ _ _ _ _ _ _ _) ?k1 ?k2 ?k3 ?k4 ?k5 ?kK ?kd ?ku ?kp ?_; (walk_at "mine kp")) | (refine' use (lover_c _ _ _ _ _ _ _) ?k1 ?k2 ?k3 ?k4 ?k5 ?kK ?kd ?ku ?kp ?_; (walk_at "mine kp"))); (walk_at "mine tl"); (walk_at "mine in"))))
set_option hygiene true
set_option maxHeartbeats 8000000 in
theorem b5 (w : World) (mean : ExcName → Option Value) (mg mb : Str → Option Value) (dp un : Nat) (gd : Option (List Code)) (a : Addr) (ccd : Value) (outer : List Env) (A₀ : Around) (base h₀ : Heap) (L : Addr) (c1 c2 c3 c4 c5 c6 : Addr) (m : Str → Option Value) (s : Shared) (Q : Flow → Shared → Prop) (E : Value → Shared → Prop) (T : List (Addr × Obj)) (rest : List Stmt) (one two : Int) (t1 t2 : Tok) (B : Below A₀ base outer h₀) (X : (hd.heap_39 w.params).In h₀) (Tp : Top hd.view_39 LL mean mg mb h₀) (hdp : dp + 10 < recursionLimit) (hun : un + 100 < cLine) 
    (hb1 : (-2147483648 ≤ one ∧ one ≤ 2147483647)) (hb2 : (-2147483648 ≤ two ∧ two ≤ 2147483647)) (h1 : m (Str.ofString "one") = some (.int one t1)) (h2 : m (Str.ofString "two") = some (.int two t2))  (F : Fr h₀ L s.heap m) (N : News h₀ L s.heap (T))
    (hk : ∀ (m' : Str → Option Value) (h' : Heap) (tk' : Nat) , Same [] m m' → Fr h₀ L h' m' → News h₀ L h' (T) → wpAny (model PySem.Challenge.rw_nu0312_01.row.toRowW.prog w) (lawAr dp un gd L a ccd c1 c2 c3 c4 c5 c6 outer) (execs rest (lawEnv L a ccd c1 c2 c3 c4 c5 c6)) Q E { s with heap := h', toks := tk' }) :
    wpAny (model PySem.Challenge.rw_nu0312_01.row.toRowW.prog w) (lawAr dp un gd L a ccd c1 c2 c3 c4 c5 c6 outer) (execs (lawSt 5 :: rest) (lawEnv L a ccd c1 c2 c3 c4 c5 c6)) Q E s := by
  conv in (lawSt 5) => whnf
  have F1 := (fr_look (x := Str.ofString "one") (fr_look (x := Str.ofString "two") F (by walk_at "mine rd")) (by walk_at "mine rd"))
  clear F
  k_steps
  all_goals ((refine' hk _ _ _ ?qm  ?qF ?qN); (case qF => assumption); (case qN => exact cb_drop (by assumption) (by walk_at "mine all"));  (case qm => walk_at "mine map"))
set_option hygiene false
local macro_rules | `(tactic| walk_at "call ref") => `(tactic| (k_here; k_dflt ((first | (refine' use (mul_c _ _ _ _ _ _ _ _ _ _) ?k1 ?k2 ?k3 ?k4 ?k5 ?kK ?kd ?ku ?kp ?_; (walk_at "mine kp")) | (refine' use (neg_c _ _ _ _ _ _ _ _) ?k1 ?k2 ?k3 ?k4 ?k5 ?kK ?kd ?ku ?kp ?_; (walk_at "mine kp")) | (refine' use (lover_c _ _ _ _ _ _ _) ?k1 ?k2 ?k3 ?k4 ?k5 ?kK ?kd ?ku ?kp ?_; (walk_at "mine kp"))); (walk_at "mine tl"); (walk_at "mine in"))))
set_option hygiene true
set_option maxHeartbeats 8000000 in
theorem b6 (w : World) (mean : ExcName → Option Value) (mg mb : Str → Option Value) (dp un : Nat) (gd : Option (List Code)) (a : Addr) (ccd : Value) (outer : List Env) (A₀ : Around) (base h₀ : Heap) (L : Addr) (c1 c2 c3 c4 c5 c6 : Addr) (m : Str → Option Value) (s : Shared) (Q : Flow → Shared → Prop) (E : Value → Shared → Prop) (T : List (Addr × Obj)) (rest : List Stmt) (one two : Int) (t1 t2 : Tok) (B : Below A₀ base outer h₀) (X : (hd.heap_39 w.params).In h₀) (Tp : Top hd.view_39 LL mean mg mb h₀) (hdp : dp + 10 < recursionLimit) (hun : un + 100 < cLine) 
    (hb1 : (-2147483648 ≤ one ∧ one ≤ 2147483647)) (hb2 : (-2147483648 ≤ two ∧ two ≤ 2147483647)) (h1 : m (Str.ofString "one") = some (.int one t1)) (h2 : m (Str.ofString "two") = some (.int two t2))  (F : Fr h₀ L s.heap m) (N : News h₀ L s.heap (T))
    (hk : ∀ (m' : Str → Option Value) (h' : Heap) (tk' : Nat) , Same [] m m' → Fr h₀ L h' m' → News h₀ L h' (T) → wpAny (model PySem.Challenge.rw_nu0312_01.row.toRowW.prog w) (lawAr dp un gd L a ccd c1 c2 c3 c4 c5 c6 outer) (execs rest (lawEnv L a ccd c1 c2 c3 c4 c5 c6)) Q E { s with heap := h', toks := tk' }) :
    wpAny (model PySem.Challenge.rw_nu0312_01.row.toRowW.prog w) (lawAr dp un gd L a ccd c1 c2 c3 c4 c5 c6 outer) (execs (lawSt 6 :: rest) (lawEnv L a ccd c1 c2 c3 c4 c5 c6)) Q E s := by
  conv in (lawSt 6) => whnf
  have F1 := (fr_look (x := Str.ofString "one") (fr_look (x := Str.ofString "two") F (by walk_at "mine rd")) (by walk_at "mine rd"))
  clear F
  k_steps
  all_goals ((refine' hk _ _ _ ?qm  ?qF ?qN); (case qF => assumption); (case qN => exact cb_drop (by assumption) (by walk_at "mine all"));  (case qm => walk_at "mine map"))
set_option hygiene false
local macro_rules | `(tactic| walk_at "call ref") => `(tactic| (k_here; k_dflt ((first | (refine' use (fits_c _ _ _ _ _ _ _) ?k1 ?k2 ?k3 ?k4 ?k5 ?kK ?kd ?ku ?kp ?_; (walk_at "mine kp")) | (refine' use (wrap_c _ _ _ _ _ _ _) ?k1 ?k2 ?k3 ?k4 ?k5 ?kK ?kd ?ku ?kp ?_; (walk_at "mine kp")) | (refine' use (lsigned_c _ _ _ _ _ _ _) ?k1 ?k2 ?k3 ?k4 ?k5 ?kK ?kd ?ku ?kp ?_; (walk_at "mine kp")) | (refine' use (lover_c _ _ _ _ _ _ _) ?k1 ?k2 ?k3 ?k4 ?k5 ?kK ?kd ?ku ?kp ?_; (walk_at "mine kp"))); (walk_at "mine tl"); (walk_at "mine in"))))
set_option hygiene true
local macro_rules | `(tactic| walk_at "mine same") => `(tactic| first | rfl | exact fits_ovf _)
set_option maxHeartbeats 8000000 in
theorem b7 (w : World) (mean : ExcName → Option Value) (mg mb : Str → Option Value) (dp un : Nat) (gd : Option (List Code)) (a : Addr) (ccd : Value) (outer : List Env) (A₀ : Around) (base h₀ : Heap) (L : Addr) (c1 c2 c3 c4 c5 c6 : Addr) (m : Str → Option Value) (s : Shared) (Q : Flow → Shared → Prop) (E : Value → Shared → Prop) (T : List (Addr × Obj)) (rest : List Stmt) (one two : Int) (t1 t2 : Tok) (B : Below A₀ base outer h₀) (X : (hd.heap_39 w.params).In h₀) (Tp : Top hd.view_39 LL mean mg mb h₀) (hdp : dp + 10 < recursionLimit) (hun : un + 100 < cLine) 
    (hb1 : (-2147483648 ≤ one ∧ one ≤ 2147483647)) (hb2 : (-2147483648 ≤ two ∧ two ≤ 2147483647)) (h1 : m (Str.ofString "one") = some (.int one t1)) (h2 : m (Str.ofString "two") = some (.int two t2))  (F : Fr h₀ L s.heap m) (N : News h₀ L s.heap (T))
    (hk : ∀ (m' : Str → Option Value) (h' : Heap) (tk' : Nat) , Same [] m m' → Fr h₀ L h' m' → News h₀ L h' (T) → wpAny (model PySem.Challenge.rw_nu0312_01.row.toRowW.prog w) (lawAr dp un gd L a ccd c1 c2 c3 c4 c5 c6 outer) (execs rest (lawEnv L a ccd c1 c2 c3 c4 c5 c6)) Q E { s with heap := h', toks := tk' }) :
    wpAny (model PySem.Challenge.rw_nu0312_01.row.toRowW.prog w) (lawAr dp un gd L a ccd c1 c2 c3 c4 c5 c6 outer) (execs (lawSt 7 :: rest) (lawEnv L a ccd c1 c2 c3 c4 c5 c6)) Q E s := by
  conv in (lawSt 7) => whnf
  have F1 := (fr_look (x := Str.ofString "one") (fr_look (x := Str.ofString "two") F (by walk_at "mine rd")) (by walk_at "mine rd"))
  clear F
  k_steps
  all_goals ((refine' hk _ _ _ ?qm  ?qF ?qN); (case qF => assumption); (case qN => exact cb_drop (by assumption) (by walk_at "mine all"));  (case qm => walk_at "mine map"))
end
section
local macro_rules | `(tactic| walk_at "mine same") => `(tactic| rfl)
set_option hygiene false
local macro_rules | `(tactic| walk_at "call ref") => `(tactic| (k_here; k_dflt ((first | (refine' use (dm_lo _ _ _ _ _ _ _ _ _ _ _) ?k1 ?k2 ?k3 ?k4 ?k5 ?kK ?kd ?ku ?kp ?_; (walk_at "mine kp")) | (refine' use (div_hi _ _ _ _ _ _ _ _ _ _) ?k1 ?k2 ?k3 ?k4 ?k5 ?kK ?kd ?ku ?kp ?_; (walk_at "mine kp")) | (refine' use (mod_hi _ _ _ _ _ _ _ _ _ _) ?k1 ?k2 ?k3 ?k4 ?k5 ?kK ?kd ?ku ?kp ?_; (walk_at "mine kp"))); (walk_at "mine tl"); (walk_at "mine in"))))
set_option hygiene true
local macro_rules | `(tactic| walk_at "mine same") => `(tactic| first | rfl | exact fmod_zero (by omega))
set_option maxHeartbeats 8000000 in
theorem turn8 (w : World) (mean : ExcName → Option Value) (mg mb : Str → Option Value) (dp un : Nat) (gd : Option (List Code)) (a : Addr) (ccd : Value) (outer : List Env) (A₀ : Around) (base h₀ : Heap) (L : Addr) (c1 c2 c3 c4 c5 c6 : Addr) (m : Str → Option Value) (s : Shared) (Q : Flow → Shared → Prop) (E : Value → Shared → Prop) (T : List (Addr × Obj)) (one two : Int) (t1 t2 : Tok) (op : Str) (t : Tok) (o2 : Obj) (v2 : Option Value) (B : Below A₀ base outer h₀) (X : (hd.heap_39 w.params).In h₀) (Tp : Top hd.view_39 LL mean mg mb h₀) (hdp : dp + 10 < recursionLimit) (hun : un + 100 < cLine)
    (hop : op ∈ dmOps) (hb1 : (-2147483648 ≤ one ∧ one ≤ 2147483647)) (hb2 : (-2147483648 ≤ two ∧ two ≤ 2147483647)) (h1 : m (Str.ofString "one") = some (.int one t1)) (h2 : m (Str.ofString "two") = some (.int two t2)) (d2 : o2.data = Data.cell v2) (hT : ∀ p ∈ T, p.1 ≠ c2) (F : Fr h₀ L s.heap m) (N : News h₀ L s.heap ((c2, o2) :: T))
    (hk : ∀ (m' : Str → Option Value) (h' : Heap) (tk' : Nat) (o2' : Obj) (v2' : Option Value), Same [Str.ofString "value", Str.ofString "code"] m m' → o2'.data = Data.cell v2' → Fr h₀ L h' m' → News h₀ L h' ((c2, o2') :: T) → Q .next { s with heap := h', toks := tk' }) :
    wpAny (model PySem.Challenge.rw_nu0312_01.row.toRowW.prog w) (lawAr dp un gd L a ccd c1 c2 c3 c4 c5 c6 outer) (assign (forTarget (lawSt 8)) (lawEnv L a ccd c1 c2 c3 c4 c5 c6) (.str op t)) (fun _ s₂ => wpAny (model PySem.Challenge.rw_nu0312_01.row.toRowW.prog w) (lawAr dp un gd L a ccd c1 c2 c3 c4 c5 c6 outer) (execs (forBody (lawSt 8)) (lawEnv L a ccd c1 c2 c3 c4 c5 c6)) Q E s₂) E s := by
  conv in (forTarget _) => whnf
  conv in (forBody _) => whnf
  have F1 := (fr_look (x := Str.ofString "one") (fr_look (x := Str.ofString "two") F (by walk_at "mine rd")) (by walk_at "mine rd"))
  clear F
  have hlo : two ≤ 0 ∨ 0 < two := by omega
  rcases hlo with hlo | hlo
  · k_steps
    all_goals ((refine' hk _ _ _ _ _ ?qm ?q0 ?qF ?qN); (case qF => assumption); (case qN => exact cb_drop (by assumption) (by walk_at "mine all")); (case q0 => assumption); (case qm => walk_at "mine map"))
  · have hf := fdiv_bounds (x := one) hlo
    have hm := fmod_in (a := one) hlo
    rcases in2 hop with rfl | rfl
    · k_steps
      all_goals ((refine' hk _ _ _ _ _ ?qm ?q0 ?qF ?qN); (case qF => assumption); (case qN => exact cb_drop (by assumption) (by walk_at "mine all")); (case q0 => assumption); (case qm => walk_at "mine map"))
    · k_steps
      all_goals ((refine' hk _ _ _ _ _ ?qm ?q0 ?qF ?qN); (case qF => assumption); (case qN => exact cb_drop (by assumption) (by walk_at "mine all")); (case q0 => assumption); (case qm => walk_at "mine map"))
set_option maxHeartbeats 8000000 in
theorem b8 (w : World) (mean : ExcName → Option Value) (mg mb : Str → Option Value) (dp un : Nat) (gd : Option (List Code)) (a : Addr) (ccd : Value) (outer : List Env) (A₀ : Around) (base h₀ : Heap) (L : Addr) (c1 c2 c3 c4 c5 c6 : Addr) (m : Str → Option Value) (s : Shared) (Q : Flow → Shared → Prop) (E : Value → Shared → Prop) (T : List (Addr × Obj)) (rest : List Stmt) (one two : Int) (t1 t2 : Tok) (o2 : Obj) (v2 : Option Value) (B : Below A₀ base outer h₀) (X : (hd.heap_39 w.params).In h₀) (Tp : Top hd.view_39 LL mean mg mb h₀) (hdp : dp + 10 < recursionLimit) (hun : un + 100 < cLine) (hE : PassesOwn (model PySem.Challenge.rw_nu0312_01.row.toRowW.prog w) (lawAr dp un gd L a ccd c1 c2 c3 c4 c5 c6 outer) (lawEnv L a ccd c1 c2 c3 c4 c5 c6) E)
    (hb1 : (-2147483648 ≤ one ∧ one ≤ 2147483647)) (hb2 : (-2147483648 ≤ two ∧ two ≤ 2147483647)) (h1 : m (Str.ofString "one") = some (.int one t1)) (h2 : m (Str.ofString "two") = some (.int two t2)) (d2 : o2.data = Data.cell v2) (hT : ∀ p ∈ T, p.1 ≠ c2) (F : Fr h₀ L s.heap m) (N : News h₀ L s.heap ((c2, o2) :: T))
    (hk : ∀ (m' : Str → Option Value) (h' : Heap) (tk' : Nat) (o2' : Obj) (v2' : Option Value), Same [Str.ofString "value", Str.ofString "code"] m m' → o2'.data = Data.cell v2' → Fr h₀ L h' m' → News h₀ L h' ((c2, o2') :: T) → wpAny (model PySem.Challenge.rw_nu0312_01.row.toRowW.prog w) (lawAr dp un gd L a ccd c1 c2 c3 c4 c5 c6 outer) (execs rest (lawEnv L a ccd c1 c2 c3 c4 c5 c6)) Q E { s with heap := h', toks := tk' }) :
    wpAny (model PySem.Challenge.rw_nu0312_01.row.toRowW.prog w) (lawAr dp un gd L a ccd c1 c2 c3 c4 c5 c6 outer) (execs (lawSt 8 :: rest) (lawEnv L a ccd c1 c2 c3 c4 c5 c6)) Q E s := by
  refine for_strs w mean mg mb dp un gd a ccd outer A₀ base h₀ L c1 c2 c3 c4 c5 c6 m s Q E T rest (lawSt 8) dmOps [Str.ofString "value", Str.ofString "code"] o2 v2 rfl (fun _ => rfl) hE d2 hT F N ?_ ?_ hk
  · intro Q' hQ
    conv in (forIter _) => whnf
    k_steps
    all_goals ((refine' hQ _ _ _ _ _ ?qa ?qb ?qc ?qd); (case qb => assumption); (case qc => assumption); (case qa => walk_at "mine strs"); (case qd => (rename _ ∧ AllLt _ _ => hz; exact Nat.ne_of_gt hz.1)))
  · intro Q' T' op t m₁ o v s₁ hop hs hTT hd hT' F₁ N₁ hk'
    exact turn8 w mean mg mb dp un gd a ccd outer A₀ base h₀ L c1 c2 c3 c4 c5 c6 m₁ s₁ Q' E T' one two t1 t2 op t o v B X Tp hdp hun hop hb1 hb2 ((hs _ (by decide +kernel)).trans h1) ((hs _ (by decide +kernel)).trans h2) hd hT' F₁ N₁ hk'
end
section
local macro_rules | `(tactic| walk_at "mine apart") => `(tactic| skip)
local macro_rules | `(tactic| walk_at "mine same") => `(tactic| rfl)
set_option hygiene false
local macro_rules | `(tactic| walk_at "call ref") => `(tactic| (k_here; k_dflt ((first | (refine' use (lbits_c _ _ _ _ _ _ _) ?k1 ?k2 ?k3 ?k4 ?k5 ?kK ?kd ?ku ?kp ?_; (walk_at "mine kp")) | (refine' use (lword_c _ _ _ _ _ _ _ _ _) ?k1 ?k2 ?k3 ?k4 ?k5 ?kK ?kd ?ku ?kp ?_; (case k4 => k_asm); (case kp => (refine ⟨?kpa, ?kpb, ?kpc, ?kpd⟩; (case kpa => k_mem); (case kpb => l_ints); (case kpc => exact bitsL_length _); (case kpd => exact bitsL_01 _))))); (walk_at "mine tl"); (first | (with_reducible intro D9 vs9 n9 h9 tk9 I9 F9 N9 l9) | (intro t9 h9 tk9 F9 N9)); (try dsimp only); (try simp only [LCg.Off1, and_true] at l9); (try k_fold); (try k_sweep))))
set_option hygiene true
local macro_rules | `(tactic| walk_at "mine val") => `(tactic| first | exact if_pos rfl | (refine (if_neg (by decide +kernel)).trans ?_; walk_at "mine val"))
set_option maxHeartbeats 8000000 in
theorem b10 (w : World) (mean : ExcName → Option Value) (mg mb : Str → Option Value) (dp un : Nat) (gd : Option (List Code)) (a : Addr) (ccd : Value) (outer : List Env) (A₀ : Around) (base h₀ : Heap) (L : Addr) (c1 c2 c3 c4 c5 c6 : Addr) (m : Str → Option Value) (s : Shared) (Q : Flow → Shared → Prop) (E : Value → Shared → Prop) (T : List (Addr × Obj)) (rest : List Stmt) (one two : Int) (t1 t2 : Tok) (o3 o4 : Obj) (v3 v4 : Option Value) (B : Below A₀ base outer h₀) (X : (hd.heap_39 w.params).In h₀) (Tp : Top hd.view_39 LL mean mg mb h₀) (hdp : dp + 10 < recursionLimit) (hun : un + 100 < cLine) 
    (h1 : m (Str.ofString "one") = some (.int one t1)) (h2 : m (Str.ofString "two") = some (.int two t2)) (d3 : o3.data = Data.cell v3) (d4 : o4.data = Data.cell v4) (h34 : @LT.lt Nat _ c3 c4) (hT3 : ∀ p ∈ T, p.1 ≠ c3) (hT4 : ∀ p ∈ T, p.1 ≠ c4) (F : Fr h₀ L s.heap m) (N : News h₀ L s.heap ((c3, o3) :: (c4, o4) :: T))
    (hk : ∀ (m' : Str → Option Value) (h' : Heap) (tk' : Nat) (o3' o4' : Obj) (ul vl : Addr) (us vs : List Value) (nu nv : Nat) (t4 t5 : Tok), Same [Str.ofString "x", Str.ofString "y"] m m' → o3'.data = Data.cell (some (.ref ul)) → o4'.data = Data.cell (some (.ref vl)) → IntsAre us (bitsL one) → IntsAre vs (bitsL two) → m' (Str.ofString "x") = some (.int (wordL (bitsL one)) t4) → m' (Str.ofString "y") = some (.int (wordL (bitsL two)) t5) → (∀ p ∈ T, p.1 ≠ ul) → (∀ p ∈ T, p.1 ≠ vl) → Fr h₀ L h' m' → News h₀ L h' ((c3, o3') :: (c4, o4') :: (ul, PySem.W.listOf us.toArray nu) :: (vl, PySem.W.listOf vs.toArray nv) :: T) → wpAny (model PySem.Challenge.rw_nu0312_01.row.toRowW.prog w) (lawAr dp un gd L a ccd c1 c2 c3 c4 c5 c6 outer) (execs rest (lawEnv L a ccd c1 c2 c3 c4 c5 c6)) Q E { s with heap := h', toks := tk' }) :
    wpAny (model PySem.Challenge.rw_nu0312_01.row.toRowW.prog w) (lawAr dp un gd L a ccd c1 c2 c3 c4 c5 c6 outer) (execs (lawSt 10 :: lawSt 11 :: rest) (lawEnv L a ccd c1 c2 c3 c4 c5 c6)) Q E s := by
  conv in (lawSt 10) => whnf
  conv in (lawSt 11) => whnf
  have F1 := (fr_look (x := Str.ofString "one") (fr_look (x := Str.ofString "two") F (by walk_at "mine rd")) (by walk_at "mine rd"))
  clear F
  k_steps
  refine' hk _ _ _ _ _ _ _ _ _ _ _ _ _ ?qm ?q0 ?q1 ?q2 ?q3 ?q4 ?q5 ?q6 ?q7 ?qF (cb_drop ?qA (List.forall_mem_cons.mpr ⟨?r1, List.forall_mem_cons.mpr ⟨?r2, ?r3⟩⟩))
  case qF => assumption
  case qA => assumption
  case r1 => walk_at "mine mem"
  case r2 => walk_at "mine mem"
  case q0 => assumption
  case q1 => assumption
  case r3 => walk_at "mine all"
  case q2 => assumption
  case q3 => assumption
  case q4 => walk_at "mine val"
  case q5 => walk_at "mine val"
  case q6 => k_all
  case q7 => k_all
  case qm => walk_at "mine map"
end
section
local macro_rules | `(tactic| walk_at "mine same") => `(tactic| rfl)
set_option maxHeartbeats 8000000 in
theorem b12 (w : World) (mean : ExcName → Option Value) (mg mb : Str → Option Value) (dp un : Nat) (gd : Option (List Code)) (a : Addr) (ccd : Value) (outer : List Env) (A₀ : Around) (base h₀ : Heap) (L : Addr) (c1 c2 c3 c4 c5 c6 : Addr) (m : Str → Option Value) (s : Shared) (Q : Flow → Shared → Prop) (E : Value → Shared → Prop) (T : List (Addr × Obj)) (rest : List Stmt) (o2 o5 : Obj) (v5 : Option Value) (B : Below A₀ base outer h₀) (X : (hd.heap_39 w.params).In h₀) (Tp : Top hd.view_39 LL mean mg mb h₀) (hdp : dp + 10 < recursionLimit) (hun : un + 100 < cLine) 
    (d5 : o5.data = Data.cell v5) (h25 : @LT.lt Nat _ c2 c5) (hT : ∀ p ∈ T, p.1 ≠ c2) (hT5 : ∀ p ∈ T, p.1 ≠ c5) (F : Fr h₀ L s.heap m) (N : News h₀ L s.heap ((c2, o2) :: (c5, o5) :: T))
    (hk : ∀ (m' : Str → Option Value) (h' : Heap) (tk' : Nat) (o5' od : Obj) (td tl1 tl2 tl3 tl4 : Addr) (w1 w2 w3 w4 : List Value) (n1 n2 n3 n4 : Nat), Same [] m m' → o5'.data = Data.cell (some (.ref td)) → od.IsDictOf (PySem.strKind PySem.Challenge.rw_nu0312_01.row.toRowW.prog w) [(Str.ofString "s+", Value.ref tl1), (Str.ofString "s*", Value.ref tl2), (Str.ofString "s-", Value.ref tl3), (Str.ofString "s/", Value.ref tl4)] → (td == sysModules) = false → IntsAre w1 [0, 1, 1, 1] → IntsAre w2 [0, 0, 0, 1] → IntsAre w3 [0, 0, 1, 0] → IntsAre w4 [0, 1, 1, 0] → (@LT.lt Nat _ c2 td ∧ @LT.lt Nat _ td tl1 ∧ @LT.lt Nat _ tl1 tl2 ∧ @LT.lt Nat _ tl2 tl3 ∧ @LT.lt Nat _ tl3 tl4) → Fr h₀ L h' m' → News h₀ L h' ((c2, o2) :: (c5, o5') :: (td, od) :: (tl1, PySem.W.listOf w1.toArray n1) :: (tl2, PySem.W.listOf w2.toArray n2) :: (tl3, PySem.W.listOf w3.toArray n3) :: (tl4, PySem.W.listOf w4.toArray n4) :: T) → wpAny (model PySem.Challenge.rw_nu0312_01.row.toRowW.prog w) (lawAr dp un gd L a ccd c1 c2 c3 c4 c5 c6 outer) (execs rest (lawEnv L a ccd c1 c2 c3 c4 c5 c6)) Q E { s with heap := h', toks := tk' }) :
    wpAny (model PySem.Challenge.rw_nu0312_01.row.toRowW.prog w) (lawAr dp un gd L a ccd c1 c2 c3 c4 c5 c6 outer) (execs (lawSt 12 :: rest) (lawEnv L a ccd c1 c2 c3 c4 c5 c6)) Q E s := by
  conv in (lawSt 12) => whnf
  have F1 := F
  clear F
  k_steps
  refine' hk _ _ _ _ _ _ _ _ _ _ _ _ _ _ _ _ _ _ ?qm ?q0 ?q1 ?q2 ?i1 ?i2 ?i3 ?i4 ?lt ?qF ?qN
  case q0 => assumption
  case q1 => assumption
  case q2 => assumption
  case qF => assumption
  case qN => exact cb_drop (by assumption) (by walk_at "mine all")
  case i1 => l_ints
  case i2 => l_ints
  case i3 => l_ints
  case i4 => l_ints
  case lt => omega
  case qm => walk_at "mine map"
end
section
local macro_rules | `(tactic| walk_at "mine same") => `(tactic| rfl)

def tbOps : List Str := [Str.ofString "s+", Str.ofString "s*", Str.ofString "s-", Str.ofString "s/"]
def tabOf (op : Str) : List Int := if op = Str.ofString "s+" then [0, 1, 1, 1] else if op = Str.ofString "s*" then [0, 0, 0, 1] else if op = Str.ofString "s-" then [0, 0, 1, 0] else [0, 1, 1, 0]
def setv (op : Str) (x y : Int) : Int := if op = Str.ofString "s+" then Builtin.bitOr x y else if op = Str.ofString "s*" then Builtin.bitAnd x y else if op = Str.ofString "s-" then Builtin.bitAnd x (Builtin.bitXor y 4294967295) else Builtin.bitXor x y
theorem in4 {a b c d op : Str} (h : op ∈ [a, b, c, d]) : op = a ∨ op = b ∨ op = c ∨ op = d := by simpa using h
def dueL (tab bu bv : List Int) : List Int := (rangeKs 0 32).map fun k => tab.getD (2 * bu.getD k.toNat 0 + bv.getD k.toNat 0).toNat 0
theorem getD_range (f : Int → Int) {k : Nat} (hk : k < 32) : ((rangeKs 0 32).map f).getD k 0 = f k := by
  unfold rangeKs
  simp [List.getD, hk]
theorem tab_len {op : Str} (h : op ∈ tbOps) : (tabOf op).length = 4 := by
  rcases in4 h with rfl | rfl | rfl | rfl <;> decide +kernel
theorem hLen4 {op : Str} (h : op ∈ tbOps) : (((tabOf op).length : Nat) : Int) = 4 := by rw [tab_len h]; rfl
theorem tab_01 {op : Str} (h : op ∈ tbOps) : A01 (tabOf op) := by
  rcases in4 h with rfl | rfl | rfl | rfl <;> decide +kernel
theorem tab_at {bu bv : List Int} (hu : A01 bu) (hv : A01 bv) (i j : Nat) : 0 ≤ 2 * bu.getD i 0 + bv.getD j 0 ∧ 2 * bu.getD i 0 + bv.getD j 0 < 4 := by
  have h1 := get01 (j := i) hu
  have h2 := get01 (j := j) hv
  omega
theorem due_01 {tab bu bv : List Int} (ht : A01 tab) : A01 (dueL tab bu bv) := fun x hx => by
  obtain ⟨k, _, rfl⟩ := List.mem_map.1 hx
  exact get01 ht
theorem due_len (tab bu bv : List Int) : (dueL tab bu bv).length = 32 := by simp [dueL, rangeKs_length]
theorem set_eq {op : Str} {bu bv : List Int} (h : op ∈ tbOps) (hu : A01 bu) (hv : A01 bv) : setv op (wordL bu) (wordL bv) = wordL (dueL (tabOf op) bu bv) := by
  rcases in4 h with rfl | rfl | rfl | rfl
  · exact (word_or hu hv).trans (word_tab (f := fun a b => a || b) hu hv (by decide +kernel) (fun k hk => getD_range _ hk)).symm
  · exact (word_and hu hv).trans (word_tab (f := fun a b => a && b) hu hv (by decide +kernel) (fun k hk => getD_range _ hk)).symm
  · exact (word_diff hu hv).trans (word_tab (f := fun a b => a && !b) hu hv (by decide +kernel) (fun k hk => getD_range _ hk)).symm
  · exact (word_xor hu hv).trans (word_tab (f := fun a b => a ^^ b) hu hv (by decide +kernel) (fun k hk => getD_range _ hk)).symm
theorem word64 {l : List Int} (h : A01 l) : -4294967295 ≤ wordL l ∧ wordL l ≤ 4294967295 := ⟨Int.le_trans (by decide) (word_lt l h).1, (word_lt l h).2⟩
theorem set_c (w : World) (mean : ExcName → Option Value) (mg mb : Str → Option Value) (news : List (Addr × Obj)) (op : Str) (x y : Int) (t u v : Tok) :
    Claim w mean mg mb 4 40 56 [.str op t, .int x u, .int y v] news (op ∈ tbOps ∧ (-4294967295 ≤ x ∧ x ≤ 4294967295) ∧ (-4294967295 ≤ y ∧ y ≤ 4294967295)) (RTup news (setv op x y) (Str.ofString "")) := by
  unfold Claim
  intro _ _ _ _ _ _ _ _ _ _ _ _ _ _ _ _ _ k1 k2 k3 k4 k5 kK kd ku hp hret
  obtain ⟨hop, hp⟩ := hp
  rcases in4 hop with rfl | rfl | rfl | rfl
  · exact use (sor_c w mean mg mb news x y t u v) k1 k2 k3 k4 k5 kK kd ku hp hret
  · exact use (sand_c w mean mg mb news x y t u v) k1 k2 k3 k4 k5 kK kd ku hp hret
  · exact use (sdiff_c w mean mg mb news x y t u v) k1 k2 k3 k4 k5 kK kd ku hp hret
  · exact use (sxor_c w mean mg mb news x y t u v) k1 k2 k3 k4 k5 kK kd ku hp hret
set_option hygiene false
local macro_rules | `(tactic| walk_at "call ref") => `(tactic| (k_here; k_dflt ((first | (refine' use (set_c _ _ _ _ _ _ _ _ _ _ _) ?k1 ?k2 ?k3 ?k4 ?k5 ?kK ?kd ?ku ?kp ?_; (case k4 => k_asm); (case kp => exact ⟨by assumption, word64 (by assumption), word64 (by assumption)⟩)) | (refine' use (lword_c _ _ _ _ _ _ _ _ _) ?k1 ?k2 ?k3 ?k4 ?k5 ?kK ?kd ?ku ?kp ?_; (case k4 => k_asm); (case kp => (refine ⟨?kpa, ?kpb, ?kpc, ?kpd⟩; (case kpa => k_mem); (case kpb => l_ints); (case kpc => walk_at "mine len32"); (case kpd => walk_at "mine bits01"))))); (walk_at "mine tl"); (walk_at "mine in"))))
set_option hygiene true
local macro_rules | `(tactic| k_mem) => `(tactic| assumption)
local macro_rules | `(tactic| walk_at "mine same") => `(tactic| first | rfl | exact set_eq (by assumption) (by assumption) (by assumption))
local macro_rules | `(tactic| walk_at "mine len32") => `(tactic| exact due_len _ _ _)
local macro_rules | `(tactic| walk_at "mine bits01") => `(tactic| exact due_01 (tab_01 (by assumption)))
local macro_rules | `(tactic| walk_at "subscriptTail") => `(tactic| (k_here; (with_reducible show wpAny _ _ (subscriptTail _ _ (Value.ref _) (Value.int (2 * _ + _) _)) _ _ _); k_dflt ((refine' item_list_ints ?k1 ?k2 ?k3 ?k4 ?k5 ?_); (case k1 => exact News.isList (by k_asm) (by k_mem)); (case k2 => assumption); (case k3 => exact (tab_at (by assumption) (by assumption) _ _).1); (case k4 => rw [hLen4 (by assumption)]; exact (tab_at (by assumption) (by assumption) _ _).2); (case k5 => exact Int.lt_trans (tab_at (by assumption) (by assumption) _ _).2 (by decide))); intro _))
local macro_rules | `(tactic| walk_at "subscriptTail Name Name ref str") => `(tactic| (k_here; (with_reducible show wpAny _ _ (subscriptTail _ _ (Value.ref _) (Value.str _ _)) _ _ _); k_dflt (refine kdt_tail (knd := PySem.strKind _ _) (by k_asm) (by k_mem) (by assumption) (kdt_getItem (knd := PySem.strKind _ _) (by k_asm) (by k_mem) (by assumption) (strKind_is _ _ _ _) (by assumption) ?_))))
set_option maxHeartbeats 8000000 in
theorem turn13 (w : World) (mean : ExcName → Option Value) (mg mb : Str → Option Value) (dp un : Nat) (gd : Option (List Code)) (a : Addr) (ccd : Value) (outer : List Env) (A₀ : Around) (base h₀ : Heap) (L : Addr) (c1 c2 c3 c4 c5 c6 : Addr) (m : Str → Option Value) (s : Shared) (Q : Flow → Shared → Prop) (E : Value → Shared → Prop) (T : List (Addr × Obj)) (x y : Int) (t4 t5 : Tok) (o3 o4 o5 od : Obj) (ul vl td tl : Addr) (us vs ws : List Value) (nu nv nt : Nat) (bu bv : List Int) (kvs : List (Str × Value)) (op : Str) (t : Tok) (o2 : Obj) (v2 : Option Value) (B : Below A₀ base outer h₀) (X : (hd.heap_39 w.params).In h₀) (Tp : Top hd.view_39 LL mean mg mb h₀) (hdp : dp + 10 < recursionLimit) (hun : un + 100 < cLine)
    (hop : op ∈ tbOps) (hx : m (Str.ofString "x") = some (.int x t4)) (hy : m (Str.ofString "y") = some (.int y t5)) (ex : x = wordL bu) (ey : y = wordL bv)
    (hAu : A01 bu) (hAv : A01 bv) (hLu : bu.length = 32) (hLv : bv.length = 32) (hIu : IntsAre us bu) (hIv : IntsAre vs bv)
    (g3 : (c3, o3) ∈ T) (d3 : o3.data = Data.cell (some (.ref ul))) (g4 : (c4, o4) ∈ T) (d4 : o4.data = Data.cell (some (.ref vl))) (g5 : (c5, o5) ∈ T) (d5 : o5.data = Data.cell (some (.ref td)))
    (gu : (ul, PySem.W.listOf us.toArray nu) ∈ T) (gv : (vl, PySem.W.listOf vs.toArray nv) ∈ T) (gd' : (td, od) ∈ T) (dd : od.IsDictOf (PySem.strKind PySem.Challenge.rw_nu0312_01.row.toRowW.prog w) kvs)
    (kv : valueAt kvs op = some (.ref tl)) (gt : (tl, PySem.W.listOf ws.toArray nt) ∈ T) (hIt : IntsAre ws (tabOf op)) (d2 : o2.data = Data.cell v2) (hT : ∀ p ∈ T, p.1 ≠ c2) (F : Fr h₀ L s.heap m) (N : News h₀ L s.heap ((c2, o2) :: T))
    (hk : ∀ (m' : Str → Option Value) (h' : Heap) (tk' : Nat) (o2' : Obj) (v2' : Option Value), Same [Str.ofString "due"] m m' → o2'.data = Data.cell v2' → Fr h₀ L h' m' → News h₀ L h' ((c2, o2') :: T) → Q .next { s with heap := h', toks := tk' }) :
    wpAny (model PySem.Challenge.rw_nu0312_01.row.toRowW.prog w) (lawAr dp un gd L a ccd c1 c2 c3 c4 c5 c6 outer) (assign (forTarget (lawSt 13)) (lawEnv L a ccd c1 c2 c3 c4 c5 c6) (.str op t)) (fun _ s₂ => wpAny (model PySem.Challenge.rw_nu0312_01.row.toRowW.prog w) (lawAr dp un gd L a ccd c1 c2 c3 c4 c5 c6 outer) (execs (forBody (lawSt 13)) (lawEnv L a ccd c1 c2 c3 c4 c5 c6)) Q E s₂) E s := by
  conv in (forTarget _) => whnf
  conv in (forBody _) => whnf
  have F1 := (fr_look (x := Str.ofString "x") (fr_look (x := Str.ofString "y") F (by walk_at "mine rd")) (by walk_at "mine rd"))
  clear F
  subst ex ey
  have hL4 := tab_len hop
  k_steps
  all_goals ((refine' hk _ _ _ _ _ ?qm ?q0 ?qF ?qN); (case qF => assumption); (case qN => exact cb_drop (by assumption) (by walk_at "mine all")); (case q0 => assumption); (case qm => walk_at "mine map"))
set_option maxHeartbeats 8000000 in
theorem b13 (w : World) (mean : ExcName → Option Value) (mg mb : Str → Option Value) (dp un : Nat) (gd : Option (List Code)) (a : Addr) (ccd : Value) (outer : List Env) (A₀ : Around) (base h₀ : Heap) (L : Addr) (c1 c2 c3 c4 c5 c6 : Addr) (m : Str → Option Value) (s : Shared) (Q : Flow → Shared → Prop) (E : Value → Shared → Prop) (T : List (Addr × Obj)) (rest : List Stmt) (x y : Int) (t4 t5 : Tok) (o3 o4 o5 od : Obj) (ul vl td : Addr) (us vs : List Value) (nu nv : Nat) (bu bv : List Int) (kvs : List (Str × Value)) (o2 : Obj) (v2 : Option Value) (B : Below A₀ base outer h₀) (X : (hd.heap_39 w.params).In h₀) (Tp : Top hd.view_39 LL mean mg mb h₀) (hdp : dp + 10 < recursionLimit) (hun : un + 100 < cLine) (hE : PassesOwn (model PySem.Challenge.rw_nu0312_01.row.toRowW.prog w) (lawAr dp un gd L a ccd c1 c2 c3 c4 c5 c6 outer) (lawEnv L a ccd c1 c2 c3 c4 c5 c6) E)
    (hx : m (Str.ofString "x") = some (.int x t4)) (hy : m (Str.ofString "y") = some (.int y t5)) (ex : x = wordL bu) (ey : y = wordL bv)
    (hAu : A01 bu) (hAv : A01 bv) (hLu : bu.length = 32) (hLv : bv.length = 32) (hIu : IntsAre us bu) (hIv : IntsAre vs bv)
    (g3 : (c3, o3) ∈ T) (d3 : o3.data = Data.cell (some (.ref ul))) (g4 : (c4, o4) ∈ T) (d4 : o4.data = Data.cell (some (.ref vl))) (g5 : (c5, o5) ∈ T) (d5 : o5.data = Data.cell (some (.ref td)))
    (gu : (ul, PySem.W.listOf us.toArray nu) ∈ T) (gv : (vl, PySem.W.listOf vs.toArray nv) ∈ T) (gd' : (td, od) ∈ T) (dd : od.IsDictOf (PySem.strKind PySem.Challenge.rw_nu0312_01.row.toRowW.prog w) kvs)
    (hTab : ∀ op ∈ tbOps, ∃ (tl : Addr) (ws : List Value) (nt : Nat), valueAt kvs op = some (.ref tl) ∧ (tl, PySem.W.listOf ws.toArray nt) ∈ T ∧ IntsAre ws (tabOf op)) (hKeys : ∀ kv ∈ kvs, kv.1 ∈ tbOps) (lw : (td == sysModules) = false) (d2 : o2.data = Data.cell v2) (hT : ∀ p ∈ T, p.1 ≠ c2) (F : Fr h₀ L s.heap m) (N : News h₀ L s.heap ((c2, o2) :: T))
    (hk : ∀ (m' : Str → Option Value) (h' : Heap) (tk' : Nat) (o2' : Obj) (v2' : Option Value), Same [Str.ofString "due"] m m' → o2'.data = Data.cell v2' → Fr h₀ L h' m' → News h₀ L h' ((c2, o2') :: T) → wpAny (model PySem.Challenge.rw_nu0312_01.row.toRowW.prog w) (lawAr dp un gd L a ccd c1 c2 c3 c4 c5 c6 outer) (execs rest (lawEnv L a ccd c1 c2 c3 c4 c5 c6)) Q E { s with heap := h', toks := tk' }) :
    wpAny (model PySem.Challenge.rw_nu0312_01.row.toRowW.prog w) (lawAr dp un gd L a ccd c1 c2 c3 c4 c5 c6 outer) (execs (lawSt 13 :: rest) (lawEnv L a ccd c1 c2 c3 c4 c5 c6)) Q E s := by
  rw [show lawSt 13 = .For (forTarget (lawSt 13)) (forIter (lawSt 13)) (forBody (lawSt 13)) [] (forPos (lawSt 13)) from rfl]
  refine wpAny_execs_cons ?_
  with_reducible refine' For_turns F ?_ ?hs hE
  case hs => exact fun _ => rfl
  conv in (forIter _) => whnf
  refine nameX_C N rfl (.tail _ g5) d5 ?_
  refine iter_keys (s := s) (cs₀ := [(c2, o2)]) (T := T) (kvs := kvs) (knd := PySem.strKind PySem.Challenge.rw_nu0312_01.row.toRowW.prog w) rfl F N gd' ?_ dd lw
    (fun _ m' cs => Same [Str.ofString "due"] m m' ∧ ∃ (o : Obj) (v : Option Value), cs = [(c2, o)] ∧ o.data = Data.cell v) ?_ ⟨same_refl, o2, v2, rfl, d2⟩ ?_ ?_
  · intro p hp q hq
    rw [List.mem_singleton.mp hq]
    exact hT p hp
  · rintro i m' cs ⟨_, o, v, rfl, _⟩
    rfl
  · rintro i v m₁ cs₁ T' h₁ tk₁ ⟨op, xx, hv, hop'⟩ ⟨hs, o, v', rfl, hd⟩ hTT hoff F₁ N₁
    obtain ⟨t, rfl⟩ := Value.isStrOf_shape hop'
    have hop := hKeys _ (List.mem_of_getElem? hv)
    obtain ⟨tl, ws, nt, kv, gt, hIt⟩ := hTab op hop
    refine turn13 w mean mg mb dp un gd a ccd outer A₀ base h₀ L c1 c2 c3 c4 c5 c6 m₁ { s with heap := h₁, toks := tk₁ } _ E T' x y t4 t5 o3 o4 o5 od ul vl td tl us vs ws nu nv nt bu bv kvs op t o v' B X Tp hdp hun hop ((hs _ (by decide +kernel)).trans hx) ((hs _ (by decide +kernel)).trans hy) ex ey hAu hAv hLu hLv hIu hIv (hTT _ g3) d3 (hTT _ g4) d4 (hTT _ g5) d5 (hTT _ gu) (hTT _ gv) (hTT _ gd') dd kv (hTT _ gt) hIt hd (fun p hp => hoff p hp _ (.head _)) F₁ N₁ ?_
    intro m'' h'' tk'' o'' v'' hs'' hd'' F'' N''
    exact ⟨h'', tk'', m'', [(c2, o'')], rfl, F'', N'', same_again hs hs'', o'', v'', rfl, hd''⟩
  · rintro h'' tk'' m'' cs'' F'' N'' ⟨hs'', o'', v'', rfl, hd''⟩
    exact hk m'' h'' tk'' o'' v'' hs'' hd'' F'' N''
end
section
local macro_rules | `(tactic| walk_at "mine same") => `(tactic| rfl)
local macro_rules | `(tactic| k_mem) => `(tactic| assumption)

theorem foldl_app {P : Int → Prop} [DecidablePred P] : ∀ (ks : List Int) (l : List Int), ks.foldl (fun l k => if P k then l ++ [k] else l) l = [] ↔ l = [] ∧ ∀ k ∈ ks, ¬ P k
  | [], l => by simp
  | k :: r, l => by
    rw [List.foldl_cons, foldl_app r]
    by_cases h : P k
    · simp [h]
    · simp [h]
theorem none_iff {f g : List Int} : decide ((rangeKs 0 (32 - 0 : Int).toNat).foldl (fun l k => if f.getD k.toNat 0 < g.getD k.toNat 0 then l ++ [k] else l) [] = []) = true ↔ ∀ k : Nat, k < 32 → ¬ (f.getD k 0 < g.getD k 0) := by
  rw [decide_eq_true_eq, foldl_app]
  constructor
  · rintro ⟨_, h⟩ k hk
    exact h (k : Int) (by unfold rangeKs; exact List.mem_map.2 ⟨k, List.mem_range.2 hk, by omega⟩)
  · intro h
    refine ⟨rfl, fun k hk => ?_⟩
    have := mem_rangeKs hk
    exact h k.toNat (by have e : ((32 - 0 : Int).toNat : Int) = 32 := by decide
                        omega)
theorem sub_t {b : Bool} {u v : List Int} (h : b = true ↔ ∀ k : Nat, k < 32 → ¬ (v.getD k 0 < u.getD k 0)) (hu : A01 u) (hv : A01 v) (e : b = true) : (if Builtin.bitAnd (wordL u) (Builtin.bitXor (wordL v) 4294967295) = 0 then (1 : Int) else 0) = 1 := if_pos ((word_sub hu hv).2 (h.1 e))
theorem sub_f {b : Bool} {u v : List Int} (h : b = true ↔ ∀ k : Nat, k < 32 → ¬ (v.getD k 0 < u.getD k 0)) (hu : A01 u) (hv : A01 v) (e : ¬ b = true) : (if Builtin.bitAnd (wordL u) (Builtin.bitXor (wordL v) 4294967295) = 0 then (1 : Int) else 0) = 0 := if_neg fun x => e (h.2 ((word_sub hu hv).1 x))
theorem sub_f' {b : Bool} {u v : List Int} (h : b = true ↔ ∀ k : Nat, k < 32 → ¬ (v.getD k 0 < u.getD k 0)) (hu : A01 u) (hv : A01 v) (e : b = false) : (if Builtin.bitAnd (wordL u) (Builtin.bitXor (wordL v) 4294967295) = 0 then (1 : Int) else 0) = 0 := sub_f h hu hv (by rw [e]; decide)
local macro_rules | `(tactic| walk_at "CompEnd") => `(tactic| (k_here; k_dflt ((refine' LCg.CompEnd.intro (by assumption) (by assumption) ?nw ?sub ?off ?hS ?_); (case off => assumption); (case sub => walk_at "mine all"); (case hS => exact True.intro))))
set_option maxHeartbeats 8000000 in
theorem b14 (w : World) (mean : ExcName → Option Value) (mg mb : Str → Option Value) (dp un : Nat) (gd : Option (List Code)) (a : Addr) (ccd : Value) (outer : List Env) (A₀ : Around) (base h₀ : Heap) (L : Addr) (c1 c2 c3 c4 c5 c6 : Addr) (m : Str → Option Value) (s : Shared) (Q : Flow → Shared → Prop) (E : Value → Shared → Prop) (T : List (Addr × Obj)) (rest : List Stmt) (o3 o4 : Obj) (ul vl : Addr) (us vs : List Value) (nu nv : Nat) (bu bv : List Int) (B : Below A₀ base outer h₀) (X : (hd.heap_39 w.params).In h₀) (Tp : Top hd.view_39 LL mean mg mb h₀) (hdp : dp + 10 < recursionLimit) (hun : un + 100 < cLine) 
    (hLu : bu.length = 32) (hLv : bv.length = 32) (hIu : IntsAre us bu) (hIv : IntsAre vs bv)
    (g3 : (c3, o3) ∈ T) (d3 : o3.data = Data.cell (some (.ref ul))) (g4 : (c4, o4) ∈ T) (d4 : o4.data = Data.cell (some (.ref vl)))
    (gu : (ul, PySem.W.listOf us.toArray nu) ∈ T) (gv : (vl, PySem.W.listOf vs.toArray nv) ∈ T)  (F : Fr h₀ L s.heap m) (N : News h₀ L s.heap (T))
    (hk : ∀ (m' : Str → Option Value) (h' : Heap) (tk' : Nat) (ins : Bool), Same [Str.ofString "inside"] m m' → m' (Str.ofString "inside") = some (.bool ins) → (ins = true ↔ ∀ k : Nat, k < 32 → ¬ (bv.getD k 0 < bu.getD k 0)) → Fr h₀ L h' m' → News h₀ L h' (T) → wpAny (model PySem.Challenge.rw_nu0312_01.row.toRowW.prog w) (lawAr dp un gd L a ccd c1 c2 c3 c4 c5 c6 outer) (execs rest (lawEnv L a ccd c1 c2 c3 c4 c5 c6)) Q E { s with heap := h', toks := tk' }) :
    wpAny (model PySem.Challenge.rw_nu0312_01.row.toRowW.prog w) (lawAr dp un gd L a ccd c1 c2 c3 c4 c5 c6 outer) (execs (lawSt 14 :: rest) (lawEnv L a ccd c1 c2 c3 c4 c5 c6)) Q E s := by
  conv in (lawSt 14) => whnf
  have F1 := F
  clear F
  k_steps
  all_goals ((refine' hk _ _ _ _ ?qm ?q0 ?q1 ?qF ?qN); (case qF => assumption); (case qN => exact cb_drop (by assumption) (by walk_at "mine all")); (case q0 => exact if_pos rfl); (case q1 => exact none_iff); (case qm => walk_at "mine map"))
set_option maxHeartbeats 8000000 in
theorem b15 (w : World) (mean : ExcName → Option Value) (mg mb : Str → Option Value) (dp un : Nat) (gd : Option (List Code)) (a : Addr) (ccd : Value) (outer : List Env) (A₀ : Around) (base h₀ : Heap) (L : Addr) (c1 c2 c3 c4 c5 c6 : Addr) (m : Str → Option Value) (s : Shared) (Q : Flow → Shared → Prop) (E : Value → Shared → Prop) (T : List (Addr × Obj)) (rest : List Stmt) (o3 o4 : Obj) (ul vl : Addr) (us vs : List Value) (nu nv : Nat) (bu bv : List Int) (B : Below A₀ base outer h₀) (X : (hd.heap_39 w.params).In h₀) (Tp : Top hd.view_39 LL mean mg mb h₀) (hdp : dp + 10 < recursionLimit) (hun : un + 100 < cLine) 
    (hLu : bu.length = 32) (hLv : bv.length = 32) (hIu : IntsAre us bu) (hIv : IntsAre vs bv)
    (g3 : (c3, o3) ∈ T) (d3 : o3.data = Data.cell (some (.ref ul))) (g4 : (c4, o4) ∈ T) (d4 : o4.data = Data.cell (some (.ref vl)))
    (gu : (ul, PySem.W.listOf us.toArray nu) ∈ T) (gv : (vl, PySem.W.listOf vs.toArray nv) ∈ T)  (F : Fr h₀ L s.heap m) (N : News h₀ L s.heap (T))
    (hk : ∀ (m' : Str → Option Value) (h' : Heap) (tk' : Nat) (ins : Bool), Same [Str.ofString "beyond"] m m' → m' (Str.ofString "beyond") = some (.bool ins) → (ins = true ↔ ∀ k : Nat, k < 32 → ¬ (bu.getD k 0 < bv.getD k 0)) → Fr h₀ L h' m' → News h₀ L h' (T) → wpAny (model PySem.Challenge.rw_nu0312_01.row.toRowW.prog w) (lawAr dp un gd L a ccd c1 c2 c3 c4 c5 c6 outer) (execs rest (lawEnv L a ccd c1 c2 c3 c4 c5 c6)) Q E { s with heap := h', toks := tk' }) :
    wpAny (model PySem.Challenge.rw_nu0312_01.row.toRowW.prog w) (lawAr dp un gd L a ccd c1 c2 c3 c4 c5 c6 outer) (execs (lawSt 15 :: rest) (lawEnv L a ccd c1 c2 c3 c4 c5 c6)) Q E s := by
  conv in (lawSt 15) => whnf
  have F1 := F
  clear F
  k_steps
  all_goals ((refine' hk _ _ _ _ ?qm ?q0 ?q1 ?qF ?qN); (case qF => assumption); (case qN => exact cb_drop (by assumption) (by walk_at "mine all")); (case q0 => exact if_pos rfl); (case q1 => exact none_iff); (case qm => walk_at "mine map"))
set_option hygiene false
local macro_rules | `(tactic| walk_at "call ref") => `(tactic| (k_here; k_dflt ((first | (refine' use (rsub_c _ _ _ _ _ _ _ _ _ _ _) ?k1 ?k2 ?k3 ?k4 ?k5 ?kK ?kd ?ku ?kp ?_; (walk_at "mine kp")) | (refine' use (rsup_c _ _ _ _ _ _ _ _ _ _ _) ?k1 ?k2 ?k3 ?k4 ?k5 ?kK ?kd ?ku ?kp ?_; (walk_at "mine kp"))); (walk_at "mine tl"); (walk_at "mine in"))))
set_option hygiene true
local macro_rules | `(tactic| walk_at "mine same") => `(tactic| first | rfl | exact sub_t (by assumption) (by assumption) (by assumption) (by assumption) | exact sub_f (by assumption) (by assumption) (by assumption) (by assumption) | exact sub_f' (by assumption) (by assumption) (by assumption) (by assumption))
set_option maxHeartbeats 8000000 in
theorem b16 (w : World) (mean : ExcName → Option Value) (mg mb : Str → Option Value) (dp un : Nat) (gd : Option (List Code)) (a : Addr) (ccd : Value) (outer : List Env) (A₀ : Around) (base h₀ : Heap) (L : Addr) (c1 c2 c3 c4 c5 c6 : Addr) (m : Str → Option Value) (s : Shared) (Q : Flow → Shared → Prop) (E : Value → Shared → Prop) (T : List (Addr × Obj)) (rest : List Stmt) (x y : Int) (t4 t5 : Tok) (bu bv : List Int) (ins bey : Bool) (B : Below A₀ base outer h₀) (X : (hd.heap_39 w.params).In h₀) (Tp : Top hd.view_39 LL mean mg mb h₀) (hdp : dp + 10 < recursionLimit) (hun : un + 100 < cLine) 
    (hx : m (Str.ofString "x") = some (.int x t4)) (hy : m (Str.ofString "y") = some (.int y t5)) (ex : x = wordL bu) (ey : y = wordL bv) (hAu : A01 bu) (hAv : A01 bv)
    (hi : m (Str.ofString "inside") = some (.bool ins)) (hb : m (Str.ofString "beyond") = some (.bool bey)) (ei : ins = true ↔ ∀ k : Nat, k < 32 → ¬ (bv.getD k 0 < bu.getD k 0)) (eb : bey = true ↔ ∀ k : Nat, k < 32 → ¬ (bu.getD k 0 < bv.getD k 0))  (F : Fr h₀ L s.heap m) (N : News h₀ L s.heap (T))
    (hk : ∀ (m' : Str → Option Value) (h' : Heap) (tk' : Nat) , Same [] m m' → Fr h₀ L h' m' → News h₀ L h' (T) → wpAny (model PySem.Challenge.rw_nu0312_01.row.toRowW.prog w) (lawAr dp un gd L a ccd c1 c2 c3 c4 c5 c6 outer) (execs rest (lawEnv L a ccd c1 c2 c3 c4 c5 c6)) Q E { s with heap := h', toks := tk' }) :
    wpAny (model PySem.Challenge.rw_nu0312_01.row.toRowW.prog w) (lawAr dp un gd L a ccd c1 c2 c3 c4 c5 c6 outer) (execs (lawSt 16 :: rest) (lawEnv L a ccd c1 c2 c3 c4 c5 c6)) Q E s := by
  conv in (lawSt 16) => whnf
  have F1 := (fr_look (x := Str.ofString "x") (fr_look (x := Str.ofString "y") (fr_look (x := Str.ofString "inside") (fr_look (x := Str.ofString "beyond") F (by walk_at "mine rd")) (by walk_at "mine rd")) (by walk_at "mine rd")) (by walk_at "mine rd"))
  clear F
  subst ex ey
  k_steps
  all_goals ((refine' hk _ _ _ ?qm  ?qF ?qN); (case qF => assumption); (case qN => exact cb_drop (by assumption) (by walk_at "mine all"));  (case qm => walk_at "mine map"))
end
section
local macro_rules | `(tactic| walk_at "mine apart") => `(tactic| skip)
local macro_rules | `(tactic| walk_at "mine same") => `(tactic| rfl)
set_option hygiene false
local macro_rules | `(tactic| walk_at "call ref") => `(tactic| (k_here; k_dflt ((first | (refine' use (comp_c _ _ _ _ _ _ _ _) ?k1 ?k2 ?k3 ?k4 ?k5 ?kK ?kd ?ku ?kp ?_; (walk_at "mine kp"))); (walk_at "mine tl"); (walk_at "mine in"))))
set_option hygiene true
local macro_rules | `(tactic| walk_at "binaryOp Pow int int") => `(tactic| (k_here; k_dflt ((refine' pow_int_small ?kb1 ?kb2 ?kb3 ?_); (case kb1 => decide); (case kb2 => decide); (case kb3 => decide))))
local macro_rules | `(tactic| walk_at "mine same") => `(tactic| first | rfl | (rw [p32]; omega))
set_option maxHeartbeats 8000000 in
theorem b17 (w : World) (mean : ExcName → Option Value) (mg mb : Str → Option Value) (dp un : Nat) (gd : Option (List Code)) (a : Addr) (ccd : Value) (outer : List Env) (A₀ : Around) (base h₀ : Heap) (L : Addr) (c1 c2 c3 c4 c5 c6 : Addr) (m : Str → Option Value) (s : Shared) (Q : Flow → Shared → Prop) (E : Value → Shared → Prop) (T : List (Addr × Obj)) (rest : List Stmt) (x : Int) (t4 : Tok) (bu : List Int) (B : Below A₀ base outer h₀) (X : (hd.heap_39 w.params).In h₀) (Tp : Top hd.view_39 LL mean mg mb h₀) (hdp : dp + 10 < recursionLimit) (hun : un + 100 < cLine) 
    (hx : m (Str.ofString "x") = some (.int x t4)) (ex : x = wordL bu) (hAu : A01 bu)  (F : Fr h₀ L s.heap m) (N : News h₀ L s.heap (T))
    (hk : ∀ (m' : Str → Option Value) (h' : Heap) (tk' : Nat) , Same [] m m' → Fr h₀ L h' m' → News h₀ L h' (T) → wpAny (model PySem.Challenge.rw_nu0312_01.row.toRowW.prog w) (lawAr dp un gd L a ccd c1 c2 c3 c4 c5 c6 outer) (execs rest (lawEnv L a ccd c1 c2 c3 c4 c5 c6)) Q E { s with heap := h', toks := tk' }) :
    wpAny (model PySem.Challenge.rw_nu0312_01.row.toRowW.prog w) (lawAr dp un gd L a ccd c1 c2 c3 c4 c5 c6 outer) (execs (lawSt 17 :: rest) (lawEnv L a ccd c1 c2 c3 c4 c5 c6)) Q E s := by
  conv in (lawSt 17) => whnf
  have F1 := (fr_look (x := Str.ofString "x") F (by walk_at "mine rd"))
  clear F
  have hb := word_lt bu hAu
  rw [← ex] at hb
  k_steps
  all_goals ((refine' hk _ _ _ ?qm  ?qF ?qN); (case qF => assumption); (case qN => exact cb_drop (by assumption) (by walk_at "mine all"));  (case qm => walk_at "mine map"))
set_option hygiene false
local macro_rules | `(tactic| walk_at "call ref") => `(tactic| (k_here; k_dflt ((first | (refine' use (rin_lo _ _ _ _ _ _ _ _ _ _ _) ?k1 ?k2 ?k3 ?k4 ?k5 ?kK ?kd ?ku ?kp ?_; (walk_at "mine kp")) | (refine' use (rin_hi _ _ _ _ _ _ _ _ _ _ _) ?k1 ?k2 ?k3 ?k4 ?k5 ?kK ?kd ?ku ?kp ?_; (walk_at "mine kp"))); (walk_at "mine tl"); (walk_at "mine in"))))
set_option hygiene true
local macro_rules | `(tactic| k_mem) => `(tactic| assumption)
local macro_rules | `(tactic| walk_at "mine same") => `(tactic| first | rfl | exact word_at (by assumption) (by assumption))
set_option maxHeartbeats 8000000 in
theorem b18 (w : World) (mean : ExcName → Option Value) (mg mb : Str → Option Value) (dp un : Nat) (gd : Option (List Code)) (a : Addr) (ccd : Value) (outer : List Env) (A₀ : Around) (base h₀ : Heap) (L : Addr) (c1 c2 c3 c4 c5 c6 : Addr) (m : Str → Option Value) (s : Shared) (Q : Flow → Shared → Prop) (E : Value → Shared → Prop) (T : List (Addr × Obj)) (rest : List Stmt) (x count : Int) (t3 t4 : Tok) (bu : List Int) (o3 : Obj) (ul : Addr) (us : List Value) (nu : Nat) (B : Below A₀ base outer h₀) (X : (hd.heap_39 w.params).In h₀) (Tp : Top hd.view_39 LL mean mg mb h₀) (hdp : dp + 10 < recursionLimit) (hun : un + 100 < cLine) 
    (hx : m (Str.ofString "x") = some (.int x t4)) (h3 : m (Str.ofString "count") = some (.int count t3)) (ex : x = wordL bu) (hAu : A01 bu) (hLu : bu.length = 32) (hIu : IntsAre us bu)
    (g3 : (c3, o3) ∈ T) (d3 : o3.data = Data.cell (some (.ref ul))) (gu : (ul, PySem.W.listOf us.toArray nu) ∈ T)  (F : Fr h₀ L s.heap m) (N : News h₀ L s.heap (T))
    (hk : ∀ (m' : Str → Option Value) (h' : Heap) (tk' : Nat) , Same [Str.ofString "value", Str.ofString "code"] m m' → Fr h₀ L h' m' → News h₀ L h' (T) → wpAny (model PySem.Challenge.rw_nu0312_01.row.toRowW.prog w) (lawAr dp un gd L a ccd c1 c2 c3 c4 c5 c6 outer) (execs rest (lawEnv L a ccd c1 c2 c3 c4 c5 c6)) Q E { s with heap := h', toks := tk' }) :
    wpAny (model PySem.Challenge.rw_nu0312_01.row.toRowW.prog w) (lawAr dp un gd L a ccd c1 c2 c3 c4 c5 c6 outer) (execs (lawSt 18 :: lawSt 19 :: rest) (lawEnv L a ccd c1 c2 c3 c4 c5 c6)) Q E s := by
  conv in (lawSt 18) => whnf
  conv in (lawSt 19) => whnf
  have F1 := (fr_look (x := Str.ofString "count") (fr_look (x := Str.ofString "x") F (by walk_at "mine rd")) (by walk_at "mine rd"))
  clear F
  subst ex
  have hlo : (count < 0 ∨ 31 < count) ∨ (0 ≤ count ∧ count ≤ 31) := by omega
  rcases hlo with hlo | hlo
  all_goals k_steps
  all_goals ((refine' hk _ _ _ ?qm  ?qF ?qN); (case qF => assumption); (case qN => exact cb_drop (by assumption) (by walk_at "mine all"));  (case qm => walk_at "mine map"))
end
section
local macro_rules | `(tactic| walk_at "mine same") => `(tactic| rfl)

theorem item_strs {prog : Program} {w : World} {A : Around} {E : Value → Shared → Prop} {s : Shared} {value slice : Expr} {l : Addr} {vs : List Value} {ops : List Str} {k : Int} {u : Tok} {Q : Value → Shared → Prop} (hl : s.heap.IsList l vs.toArray) (hs : StrsIn vs ops)
    (h0 : 0 ≤ k) (h1 : k < 7) (hn : vs.length = 7) (h : ∀ op t, op ∈ ops → Q (.str op t) s)
    (hss : subscripted slice false (.ref l) (.int k u) = operate [.ref l, .int k u] (getItem (.ref l) (.int k u)) := by with_unfolding_all rfl) (hg : ∀ r, letTemporaryGo value (.ref l) r = pure () := by intro _; with_unfolding_all rfl) :
    wpAny (model prog w) A (subscriptTail value slice (.ref l) (.int k u)) Q E s := by
  have hk : k.toNat < vs.length := by omega
  have hx : vs[k.toNat]? = some vs[k.toNat] := List.getElem?_eq_getElem hk
  obtain ⟨op, t, e, hop⟩ := hs _ (List.getElem_mem hk)
  rw [e] at hx
  exact item_list hl h0 (by omega) (by simpa using hx) (h op t hop) hss hg
local macro_rules | `(tactic| walk_at "mine strs") => `(tactic| first | exact strs_nil | (refine strs_cons (by first | k_mem | decide +kernel) ?_; walk_at "mine strs"))
set_option maxHeartbeats 8000000 in
theorem b20 (w : World) (mean : ExcName → Option Value) (mg mb : Str → Option Value) (dp un : Nat) (gd : Option (List Code)) (a : Addr) (ccd : Value) (outer : List Env) (A₀ : Around) (base h₀ : Heap) (L : Addr) (c1 c2 c3 c4 c5 c6 : Addr) (m : Str → Option Value) (s : Shared) (Q : Flow → Shared → Prop) (E : Value → Shared → Prop) (T : List (Addr × Obj)) (rest : List Stmt)  (B : Below A₀ base outer h₀) (X : (hd.heap_39 w.params).In h₀) (Tp : Top hd.view_39 LL mean mg mb h₀) (hdp : dp + 10 < recursionLimit) (hun : un + 100 < cLine) 
      (F : Fr h₀ L s.heap m) (N : News h₀ L s.heap (T))
    (hk : ∀ (m' : Str → Option Value) (h' : Heap) (tk' : Nat) (tx : Addr) (ws : List Value) (nt : Nat), Same [Str.ofString "texts"] m m' → m' (Str.ofString "texts") = some (.ref tx) → StrsIn ws texts → ws.length = 7 → (∀ p ∈ T, @LT.lt Nat _ p.1 tx) → Fr h₀ L h' m' → News h₀ L h' ((tx, PySem.W.listOf ws.toArray nt) :: T) → wpAny (model PySem.Challenge.rw_nu0312_01.row.toRowW.prog w) (lawAr dp un gd L a ccd c1 c2 c3 c4 c5 c6 outer) (execs rest (lawEnv L a ccd c1 c2 c3 c4 c5 c6)) Q E { s with heap := h', toks := tk' }) :
    wpAny (model PySem.Challenge.rw_nu0312_01.row.toRowW.prog w) (lawAr dp un gd L a ccd c1 c2 c3 c4 c5 c6 outer) (execs (lawSt 20 :: rest) (lawEnv L a ccd c1 c2 c3 c4 c5 c6)) Q E s := by
  conv in (lawSt 20) => whnf
  have F1 := F
  clear F
  k_steps
  all_goals ((refine' hk _ _ _ _ _ _ ?qm ?q0 ?q1 ?q2 ?q3 ?qF ?qN); (case qF => assumption); (case q0 => exact if_pos rfl); (case qN => exact cb_drop (by assumption) (by walk_at "mine all")); (case q1 => walk_at "mine strs"); (case q2 => rfl); (case q3 => assumption); (case qm => walk_at "mine map"))
set_option hygiene false
local macro_rules | `(tactic| walk_at "call ref") => `(tactic| (k_here; k_dflt ((refine' use (pick_c _ _ _ _ _ _ _ _ _ _ _ _ _ _ _ _ _ _) ?k1 ?k2 ?k3 ?k4 ?k5 ?kK ?kd ?ku ?kp ?_); (case k4 => k_asm); (case kp => (refine ⟨?kpu, ?kpm, ?kpn, ?kpi, ?kpl, ?kpb, ?kpx, ?kpy, ?kpz⟩; (case kpm => k_mem); (case kpn => k_mem); (case kpi => l_ints); (case kpl => assumption); (case kpu => (intro o9; k_upd)); (case kpb => decide); (case kpx => assumption); (case kpy => assumption); (case kpz => assumption))); (walk_at "mine tl"); (intro r9 t9 i9 x9 u9 v9 h9 tk9 a9 b9 c9 d9 e9 F9 N9); (try dsimp only); (try dsimp only at N9); (try k_fold); (try k_sweep))))
set_option hygiene true
local macro_rules | `(tactic| k_mem) => `(tactic| assumption)
local macro_rules | `(tactic| walk_at "subscriptTail Name Call ref int") => `(tactic| (k_here; (with_reducible show wpAny _ _ (subscriptTail _ _ (Value.ref _) (Value.int _ _)) _ _ _); k_dflt ((refine' item_strs ?k1 ?k2 ?k3 ?k4 ?k5 ?_); (case k1 => exact News.isList (by k_asm) (by k_mem)); (case k2 => assumption); (case k3 => assumption); (case k4 => assumption); (case k5 => assumption)); intro _ _ _))
set_option maxHeartbeats 8000000 in
theorem b21 (w : World) (mean : ExcName → Option Value) (mg mb : Str → Option Value) (dp un : Nat) (gd : Option (List Code)) (a : Addr) (ccd : Value) (outer : List Env) (A₀ : Around) (base h₀ : Heap) (L : Addr) (c1 c2 c3 c4 c5 c6 : Addr) (m : Str → Option Value) (s : Shared) (Q : Flow → Shared → Prop) (E : Value → Shared → Prop) (T : List (Addr × Obj)) (rest : List Stmt) (tx pl fl : Addr) (ws fs : List Value) (nt np nf : Nat) (gs : List Int) (idx mix : Int) (p1 p2 : Tok) (o1 : Obj) (B : Below A₀ base outer h₀) (X : (hd.heap_39 w.params).In h₀) (Tp : Top hd.view_39 LL mean mg mb h₀) (hdp : dp + 10 < recursionLimit) (hun : un + 100 < cLine) 
    (htx : m (Str.ofString "texts") = some (.ref tx)) (hws : StrsIn ws texts) (hwl : ws.length = 7) (gx : (tx, PySem.W.listOf ws.toArray nt) ∈ T) (g1 : (c1, o1) ∈ T) (d1 : o1.data = Data.cell (some (.ref pl))) (gf : (fl, PySem.W.listOf fs.toArray nf) ∈ T) (hIf : IntsAre fs gs) (hgl : gs.length < 1000) (hi0 : 0 ≤ idx) (hx0 : 0 ≤ mix) (hx1 : mix < 1009) (hT : ∀ p ∈ T, p.1 ≠ pl) (F : Fr h₀ L s.heap m) (N : News h₀ L s.heap ((pl, poolO fl idx p1 mix p2 np) :: T))
    (hk : ∀ (m' : Str → Option Value) (h' : Heap) (tk' : Nat) (idx' mix' : Int) (p1' p2' : Tok) (l : Str) (t : Tok), Same [Str.ofString "left"] m m' → m' (Str.ofString "left") = some (.str l t) → l ∈ texts → 0 ≤ idx' → 0 ≤ mix' → mix' < 1009 → Fr h₀ L h' m' → News h₀ L h' ((pl, poolO fl idx' p1' mix' p2' np) :: T) → wpAny (model PySem.Challenge.rw_nu0312_01.row.toRowW.prog w) (lawAr dp un gd L a ccd c1 c2 c3 c4 c5 c6 outer) (execs rest (lawEnv L a ccd c1 c2 c3 c4 c5 c6)) Q E { s with heap := h', toks := tk' }) :
    wpAny (model PySem.Challenge.rw_nu0312_01.row.toRowW.prog w) (lawAr dp un gd L a ccd c1 c2 c3 c4 c5 c6 outer) (execs (lawSt 21 :: rest) (lawEnv L a ccd c1 c2 c3 c4 c5 c6)) Q E s := by
  conv in (lawSt 21) => whnf
  have F1 := (fr_look (x := Str.ofString "texts") F (by walk_at "mine rd"))
  clear F
  k_steps
  all_goals ((refine' hk _ _ _ _ _ _ _ _ _ ?qm ?q0 ?q1 ?q2 ?q3 ?q4 ?qF ?qN); (case qF => assumption); (case q0 => exact if_pos rfl); (case qN => exact cb_drop (by assumption) (by walk_at "mine all")); (case q1 => assumption); (case q2 => assumption); (case q3 => assumption); (case q4 => assumption); (case qm => walk_at "mine map"))
set_option maxHeartbeats 8000000 in
theorem b22 (w : World) (mean : ExcName → Option Value) (mg mb : Str → Option Value) (dp un : Nat) (gd : Option (List Code)) (a : Addr) (ccd : Value) (outer : List Env) (A₀ : Around) (base h₀ : Heap) (L : Addr) (c1 c2 c3 c4 c5 c6 : Addr) (m : Str → Option Value) (s : Shared) (Q : Flow → Shared → Prop) (E : Value → Shared → Prop) (T : List (Addr × Obj)) (rest : List Stmt) (tx pl fl : Addr) (ws fs : List Value) (nt np nf : Nat) (gs : List Int) (idx mix : Int) (p1 p2 : Tok) (o1 : Obj) (B : Below A₀ base outer h₀) (X : (hd.heap_39 w.params).In h₀) (Tp : Top hd.view_39 LL mean mg mb h₀) (hdp : dp + 10 < recursionLimit) (hun : un + 100 < cLine) 
    (htx : m (Str.ofString "texts") = some (.ref tx)) (hws : StrsIn ws texts) (hwl : ws.length = 7) (gx : (tx, PySem.W.listOf ws.toArray nt) ∈ T) (g1 : (c1, o1) ∈ T) (d1 : o1.data = Data.cell (some (.ref pl))) (gf : (fl, PySem.W.listOf fs.toArray nf) ∈ T) (hIf : IntsAre fs gs) (hgl : gs.length < 1000) (hi0 : 0 ≤ idx) (hx0 : 0 ≤ mix) (hx1 : mix < 1009) (hT : ∀ p ∈ T, p.1 ≠ pl) (F : Fr h₀ L s.heap m) (N : News h₀ L s.heap ((pl, poolO fl idx p1 mix p2 np) :: T))
    (hk : ∀ (m' : Str → Option Value) (h' : Heap) (tk' : Nat) (idx' mix' : Int) (p1' p2' : Tok) (l : Str) (t : Tok), Same [Str.ofString "right"] m m' → m' (Str.ofString "right") = some (.str l t) → l ∈ texts → 0 ≤ idx' → 0 ≤ mix' → mix' < 1009 → Fr h₀ L h' m' → News h₀ L h' ((pl, poolO fl idx' p1' mix' p2' np) :: T) → wpAny (model PySem.Challenge.rw_nu0312_01.row.toRowW.prog w) (lawAr dp un gd L a ccd c1 c2 c3 c4 c5 c6 outer) (execs rest (lawEnv L a ccd c1 c2 c3 c4 c5 c6)) Q E { s with heap := h', toks := tk' }) :
    wpAny (model PySem.Challenge.rw_nu0312_01.row.toRowW.prog w) (lawAr dp un gd L a ccd c1 c2 c3 c4 c5 c6 outer) (execs (lawSt 22 :: rest) (lawEnv L a ccd c1 c2 c3 c4 c5 c6)) Q E s := by
  conv in (lawSt 22) => whnf
  have F1 := (fr_look (x := Str.ofString "texts") F (by walk_at "mine rd"))
  clear F
  k_steps
  all_goals ((refine' hk _ _ _ _ _ _ _ _ _ ?qm ?q0 ?q1 ?q2 ?q3 ?q4 ?qF ?qN); (case qF => assumption); (case q0 => exact if_pos rfl); (case qN => exact cb_drop (by assumption) (by walk_at "mine all")); (case q1 => assumption); (case q2 => assumption); (case q3 => assumption); (case q4 => assumption); (case qm => walk_at "mine map"))

theorem txt_len {l : Str} (h : l ∈ texts) : l.length ≤ 3 := by
  revert l
  decide +kernel
set_option hygiene false
local macro_rules | `(tactic| walk_at "call ref") => `(tactic| (k_here; k_dflt ((first | (refine' use (lord_c _ _ _ _ _ _ _ _ _) ?k1 ?k2 ?k3 ?k4 ?k5 ?kK ?kd ?ku ?kp ?_; (case k4 => k_asm); (case kp => exact ⟨txt_len (by assumption), txt_len (by assumption)⟩))); (walk_at "mine tl"); (walk_at "mine in"))))
set_option hygiene true
set_option maxHeartbeats 8000000 in
theorem b23 (w : World) (mean : ExcName → Option Value) (mg mb : Str → Option Value) (dp un : Nat) (gd : Option (List Code)) (a : Addr) (ccd : Value) (outer : List Env) (A₀ : Around) (base h₀ : Heap) (L : Addr) (c1 c2 c3 c4 c5 c6 : Addr) (m : Str → Option Value) (s : Shared) (Q : Flow → Shared → Prop) (E : Value → Shared → Prop) (T : List (Addr × Obj)) (rest : List Stmt) (l r : Str) (tl tr : Tok) (B : Below A₀ base outer h₀) (X : (hd.heap_39 w.params).In h₀) (Tp : Top hd.view_39 LL mean mg mb h₀) (hdp : dp + 10 < recursionLimit) (hun : un + 100 < cLine) 
    (hl : m (Str.ofString "left") = some (.str l tl)) (hr : m (Str.ofString "right") = some (.str r tr)) (il : l ∈ texts) (ir : r ∈ texts)  (F : Fr h₀ L s.heap m) (N : News h₀ L s.heap (T))
    (hk : ∀ (m' : Str → Option Value) (h' : Heap) (tk' : Nat) (t : Tok), Same [Str.ofString "sign"] m m' → m' (Str.ofString "sign") = some (.int (lord l r) t) → Fr h₀ L h' m' → News h₀ L h' (T) → wpAny (model PySem.Challenge.rw_nu0312_01.row.toRowW.prog w) (lawAr dp un gd L a ccd c1 c2 c3 c4 c5 c6 outer) (execs rest (lawEnv L a ccd c1 c2 c3 c4 c5 c6)) Q E { s with heap := h', toks := tk' }) :
    wpAny (model PySem.Challenge.rw_nu0312_01.row.toRowW.prog w) (lawAr dp un gd L a ccd c1 c2 c3 c4 c5 c6 outer) (execs (lawSt 23 :: rest) (lawEnv L a ccd c1 c2 c3 c4 c5 c6)) Q E s := by
  conv in (lawSt 23) => whnf
  have F1 := (fr_look (x := Str.ofString "left") (fr_look (x := Str.ofString "right") F (by walk_at "mine rd")) (by walk_at "mine rd"))
  clear F
  k_steps
  all_goals ((refine' hk _ _ _ _ ?qm ?q0 ?qF ?qN); (case qF => assumption); (case q0 => exact if_pos rfl); (case qN => exact cb_drop (by assumption) (by walk_at "mine all")); (case qm => walk_at "mine map"))

theorem far_eq (one two : Int) : b2i (decide (two < one)) - b2i (decide (one < two)) = ordI one two := by
  unfold ordI
  by_cases h1 : one = two
  · subst h1; simp [b2i]
  · by_cases h2 : one < two
    · have h3 : ¬ two < one := by omega
      simp [h1, h2, h3, b2i]
    · have h3 : two < one := by omega
      simp [h1, h2, h3, b2i]
theorem far_some {one two : Int} {t : Tok} : some (Value.int (b2i (decide (two < one)) - b2i (decide (one < two))) t) = some (Value.int (ordI one two) t) := by rw [far_eq]
set_option maxHeartbeats 8000000 in
theorem b24 (w : World) (mean : ExcName → Option Value) (mg mb : Str → Option Value) (dp un : Nat) (gd : Option (List Code)) (a : Addr) (ccd : Value) (outer : List Env) (A₀ : Around) (base h₀ : Heap) (L : Addr) (c1 c2 c3 c4 c5 c6 : Addr) (m : Str → Option Value) (s : Shared) (Q : Flow → Shared → Prop) (E : Value → Shared → Prop) (T : List (Addr × Obj)) (rest : List Stmt) (one two : Int) (t1 t2 : Tok) (B : Below A₀ base outer h₀) (X : (hd.heap_39 w.params).In h₀) (Tp : Top hd.view_39 LL mean mg mb h₀) (hdp : dp + 10 < recursionLimit) (hun : un + 100 < cLine) 
    (h1 : m (Str.ofString "one") = some (.int one t1)) (h2 : m (Str.ofString "two") = some (.int two t2))  (F : Fr h₀ L s.heap m) (N : News h₀ L s.heap (T))
    (hk : ∀ (m' : Str → Option Value) (h' : Heap) (tk' : Nat) (t : Tok), Same [Str.ofString "far"] m m' → m' (Str.ofString "far") = some (.int (ordI one two) t) → Fr h₀ L h' m' → News h₀ L h' (T) → wpAny (model PySem.Challenge.rw_nu0312_01.row.toRowW.prog w) (lawAr dp un gd L a ccd c1 c2 c3 c4 c5 c6 outer) (execs rest (lawEnv L a ccd c1 c2 c3 c4 c5 c6)) Q E { s with heap := h', toks := tk' }) :
    wpAny (model PySem.Challenge.rw_nu0312_01.row.toRowW.prog w) (lawAr dp un gd L a ccd c1 c2 c3 c4 c5 c6 outer) (execs (lawSt 24 :: rest) (lawEnv L a ccd c1 c2 c3 c4 c5 c6)) Q E s := by
  conv in (lawSt 24) => whnf
  have F1 := (fr_look (x := Str.ofString "one") (fr_look (x := Str.ofString "two") F (by walk_at "mine rd")) (by walk_at "mine rd"))
  clear F
  k_steps
  all_goals ((refine' hk _ _ _ _ ?qm ?q0 ?qF ?qN); (case qF => assumption); (case q0 => (refine (if_pos rfl).trans ?_; rw [far_eq])); (case qN => exact cb_drop (by assumption) (by walk_at "mine all")); (case qm => walk_at "mine map"))
end
section
local macro_rules | `(tactic| walk_at "mine apart") => `(tactic| skip)
local macro_rules | `(tactic| walk_at "mine same") => `(tactic| rfl)

def truthv (op : Str) (g : Int) : Bool := if op = Str.ofString "=" then g == 0 else if op = Str.ofString "#" then g != 0 else if op = Str.ofString "<" then decide (g < 0) else if op = Str.ofString "<=" then decide (g < 1) else if op = Str.ofString ">" then decide (0 < g) else decide (-1 < g)
theorem truth_at {op : Str} {g : Int} (h : op ∈ rlOps) : valueAt ([(Str.ofString "=", .bool (g == 0)), (Str.ofString "#", .bool (g != 0)), (Str.ofString "<", .bool (decide (g < 0))), (Str.ofString "<=", .bool (decide (g < 1))), (Str.ofString ">", .bool (decide (0 < g))), (Str.ofString ">=", .bool (decide (-1 < g)))] : List (Str × Value)) op = some (.bool (truthv op g)) := by
  rcases in6 h with rfl | rfl | rfl | rfl | rfl | rfl <;> rfl
theorem truth_rel {op : Str} (h : op ∈ rlOps) (g : Int) : relB op g = truthv op g := by
  rcases in6 h with rfl | rfl | rfl | rfl | rfl | rfl
  · rfl
  · rfl
  · rfl
  · show decide (g ≤ 0) = decide (g < 1)
    exact decide_eq_decide.mpr Int.lt_add_one_iff.symm
  · rfl
  · show decide (0 ≤ g) = decide (-1 < g)
    exact decide_eq_decide.mpr Iff.rfl
theorem rel_truth {op : Str} (h : op ∈ rlOps) (g : Int) : relv op g = if truthv op g = true then 1 else 0 := by
  unfold relv; rw [truth_rel h]
theorem sign_all : ∀ l ∈ texts, ∀ r ∈ texts, ordS l r = lord l r := by decide +kernel
theorem rel_1 {op : Str} {g : Int} (h : op ∈ rlOps) (e : truthv op g = true) : relv op g = 1 := by rw [rel_truth h, if_pos e]
theorem rel_0 {op : Str} {g : Int} (h : op ∈ rlOps) (e : truthv op g = false) : relv op g = 0 := by rw [rel_truth h, if_neg (by rw [e]; decide)]
theorem rel_t1 {op l r : Str} (hl : l ∈ texts) (hr : r ∈ texts) (h : op ∈ rlOps) (e : truthv op (lord l r) = true) : relv op (ordS l r) = 1 := by rw [sign_all l hl r hr]; exact rel_1 h e
theorem rel_t0 {op l r : Str} (hl : l ∈ texts) (hr : r ∈ texts) (h : op ∈ rlOps) (e : truthv op (lord l r) = false) : relv op (ordS l r) = 0 := by rw [sign_all l hl r hr]; exact rel_0 h e
set_option hygiene false
local macro_rules | `(tactic| walk_at "call ref") => `(tactic| (k_here; k_dflt ((first | (refine' use (rn_c _ _ _ _ _ _ _ _ _ _ _ _) ?k1 ?k2 ?k3 ?k4 ?k5 ?kK ?kd ?ku ?kp ?_; (walk_at "mine kp")) | (refine' use (rt_c _ _ _ _ _ _ _ _ _ _ _ _) ?k1 ?k2 ?k3 ?k4 ?k5 ?kK ?kd ?ku ?kp ?_; (case k4 => k_asm); (case kp => exact ⟨by assumption, by assumption, by assumption⟩))); (walk_at "mine tl"); (walk_at "mine in"))))
set_option hygiene true
local macro_rules | `(tactic| walk_at "call ref") => `(tactic| (k_here; k_dflt ((refine' use (truths_c _ _ _ _ _ _ _) ?k1 ?k2 ?k3 ?k4 ?k5 ?kK ?kd ?ku ?kp ?_); (case k4 => k_asm); (case kp => exact True.intro); (case k1 => k_asm); (case k2 => k_asm); (case k3 => k_asm); (case k5 => k_asm); (case kK => exact rfl); (case kd => ktr_room); (case ku => ktr_units); (intro D9 o9 h9 tk9 F9 N9 l9 lo9 hd9 hf9); (try dsimp only); (try simp only [LCg.Off1, and_true] at l9); (try k_fold); (try k_sweep))))
local macro_rules | `(tactic| walk_at "subscriptTail") => `(tactic| (k_here; (with_reducible show wpAny _ _ (subscriptTail (PySem.Expr.Call _ _ _ _) _ (Value.ref _) (Value.str _ _)) _ _ _); k_dflt (refine kdt_tail (knd := PySem.strKind _ _) (by k_asm) (by k_mem) (by assumption) (kdt_getItem (knd := PySem.strKind _ _) (by k_asm) (by k_mem) (by assumption) (strKind_is _ _ _ _) (truth_at (by assumption)) ?_))))
local macro_rules | `(tactic| walk_at "mine same") => `(tactic| first | rfl | exact rel_1 (by assumption) (by assumption) | exact rel_0 (by assumption) (by assumption) | exact rel_t1 (by assumption) (by assumption) (by assumption) (by assumption) | exact rel_t0 (by assumption) (by assumption) (by assumption) (by assumption))
set_option maxHeartbeats 8000000 in
theorem turn25 (w : World) (mean : ExcName → Option Value) (mg mb : Str → Option Value) (dp un : Nat) (gd : Option (List Code)) (a : Addr) (ccd : Value) (outer : List Env) (A₀ : Around) (base h₀ : Heap) (L : Addr) (c1 c2 c3 c4 c5 c6 : Addr) (m : Str → Option Value) (s : Shared) (Q : Flow → Shared → Prop) (E : Value → Shared → Prop) (T : List (Addr × Obj)) (one two : Int) (t1 t2 : Tok) (l r : Str) (tl tr : Tok) (ts tf : Tok) (op : Str) (t : Tok) (o2 : Obj) (v2 : Option Value) (B : Below A₀ base outer h₀) (X : (hd.heap_39 w.params).In h₀) (Tp : Top hd.view_39 LL mean mg mb h₀) (hdp : dp + 10 < recursionLimit) (hun : un + 100 < cLine)
    (hop : op ∈ rlOps) (h1 : m (Str.ofString "one") = some (.int one t1)) (h2 : m (Str.ofString "two") = some (.int two t2)) (hl : m (Str.ofString "left") = some (.str l tl)) (hr : m (Str.ofString "right") = some (.str r tr)) (il : l ∈ texts) (ir : r ∈ texts)
    (hs : m (Str.ofString "sign") = some (.int (lord l r) ts)) (hf : m (Str.ofString "far") = some (.int (ordI one two) tf)) (d2 : o2.data = Data.cell v2) (hT : ∀ p ∈ T, p.1 ≠ c2) (F : Fr h₀ L s.heap m) (N : News h₀ L s.heap ((c2, o2) :: T))
    (hk : ∀ (m' : Str → Option Value) (h' : Heap) (tk' : Nat) (o2' : Obj) (v2' : Option Value), Same [] m m' → o2'.data = Data.cell v2' → Fr h₀ L h' m' → News h₀ L h' ((c2, o2') :: T) → Q .next { s with heap := h', toks := tk' }) :
    wpAny (model PySem.Challenge.rw_nu0312_01.row.toRowW.prog w) (lawAr dp un gd L a ccd c1 c2 c3 c4 c5 c6 outer) (assign (forTarget (lawSt 25)) (lawEnv L a ccd c1 c2 c3 c4 c5 c6) (.str op t)) (fun _ s₂ => wpAny (model PySem.Challenge.rw_nu0312_01.row.toRowW.prog w) (lawAr dp un gd L a ccd c1 c2 c3 c4 c5 c6 outer) (execs (forBody (lawSt 25)) (lawEnv L a ccd c1 c2 c3 c4 c5 c6)) Q E s₂) E s := by
  conv in (forTarget _) => whnf
  conv in (forBody _) => whnf
  have F1 := (fr_look (x := Str.ofString "left") (fr_look (x := Str.ofString "right") (fr_look (x := Str.ofString "sign") (fr_look (x := Str.ofString "one") (fr_look (x := Str.ofString "two") (fr_look (x := Str.ofString "far") F (by walk_at "mine rd")) (by walk_at "mine rd")) (by walk_at "mine rd")) (by walk_at "mine rd")) (by walk_at "mine rd")) (by walk_at "mine rd"))
  clear F
  k_steps
  all_goals ((refine' hk _ _ _ _ _ ?qm ?q0 ?qF ?qN); (case qF => assumption); (case qN => exact cb_drop (by assumption) (by walk_at "mine all")); (case q0 => assumption); (case qm => walk_at "mine map"))
set_option maxHeartbeats 8000000 in
theorem b25 (w : World) (mean : ExcName → Option Value) (mg mb : Str → Option Value) (dp un : Nat) (gd : Option (List Code)) (a : Addr) (ccd : Value) (outer : List Env) (A₀ : Around) (base h₀ : Heap) (L : Addr) (c1 c2 c3 c4 c5 c6 : Addr) (m : Str → Option Value) (s : Shared) (Q : Flow → Shared → Prop) (E : Value → Shared → Prop) (T : List (Addr × Obj)) (rest : List Stmt) (one two : Int) (t1 t2 : Tok) (l r : Str) (tl tr : Tok) (ts tf : Tok) (o2 : Obj) (v2 : Option Value) (B : Below A₀ base outer h₀) (X : (hd.heap_39 w.params).In h₀) (Tp : Top hd.view_39 LL mean mg mb h₀) (hdp : dp + 10 < recursionLimit) (hun : un + 100 < cLine) (hE : PassesOwn (model PySem.Challenge.rw_nu0312_01.row.toRowW.prog w) (lawAr dp un gd L a ccd c1 c2 c3 c4 c5 c6 outer) (lawEnv L a ccd c1 c2 c3 c4 c5 c6) E)
    (h1 : m (Str.ofString "one") = some (.int one t1)) (h2 : m (Str.ofString "two") = some (.int two t2)) (hl : m (Str.ofString "left") = some (.str l tl)) (hr : m (Str.ofString "right") = some (.str r tr)) (il : l ∈ texts) (ir : r ∈ texts)
    (hsg : m (Str.ofString "sign") = some (.int (lord l r) ts)) (hf : m (Str.ofString "far") = some (.int (ordI one two) tf)) (d2 : o2.data = Data.cell v2) (hT : ∀ p ∈ T, p.1 ≠ c2) (F : Fr h₀ L s.heap m) (N : News h₀ L s.heap ((c2, o2) :: T))
    (hk : ∀ (m' : Str → Option Value) (h' : Heap) (tk' : Nat) (o2' : Obj) (v2' : Option Value), Same [] m m' → o2'.data = Data.cell v2' → Fr h₀ L h' m' → News h₀ L h' ((c2, o2') :: T) → wpAny (model PySem.Challenge.rw_nu0312_01.row.toRowW.prog w) (lawAr dp un gd L a ccd c1 c2 c3 c4 c5 c6 outer) (execs rest (lawEnv L a ccd c1 c2 c3 c4 c5 c6)) Q E { s with heap := h', toks := tk' }) :
    wpAny (model PySem.Challenge.rw_nu0312_01.row.toRowW.prog w) (lawAr dp un gd L a ccd c1 c2 c3 c4 c5 c6 outer) (execs (lawSt 25 :: rest) (lawEnv L a ccd c1 c2 c3 c4 c5 c6)) Q E s := by
  refine for_strs w mean mg mb dp un gd a ccd outer A₀ base h₀ L c1 c2 c3 c4 c5 c6 m s Q E T rest (lawSt 25) rlOps [] o2 v2 rfl (fun _ => rfl) hE d2 hT F N ?_ ?_ hk
  · intro Q' hQ
    conv in (forIter _) => whnf
    k_steps
    all_goals ((refine' hQ _ _ _ _ _ ?qa ?qb ?qc ?qd); (case qb => assumption); (case qc => assumption); (case qa => walk_at "mine strs"); (case qd => (rename _ ∧ AllLt _ _ => hz; exact Nat.ne_of_gt hz.1)))
  · intro Q' T' op t m₁ o v s₁ hop hs hTT hd hT' F₁ N₁ hk'
    exact turn25 w mean mg mb dp un gd a ccd outer A₀ base h₀ L c1 c2 c3 c4 c5 c6 m₁ s₁ Q' E T' one two t1 t2 l r tl tr ts tf op t o v B X Tp hdp hun hop ((hs _ (by decide +kernel)).trans h1) ((hs _ (by decide +kernel)).trans h2) ((hs _ (by decide +kernel)).trans hl) ((hs _ (by decide +kernel)).trans hr) il ir ((hs _ (by decide +kernel)).trans hsg) ((hs _ (by decide +kernel)).trans hf) hd hT' F₁ N₁ hk'
end
section
local macro_rules | `(tactic| walk_at "mine same") => `(tactic| rfl)

def eqOps : List Str := [Str.ofString "=", Str.ofString "#"]
theorem eq_rl {op : Str} (h : op ∈ eqOps) : op ∈ rlOps := by
  rcases in2 h with rfl | rfl <;> decide +kernel
set_option hygiene false
local macro_rules | `(tactic| walk_at "call ref") => `(tactic| (k_here; k_dflt ((first | (refine' use (rnn_c _ _ _ _ _ _ _ _) ?k1 ?k2 ?k3 ?k4 ?k5 ?kK ?kd ?ku ?kp ?_; (case k4 => k_asm); (case kp => exact eq_rl (by assumption))) | (refine' use (rxn_c _ _ _ _ _ _ _ _ _ _) ?k1 ?k2 ?k3 ?k4 ?k5 ?kK ?kd ?ku ?kp ?_; (case k4 => k_asm); (case kp => exact eq_rl (by assumption)))); (walk_at "mine tl"); (walk_at "mine in"))))
set_option hygiene true
local macro_rules | `(tactic| walk_at "mine same") => `(tactic| first | rfl | exact bif_t (by assumption) | exact bif_f (by assumption))
set_option maxHeartbeats 8000000 in
theorem turn26 (w : World) (mean : ExcName → Option Value) (mg mb : Str → Option Value) (dp un : Nat) (gd : Option (List Code)) (a : Addr) (ccd : Value) (outer : List Env) (A₀ : Around) (base h₀ : Heap) (L : Addr) (c1 c2 c3 c4 c5 c6 : Addr) (m : Str → Option Value) (s : Shared) (Q : Flow → Shared → Prop) (E : Value → Shared → Prop) (T : List (Addr × Obj)) (one : Int) (t1 : Tok) (op : Str) (t : Tok) (o2 : Obj) (v2 : Option Value) (B : Below A₀ base outer h₀) (X : (hd.heap_39 w.params).In h₀) (Tp : Top hd.view_39 LL mean mg mb h₀) (hdp : dp + 10 < recursionLimit) (hun : un + 100 < cLine)
    (hop : op ∈ eqOps) (h1 : m (Str.ofString "one") = some (.int one t1)) (d2 : o2.data = Data.cell v2) (hT : ∀ p ∈ T, p.1 ≠ c2) (F : Fr h₀ L s.heap m) (N : News h₀ L s.heap ((c2, o2) :: T))
    (hk : ∀ (m' : Str → Option Value) (h' : Heap) (tk' : Nat) (o2' : Obj) (v2' : Option Value), Same [] m m' → o2'.data = Data.cell v2' → Fr h₀ L h' m' → News h₀ L h' ((c2, o2') :: T) → Q .next { s with heap := h', toks := tk' }) :
    wpAny (model PySem.Challenge.rw_nu0312_01.row.toRowW.prog w) (lawAr dp un gd L a ccd c1 c2 c3 c4 c5 c6 outer) (assign (forTarget (lawSt 26)) (lawEnv L a ccd c1 c2 c3 c4 c5 c6) (.str op t)) (fun _ s₂ => wpAny (model PySem.Challenge.rw_nu0312_01.row.toRowW.prog w) (lawAr dp un gd L a ccd c1 c2 c3 c4 c5 c6 outer) (execs (forBody (lawSt 26)) (lawEnv L a ccd c1 c2 c3 c4 c5 c6)) Q E s₂) E s := by
  conv in (forTarget _) => whnf
  conv in (forBody _) => whnf
  have F1 := (fr_look (x := Str.ofString "one") F (by walk_at "mine rd"))
  clear F
  k_steps
  all_goals ((refine' hk _ _ _ _ _ ?qm ?q0 ?qF ?qN); (case qF => assumption); (case qN => exact cb_drop (by assumption) (by walk_at "mine all")); (case q0 => assumption); (case qm => walk_at "mine map"))
set_option maxHeartbeats 8000000 in
theorem b26 (w : World) (mean : ExcName → Option Value) (mg mb : Str → Option Value) (dp un : Nat) (gd : Option (List Code)) (a : Addr) (ccd : Value) (outer : List Env) (A₀ : Around) (base h₀ : Heap) (L : Addr) (c1 c2 c3 c4 c5 c6 : Addr) (m : Str → Option Value) (s : Shared) (Q : Flow → Shared → Prop) (E : Value → Shared → Prop) (T : List (Addr × Obj)) (rest : List Stmt) (one : Int) (t1 : Tok) (o2 : Obj) (v2 : Option Value) (B : Below A₀ base outer h₀) (X : (hd.heap_39 w.params).In h₀) (Tp : Top hd.view_39 LL mean mg mb h₀) (hdp : dp + 10 < recursionLimit) (hun : un + 100 < cLine) (hE : PassesOwn (model PySem.Challenge.rw_nu0312_01.row.toRowW.prog w) (lawAr dp un gd L a ccd c1 c2 c3 c4 c5 c6 outer) (lawEnv L a ccd c1 c2 c3 c4 c5 c6) E)
    (h1 : m (Str.ofString "one") = some (.int one t1)) (d2 : o2.data = Data.cell v2) (hT : ∀ p ∈ T, p.1 ≠ c2) (F : Fr h₀ L s.heap m) (N : News h₀ L s.heap ((c2, o2) :: T))
    (hk : ∀ (m' : Str → Option Value) (h' : Heap) (tk' : Nat) (o2' : Obj) (v2' : Option Value), Same [] m m' → o2'.data = Data.cell v2' → Fr h₀ L h' m' → News h₀ L h' ((c2, o2') :: T) → wpAny (model PySem.Challenge.rw_nu0312_01.row.toRowW.prog w) (lawAr dp un gd L a ccd c1 c2 c3 c4 c5 c6 outer) (execs rest (lawEnv L a ccd c1 c2 c3 c4 c5 c6)) Q E { s with heap := h', toks := tk' }) :
    wpAny (model PySem.Challenge.rw_nu0312_01.row.toRowW.prog w) (lawAr dp un gd L a ccd c1 c2 c3 c4 c5 c6 outer) (execs (lawSt 26 :: rest) (lawEnv L a ccd c1 c2 c3 c4 c5 c6)) Q E s := by
  refine for_strs w mean mg mb dp un gd a ccd outer A₀ base h₀ L c1 c2 c3 c4 c5 c6 m s Q E T rest (lawSt 26) eqOps [] o2 v2 rfl (fun _ => rfl) hE d2 hT F N ?_ ?_ hk
  · intro Q' hQ
    conv in (forIter _) => whnf
    k_steps
    all_goals ((refine' hQ _ _ _ _ _ ?qa ?qb ?qc ?qd); (case qb => assumption); (case qc => assumption); (case qa => walk_at "mine strs"); (case qd => (rename _ ∧ AllLt _ _ => hz; exact Nat.ne_of_gt hz.1)))
  · intro Q' T' op t m₁ o v s₁ hop hs hTT hd hT' F₁ N₁ hk'
    exact turn26 w mean mg mb dp un gd a ccd outer A₀ base h₀ L c1 c2 c3 c4 c5 c6 m₁ s₁ Q' E T' one t1 op t o v B X Tp hdp hun hop ((hs _ (by decide +kernel)).trans h1) hd hT' F₁ N₁ hk'
end
section
local macro_rules | `(tactic| walk_at "mine same") => `(tactic| rfl)

def aoOps : List Str := [Str.ofString "&", Str.ofString "OR"]
theorem in2b {a b op : Str} (h : op ∈ [a, b]) : op = a ∨ op = b := by simpa using h
theorem one01 {a : Int} (h : 0 ≤ a ∧ a ≤ 1) : a = 0 ∨ a = 1 := by omega
theorem mem_also {p : Addr × Obj} {T : List (Addr × Obj)} (h : p ∈ T) : ∀ q ∈ p :: T, q ∈ T := fun q hq => by
  rcases List.mem_cons.mp hq with rfl | hq
  · exact h
  · exact hq

theorem tup_at {a b : Int} {t u : Tok} {i : Nat} {v : Value} (h : (#[.int a t, .int b u] : Array Value)[i]? = some v) : ∃ t', v = .int (if i = 0 then a else b) t' := by
  match i, h with
  | 0, h => exact ⟨t, by simpa using h.symm⟩
  | 1, h => exact ⟨u, by simpa using h.symm⟩
  | _ + 2, h => simp at h
section
variable {prog : Program} {w : World} {A : Around} {E : Value → Shared → Prop} {s : Shared} {h₀ : Heap} {L D : Addr} {m : Str → Option Value} {news : List (Addr × Obj)} {a b : Int} {t u : Tok} {n : Nat} {Q : Value → Shared → Prop}
theorem min_tup (hh : A.handled = none) (F : Fr h₀ L s.heap m) (N : News h₀ L s.heap news) (hm : (D, spanO a t b u n) ∈ news)
    (h : ∀ h' tk (t' : Tok), Fr h₀ L h' m → News h₀ L h' news → Q (.int (if b < a then b else a) t') { s with heap := h', toks := tk }) : wpAny (model prog w) A (call (.builtin "min") [.ref D]) Q E s := by
  have hT : s.heap.IsTuple D #[.int a t, .int b u] := ⟨_, (N _ hm).1, rfl, n, rfl⟩
  have hlt : D < s.heap.objs.size := Heap.lt_size (N _ hm).1
  refine call_min_walk (wpAny_pyIter_tuple hT ?_)
  refine ⟨_, [_, D], [_], _, _, _, _, rfl, Walks.tuple (A := A.in1) hh _ D (Nat.ne_of_lt hlt) #[.int a t, .int b u],
    ⟨⟨_, Heap.get?_push_size _ rfl, rfl, rfl⟩, hT.push _⟩, fun c hc => ?_, by simp, CmpOf.ints_lt (fun i => if i = 0 then a else b) (fun _ _ => tup_at), fun v h' tk hP hk => ?_⟩
  · show c < (s.heap.push _).objs.size
    rw [Heap.size_push]
    rcases List.mem_cons.mp hc with rfl | hc
    · exact Nat.lt_succ_self _
    · rw [List.mem_singleton.mp hc]; exact Nat.lt_succ_of_lt hlt
  · have hold : ∀ c o, s.heap.get? c = some o → h'.get? c = some o := fun c o e => hk c o (fun hm => by
      have := Heap.lt_size e
      rw [List.mem_singleton.mp hm] at this
      exact Nat.lt_irrefl _ this) (Heap.get?_push_of_some _ e)
    have hv : ∃ t', v = .int (if b < a then b else a) t' := by
      obtain ⟨t', e⟩ := tup_at hP
      refine ⟨t', e.trans ?_⟩
      by_cases c : b < a <;> simp [argBest, c]
    obtain ⟨t', rfl⟩ := hv
    exact h h' tk t' (F.grownK hold) (N.grown hold)
theorem max_tup (hh : A.handled = none) (F : Fr h₀ L s.heap m) (N : News h₀ L s.heap news) (hm : (D, spanO a t b u n) ∈ news)
    (h : ∀ h' tk (t' : Tok), Fr h₀ L h' m → News h₀ L h' news → Q (.int (if a < b then b else a) t') { s with heap := h', toks := tk }) : wpAny (model prog w) A (call (.builtin "max") [.ref D]) Q E s := by
  have hT : s.heap.IsTuple D #[.int a t, .int b u] := ⟨_, (N _ hm).1, rfl, n, rfl⟩
  have hlt : D < s.heap.objs.size := Heap.lt_size (N _ hm).1
  refine call_max_walk (wpAny_pyIter_tuple hT ?_)
  refine ⟨_, [_, D], [_], _, _, _, _, rfl, Walks.tuple (A := A.in1) hh _ D (Nat.ne_of_lt hlt) #[.int a t, .int b u],
    ⟨⟨_, Heap.get?_push_size _ rfl, rfl, rfl⟩, hT.push _⟩, fun c hc => ?_, by simp, CmpOf.ints_gt (fun i => if i = 0 then a else b) (fun _ _ => tup_at), fun v h' tk hP hk => ?_⟩
  · show c < (s.heap.push _).objs.size
    rw [Heap.size_push]
    rcases List.mem_cons.mp hc with rfl | hc
    · exact Nat.lt_succ_self _
    · rw [List.mem_singleton.mp hc]; exact Nat.lt_succ_of_lt hlt
  · have hold : ∀ c o, s.heap.get? c = some o → h'.get? c = some o := fun c o e => hk c o (fun hm => by
      have := Heap.lt_size e
      rw [List.mem_singleton.mp hm] at this
      exact Nat.lt_irrefl _ this) (Heap.get?_push_of_some _ e)
    have hv : ∃ t', v = .int (if a < b then b else a) t' := by
      obtain ⟨t', e⟩ := tup_at hP
      refine ⟨t', e.trans ?_⟩
      by_cases c : a < b <;> simp [argBest, c]
    obtain ⟨t', rfl⟩ := hv
    exact h h' tk t' (F.grownK hold) (N.grown hold)
end
theorem and01 {a b : Int} (ha : 0 ≤ a ∧ a ≤ 1) (hb : 0 ≤ b ∧ b ≤ 1) : Builtin.bitAnd a b = if b < a then b else a := by
  rcases one01 ha with rfl | rfl <;> rcases one01 hb with rfl | rfl <;> decide +kernel
theorem or01 {a b : Int} (ha : 0 ≤ a ∧ a ≤ 1) (hb : 0 ≤ b ∧ b ≤ 1) : Builtin.bitOr a b = if a < b then b else a := by
  rcases one01 ha with rfl | rfl <;> rcases one01 hb with rfl | rfl <;> decide +kernel
/-- the inner loop of statement 27 -/
noncomputable def in27 : Stmt := (forBody (lawSt 27)).getD 0 (.Pass ⟨0,0,0,0⟩)
set_option hygiene false
local macro_rules | `(tactic| walk_at "call ref") => `(tactic| (k_here; k_dflt ((first | (refine' use (and_c _ _ _ _ _ _ _ _ _ _) ?k1 ?k2 ?k3 ?k4 ?k5 ?kK ?kd ?ku ?kp ?_; (walk_at "mine kp")) | (refine' use (or_c _ _ _ _ _ _ _ _ _ _) ?k1 ?k2 ?k3 ?k4 ?k5 ?kK ?kd ?ku ?kp ?_; (walk_at "mine kp")) | (refine' use (not_c _ _ _ _ _ _ _ _) ?k1 ?k2 ?k3 ?k4 ?k5 ?kK ?kd ?ku ?kp ?_; (walk_at "mine kp"))); (walk_at "mine tl"); (walk_at "mine in"))))
set_option hygiene true
local macro_rules | `(tactic| walk_at "mine same") => `(tactic| first | rfl | exact and01 (by assumption) (by assumption) | exact or01 (by assumption) (by assumption))
local macro_rules | `(tactic| walk_at "call builtin:min") => `(tactic| (k_here; k_dflt ((refine' min_tup ?k1 ?k2 ?k3 ?k4 ?_); (case k1 => exact rfl); (case k2 => k_asm); (case k3 => k_asm); (case k4 => k_mem)); intro h' tk' t' F' N'))
local macro_rules | `(tactic| walk_at "call builtin:max") => `(tactic| (k_here; k_dflt ((refine' max_tup ?k1 ?k2 ?k3 ?k4 ?_); (case k1 => exact rfl); (case k2 => k_asm); (case k3 => k_asm); (case k4 => k_mem)); intro h' tk' t' F' N'))
local macro_rules | `(tactic| k_mem) => `(tactic| assumption)
set_option maxHeartbeats 8000000 in
theorem turn27i (w : World) (mean : ExcName → Option Value) (mg mb : Str → Option Value) (dp un : Nat) (gd : Option (List Code)) (a : Addr) (ccd : Value) (outer : List Env) (A₀ : Around) (base h₀ : Heap) (L : Addr) (c1 c2 c3 c4 c5 c6 : Addr) (m : Str → Option Value) (s : Shared) (Q : Flow → Shared → Prop) (E : Value → Shared → Prop) (T : List (Addr × Obj)) (op : Str) (t : Tok) (o2 : Obj) (x y : Int) (tx ty : Tok) (D : Addr) (n : Nat) (B : Below A₀ base outer h₀) (X : (hd.heap_39 w.params).In h₀) (Tp : Top hd.view_39 LL mean mg mb h₀) (hdp : dp + 10 < recursionLimit) (hun : un + 100 < cLine) (hop : op ∈ aoOps) (ha : 0 ≤ x ∧ x ≤ 1) (hb : 0 ≤ y ∧ y ≤ 1) (d2 : o2.data = Data.cell (some (.str op t)))
    (g2 : (c2, o2) ∈ T) (gD : (D, spanO x tx y ty n) ∈ T) (F : Fr h₀ L s.heap m) (N : News h₀ L s.heap T)
    (hk : ∀ (m' : Str → Option Value) (h' : Heap) (tk' : Nat), Same [Str.ofString "bits"] m m' → Fr h₀ L h' m' → News h₀ L h' T → Q .next { s with heap := h', toks := tk' }) :
    wpAny (model PySem.Challenge.rw_nu0312_01.row.toRowW.prog w) (lawAr dp un gd L a ccd c1 c2 c3 c4 c5 c6 outer) (assign (forTarget in27) (lawEnv L a ccd c1 c2 c3 c4 c5 c6) (.ref D)) (fun _ s₂ => wpAny (model PySem.Challenge.rw_nu0312_01.row.toRowW.prog w) (lawAr dp un gd L a ccd c1 c2 c3 c4 c5 c6 outer) (execs (forBody in27) (lawEnv L a ccd c1 c2 c3 c4 c5 c6)) Q E s₂) E s := by
  conv in (forTarget _) => whnf
  conv in (forBody _) => whnf
  have N1 : News h₀ L s.heap ((D, spanO x tx y ty n) :: T) := cb_drop N (mem_also gD)
  clear N
  rcases in2b hop with rfl | rfl
  all_goals k_steps
  all_goals ((refine' hk _ _ _ ?qm  ?qF ?qN); (case qF => assumption); (case qN => exact cb_drop (by assumption) (by walk_at "mine all"));  (case qm => walk_at "mine map"))

def RefsIn (vs : List Value) (T : List (Addr × Obj)) : Prop := ∀ v ∈ vs, ∃ (D : Addr) (x y : Int) (tx ty : Tok) (n : Nat), v = .ref D ∧ (0 ≤ x ∧ x ≤ 1) ∧ (0 ≤ y ∧ y ≤ 1) ∧ (D, spanO x tx y ty n) ∈ T
theorem refs_nil {T : List (Addr × Obj)} : RefsIn [] T := fun _ h => nomatch h
theorem refs_cons {T : List (Addr × Obj)} {D : Addr} {x y : Int} {tx ty : Tok} {n : Nat} {vs : List Value} (h : (D, spanO x tx y ty n) ∈ T) (hx : 0 ≤ x ∧ x ≤ 1) (hy : 0 ≤ y ∧ y ≤ 1) (r : RefsIn vs T) : RefsIn (.ref D :: vs) T := fun v hv => by
  rcases List.mem_cons.mp hv with rfl | hv
  · exact ⟨D, x, y, tx, ty, n, rfl, hx, hy, h⟩
  · exact r v hv
theorem refs_of {h₀ h : Heap} {L l : Addr} {vs : List Value} {n : Nat} {T : List (Addr × Obj)} (_ : News h₀ L h ((l, PySem.W.listOf vs.toArray n) :: T)) (r : RefsIn vs ((l, PySem.W.listOf vs.toArray n) :: T)) : RefsIn vs ((l, PySem.W.listOf vs.toArray n) :: T) := r
local macro_rules | `(tactic| walk_at "mine refs") => `(tactic| first | exact refs_nil | (refine refs_cons (by walk_at "mine mem") (by decide) (by decide) ?_; walk_at "mine refs"))
theorem loop27 (w : World) (mean : ExcName → Option Value) (mg mb : Str → Option Value) (dp un : Nat) (gd : Option (List Code)) (a : Addr) (ccd : Value) (outer : List Env) (A₀ : Around) (base h₀ : Heap) (L : Addr) (c1 c2 c3 c4 c5 c6 : Addr) (m : Str → Option Value) (s : Shared) (Q : Flow → Shared → Prop) (E : Value → Shared → Prop) (T : List (Addr × Obj)) (op : Str) (t : Tok) (o2 : Obj) (D0 : Addr) (vs : List Value) (n0 : Nat) (B : Below A₀ base outer h₀) (X : (hd.heap_39 w.params).In h₀) (Tp : Top hd.view_39 LL mean mg mb h₀) (hdp : dp + 10 < recursionLimit) (hun : un + 100 < cLine) (hop : op ∈ aoOps) (d2 : o2.data = Data.cell (some (.str op t)))
    (g2 : (c2, o2) ∈ T) (href : RefsIn vs T) (F : Fr h₀ L s.heap m) (N : News h₀ L s.heap ((D0, PySem.W.listOf vs.toArray n0) :: T))
    (hk : ∀ (m' : Str → Option Value) (h' : Heap) (tk' : Nat), Same [Str.ofString "bits"] m m' → Fr h₀ L h' m' → News h₀ L h' ((D0, PySem.W.listOf vs.toArray n0) :: T) → Q .next { s with heap := h', toks := tk' }) :
    wpAny (model PySem.Challenge.rw_nu0312_01.row.toRowW.prog w) (lawAr dp un gd L a ccd c1 c2 c3 c4 c5 c6 outer) (pyIter (.ref D0)) (fun it s₂ => TurnsAt PySem.Challenge.rw_nu0312_01.row.toRowW.prog w (lawAr dp un gd L a ccd c1 c2 c3 c4 c5 c6 outer) h₀ (lawEnv L a ccd c1 c2 c3 c4 c5 c6) (forTarget in27) (forBody in27) Q E it s₂) E s := by
  refine iter_J (s := s) (cs₀ := []) (T := (D0, PySem.W.listOf vs.toArray n0) :: T) (vs := vs) rfl F N (.head _) (fun _ _ _ h => nomatch h) rfl rfl (fun _ m' cs => Same [Str.ofString "bits"] m m' ∧ cs = []) ?_ ⟨same_refl, rfl⟩ ?_ ?_
  · rintro i m' cs ⟨_, rfl⟩
    rfl
  · rintro i v m₁ cs₁ T' h₁ tk₁ hv ⟨hs, rfl⟩ hTT hoff F₁ N₁
    obtain ⟨D, x, y, tx, ty, n, rfl, hx, hy, gD⟩ := href v (List.mem_of_getElem? hv)
    refine turn27i w mean mg mb dp un gd a ccd outer A₀ base h₀ L c1 c2 c3 c4 c5 c6 m₁ { s with heap := h₁, toks := tk₁ } _ E T' op t _ x y tx ty D n B X Tp hdp hun hop hx hy d2 (hTT _ (.tail _ g2)) (hTT _ (.tail _ gD)) F₁ N₁ ?_
    intro m'' h'' tk'' hs'' F'' N''
    exact ⟨h'', tk'', m'', [], rfl, F'', N'', same_again hs hs'', rfl⟩
  · rintro h'' tk'' m'' cs'' F'' N'' ⟨hs'', rfl⟩
    exact hk _ _ _ hs'' F'' N''
theorem st_in27 : in27 = .For (forTarget in27) (forIter in27) (forBody in27) [] (forPos in27) := rfl
set_option maxHeartbeats 8000000 in
theorem turn27 (w : World) (mean : ExcName → Option Value) (mg mb : Str → Option Value) (dp un : Nat) (gd : Option (List Code)) (a : Addr) (ccd : Value) (outer : List Env) (A₀ : Around) (base h₀ : Heap) (L : Addr) (c1 c2 c3 c4 c5 c6 : Addr) (m : Str → Option Value) (s : Shared) (Q : Flow → Shared → Prop) (E : Value → Shared → Prop) (T : List (Addr × Obj))  (op : Str) (t : Tok) (o2 : Obj) (v2 : Option Value) (B : Below A₀ base outer h₀) (X : (hd.heap_39 w.params).In h₀) (Tp : Top hd.view_39 LL mean mg mb h₀) (hdp : dp + 10 < recursionLimit) (hun : un + 100 < cLine)
    (hE : PassesOwn (model PySem.Challenge.rw_nu0312_01.row.toRowW.prog w) (lawAr dp un gd L a ccd c1 c2 c3 c4 c5 c6 outer) (lawEnv L a ccd c1 c2 c3 c4 c5 c6) E) (hop : op ∈ aoOps) (d2 : o2.data = Data.cell v2) (hT : ∀ p ∈ T, p.1 ≠ c2) (F : Fr h₀ L s.heap m) (N : News h₀ L s.heap ((c2, o2) :: T))
    (hk : ∀ (m' : Str → Option Value) (h' : Heap) (tk' : Nat) (o2' : Obj) (v2' : Option Value), Same [Str.ofString "bits"] m m' → o2'.data = Data.cell v2' → Fr h₀ L h' m' → News h₀ L h' ((c2, o2') :: T) → Q .next { s with heap := h', toks := tk' }) :
    wpAny (model PySem.Challenge.rw_nu0312_01.row.toRowW.prog w) (lawAr dp un gd L a ccd c1 c2 c3 c4 c5 c6 outer) (assign (forTarget (lawSt 27)) (lawEnv L a ccd c1 c2 c3 c4 c5 c6) (.str op t)) (fun _ s₂ => wpAny (model PySem.Challenge.rw_nu0312_01.row.toRowW.prog w) (lawAr dp un gd L a ccd c1 c2 c3 c4 c5 c6 outer) (execs (forBody (lawSt 27)) (lawEnv L a ccd c1 c2 c3 c4 c5 c6)) Q E s₂) E s := by
  conv in (forTarget _) => whnf
  skip
  with_reducible refine' abs_post ?_
  intro Q1 hQ1
  k_steps
  refine hQ1 _ _ ?_
  rw [show forBody (lawSt 27) = [in27] from rfl, st_in27]
  rename_i F2 N2 d2'
  refine wpAny_execs_cons ?_
  with_reducible refine' For_turns F2 ?_ ?hs hE
  case hs => exact fun _ => rfl
  with_reducible refine' abs_post ?_
  intro Q2 hQ2
  conv in (forIter _) => whnf
  k_steps
  rename Fr _ _ _ _ => F3
  rename News _ _ _ _ => N3
  refine hQ2 _ _ ?_
  refine loop27 w mean mg mb dp un gd a ccd outer A₀ base h₀ L c1 c2 c3 c4 c5 c6 _ _ _ E _ op t _ _ _ _ B X Tp hdp hun hop d2' ?_ ?_ F3 N3 ?_
  · walk_at "mine mem"
  · walk_at "mine refs"
  · intro m'' h'' tk'' hs'' F'' N''
    exact wpAny_execs_nil (hk _ _ _ _ _ hs'' d2' F'' (cb_drop N'' (by walk_at "mine all")))
set_option maxHeartbeats 8000000 in
theorem b27 (w : World) (mean : ExcName → Option Value) (mg mb : Str → Option Value) (dp un : Nat) (gd : Option (List Code)) (a : Addr) (ccd : Value) (outer : List Env) (A₀ : Around) (base h₀ : Heap) (L : Addr) (c1 c2 c3 c4 c5 c6 : Addr) (m : Str → Option Value) (s : Shared) (Q : Flow → Shared → Prop) (E : Value → Shared → Prop) (T : List (Addr × Obj)) (rest : List Stmt)  (o2 : Obj) (v2 : Option Value) (B : Below A₀ base outer h₀) (X : (hd.heap_39 w.params).In h₀) (Tp : Top hd.view_39 LL mean mg mb h₀) (hdp : dp + 10 < recursionLimit) (hun : un + 100 < cLine) (hE : PassesOwn (model PySem.Challenge.rw_nu0312_01.row.toRowW.prog w) (lawAr dp un gd L a ccd c1 c2 c3 c4 c5 c6 outer) (lawEnv L a ccd c1 c2 c3 c4 c5 c6) E)
     (d2 : o2.data = Data.cell v2) (hT : ∀ p ∈ T, p.1 ≠ c2) (F : Fr h₀ L s.heap m) (N : News h₀ L s.heap ((c2, o2) :: T))
    (hk : ∀ (m' : Str → Option Value) (h' : Heap) (tk' : Nat) (o2' : Obj) (v2' : Option Value), Same [Str.ofString "bits"] m m' → o2'.data = Data.cell v2' → Fr h₀ L h' m' → News h₀ L h' ((c2, o2') :: T) → wpAny (model PySem.Challenge.rw_nu0312_01.row.toRowW.prog w) (lawAr dp un gd L a ccd c1 c2 c3 c4 c5 c6 outer) (execs rest (lawEnv L a ccd c1 c2 c3 c4 c5 c6)) Q E { s with heap := h', toks := tk' }) :
    wpAny (model PySem.Challenge.rw_nu0312_01.row.toRowW.prog w) (lawAr dp un gd L a ccd c1 c2 c3 c4 c5 c6 outer) (execs (lawSt 27 :: rest) (lawEnv L a ccd c1 c2 c3 c4 c5 c6)) Q E s := by
  refine for_strs w mean mg mb dp un gd a ccd outer A₀ base h₀ L c1 c2 c3 c4 c5 c6 m s Q E T rest (lawSt 27) aoOps [Str.ofString "bits"] o2 v2 rfl (fun _ => rfl) hE d2 hT F N ?_ ?_ hk
  · intro Q' hQ
    conv in (forIter _) => whnf
    k_steps
    all_goals ((refine' hQ _ _ _ _ _ ?qa ?qb ?qc ?qd); (case qb => assumption); (case qc => assumption); (case qa => walk_at "mine strs"); (case qd => (rename _ ∧ AllLt _ _ => hz; exact Nat.ne_of_gt hz.1)))
  · intro Q' T' op t m₁ o v s₁ hop hs hTT hd hT' F₁ N₁ hk'
    exact turn27 w mean mg mb dp un gd a ccd outer A₀ base h₀ L c1 c2 c3 c4 c5 c6 m₁ s₁ Q' E T' op t o v B X Tp hdp hun hE hop hd hT' F₁ N₁ hk'
end
section
local macro_rules | `(tactic| walk_at "mine same") => `(tactic| rfl)

def asVal : Stmt → Expr
  | .Assign _ v _ => v
  | _ => .Name (Str.ofString "") ⟨0,0,0,0⟩
def lcElt : Expr → Expr
  | .ListComp e _ _ _ => e
  | e => e
def lcScope : Expr → Scope
  | .ListComp _ _ s _ => s
  | _ => { kind := .module, names := [], isGenerator := false, isCoroutine := false, more := [] }
def lcIter : Expr → Expr
  | .ListComp _ (⟨_, i, _, _⟩ :: _) _ _ => i
  | e => e
def lcPx : Expr → Pos
  | .ListComp _ (⟨.Name _ p, _, _, _⟩ :: _) _ _ => p
  | _ => ⟨0,0,0,0⟩
def lcPos : Expr → Pos
  | .ListComp _ _ _ p => p
  | _ => ⟨0,0,0,0⟩
def tgPos : Stmt → Pos
  | .Assign (.Name _ p :: _) _ _ => p
  | _ => ⟨0,0,0,0⟩
def asPos : Stmt → Pos
  | .Assign _ _ p => p
  | _ => ⟨0,0,0,0⟩
noncomputable def lc28 : Expr := asVal (lawSt 28)
local macro_rules | `(tactic| walk_at "call ref") => `(tactic| (k_here; k_dflt ((refine' use (pick_c _ _ _ _ _ _ _ _ _ _ _ _ _ _ _ _ _ _) ?k1 ?k2 ?k3 ?k4 ?k5 ?kK ?kd ?ku ?kp ?_); (case k4 => k_asm); (case kp => (refine ⟨?kpu, ?kpm, ?kpn, ?kpi, ?kpl, ?kpb, ?kpx, ?kpy, ?kpz⟩; (case kpm => k_mem); (case kpn => k_mem); (case kpi => l_ints); (case kpl => assumption); (case kpu => (intro o9; k_upd)); (case kpb => decide); (case kpx => assumption); (case kpy => assumption); (case kpz => assumption))); (case k1 => k_asm); (case k2 => k_asm); (case k3 => k_asm); (case k5 => k_asm); (case kK => first | exact rfl | assumption); (case kd => ktr_room); (case ku => ktr_units); (intro r9 t9 i9 x9 u9 v9 h9 tk9 a9 b9 c9 d9 e9 F9 N9); (try dsimp only); (try dsimp only at N9); (try k_fold); (try k_sweep))))
local macro_rules | `(tactic| k_mem) => `(tactic| assumption)
set_option maxHeartbeats 8000000 in
theorem elt28 (w : World) (mean : ExcName → Option Value) (mg mb : Str → Option Value) (dp un : Nat) (gd : Option (List Code)) (a : Addr) (ccd : Value) (outer : List Env) (A₀ : Around) (base h₀ : Heap) (L : Addr) (c1 c2 c3 c4 c5 c6 : Addr) (m : Str → Option Value) (s : Shared) (Q : Value → Shared → Prop) (E : Value → Shared → Prop) (T : List (Addr × Obj)) (C : Addr) (B : Below A₀ base outer h₀) (X : (hd.heap_39 w.params).In h₀) (Tp : Top hd.view_39 LL mean mg mb h₀) (hdp : dp + 10 < recursionLimit) (hun : un + 100 < cLine) (pl fl : Addr) (fs : List Value) (np nf : Nat) (gs : List Int) (idx mix : Int) (p1 p2 : Tok) (o1 : Obj)
    (g1 : (c1, o1) ∈ T) (d1 : o1.data = Data.cell (some (.ref pl))) (gf : (fl, PySem.W.listOf fs.toArray nf) ∈ T) (hIf : IntsAre fs gs) (hgl : gs.length < 1000) (hi0 : 0 ≤ idx) (hx0 : 0 ≤ mix) (hx1 : mix < 1009)
    (hT : ∀ p ∈ T, p.1 ≠ pl) (F : Fr h₀ L s.heap m) (N : News h₀ L s.heap ((pl, poolO fl idx p1 mix p2 np) :: T))
    (hk : ∀ (h' : Heap) (tk' : Nat) (D : Addr) (x y : Int) (tx ty : Tok) (n : Nat) (idx' mix' : Int) (p1' p2' : Tok), (-1 ≤ x ∧ x ≤ 32) → (-1 ≤ y ∧ y ≤ 32) → 0 ≤ idx' → 0 ≤ mix' → mix' < 1009 → (@LT.lt Nat _ pl D ∧ AllLt D T) → Fr h₀ L h' m →
      News h₀ L h' ((D, spanO x tx y ty n) :: (pl, poolO fl idx' p1' mix' p2' np) :: T) → Q (.ref D) { s with heap := h', toks := tk' }) :
    wpAny (model PySem.Challenge.rw_nu0312_01.row.toRowW.prog w) (lawAr dp un gd L a ccd c1 c2 c3 c4 c5 c6 outer) (eval (lcElt lc28) (compEnvC (lcScope lc28) [(Str.ofString "pool", c1)] C (lawEnv L a ccd c1 c2 c3 c4 c5 c6))) Q E s := by
  conv in (lcElt _) => whnf
  conv in (lcScope _) => whnf
  k_steps
  all_goals ((refine' hk _ _ _ _ _ _ _ _ _ _ _ _ ?a ?b ?c ?d ?e ?f ?qF ?qN); (case qF => assumption); (case qN => assumption); (case a => omega); (case b => omega); (case c => assumption); (case d => assumption); (case e => assumption); (case f => assumption))

/-- a list of pairs, its tuples in the ledger -/
inductive SpansIn (T : List (Addr × Obj)) : List Value → List (Int × Int) → Prop
  | nil : SpansIn T [] []
  | cons {D : Addr} {x y : Int} {tx ty : Tok} {n : Nat} {vs : List Value} {sp : List (Int × Int)} : (D, spanO x tx y ty n) ∈ T → SpansIn T vs sp → SpansIn T (.ref D :: vs) ((x, y) :: sp)
theorem SpansIn.more {T T' : List (Addr × Obj)} {vs : List Value} {sp : List (Int × Int)} (h : SpansIn T vs sp) (hs : ∀ p ∈ T, p ∈ T') : SpansIn T' vs sp := by
  induction h with
  | nil => exact .nil
  | cons hm _ ih => exact .cons (hs _ hm) ih
theorem SpansIn.snoc {T : List (Addr × Obj)} {D : Addr} {x y : Int} {tx ty : Tok} {n : Nat} {vs : List Value} {sp : List (Int × Int)} (h : SpansIn T vs sp) (hm : (D, spanO x tx y ty n) ∈ T) : SpansIn T (vs ++ [.ref D]) (sp ++ [(x, y)]) := by
  induction h with
  | nil => exact .cons hm .nil
  | cons hm' _ ih => exact .cons hm' ih
theorem SpansIn.length {T : List (Addr × Obj)} {vs : List Value} {sp : List (Int × Int)} (h : SpansIn T vs sp) : vs.length = sp.length := by
  induction h with
  | nil => rfl
  | cons _ _ ih => rw [List.length_cons, List.length_cons, ih]
abbrev Bnd (sp : List (Int × Int)) : Prop := ∀ p ∈ sp, (-1 ≤ p.1 ∧ p.1 ≤ 32) ∧ (-1 ≤ p.2 ∧ p.2 ≤ 32)
def Inv28 (pl fl : Addr) (np : Nat) (T : List (Addr × Obj)) (i : Nat) (ys : List Value) (news : List (Addr × Obj)) : Prop :=
  ∃ (idx mix : Int) (p1 p2 : Tok) (tups : List (Addr × Obj)) (sp : List (Int × Int)), news = (pl, poolO fl idx p1 mix p2 np) :: (tups ++ T) ∧ 0 ≤ idx ∧ 0 ≤ mix ∧ mix < 1009 ∧ SpansIn tups ys sp ∧ sp.length = i ∧ Bnd sp ∧ (∀ p ∈ tups, ∀ q ∈ T, p.1 ≠ q.1) ∧ ∀ p ∈ tups ++ T, p.1 ≠ pl
theorem allLt_get {d : Addr} {p : Addr × Obj} : ∀ {l : List (Addr × Obj)}, AllLt d l → p ∈ l → @LT.lt Nat _ p.1 d
  | [], _, h => nomatch h
  | _ :: _, h, hp => by
    rcases List.mem_cons.mp hp with rfl | hp
    · exact h.1
    · exact allLt_get h.2 hp
set_option maxHeartbeats 8000000 in
theorem rest28 (w : World) (mean : ExcName → Option Value) (mg mb : Str → Option Value) (dp un : Nat) (gd : Option (List Code)) (a : Addr) (ccd : Value) (outer : List Env) (A₀ : Around) (base h₀ : Heap) (L : Addr) (c1 c2 c3 c4 c5 c6 : Addr) (m : Str → Option Value) (s : Shared)   (T : List (Addr × Obj)) (B : Below A₀ base outer h₀) (X : (hd.heap_39 w.params).In h₀) (Tp : Top hd.view_39 LL mean mg mb h₀) (hdp : dp + 10 < recursionLimit) (hun : un + 100 < cLine) (pl fl : Addr) (fs : List Value) (np nf : Nat) (gs : List Int) (o1 : Obj) (g1 : (c1, o1) ∈ T) (d1 : o1.data = Data.cell (some (.ref pl))) (gf : (fl, PySem.W.listOf fs.toArray nf) ∈ T) (hIf : IntsAre fs gs) (hgl : gs.length < 1000) (Pv : Nat → Value → Prop) (Fin : List Value → List (Addr × Obj) → Prop) (N0 : Nat) (hFin : ∀ ys news, Inv28 pl fl np T N0 ys news → Fin ys news) :
    ∀ (k i : Nat) (ys : List Value) (news : List (Addr × Obj)), i + k = N0 → Inv28 pl fl np T i ys news → LCg.CompRest PySem.Challenge.rw_nu0312_01.row.toRowW.prog w (lawAr dp un gd L a ccd c1 c2 c3 c4 c5 c6 outer) h₀ L m (lawEnv L a ccd c1 c2 c3 c4 c5 c6) (lcElt lc28) (Str.ofString "step") (lcScope lc28) [(Str.ofString "pool", c1)] s (fun _ => True) Pv Fin k i ys news
  | 0, i, ys, news, hik, hI => LCg.CompRest.zero (hFin _ _ (by rw [← hik, Nat.add_zero]; exact hI))
  | k + 1, i, ys, news, hik, hI => by
    obtain ⟨idx, mix, p1, p2, tups, sp, rfl, hi0, hx0, hx1, hsp, hlen, hb, hap, hoff⟩ := hI
    refine LCg.CompRest.succ ?_
    intro v I oI C oC D m₂ h tk E' hv hC hx F' N' off ne
    have off' := off.mem
    have hpl := off' _ (.head _)
    have hin : ∀ p ∈ T, p ∈ (I, oI) :: (C, oC) :: (D, LCg.lst ys) :: (tups ++ T) := fun p hp => .tail _ (.tail _ (.tail _ (List.mem_append_right _ hp)))
    refine elt28 w mean mg mb dp un gd a ccd outer A₀ base h₀ L c1 c2 c3 c4 c5 c6 m { s with heap := h, toks := tk } _ E' ((I, oI) :: (C, oC) :: (D, LCg.lst ys) :: (tups ++ T)) C B X Tp hdp hun pl fl fs np nf gs idx mix p1 p2 o1 (hin _ g1) d1 (hin _ gf) hIf hgl hi0 hx0 hx1 ?_ F' (cb_drop N' ?_) ?_
    · intro p hp
      rcases List.mem_cons.mp hp with rfl | hp
      · exact Ne.symm hpl.1
      · rcases List.mem_cons.mp hp with rfl | hp
        · exact Ne.symm hpl.2.1
        · rcases List.mem_cons.mp hp with rfl | hp
          · exact Ne.symm hpl.2.2
          · exact hoff p hp
    · intro p hp
      rcases List.mem_cons.mp hp with rfl | hp
      · exact .tail _ (.tail _ (.tail _ (.head _)))
      · rcases List.mem_cons.mp hp with rfl | hp
        · exact .head _
        · rcases List.mem_cons.mp hp with rfl | hp
          · exact .tail _ (.head _)
          · rcases List.mem_cons.mp hp with rfl | hp
            · exact .tail _ (.tail _ (.head _))
            · exact .tail _ (.tail _ (.tail _ (.tail _ hp)))
    · intro h' tk' D2 x y tx ty n idx' mix' p1' p2' hx' hy' hi' hm' hm'' hlt F'' N''
      have hfr : ∀ p ∈ (tups ++ T), @LT.lt Nat _ p.1 D2 := fun p hp => allLt_get hlt.2 (.tail _ (.tail _ (.tail _ hp)))
      refine ⟨h', tk', (pl, poolO fl idx' p1' mix' p2' np) :: (((D2, spanO x tx y ty n) :: tups) ++ T), rfl, F'', ?_, ?_, trivial, ?_⟩
      · intro p hp
        rcases List.mem_cons.mp hp with rfl | hp
        · exact N'' _ (.tail _ (.tail _ (.head _)))
        · rcases List.mem_cons.mp hp with rfl | hp
          · exact N'' _ (.tail _ (.tail _ (.tail _ (.head _))))
          · rcases List.mem_cons.mp hp with rfl | hp
            · exact N'' _ (.tail _ (.tail _ (.tail _ (.tail _ (.head _)))))
            · rcases List.mem_cons.mp hp with rfl | hp
              · exact N'' _ (.tail _ (.head _))
              · rcases List.mem_cons.mp hp with rfl | hp
                · exact N'' _ (.head _)
                · exact N'' _ (.tail _ (.tail _ (.tail _ (.tail _ (.tail _ hp)))))
      · refine LCg.Off3.of fun p hp => ?_
        rcases List.mem_cons.mp hp with rfl | hp
        · exact hpl
        · rcases List.mem_cons.mp hp with rfl | hp
          · exact ⟨Nat.ne_of_gt (allLt_get hlt.2 (.head _)), Nat.ne_of_gt (allLt_get hlt.2 (.tail _ (.head _))), Nat.ne_of_gt (allLt_get hlt.2 (.tail _ (.tail _ (.head _))))⟩
          · exact off' _ (.tail _ hp)
      · refine rest28 w mean mg mb dp un gd a ccd outer A₀ base h₀ L c1 c2 c3 c4 c5 c6 m s T B X Tp hdp hun pl fl fs np nf gs o1 g1 d1 gf hIf hgl Pv Fin N0 hFin k (i + 1) _ _ (by omega) ?_
        refine ⟨idx', mix', p1', p2', (D2, spanO x tx y ty n) :: tups, sp ++ [(x, y)], rfl, hi', hm', hm'', (hsp.more fun p hp => .tail _ hp).snoc (.head _), by rw [List.length_append, hlen]; rfl, ?_, ?_, ?_⟩
        · intro p hp
          rcases List.mem_append.mp hp with hp | hp
          · exact hb p hp
          · rw [List.mem_singleton.mp hp]; exact ⟨hx', hy'⟩
        · intro p hp q hq
          rcases List.mem_cons.mp hp with rfl | hp
          · exact Nat.ne_of_gt (hfr q (List.mem_append_right _ hq))
          · exact hap p hp q hq
        · intro p hp
          rcases List.mem_cons.mp hp with rfl | hp
          · exact Nat.ne_of_gt hlt.1
          · exact hoff p hp
theorem st28 : lawSt 28 = .Assign [.Name (Str.ofString "spans_x") (tgPos (lawSt 28))] (.ListComp (lcElt lc28) [⟨.Name (Str.ofString "step") (lcPx lc28), lcIter lc28, [], 0⟩] (lcScope lc28) (lcPos lc28)) (asPos (lawSt 28)) := rfl
theorem range_sz (r : Int) : Builtin.Range.rangeSize 0 r 1 = (((r - 0).toNat : Nat) : Int) := rangeSize_nat _ _
theorem range_sm {r : Int} (h : 0 ≤ r ∧ r < 4) : Builtin.Range.small 0 r 1 = true := small_one (by decide) (by decide) (by omega) (by omega)
set_option maxHeartbeats 8000000 in
theorem src28 (w : World) (mean : ExcName → Option Value) (mg mb : Str → Option Value) (dp un : Nat) (gd : Option (List Code)) (a : Addr) (ccd : Value) (outer : List Env) (A₀ : Around) (base h₀ : Heap) (L : Addr) (c1 c2 c3 c4 c5 c6 : Addr) (m : Str → Option Value) (s : Shared) (Q : Flow → Shared → Prop) (E : Value → Shared → Prop) (T : List (Addr × Obj)) (rest : List Stmt) (r : Addr) (r9 : Int) (t u v : Tok) (hr : IsRange s.heap r 0 r9 1 t u v) (h0 : 0 ≤ r9) (h4 : r9 < 4) (B : Below A₀ base outer h₀) (X : (hd.heap_39 w.params).In h₀) (Tp : Top hd.view_39 LL mean mg mb h₀) (hdp : dp + 10 < recursionLimit) (hun : un + 100 < cLine) (pl fl : Addr) (fs : List Value) (np nf : Nat) (gs : List Int) (o1 : Obj) (o6 : Obj) (v6 : Option Value) (d6 : o6.data = Data.cell v6) (idx mix : Int) (p1 p2 : Tok) (hi0 : 0 ≤ idx) (hx0 : 0 ≤ mix) (hx1 : mix < 1009) (g1 : (c1, o1) ∈ T) (d1 : o1.data = Data.cell (some (.ref pl))) (gf : (fl, PySem.W.listOf fs.toArray nf) ∈ T) (hIf : IntsAre fs gs) (hgl : gs.length < 1000) (hT6 : ∀ p ∈ T, p.1 ≠ c6) (hTp : ∀ p ∈ T, p.1 ≠ pl) (h6p : @LT.lt Nat _ c6 pl)
    (F : Fr h₀ L s.heap m) (N : News h₀ L s.heap ((pl, poolO fl idx p1 mix p2 np) :: (c6, o6) :: T))
    (hk : ∀ (m' : Str → Option Value) (h' : Heap) (tk' : Nat) (T2 : List (Addr × Obj)) (o6' : Obj) (sl : Addr) (vs : List Value) (n : Nat) (sp : List (Int × Int)), Same [] m m' → (c6, o6') ∈ T2 → o6'.data = Data.cell (some (.ref sl)) → (sl, PySem.W.listOf vs.toArray n) ∈ T2 → SpansIn T2 vs sp → sp.length ≤ 3 → Bnd sp → Fr h₀ L h' m' → News h₀ L h' T2 → wpAny (model PySem.Challenge.rw_nu0312_01.row.toRowW.prog w) (lawAr dp un gd L a ccd c1 c2 c3 c4 c5 c6 outer) (execs rest (lawEnv L a ccd c1 c2 c3 c4 c5 c6)) Q E { s with heap := h', toks := tk' }) :
    LCg.CompSrc PySem.Challenge.rw_nu0312_01.row.toRowW.prog w (lawAr dp un gd L a ccd c1 c2 c3 c4 c5 c6 outer) h₀ L m (lawEnv L a ccd c1 c2 c3 c4 c5 c6) (lcElt lc28) (Str.ofString "step") (lcScope lc28) [(Str.ofString "pool", c1)] (fun s₂ => LCg.FinE h₀ L m s₂ (fun v s₁ => wpAny (model PySem.Challenge.rw_nu0312_01.row.toRowW.prog w) (lawAr dp un gd L a ccd c1 c2 c3 c4 c5 c6 outer) (storeName (lawEnv L a ccd c1 c2 c3 c4 c5 c6) (Str.ofString "spans_x") v) (fun _ s' => wpAny (model PySem.Challenge.rw_nu0312_01.row.toRowW.prog w) (lawAr dp un gd L a ccd c1 c2 c3 c4 c5 c6 outer) (execs rest (lawEnv L a ccd c1 c2 c3 c4 c5 c6)) Q E s') E s₁)) (.ref r) s := by
  have hsz : (r9 - 0).toNat ≤ sizeLine := by rw [sizeLine_eq]; omega
  refine LCg.CompSrc.range rfl F N hr (range_sm ⟨h0, h4⟩) (range_sz r9) hsz (fun g => ?_)
  refine rest28 w mean mg mb dp un gd a ccd outer A₀ base h₀ L c1 c2 c3 c4 c5 c6 m { s with heap := g } ((c6, o6) :: T) B X Tp hdp hun pl fl fs np nf gs o1 (.tail _ g1) d1 (.tail _ gf) hIf hgl _ _ (r9 - 0).toNat ?_ (r9 - 0).toNat 0 [] _ (by omega) ?_
  · rintro ys news ⟨idx', mix', p1', p2', tups, sp, rfl, _, _, _, hsp, hlen, hb, hap, hoff⟩
    intro D h tk F' N' o1'
    have hne := off_mem o1'
    refine storeX_C (c := c6) (o := o6) (news := (c6, o6) :: (D, LCg.lst ys) :: (tups ++ T)) (g := fun o' => (c6, o') :: (D, LCg.lst ys) :: (tups ++ T)) F' (cb_drop N' ?_) rfl (.head ?_) d6 ?_
    · intro p hp
      rcases List.mem_cons.mp hp with rfl | hp
      · exact .tail _ (.tail _ (List.mem_append_right _ (.head _)))
      · rcases List.mem_cons.mp hp with rfl | hp
        · exact .head _
        · rcases List.mem_append.mp hp with hp | hp
          · exact .tail _ (.tail _ (List.mem_append_left _ hp))
          · exact .tail _ (.tail _ (List.mem_append_right _ (.tail _ hp)))
    · intro p hp
      rcases List.mem_cons.mp hp with rfl | hp
      · exact Ne.symm (hne _ (.tail _ (List.mem_append_right _ (.head _))))
      · rcases List.mem_append.mp hp with hp | hp
        · exact hap p hp _ (.head _)
        · exact hT6 p hp
    · intro h' o' F'' N'' d''
      exact hk m h' _ _ o' D ys ys.length sp same_refl (.head _) d'' (.tail _ (.head _)) (hsp.more fun p hp => .tail _ (.tail _ (List.mem_append_left _ hp))) (by omega) hb F'' N''
  · refine ⟨idx, mix, p1, p2, [], [], rfl, hi0, hx0, hx1, .nil, rfl, (fun _ h => nomatch h), (fun _ h => nomatch h), ?_⟩
    intro p hp
    rcases List.mem_cons.mp hp with rfl | hp
    · exact Nat.ne_of_lt h6p
    · exact hTp p hp
set_option maxHeartbeats 8000000 in
theorem b28 (w : World) (mean : ExcName → Option Value) (mg mb : Str → Option Value) (dp un : Nat) (gd : Option (List Code)) (a : Addr) (ccd : Value) (outer : List Env) (A₀ : Around) (base h₀ : Heap) (L : Addr) (c1 c2 c3 c4 c5 c6 : Addr) (m : Str → Option Value) (s : Shared) (Q : Flow → Shared → Prop) (E : Value → Shared → Prop) (T : List (Addr × Obj)) (rest : List Stmt) (B : Below A₀ base outer h₀) (X : (hd.heap_39 w.params).In h₀) (Tp : Top hd.view_39 LL mean mg mb h₀) (hdp : dp + 10 < recursionLimit) (hun : un + 100 < cLine) (pl fl : Addr) (fs : List Value) (np nf : Nat) (gs : List Int) (o1 : Obj) (o6 : Obj) (v6 : Option Value) (d6 : o6.data = Data.cell v6) (idx mix : Int) (p1 p2 : Tok) (hi0 : 0 ≤ idx) (hx0 : 0 ≤ mix) (hx1 : mix < 1009) (g1 : (c1, o1) ∈ T) (d1 : o1.data = Data.cell (some (.ref pl))) (gf : (fl, PySem.W.listOf fs.toArray nf) ∈ T) (hIf : IntsAre fs gs) (hgl : gs.length < 1000) (hT6 : ∀ p ∈ T, p.1 ≠ c6) (hTp : ∀ p ∈ T, p.1 ≠ pl) (h6p : @LT.lt Nat _ c6 pl)
    (F : Fr h₀ L s.heap m) (N : News h₀ L s.heap ((pl, poolO fl idx p1 mix p2 np) :: (c6, o6) :: T))
    (hk : ∀ (m' : Str → Option Value) (h' : Heap) (tk' : Nat) (T2 : List (Addr × Obj)) (o6' : Obj) (sl : Addr) (vs : List Value) (n : Nat) (sp : List (Int × Int)), Same [] m m' → (c6, o6') ∈ T2 → o6'.data = Data.cell (some (.ref sl)) → (sl, PySem.W.listOf vs.toArray n) ∈ T2 → SpansIn T2 vs sp → sp.length ≤ 3 → Bnd sp → Fr h₀ L h' m' → News h₀ L h' T2 → wpAny (model PySem.Challenge.rw_nu0312_01.row.toRowW.prog w) (lawAr dp un gd L a ccd c1 c2 c3 c4 c5 c6 outer) (execs rest (lawEnv L a ccd c1 c2 c3 c4 c5 c6)) Q E { s with heap := h', toks := tk' }) :
    wpAny (model PySem.Challenge.rw_nu0312_01.row.toRowW.prog w) (lawAr dp un gd L a ccd c1 c2 c3 c4 c5 c6 outer) (execs (lawSt 28 :: rest) (lawEnv L a ccd c1 c2 c3 c4 c5 c6)) Q E s := by
  rw [st28]
  refine wpAny_execs_cons ?_
  with_reducible refine' wpAny_Assign_Name ?_ ?hs
  case hs => rfl
  with_reducible refine' LCg.ListComp_U (cl := [(Str.ofString "pool", c1)]) F ?a ?b ?c ?d ?e ?_ ?hs
  case a => rfl
  case b => decide +kernel
  case c => rfl
  case d => decide +kernel
  case e => rfl
  case hs => exact fun _ => rfl
  with_reducible refine' abs_post ?_
  intro Q1 hQ1
  conv in (lcIter _) => whnf
  k_steps
  rename Fr _ _ _ _ => F3
  rename News _ _ _ _ => N3
  rename IsRange _ _ _ _ _ _ _ _ => hr3
  rename_i r9 t9 i9 x9 u9 v9 h9 tk9 q1 q2 q3 q4 q5 q6 q7 z1 z2 z3 z4 z5 z6
  refine hQ1 _ _ ?_
  exact src28 w mean mg mb dp un gd a ccd outer A₀ base h₀ L c1 c2 c3 c4 c5 c6 m _ Q E T rest _ r9 _ _ _ hr3 q1 q2 B X Tp hdp hun pl fl fs np nf gs o1 o6 v6 d6 _ _ _ _ q3 q4 q5 g1 d1 gf hIf hgl hT6 hTp h6p F3 N3 hk
end
section
local macro_rules | `(tactic| walk_at "mine same") => `(tactic| rfl)
local macro_rules | `(tactic| k_mem) => `(tactic| assumption)

def cmpLeft : Expr → Expr
  | .Compare l _ _ _ => l
  | e => e
def lcTest : Expr → Expr
  | .ListComp _ (⟨_, _, t :: _, _⟩ :: _) _ _ => t
  | e => e
noncomputable def lc29 : Expr := cmpLeft (asVal (lawSt 29))
def Bad (p : Int × Int) : Prop := ¬ ((0 ≤ p.1 ∧ p.1 < 32) ∧ (0 ≤ p.2 ∧ p.2 < 32))
theorem bad_no {x y : Int} (h : (0 ≤ x ∧ x < 32) ∧ (0 ≤ y ∧ y < 32)) : (!true) = true ↔ Bad (x, y) := ⟨fun e => absurd e (by decide), fun b => absurd h b⟩
theorem bad_yes {x y : Int} (h : ¬ ((0 ≤ x ∧ x < 32) ∧ (0 ≤ y ∧ y < 32))) : (!false) = true ↔ Bad (x, y) := ⟨fun _ => h, fun _ => rfl⟩
theorem faulty_iff {ns : List Int} {sp : List (Int × Int)} (h : ns = [] ↔ ∀ p ∈ sp, ¬ Bad p) : (!decide (ns = [])) = true ↔ ∃ p ∈ sp, Bad p := by
  rw [Bool.not_eq_true', decide_eq_false_iff_not, h]
  constructor
  · intro x
    exact Classical.byContradiction fun y => x fun p hp b => y ⟨p, hp, b⟩
  · rintro ⟨p, hp, b⟩ x
    exact x p hp b
theorem SpansIn.at {T : List (Addr × Obj)} {vs : List Value} {sp : List (Int × Int)} (h : SpansIn T vs sp) : ∀ {i : Nat} {v : Value}, vs[i]? = some v → ∃ (D : Addr) (x y : Int) (tx ty : Tok) (n : Nat), v = .ref D ∧ sp[i]? = some (x, y) ∧ (D, spanO x tx y ty n) ∈ T := by
  induction h with
  | nil => intro i v h; simp at h
  | @cons D x y tx ty n vs sp hm _ ih =>
    intro i v h
    match i, h with
    | 0, h => exact ⟨D, x, y, tx, ty, n, by simpa using h.symm, rfl, hm⟩
    | j + 1, h => exact ih (i := j) (by simpa using h)
set_option maxHeartbeats 8000000 in
theorem tst29 (w : World) (mean : ExcName → Option Value) (mg mb : Str → Option Value) (dp un : Nat) (gd : Option (List Code)) (a : Addr) (ccd : Value) (outer : List Env) (A₀ : Around) (base h₀ : Heap) (L : Addr) (c1 c2 c3 c4 c5 c6 : Addr) (m : Str → Option Value) (s : Shared)  (E : Value → Shared → Prop) (T : List (Addr × Obj)) (Q : Bool → Shared → Prop) (C D0 : Addr) (oC : Obj) (m₂ : Str → Option Value) (x y : Int) (tx ty : Tok) (n : Nat) (B : Below A₀ base outer h₀) (X : (hd.heap_39 w.params).In h₀) (Tp : Top hd.view_39 LL mean mg mb h₀) (hdp : dp + 10 < recursionLimit) (hun : un + 100 < cLine) (hC : LCg.NsObj oC m₂) (hx : m₂ (Str.ofString "span") = some (.ref D0))
    (F : Fr h₀ L s.heap m) (N : News h₀ L s.heap ((D0, spanO x tx y ty n) :: (C, oC) :: T))
    (hk : ∀ (b : Bool) (h' : Heap) (tk' : Nat), (b = true ↔ Bad (x, y)) → Fr h₀ L h' m → News h₀ L h' ((D0, spanO x tx y ty n) :: (C, oC) :: T) → Q b { s with heap := h', toks := tk' }) :
    wpAny (model PySem.Challenge.rw_nu0312_01.row.toRowW.prog w) (lawAr dp un gd L a ccd c1 c2 c3 c4 c5 c6 outer) (isTrue (lcTest lc29) (compEnvC (lcScope lc29) [] C (lawEnv L a ccd c1 c2 c3 c4 c5 c6)) (eval (lcTest lc29) (compEnvC (lcScope lc29) [] C (lawEnv L a ccd c1 c2 c3 c4 c5 c6)))) Q E s := by
  conv in (occs := *) (lcTest _) => all_goals whnf
  conv in (occs := *) (lcScope _) => all_goals whnf
  k_steps
  all_goals ((refine' hk _ _ _ ?a ?qF ?qN); (case qF => assumption); (case qN => assumption); (case a => first | exact bad_no (by omega) | exact bad_yes (by omega)))
theorem take_succ_all {α : Type} {P : α → Prop} {l : List α} {i : Nat} {a : α} (h : l[i]? = some a) : (∀ p ∈ l.take (i + 1), P p) ↔ (∀ p ∈ l.take i, P p) ∧ P a := by
  rw [List.take_add_one, h]
  simp only [Option.toList_some, List.mem_append, List.mem_singleton]
  constructor
  · intro x; exact ⟨fun p hp => x p (.inl hp), x a (.inr rfl)⟩
  · rintro ⟨x, y⟩ p (hp | rfl)
    · exact x p hp
    · exact y
set_option maxHeartbeats 8000000 in
theorem rest29 (w : World) (mean : ExcName → Option Value) (mg mb : Str → Option Value) (dp un : Nat) (gd : Option (List Code)) (a : Addr) (ccd : Value) (outer : List Env) (A₀ : Around) (base h₀ : Heap) (L : Addr) (c1 c2 c3 c4 c5 c6 : Addr) (m : Str → Option Value) (s : Shared)   (T : List (Addr × Obj)) (B : Below A₀ base outer h₀) (X : (hd.heap_39 w.params).In h₀) (Tp : Top hd.view_39 LL mean mg mb h₀) (hdp : dp + 10 < recursionLimit) (hun : un + 100 < cLine) (sl : Addr) (vs : List Value) (nl : Nat) (sp : List (Int × Int)) (hsp : SpansIn T vs sp) (gs : (sl, PySem.W.listOf vs.toArray nl) ∈ T) (Fin : List Value → List (Addr × Obj) → Prop) (hFin : ∀ ys ns, IntsAre ys ns → (ns = [] ↔ ∀ p ∈ sp, ¬ Bad p) → ys.length ≤ sp.length → Fin ys T) :
    ∀ (k i : Nat) (ys : List Value) (ns : List Int), i + k = vs.length → IntsAre ys ns → (ns = [] ↔ ∀ p ∈ sp.take i, ¬ Bad p) → ys.length ≤ i →
      LCt.CompRestT PySem.Challenge.rw_nu0312_01.row.toRowW.prog w (lawAr dp un gd L a ccd c1 c2 c3 c4 c5 c6 outer) h₀ L m (lawEnv L a ccd c1 c2 c3 c4 c5 c6) (lcTest lc29) (lcElt lc29) (Str.ofString "span") (lcScope lc29) [] s (LCg.SrcAt h₀ sl vs.toArray) (fun i v => vs.toArray[i]? = some v) Fin k i ys T
  | 0, i, ys, ns, hik, hI, hn, hl => LCt.CompRestT.zero (hFin ys ns hI (by rw [hn]; have := hsp.length; rw [List.take_of_length_le (by omega)]) (by have := hsp.length; omega))
  | k + 1, i, ys, ns, hik, hI, hn, hl => by
    refine LCt.CompRestT.succ ?_
    intro v I oI C oC D m₂ h tk E' hv hC hx F' N' off ne
    obtain ⟨D0, x, y, tx, ty, n, rfl, hs, hm⟩ := hsp.at (show vs[i]? = some v by simpa using hv)
    have off' := off.mem
    refine tst29 w mean mg mb dp un gd a ccd outer A₀ base h₀ L c1 c2 c3 c4 c5 c6 m { s with heap := h, toks := tk } E' ((I, oI) :: (D, LCg.lst ys) :: T) _ C D0 oC m₂ x y tx ty n B X Tp hdp hun hC hx F' (cb_drop N' ?_) ?_
    · intro p hp
      rcases List.mem_cons.mp hp with rfl | hp
      · exact .tail _ (.tail _ (.tail _ hm))
      · rcases List.mem_cons.mp hp with rfl | hp
        · exact .tail _ (.head _)
        · rcases List.mem_cons.mp hp with rfl | hp
          · exact .head _
          · rcases List.mem_cons.mp hp with rfl | hp
            · exact .tail _ (.tail _ (.head _))
            · exact .tail _ (.tail _ (.tail _ hp))
    · intro b h' tk' hb F'' N''
      have N3 : News h₀ L h' ((I, oI) :: (C, oC) :: (D, LCg.lst ys) :: T) := cb_drop N'' (by
        intro p hp
        rcases List.mem_cons.mp hp with rfl | hp
        · exact .tail _ (.tail _ (.head _))
        · rcases List.mem_cons.mp hp with rfl | hp
          · exact .tail _ (.head _)
          · rcases List.mem_cons.mp hp with rfl | hp
            · exact .tail _ (.tail _ (.tail _ (.head _)))
            · exact .tail _ (.tail _ (.tail _ (.tail _ hp))))
      have src : LCg.SrcAt h₀ sl vs.toArray T := .inr ⟨_, gs, rfl, _, rfl⟩
      cases b with
      | true =>
        rw [if_pos rfl]
        refine wpAny_Constant_int (i := 1) ?_
        refine ⟨h', tk' + 1, T, rfl, F'', N3, off, src, ?_⟩
        refine rest29 w mean mg mb dp un gd a ccd outer A₀ base h₀ L c1 c2 c3 c4 c5 c6 m s T B X Tp hdp hun sl vs nl sp hsp gs Fin hFin k (i + 1) _ (ns ++ [1]) (by omega) (hI.append (.cons 1 _ .nil)) ?_ (by rw [List.length_append]; simp; omega)
        rw [take_succ_all hs]
        exact ⟨fun e => absurd e (by simp), fun e => absurd (hb.1 rfl) e.2⟩
      | false =>
        rw [if_neg (by decide)]
        refine ⟨h', tk', T, rfl, F'', N3, off, src, ?_⟩
        refine rest29 w mean mg mb dp un gd a ccd outer A₀ base h₀ L c1 c2 c3 c4 c5 c6 m s T B X Tp hdp hun sl vs nl sp hsp gs Fin hFin k (i + 1) _ ns (by omega) hI ?_ (by omega)
        rw [take_succ_all hs, hn]
        have nb : ¬ Bad (x, y) := fun e => absurd (hb.2 e) (by decide)
        exact ⟨fun e => ⟨e, nb⟩, fun e => e.1⟩
set_option maxHeartbeats 8000000 in
theorem comp29 (w : World) (mean : ExcName → Option Value) (mg mb : Str → Option Value) (dp un : Nat) (gd : Option (List Code)) (a : Addr) (ccd : Value) (outer : List Env) (A₀ : Around) (base h₀ : Heap) (L : Addr) (c1 c2 c3 c4 c5 c6 : Addr) (m : Str → Option Value) (s : Shared) (Q : Value → Shared → Prop) (E : Value → Shared → Prop) (T : List (Addr × Obj)) (B : Below A₀ base outer h₀) (X : (hd.heap_39 w.params).In h₀) (Tp : Top hd.view_39 LL mean mg mb h₀) (hdp : dp + 10 < recursionLimit) (hun : un + 100 < cLine) (sl : Addr) (vs : List Value) (nl : Nat) (sp : List (Int × Int)) (hsp : SpansIn T vs sp) (gs : (sl, PySem.W.listOf vs.toArray nl) ∈ T) (o6 : Obj) (g6 : (c6, o6) ∈ T) (d6 : o6.data = Data.cell (some (.ref sl))) (hl3 : sp.length ≤ 3) (F : Fr h₀ L s.heap m) (N : News h₀ L s.heap T)
    (hk : ∀ (D : Addr) (ys : List Value) (ns : List Int) (h' : Heap) (tk' : Nat), IntsAre ys ns → (ns = [] ↔ ∀ p ∈ sp, ¬ Bad p) → ys.length ≤ 3 → Fr h₀ L h' m → News h₀ L h' ((D, LCg.lst ys) :: T) → LCg.Off1 D T → Q (.ref D) { s with heap := h', toks := tk' }) :
    wpAny (model PySem.Challenge.rw_nu0312_01.row.toRowW.prog w) (lawAr dp un gd L a ccd c1 c2 c3 c4 c5 c6 outer) (eval lc29 (lawEnv L a ccd c1 c2 c3 c4 c5 c6)) Q E s := by
  rw [show lc29 = .ListComp (lcElt lc29) [⟨.Name (Str.ofString "span") (lcPx lc29), lcIter lc29, [lcTest lc29], 0⟩] (lcScope lc29) (lcPos lc29) from rfl]
  with_reducible refine' LCt.ListComp_T (cl := []) F ?a ?b ?c ?d ?e ?_ ?hs
  case a => rfl
  case b => decide +kernel
  case c => rfl
  case d => decide +kernel
  case e => rfl
  case hs => exact fun _ => rfl
  conv in (lcIter _) => whnf
  refine nameX_C N rfl g6 d6 ?_
  have hvl := hsp.length
  refine LCt.CompSrcT.ledger rfl F N gs (by rw [sizeLine_eq, List.size_toArray]; omega) (fun g => ?_)
  refine rest29 w mean mg mb dp un gd a ccd outer A₀ base h₀ L c1 c2 c3 c4 c5 c6 m { s with heap := g } T B X Tp hdp hun sl vs nl sp hsp gs _ ?_ _ 0 [] [] (by simp) .nil (by simp) (by simp)
  intro ys ns hI hn hl
  intro D h tk F' N' o1'
  exact hk D ys ns h tk hI hn (by omega) F' N' o1'
local macro_rules | `(tactic| walk_at "eval ListComp") => `(tactic| (k_here; k_dflt (refine' comp29 _ _ _ _ _ _ _ _ _ _ _ _ _ _ _ _ _ _ _ _ _ _ _ _ _ (by assumption) (by assumption) (by assumption) (by assumption) (by assumption) _ _ _ _ (by assumption) (by assumption) _ (by assumption) (by assumption) (by assumption) (by assumption) (by assumption) ?_); intro D' ys' ns' h' tk' hI' hn' hl' F' N' o1'))
set_option maxHeartbeats 8000000 in
theorem b29 (w : World) (mean : ExcName → Option Value) (mg mb : Str → Option Value) (dp un : Nat) (gd : Option (List Code)) (a : Addr) (ccd : Value) (outer : List Env) (A₀ : Around) (base h₀ : Heap) (L : Addr) (c1 c2 c3 c4 c5 c6 : Addr) (m : Str → Option Value) (s : Shared) (Q : Flow → Shared → Prop) (E : Value → Shared → Prop) (T : List (Addr × Obj)) (rest : List Stmt) (sl : Addr) (vs : List Value) (nl : Nat) (sp : List (Int × Int)) (hsp : SpansIn T vs sp) (gs : (sl, PySem.W.listOf vs.toArray nl) ∈ T) (o6 : Obj) (g6 : (c6, o6) ∈ T) (d6 : o6.data = Data.cell (some (.ref sl))) (hl3 : sp.length ≤ 3) (B : Below A₀ base outer h₀) (X : (hd.heap_39 w.params).In h₀) (Tp : Top hd.view_39 LL mean mg mb h₀) (hdp : dp + 10 < recursionLimit) (hun : un + 100 < cLine) 
      (F : Fr h₀ L s.heap m) (N : News h₀ L s.heap (T))
    (hk : ∀ (m' : Str → Option Value) (h' : Heap) (tk' : Nat) (b : Bool), Same [Str.ofString "faulty"] m m' → m' (Str.ofString "faulty") = some (.bool b) → (b = true ↔ ∃ p ∈ sp, Bad p) → Fr h₀ L h' m' → News h₀ L h' (T) → wpAny (model PySem.Challenge.rw_nu0312_01.row.toRowW.prog w) (lawAr dp un gd L a ccd c1 c2 c3 c4 c5 c6 outer) (execs rest (lawEnv L a ccd c1 c2 c3 c4 c5 c6)) Q E { s with heap := h', toks := tk' }) :
    wpAny (model PySem.Challenge.rw_nu0312_01.row.toRowW.prog w) (lawAr dp un gd L a ccd c1 c2 c3 c4 c5 c6 outer) (execs (lawSt 29 :: rest) (lawEnv L a ccd c1 c2 c3 c4 c5 c6)) Q E s := by
  conv in (lawSt 29) => whnf
  have F1 := F
  clear F
  k_steps
  all_goals ((refine' hk _ _ _ _ ?qm ?q0 ?q1 ?qF ?qN); (case qF => assumption); (case q0 => exact if_pos rfl); (case qN => exact cb_drop (by assumption) (by walk_at "mine all")); (case q1 => exact faulty_iff (by assumption)); (case qm => walk_at "mine map"))
end
section
local macro_rules | `(tactic| walk_at "mine same") => `(tactic| rfl)

noncomputable def setDef : Stmt := PySem.Challenge.pw_nu0312_01.main.body.getD 12 (.Pass ⟨0,0,0,0⟩)
noncomputable def setScope : Scope := scopeOf setDef
noncomputable def setFor : Stmt := (bodyOf setDef).getD 1 (.Pass ⟨0,0,0,0⟩)
noncomputable abbrev setEnv (L' : Addr) : Env := envOf (Str.ofString "fold_set") setScope L' 91 (.ref 90)
def BadS (p : Int × Int) : Prop := p.1 < 0 ∨ 31 < p.1 ∨ p.2 < 0 ∨ 31 < p.2
set_option hygiene false
local macro_rules | `(tactic| walk_at "call ref") => `(tactic| (k_here; k_dflt ((first | (refine' use (mask_c _ _ _ _ _ _ _ _ _) ?k1 ?k2 ?k3 ?k4 ?k5 ?kK ?kd ?ku ?kp ?_; (case k4 => k_asm); (case kp => (refine ⟨?_, ?_, ?_, ?_⟩ <;> omega)))); (walk_at "mine tl"); (walk_at "mine in"))))
set_option hygiene true
local macro_rules | `(tactic| k_mem) => `(tactic| assumption)
local macro_rules | `(tactic| walk_at "mine offT") => `(tactic| first | assumption | exact And.right (by assumption) | exact off_all (by assumption) | exact off_lt (by assumption) | exact off_lt (And.right (by assumption)) | (refine off_lt (And.right (b := AllLt _ _) ?hzz); (case hzz => assumption)))
set_option maxHeartbeats 8000000 in
theorem turnS (w : World) (mean : ExcName → Option Value) (mg mb : Str → Option Value) (dp un : Nat) (gd : Option (List Code)) (cn : Str) (cs : Scope) (L a : Addr) (ccd : Value) (cl : List (Str × Addr)) (outer : List Env) (base g : Heap) (L' : Addr) (m : Str → Option Value) (s : Shared) (Q : Flow → Shared → Prop) (E : Value → Shared → Prop) (T : List (Addr × Obj))
    (D0 : Addr) (low high found : Int) (tl th tf : Tok) (n : Nat) (B : Below (ktrTop dp un gd cn cs L a ccd cl outer) base (envX cn cs L a ccd cl :: outer) g) (X : (hd.heap_39 w.params).In g) (Tp : Top hd.view_39 LL mean mg mb g) (hdp : dp + 2 < recursionLimit) (hun : un + 16 < cLine)
    (gD : (D0, spanO low tl high th n) ∈ T) (hf : m (Str.ofString "found") = some (.int found tf)) (F : Fr g L' s.heap m) (N : News g L' s.heap T)
    (hbad : BadS (low, high) → ∀ (D : Addr) (t1 t2 : Tok) (n' : Nat) (h' : Heap) (tk' : Nat) (m' : Str → Option Value), Fr g L' h' m' → News g L' h' ((D, tupO 0 t1 (Str.ofString "bad_element") t2 n') :: T) → (∀ p ∈ T, p.1 < D) → Q (.ret (.ref D)) { s with heap := h', toks := tk' })
    (hok : ¬ BadS (low, high) → ∀ (m' : Str → Option Value) (h' : Heap) (tk' : Nat) (t : Tok), m' (Str.ofString "found") = some (.int (Builtin.bitOr found (maskv low high)) t) → Fr g L' h' m' → News g L' h' T → Q .next { s with heap := h', toks := tk' }) :
    wpAny (model PySem.Challenge.rw_nu0312_01.row.toRowW.prog w) ((ktrTop dp un gd cn cs L a ccd cl outer).deeper (setEnv L')) (assign (forTarget setFor) (setEnv L') (.ref D0)) (fun _ s₂ => wpAny (model PySem.Challenge.rw_nu0312_01.row.toRowW.prog w) ((ktrTop dp un gd cn cs L a ccd cl outer).deeper (setEnv L')) (execs (forBody setFor) (setEnv L')) Q E s₂) E s := by
  have N1 : News g L' s.heap ((D0, spanO low tl high th n) :: T) := cb_drop N (fun q hq => by
    rcases List.mem_cons.mp hq with rfl | hq
    · exact gD
    · exact hq)
  clear N
  conv in (forTarget _) => whnf
  conv in (forBody _) => whnf
  have F1 := (fr_look (x := Str.ofString "found") F (by walk_at "mine rd"))
  clear F
  k_steps
  all_goals first
    | ((refine' hok ?b _ _ _ _ ?f ?qF ?qN); (case qF => assumption); (case f => exact if_pos rfl); (case qN => exact cb_drop (by assumption) (by walk_at "mine all")); (case b => (unfold BadS; dsimp only; omega)))
    | ((refine' hbad ?b _ _ _ _ _ _ _ ?qF ?qN ?lt); (case qF => assumption); (case qN => exact cb_drop (by assumption) (by walk_at "mine all")); (case b => (unfold BadS; dsimp only; omega)); (case lt => (rename _ ∧ AllLt _ _ => hz; exact fun p hp => allLt_get hz.2 hp)))
set_option maxHeartbeats 8000000 in
theorem loopS (w : World) (mean : ExcName → Option Value) (mg mb : Str → Option Value) (dp un : Nat) (gd : Option (List Code)) (cn : Str) (cs : Scope) (L a : Addr) (ccd : Value) (cl : List (Str × Addr)) (outer : List Env) (base g : Heap) (L' : Addr) (m : Str → Option Value) (s : Shared) (Q : Flow → Shared → Prop) (E : Value → Shared → Prop) (T : List (Addr × Obj))
    (sl : Addr) (vs : List Value) (nl : Nat) (sp : List (Int × Int)) (tf : Tok) (B : Below (ktrTop dp un gd cn cs L a ccd cl outer) base (envX cn cs L a ccd cl :: outer) g) (X : (hd.heap_39 w.params).In g) (Tp : Top hd.view_39 LL mean mg mb g) (hdp : dp + 2 < recursionLimit) (hun : un + 16 < cLine)
    (hsp : SpansIn T vs sp) (gs : (sl, PySem.W.listOf vs.toArray nl) ∈ T) (hf : m (Str.ofString "found") = some (.int 0 tf)) (F : Fr g L' s.heap m) (N : News g L' s.heap T)
    (hbad : (setGo sp 0).1 = 0 → (setGo sp 0).2 = Str.ofString "bad_element" → ∀ (D : Addr) (t1 t2 : Tok) (n' : Nat) (h' : Heap) (tk' : Nat) (m' : Str → Option Value), Fr g L' h' m' → News g L' h' ((D, tupO 0 t1 (Str.ofString "bad_element") t2 n') :: T) → (∀ p ∈ T, p.1 < D) → Q (.ret (.ref D)) { s with heap := h', toks := tk' })
    (hok : ∀ (m' : Str → Option Value) (h' : Heap) (tk' : Nat) (acc : Int) (t : Tok), setGo sp 0 = (acc, Str.ofString "") → m' (Str.ofString "found") = some (.int acc t) → Fr g L' h' m' → News g L' h' T → Q .next { s with heap := h', toks := tk' }) :
    wpAny (model PySem.Challenge.rw_nu0312_01.row.toRowW.prog w) ((ktrTop dp un gd cn cs L a ccd cl outer).deeper (setEnv L')) (pyIter (.ref sl)) (fun it s₂ => TurnsAt PySem.Challenge.rw_nu0312_01.row.toRowW.prog w ((ktrTop dp un gd cn cs L a ccd cl outer).deeper (setEnv L')) g (setEnv L') (forTarget setFor) (forBody setFor) Q E it s₂) E s := by
  have hvl := hsp.length
  refine iter_J (s := s) (cs₀ := []) (T := T) (vs := vs) rfl F N gs (fun _ _ _ h => nomatch h) rfl rfl (fun i m' cs => cs = [] ∧ ∃ (acc : Int) (t : Tok), m' (Str.ofString "found") = some (.int acc t) ∧ setGo sp 0 = setGo (sp.drop i) acc) ?_ ⟨rfl, 0, tf, hf, rfl⟩ ?_ ?_
  · rintro i m' cs ⟨rfl, _⟩
    rfl
  · rintro i v m₁ cs₁ T' h₁ tk₁ hv ⟨rfl, acc, t, hfa, hgo⟩ hTT hoff F₁ N₁
    obtain ⟨D0, low, high, tl, th, n, rfl, hsi, hm⟩ := hsp.at hv
    have hd' : sp.drop i = (low, high) :: sp.drop (i + 1) := by
      have hlt : i < sp.length := (List.getElem?_eq_some_iff.1 hsi).1
      rw [List.drop_eq_getElem_cons hlt]
      congr 1
      exact Option.some.inj ((List.getElem?_eq_getElem hlt).symm.trans hsi)
    rw [hd'] at hgo
    refine turnS w mean mg mb dp un gd cn cs L a ccd cl outer base g L' m₁ { s with heap := h₁, toks := tk₁ } _ E T' D0 low high acc tl th t n B X Tp hdp hun (hTT _ hm) hfa F₁ N₁ ?_ ?_
    · intro hb D t1 t2 n' h' tk' m' F' N' hlt
      rw [setGo_bad hb] at hgo
      refine hbad (by rw [hgo]) (by rw [hgo]) D t1 t2 n' h' tk' m' F' (cb_drop N' ?_) (fun p hp => hlt p (hTT p hp))
      intro p hp
      rcases List.mem_cons.mp hp with rfl | hp
      · exact .head _
      · exact .tail _ (hTT p hp)
    · intro hb m' h' tk' t' hf' F' N'
      rw [setGo_ok hb] at hgo
      exact ⟨h', tk', m', [], rfl, F', N', rfl, _, t', hf', hgo⟩
  · rintro h' tk' m' cs F' N' ⟨rfl, acc, t, hf', hgo⟩
    rw [List.drop_of_length_le (by omega)] at hgo
    exact hok m' h' tk' acc t hgo hf' F' N'
set_option maxHeartbeats 8000000 in
theorem setg_c (w : World) (mean : ExcName → Option Value) (mg mb : Str → Option Value) (news : List (Addr × Obj)) (sl : Addr) (vs : List Value) (n : Nat) (sp : List (Int × Int)) :
    Claim w mean mg mb 2 16 91 [.ref sl] news ((sl, PySem.W.listOf vs.toArray n) ∈ news ∧ SpansIn news vs sp) (RTup news (setGo sp 0).1 (setGo sp 0).2) := by
  unfold Claim
  intro _ _ _ _ _ _ _ _ _ _ _ _ _ _ _ _ _ _ _ _ _ _ _ _ _ hp hret
  obtain ⟨hm, hsp⟩ := hp
  refine wpAny_call ?_
  k_dflt cell_enter
  k_steps
  rename Fr _ _ _ _ => F3
  with_unfolding_all refine' For_turns F3 ?_ ?hs ?hE
  case hs => exact fun _ => rfl
  case hE => passes_own
  rename News _ _ _ _ => N3
  rename Below _ _ _ _ => B3
  rename Frag.In _ _ => X3
  rename Top _ _ _ _ _ _ => T3
  walk1
  refine loopS w mean mg mb _ _ _ _ _ _ _ _ _ _ _ _ _ _ _ _ _ news sl vs n sp _ B3 X3 T3 (by assumption) (by assumption) hsp hm rfl F3 N3 ?_ ?_
  · intro e1 e2 D t1 t2 n' h' tk' m' F' N' hlt
    k_steps
    all_goals (refine retT hret (by assumption) (by assumption) (by walk_at "mine mem") (by walk_at "mine sub") (by walk_at "mine off") ?_ ?_)
    all_goals first | exact e1.symm | exact e2.symm
  · intro m' h' tk' acc t e hf' F' N'
    have F4 := fr_look F' hf'
    clear F'
    k_steps
    all_goals (refine retT hret (by assumption) (by assumption) (by walk_at "mine mem") (by walk_at "mine sub") (by walk_at "mine off") ?_ ?_)
    all_goals rw [e]
end
section
open PySem PySem.W PyProof.Rows PySem.Calls PyProof.V PySem.Spec
section
variable {M : Model} {A : Around} {E : Value → Shared → Prop} {s : Shared} {scope : Scope} {cl : List (Str × Addr)} {env : Env}
theorem setup_plain (hcell : ∀ y ∈ scope.names, y.2 ≠ .cell) (hkind : scope.kind = .function) {Q : Value → Env → Shared → Prop}
    (h : ∀ (D C : Addr) (h₁ : Heap) (tk : Nat) (m₁ : Str → Option Value), h₁.Ns C m₁ → (∀ b o, s.heap.get? b = some o → h₁.get? b = some o) → h₁.get? D = some (LCg.lst []) → s.heap.objs.size ≤ D → s.heap.objs.size ≤ C → D ≠ C →
      Q (.ref D) (newEnv scope C env.globals cl env.qual none .none (some env) builtinsNs) { s with heap := h₁, toks := tk }) :
    wpAny M A (newList []) (fun acc s₃ => wpAny M A (newFunctionEnv scope env.globals cl [] env.qual none .none (some env)) (fun cenv s₄ => Q acc cenv s₄) E s₃) E s := by
  refine wpAny_newObj_type (wpAny_newFunctionEnv hcell (by intro y hy; simp at hy) (fun h₁ hns₁ hsb₁ => ?_) hkind)
  dsimp only at hns₁ hsb₁ ⊢
  generalize hH2 : s.heap.push { cls := .type "list", dict := none, data := .seq ([] : List Value).toArray } = H2 at hns₁ hsb₁ ⊢
  have hC : H2.objs.size = s.heap.objs.size + 1 := by rw [← hH2, Heap.size_push]
  have hDC : s.heap.objs.size ≠ H2.objs.size := by rw [hC]; exact Nat.ne_of_lt (Nat.lt_succ_self _)
  refine h s.heap.objs.size H2.objs.size h₁ _ _ hns₁ (fun b o e => hsb₁.extBut b o ?_ (Heap.get?_push_of_some _ (hH2 ▸ Heap.get?_push_of_some _ e))) ?_ (Nat.le_refl _) (by rw [hC]; exact Nat.le_succ _) hDC
  · have := Heap.lt_size e
    rw [hC]; exact Nat.ne_of_lt (Nat.lt_succ_of_lt this)
  · exact hsb₁.extBut _ _ hDC (Heap.get?_push_of_some _ (hH2 ▸ Heap.get?_push_size _ rfl))
theorem setup_cell {n0 x z : Str} (hsc : scope.names = [(n0, .local), (x, .cell), (z, .free)]) {Q : Value → Env → Shared → Prop}
    (h : ∀ (D C K : Addr) (h₁ : Heap) (tk : Nat) (m₁ : Str → Option Value) (oK : Obj), h₁.Ns C m₁ → (∀ b o, s.heap.get? b = some o → h₁.get? b = some o) → h₁.get? D = some (LCg.lst []) → h₁.get? K = some oK → oK.data = .cell none →
      s.heap.objs.size ≤ D → s.heap.objs.size ≤ C → s.heap.objs.size ≤ K → D ≠ C → D ≠ K → C ≠ K →
      Q (.ref D) (newEnv scope C env.globals ((x, K) :: cl) env.qual none .none (some env) builtinsNs) { s with heap := h₁, toks := tk }) :
    wpAny M A (newList []) (fun acc s₃ => wpAny M A (newFunctionEnv scope env.globals cl [] env.qual none .none (some env)) (fun cenv s₄ => Q acc cenv s₄) E s₃) E s := by
  refine wpAny_newObj_type ?_
  simp only [newFunctionEnv, Option.isSome_some, if_true]
  refine wpAny_bind (wpAny_alloc ?_)
  refine wpAny_bind (wpAny_layCells _ (fun name kind cells => by cases hkc : kind == NameKind.cell <;> simp [hkc]) _ _ _ _ ?_)
  rw [hsc]
  refine wpAny_bind ?_
  rw [List.forIn_nil]
  refine wpAny_pure (wpAny_pure ?_)
  generalize hH2 : s.heap.push { cls := .type "list", dict := none, data := .seq ([] : List Value).toArray } = H2
  generalize hH3 : H2.push { cls := .type "dict", data := .dict #[] } = H3
  have e2 : H2.objs.size = s.heap.objs.size + 1 := by rw [← hH2, Heap.size_push]
  have e3 : H3.objs.size = H2.objs.size + 1 := by rw [← hH3, Heap.size_push]
  have k2 : ∀ b o, s.heap.get? b = some o → H2.get? b = some o := fun b o e => hH2 ▸ Heap.get?_push_of_some _ e
  have k3 : ∀ b o, H2.get? b = some o → H3.get? b = some o := fun b o e => hH3 ▸ Heap.get?_push_of_some _ e
  have k4 : ∀ b o, H3.get? b = some o → (H3.push { cls := .type "cell", data := .cell none }).get? b = some o := fun b o e => Heap.get?_push_of_some _ e
  refine h s.heap.objs.size H2.objs.size H3.objs.size (H3.push { cls := .type "cell", data := .cell none }) s.toks (fun _ => none) _ ?_ (fun b o e => k4 _ _ (k3 _ _ (k2 _ _ e))) ?_ (Heap.get?_push_size _ rfl) rfl (Nat.le_refl _) (by omega) (by omega) (show @Ne Nat _ _ by omega) (show @Ne Nat _ _ by omega) (show @Ne Nat _ _ by omega)
  · exact ((hH3 ▸ Heap.Ns.new H2 (.type "dict")).keeps k4)
  · exact k4 _ _ (k3 _ _ (hH2 ▸ Heap.get?_push_size _ rfl))
end
theorem fr_keep {h₀ h h' : Heap} {L C : Addr} {m : Str → Option Value} (F : Fr h₀ L h m) (hk : ∀ b o, b ≠ C → h.get? b = some o → h'.get? b = some o) (hL : L ≠ C) (hC : h₀.get? C = none) : Fr h₀ L h' m :=
  ⟨F.ns.at' fun o e => hk L o hL e, fun b o e => hk b o (fun q => by rw [q, hC] at e; cases e) (F.keep b o e), F.above⟩
theorem news_keep {h₀ h h' : Heap} {L C : Addr} {T : List (Addr × Obj)} (N : News h₀ L h T) (hk : ∀ b o, b ≠ C → h.get? b = some o → h'.get? b = some o) (off : ∀ p ∈ T, p.1 ≠ C) : News h₀ L h' T :=
  fun p hp => ⟨hk _ _ (off p hp) (N p hp).1, (N p hp).2⟩
theorem but_keep {h h' : Heap} {C : Addr} (hs : Heap.SameBut C h h') : ∀ b o, b ≠ C → h.get? b = some o → h'.get? b = some o := fun b o hb e => hs.extBut b o hb e
theorem fresh_none {h₀ h : Heap} {a : Addr} (keep : ∀ b o, h₀.get? b = some o → h.get? b = some o) (ha : h.objs.size ≤ a) : h₀.get? a = none := by
  cases e : h₀.get? a with
  | none => rfl
  | some o => exact absurd (Heap.lt_size (keep _ _ e)) (Nat.not_lt.mpr ha)
section
variable {prog : Program} {w : World} {A : Around} {E : Value → Shared → Prop} {s : Shared} {h₀ : Heap} {L : Addr} {m : Str → Option Value} {env : Env} {T : List (Addr × Obj)}
theorem inner_PT {x x₂ : Str} {c iter : PySem.Expr} {px px₂ tp pc : Pos} {kk kc : Nat} {scope : Scope} {cl : List (Str × Addr)} {pos : Pos} {Q : Value → Shared → Prop} (hh : A.handled = none)
    (hclos : closureFor scope env = pure cl) (hcell : ∀ y ∈ scope.names, y.2 ≠ .cell) (hkind : scope.kind = .function) (hnames : ∀ y ∈ scope.names, y.2 = .local → scope.names.lookup y.1 = some .local)
    (hx : scope.names.lookup x = some .local) (hx₂ : scope.names.lookup x₂ = some .local) (hxx : x ≠ x₂) (hs : ∀ x, foldedSetIterable iter env x = pure x)
    {sl : Addr} {vs : List Value} {nl : Nat} {sp : List (Int × Int)} (hsp : SpansIn T vs sp) (gs : (sl, PySem.W.listOf vs.toArray nl) ∈ T) (hl3 : sp.length ≤ 1000) (Tst : Int × Int → Prop)
    (hiter : ∀ Q' : Value → Shared → Prop, Q' (.ref sl) s → wpAny (model prog w) A (eval iter env) Q' E s)
    (test : ∀ (C : Addr) (oC : Obj) (m₂ : Str → Option Value) (a b : Int) (ta tb : Tok) (T' : List (Addr × Obj)) (s' : Shared) (Q' : Bool → Shared → Prop) (E' : Value → Shared → Prop), LCg.NsObj oC m₂ → m₂ x = some (.int a ta) → m₂ x₂ = some (.int b tb) → (∀ p ∈ T, p ∈ T') →
      Fr h₀ L s'.heap m → News h₀ L s'.heap ((C, oC) :: T') → (∀ (bb : Bool) (h' : Heap) (tk' : Nat), (bb = true ↔ Tst (a, b)) → Fr h₀ L h' m → News h₀ L h' ((C, oC) :: T') → Q' bb { s' with heap := h', toks := tk' }) →
      wpAny (model prog w) A (isTrue c (compEnvC scope cl C env) (eval c (compEnvC scope cl C env))) Q' E' s')
    (F : Fr h₀ L s.heap m) (N : News h₀ L s.heap T)
    (hk : ∀ (D : Addr) (ys : List Value) (ns : List Int) (h' : Heap) (tk' : Nat), IntsAre ys ns → (ns = [] ↔ ∀ p ∈ sp, ¬ Tst p) → ys.length ≤ sp.length → Fr h₀ L h' m → News h₀ L h' ((D, LCg.lst ys) :: T) → LCg.Off1 D T → Q (.ref D) { s with heap := h', toks := tk' }) :
    wpAny (model prog w) A (eval (.ListComp (.Constant (.int 1) kc pc) [⟨.Tuple [.Name x px, .Name x₂ px₂] kk tp, iter, [c], 0⟩] scope pos) env) Q E s := by
  have hvl := hsp.length
  have hgs := N _ gs
  have hl : s.heap.IsList sl vs.toArray := ⟨_, hgs.1, rfl, nl, rfl⟩
  have hlt : sl < s.heap.objs.size := Heap.lt_size hgs.1
  rw [eval_ListComp]
  refine wpAny_comprehension_free (use := none) rfl hs hclos hkind hnames (hiter _ ?_)
  refine wpAny_pyIter_list hl ?_
  generalize hI : s.heap.objs.size = I at *
  generalize hH1 : s.heap.push { cls := .type "list_iterator", data := .fields #[.ref sl, .int 0 0] } = H1
  have hsz1 : H1.objs.size = I + 1 := by rw [← hH1, Heap.size_push, hI]
  have k1 : ∀ b o, s.heap.get? b = some o → H1.get? b = some o := fun b o e => hH1 ▸ Heap.get?_push_of_some _ e
  refine setup_plain (Q := fun acc cenv s₄ => codeAny (model prog w) A (.compStart _ 0 (.ref I) acc { cenv with scope := relabel scope env }) (compPost (model prog w) A E none Q acc cenv.locals) s₄) hcell hkind ?_
  intro D C h₁ tk m₁ hns keep hD hDs hCs hDC
  have hDs' : I + 1 ≤ D := hsz1 ▸ hDs
  have hCs' : I + 1 ≤ C := hsz1 ▸ hCs
  have hIC : I ≠ C := Nat.ne_of_lt hCs'
  have hID : I ≠ D := Nat.ne_of_lt hDs'
  have old : ∀ b o, s.heap.get? b = some o → b < I := fun b o e => by rw [← hI]; exact Heap.lt_size e
  have hLI : L < I := by rw [← hI]; exact F.ns.lt
  have hC₀ : h₀.get? C = none := fresh_none F.keep (by rw [hI]; exact Nat.le_of_lt hCs')
  have hD₀ : h₀.get? D = none := fresh_none F.keep (by rw [hI]; exact Nat.le_of_lt hDs')
  have hI₀ : h₀.get? I = none := fresh_none F.keep (by rw [hI]; exact Nat.le_refl _)
  have hLC : L ≠ C := Nat.ne_of_lt (Nat.lt_trans hLI hCs')
  have hLD : L ≠ D := Nat.ne_of_lt (Nat.lt_trans hLI hDs')
  have hLI' : L ≠ I := Nat.ne_of_lt hLI
  have offI : ∀ p ∈ T, p.1 ≠ I := fun p hp => Nat.ne_of_lt (old _ _ (N p hp).1)
  have offC : ∀ p ∈ T, p.1 ≠ C := fun p hp => Nat.ne_of_lt (Nat.lt_trans (old _ _ (N p hp).1) hCs')
  have offD : ∀ p ∈ T, p.1 ≠ D := fun p hp => Nat.ne_of_lt (Nat.lt_trans (old _ _ (N p hp).1) hDs')
  have keep1 : ∀ b o, s.heap.get? b = some o → h₁.get? b = some o := fun b o e => keep _ _ (k1 _ _ e)
  have W := Walks.list (prog := prog) (w := w) hh I sl (Nat.ne_of_lt hlt) vs.toArray
  have hsize : vs.toArray.size = vs.length := by simp
  have hst₁ : h₁.IsListIter I sl 0 ∧ h₁.IsList sl vs.toArray := ⟨⟨_, keep _ _ (hH1 ▸ hI ▸ Heap.get?_push_size _ rfl), rfl, rfl⟩, hl.at fun o e => keep1 _ _ e⟩
  have loop : codeAny (model prog w) A (.compLoop (.ListComp (.Constant (.int 1) kc pc) [⟨.Tuple [.Name x px, .Name x₂ px₂] kk tp, iter, [c], 0⟩] scope pos) 0 (.ref I) (.ref D) (compEnvC scope cl C env))
      (compPost (model prog w) A E none Q (.ref D) C) { s with heap := h₁, toks := tk } := by
    refine kct_loop (fun k s' => ∃ (h' : Heap) (tk : Nat) (i : Nat) (ys : List Value) (ns : List Int) (m' : Str → Option Value), s' = { s with heap := h', toks := tk } ∧ i ≤ vs.length ∧ k = vs.length + 1 - i ∧ ys.length ≤ i ∧ IntsAre ys ns ∧ (ns = [] ↔ ∀ p ∈ sp.take i, ¬ Tst p) ∧
        (h'.IsListIter I sl i ∧ h'.IsList sl vs.toArray) ∧ Fr h₀ L h' m ∧ h'.Ns C m' ∧ News h₀ L h' ((D, LCg.lst ys) :: T)) ?_ (vs.length + 1)
      ⟨h₁, tk, 0, [], [], m₁, rfl, Nat.zero_le _, rfl, Nat.le_refl _, .nil, by simp, hst₁, F.keeps keep1, hns, fun p hp => ?_⟩
    · rintro k s' ⟨h', tk', i, ys, ns, m', rfl, hi, rfl, hyl, hIn, hn, hst', F', hn', N'⟩
      by_cases hlt' : i < vs.length
      · refine W.item i _ _ _ (by rw [hsize]; exact hlt') hst' fun v h₂ tk₂ hPv hst₂ hk₂ => ?_
        obtain ⟨D0, a, b, ta, tb, nn, rfl, hsi, hm⟩ := hsp.at (show vs[i]? = some v by simpa using hPv)
        have k2 : ∀ b o, b ≠ I → h'.get? b = some o → h₂.get? b = some o := fun b o hb e => hk₂ b o (by simpa using hb) e
        refine letGo_listiter hst₂.1 ?_
        have F₂ : Fr h₀ L h₂ m := fr_keep F' k2 hLI' hI₀
        have N₂ : News h₀ L h₂ ((D, LCg.lst ys) :: T) := news_keep N' k2 (by
          intro p hp
          rcases List.mem_cons.mp hp with rfl | hp
          · exact Ne.symm hID
          · exact offI p hp)
        have hn₂ : h₂.Ns C m' := hn'.at' fun o e => k2 _ o (Ne.symm hIC) e
        refine kcp_assign (m := m') hh ⟨_, (N₂ _ (.tail _ hm)).1, rfl, nn, rfl⟩ (lookup_relabel_local hx) (lookup_relabel_local hx₂) (by simp [compEnvC, relabel, hkind]) hn₂ fun h₃ tk₃ hn₃ keep₃ => ?_
        have k3 : ∀ b o, b ≠ C → h₂.get? b = some o → h₃.get? b = some o := keep₃
        obtain ⟨oC, heC, hoC⟩ := LCg.ns_obj hn₃
        have F₃ : Fr h₀ L h₃ m := fr_keep F₂ k3 hLC hC₀
        have N₃ : News h₀ L h₃ ((D, LCg.lst ys) :: T) := news_keep N₂ k3 (by
          intro p hp
          rcases List.mem_cons.mp hp with rfl | hp
          · exact hDC
          · exact offC p hp)
        obtain ⟨⟨oI, heI, rI⟩, hl₂⟩ := hst₂
        have heI₃ : h₃.get? I = some oI := k3 _ _ hIC heI
        refine test C oC _ a b ta tb ((I, oI) :: (D, LCg.lst ys) :: T) { s with heap := h₃, toks := tk₃ } _ _ hoC ?_ (by simp) (fun p hp => .tail _ (.tail _ hp)) F₃ ?_ ?_
        · simp [hxx]
        · intro p hp
          rcases List.mem_cons.mp hp with rfl | hp
          · exact ⟨heC, Ne.symm hLC, hC₀⟩
          · rcases List.mem_cons.mp hp with rfl | hp
            · exact ⟨heI₃, Ne.symm hLI', hI₀⟩
            · exact N₃ p hp
        · intro bb h₄ tk₄ hbb F₄ N₄
          have hst₄ : h₄.IsListIter I sl (i + 1) ∧ h₄.IsList sl vs.toArray := ⟨⟨oI, (N₄ _ (.tail _ (.head _))).1, rI⟩, ⟨_, (N₄ _ (.tail _ (.tail _ (.tail _ gs)))).1, rfl, nl, rfl⟩⟩
          have hn₄ := hoC.ns (N₄ _ (.head _)).1
          have N₄' : News h₀ L h₄ ((D, LCg.lst ys) :: T) := fun p hp => N₄ p (.tail _ (.tail _ hp))
          cases bb with
          | true =>
            simp only [if_true]
            refine wpAny_Constant_int (i := 1) ?_
            refine append_at (hsz := by show ys.toArray.size ≤ sizeLine; rw [List.size_toArray, sizeLine_eq]; omega) (N₄' _ (.head _)).1 fun h₅ hs₅ hD₅ => ?_
            have k5 := but_keep hs₅
            refine ⟨vs.length + 1 - (i + 1), by omega, h₅, _, i + 1, ys ++ [.int 1 tk₄], ns ++ [1], _, rfl, hlt', rfl, by rw [List.length_append, List.length_singleton]; omega, hIn.append (.cons 1 _ .nil), ?_, ?_, fr_keep F₄ k5 hLD hD₀, hn₄.sameBut hs₅ (Ne.symm hDC), ?_⟩
            · rw [take_succ_all hsi]
              exact ⟨fun e => absurd e (by simp), fun e => absurd (hbb.1 rfl) e.2⟩
            · exact ⟨⟨oI, k5 _ _ hID (N₄ _ (.tail _ (.head _))).1, rI⟩, ⟨_, k5 _ _ (offD _ gs) (N₄ _ (.tail _ (.tail _ (.tail _ gs)))).1, rfl, nl, rfl⟩⟩
            · intro p hp
              rcases List.mem_cons.mp hp with rfl | hp
              · exact ⟨hD₅.trans (congrArg some (LCg.lst_snoc ys _)), Ne.symm hLD, hD₀⟩
              · exact ⟨k5 _ _ (offD p hp) (N₄' p (.tail _ hp)).1, (N₄' p (.tail _ hp)).2⟩
          | false =>
            simp only [Bool.false_eq_true, if_false]
            refine ⟨vs.length + 1 - (i + 1), by omega, h₄, _, i + 1, ys, ns, _, rfl, hlt', rfl, by omega, hIn, ?_, hst₄, F₄, hn₄, N₄'⟩
            rw [take_succ_all hsi, hn]
            have nb : ¬ Tst (a, b) := fun e => absurd (hbb.2 e) (by decide)
            exact ⟨fun e => ⟨e, nb⟩, fun e => e.1⟩
      · obtain rfl : i = vs.length := Nat.le_antisymm hi (Nat.not_lt.mp hlt')
        refine W.done _ _ _ (by rw [hsize]; exact hst') fun h₂ tk₂ hk₂ => ?_
        have k2 : ∀ b o, b ≠ I → h'.get? b = some o → h₂.get? b = some o := fun b o hb e => hk₂ b o (by simpa using hb) e
        refine ⟨m', hn'.at' fun o e => k2 _ o (Ne.symm hIC) e, fun h'' hs'' => ?_⟩
        have k3 := but_keep hs''
        refine hk D ys ns h'' tk₂ hIn ?_ (by omega) (fr_keep (fr_keep F' k2 hLI' hI₀) k3 hLC hC₀) ?_ (off_of offD)
        · rw [hn, List.take_of_length_le (by omega)]
        · refine news_keep (news_keep N' k2 ?_) k3 ?_
          · intro p hp
            rcases List.mem_cons.mp hp with rfl | hp
            · exact Ne.symm hID
            · exact offI p hp
          · intro p hp
            rcases List.mem_cons.mp hp with rfl | hp
            · exact hDC
            · exact offC p hp
    · rcases List.mem_cons.mp hp with rfl | hp
      · exact ⟨hD, Ne.symm hLD, hD₀⟩
      · exact ⟨keep1 _ _ (N p hp).1, (N p hp).2⟩
  exact codeAny_compStart_list loop (W.self 0 _ _ _ hst₁ loop)
end
end
section
open PySem PySem.W PyProof.Rows PySem.Calls PyProof.V PySem.Spec
section
variable {prog : Program} {w : World} {A : Around} {E : Value → Shared → Prop} {s : Shared} {h₀ : Heap} {m : Str → Option Value} {env : Env} {T : List (Addr × Obj)}
/-- a comprehension over a range whose letter is a cell, stored in a local name -/
theorem outer_X {x y n0 z : Str} {elt iter : PySem.Expr} {px py : Pos} {scope : Scope} {cl : List (Str × Addr)} {pos spos : Pos} {Q : Flow → Shared → Prop} (hh : A.handled = none) (H : Int → Int → Prop) (n : Nat) (hn30 : n ≤ 1000)
    (hsw : swapsWith (.ListComp elt [⟨.Name x px, iter, [], 0⟩] scope pos) (some (.Name y py)) spos.line env = pure true)
    (hclos : closureFor scope env = pure cl) (hsc : scope.names = [(n0, .local), (x, .cell), (z, .free)]) (hkind : scope.kind = .function) (hnames : ∀ y ∈ scope.names, y.2 = .local → scope.names.lookup y.1 = some .local)
    (hxk : ∀ C K, (compEnvC scope ((x, K) :: cl) C env).kindOf x = some .cell) (hs : ∀ x, foldedSetIterable iter env x = pure x)
    (hy : env.kindOf y = some .local) (hp : (env.scope.kind == .class || (env.scope.kind == .module && env.locals != env.globals)) = false)
    (hiter : ∀ Q' : Value → Shared → Prop, (∀ (r : Addr) (t u v : Tok) (h' : Heap) (tk' : Nat), IsRange h' r 0 n 1 t u v → Fr h₀ env.locals h' m → News h₀ env.locals h' T → Q' (.ref r) { s with heap := h', toks := tk' }) → wpAny (model prog w) A (eval iter env) Q' E s)
    (helt : ∀ (C K : Addr) (k : Int) (t : Tok) (oK : Obj) (T' : List (Addr × Obj)) (s' : Shared) (Q' : Value → Shared → Prop) (E' : Value → Shared → Prop), oK.data = .cell (some (.int k t)) → 0 ≤ k → k < n → (∀ p ∈ T, p ∈ T') → (K, oK) ∈ T' →
      Fr h₀ env.locals s'.heap m → News h₀ env.locals s'.heap T' → (∀ (zz : Int) (tz : Tok) (h' : Heap) (tk' : Nat), H k zz → Fr h₀ env.locals h' m → News h₀ env.locals h' T' → Q' (.int zz tz) { s' with heap := h', toks := tk' }) →
      wpAny (model prog w) A (eval elt (compEnvC scope ((x, K) :: cl) C env)) Q' E' s')
    (hk : ∀ (D : Addr) (ys : List Value) (zs : List Int) (h' : Heap) (tk' : Nat), IntsAre ys zs → zs.length = n → (∀ j : Nat, j < n → H (j : Int) (zs.getD j 0)) → Fr h₀ env.locals h' (fun q => if q = y then some (.ref D) else m q) → News h₀ env.locals h' ((D, LCg.lst ys) :: T) → LCg.Off1 D T → Q .next { s with heap := h', toks := tk' }) :
    wpAny (model prog w) A (exec (.Assign [.Name y py] (.ListComp elt [⟨.Name x px, iter, [], 0⟩] scope pos) spos) env) Q E s := by
  rw [exec_Assign_Name_used _ _ _ _ hsw]
  refine wpAny_bind (wpAny_standAt (wpAny_bind ?_))
  show wpAny _ A (do let _ ← comprehension (.ListComp elt [⟨.Name x px, iter, [], 0⟩] scope pos) scope env _ (newList []) false (eval iter env) (some (assign (.Name y py) env))) _ _ s
  refine wpAny_bind (wpAny_mono (wpAny_comprehension_free (use := some (assign (.Name y py) env)) (Q := fun _ s' => Q .next s') rfl hs hclos hkind hnames
    (hiter _ fun r t u v hr0 tkr hr F N => ?_)) (fun _ s' hq => wpAny_pure (wpAny_pure hq)) fun _ _ e => e)
  have hsm : Builtin.Range.small 0 (n : Int) 1 = true := small_one (by decide) (by decide) (by omega) (by omega)
  refine wpAny_pyIter_range hr hsm ?_
  have hsize : Builtin.Range.rangeSize 0 (n : Int) 1 = (n : Int) := by rw [rangeSize_nat]; omega
  rw [hsize]
  dsimp only at F N ⊢
  generalize hI : hr0.objs.size = I at *
  generalize hH1 : hr0.push { cls := .type "range_iterator", data := .fields #[rawInt 0, rawInt (n : Int), rawInt 1] } = H1
  have hsz1 : H1.objs.size = I + 1 := by rw [← hH1, Heap.size_push, hI]
  have k1 : ∀ b o, hr0.get? b = some o → H1.get? b = some o := fun b o e => hH1 ▸ Heap.get?_push_of_some _ e
  refine setup_cell (Q := fun acc cenv s₄ => codeAny (model prog w) A (.compStart _ 0 (.ref I) acc { cenv with scope := relabel scope env }) (compPost (model prog w) A E (some (assign (.Name y py) env)) _ acc cenv.locals) s₄) hsc ?_
  intro D C K h₁ tk m₁ oK0 hns keep hD hK hK0 hDs hCs hKs hDC hDK hCK
  have hDs' : I + 1 ≤ D := hsz1 ▸ hDs
  have hCs' : I + 1 ≤ C := hsz1 ▸ hCs
  have hKs' : I + 1 ≤ K := hsz1 ▸ hKs
  have hIC : I ≠ C := Nat.ne_of_lt hCs'
  have hID : I ≠ D := Nat.ne_of_lt hDs'
  have hIK : I ≠ K := Nat.ne_of_lt hKs'
  have old : ∀ b o, hr0.get? b = some o → b < I := fun b o e => by rw [← hI]; exact Heap.lt_size e
  have hLI : env.locals < I := by rw [← hI]; exact F.ns.lt
  have hC₀ : h₀.get? C = none := fresh_none F.keep (by rw [hI]; exact Nat.le_of_lt hCs')
  have hD₀ : h₀.get? D = none := fresh_none F.keep (by rw [hI]; exact Nat.le_of_lt hDs')
  have hK₀ : h₀.get? K = none := fresh_none F.keep (by rw [hI]; exact Nat.le_of_lt hKs')
  have hI₀ : h₀.get? I = none := fresh_none F.keep (by rw [hI]; exact Nat.le_refl _)
  have hLC : env.locals ≠ C := Nat.ne_of_lt (Nat.lt_trans hLI hCs')
  have hLD : env.locals ≠ D := Nat.ne_of_lt (Nat.lt_trans hLI hDs')
  have hLK : env.locals ≠ K := Nat.ne_of_lt (Nat.lt_trans hLI hKs')
  have hLI' : env.locals ≠ I := Nat.ne_of_lt hLI
  have offI : ∀ p ∈ T, p.1 ≠ I := fun p hp => Nat.ne_of_lt (old _ _ (N p hp).1)
  have offC : ∀ p ∈ T, p.1 ≠ C := fun p hp => Nat.ne_of_lt (Nat.lt_trans (old _ _ (N p hp).1) hCs')
  have offD : ∀ p ∈ T, p.1 ≠ D := fun p hp => Nat.ne_of_lt (Nat.lt_trans (old _ _ (N p hp).1) hDs')
  have offK : ∀ p ∈ T, p.1 ≠ K := fun p hp => Nat.ne_of_lt (Nat.lt_trans (old _ _ (N p hp).1) hKs')
  have keep1 : ∀ b o, hr0.get? b = some o → h₁.get? b = some o := fun b o e => keep _ _ (k1 _ _ e)
  have W := LCg.range_walks (prog := prog) (w := w) (I := I) hh 0 n
  have hst₁ : IsRangeIter h₁ I (0 + ((0 : Nat) : Int) * 1) ((n : Int) - ((0 : Nat) : Int)) 1 := by
    have e : h₁.get? I = some _ := keep _ _ (hH1 ▸ hI ▸ Heap.get?_push_size _ rfl)
    simpa [IsRangeIter] using e
  have loop : codeAny (model prog w) A (.compLoop (.ListComp elt [⟨.Name x px, iter, [], 0⟩] scope pos) 0 (.ref I) (.ref D) (compEnvC scope ((x, K) :: cl) C env))
      (compPost (model prog w) A E (some (assign (.Name y py) env)) (fun _ s' => Q .next s') (.ref D) C) { s with heap := h₁, toks := tk } := by
    refine codeAny_compLoop_tests (fun k s' => ∃ (h' : Heap) (tk : Nat) (i : Nat) (ys : List Value) (zs : List Int) (m' : Str → Option Value) (oK : Obj) (vK : Option Value), s' = { s with heap := h', toks := tk } ∧ i ≤ n ∧ k = n + 1 - i ∧ zs.length = i ∧ IntsAre ys zs ∧ (∀ j : Nat, j < i → H (j : Int) (zs.getD j 0)) ∧
        IsRangeIter h' I (0 + (i : Nat) * 1) ((n : Int) - (i : Nat)) 1 ∧ Fr h₀ env.locals h' m ∧ h'.Ns C m' ∧ h'.get? K = some oK ∧ oK.data = .cell vK ∧ News h₀ env.locals h' ((D, LCg.lst ys) :: T)) ?_ (n + 1)
      ⟨h₁, tk, 0, [], [], m₁, oK0, none, rfl, Nat.zero_le _, rfl, rfl, .nil, (fun _ h => absurd h (Nat.not_lt_zero _)), hst₁, F.keeps keep1, hns, hK, hK0, fun p hp => ?_⟩
    · rintro k s' ⟨h', tk', i, ys, zs, m', oK, vK, rfl, hi, rfl, hzl, hIn, hH, hst', F', hn', hK', hKd, N'⟩
      by_cases hlt' : i < n
      · refine W.item i _ _ _ hlt' hst' fun v h₂ tk₂ hPv hst₂ hk₂ => ?_
        obtain ⟨t2, rfl⟩ := hPv
        have k2 : ∀ b o, b ≠ I → h'.get? b = some o → h₂.get? b = some o := fun b o hb e => hk₂ b o (by simpa using hb) e
        have F₂ : Fr h₀ env.locals h₂ m := fr_keep F' k2 hLI' hI₀
        have N₂ : News h₀ env.locals h₂ ((D, LCg.lst ys) :: T) := news_keep N' k2 (by
          intro p hp
          rcases List.mem_cons.mp hp with rfl | hp
          · exact Ne.symm hID
          · exact offI p hp)
        have hn₂ : h₂.Ns C m' := hn'.at' fun o e => k2 _ o (Ne.symm hIC) e
        refine wpAny_assign_Name (wpAny_storeName_cell (v₀ := vK) (by simp [compEnvC, relabel, hkind]) (hxk C K) (by simp [compEnvC]) ⟨oK, k2 _ _ (Ne.symm hIK) hK', hKd⟩ fun h₃ hc₃ hs₃ => ?_)
        obtain ⟨oK3, heK, hdK⟩ := hc₃
        have k3 := but_keep hs₃
        refine wpAny_tests_nil ?_
        simp only [if_true]
        have F₃ : Fr h₀ env.locals h₃ m := fr_keep F₂ k3 hLK hK₀
        have N₃ : News h₀ env.locals h₃ ((D, LCg.lst ys) :: T) := news_keep N₂ k3 (by
          intro p hp
          rcases List.mem_cons.mp hp with rfl | hp
          · exact hDK
          · exact offK p hp)
        have hn₃ : h₃.Ns C m' := hn₂.at' fun o e => k3 _ o hCK e
        obtain ⟨oC, heC, hoC⟩ := LCg.ns_obj hn₃
        obtain ⟨oI, eI, heI₃⟩ : ∃ oI : Obj, h₂.get? I = some oI ∧ h₃.get? I = some oI := ⟨_, hst₂, k3 _ _ hIK hst₂⟩
        refine helt C K (0 + (i : Int)) t2 oK3 ((K, oK3) :: (I, oI) :: (C, oC) :: (D, LCg.lst ys) :: T) { s with heap := h₃, toks := tk₂ } _ _ hdK (by omega) (by omega) (fun p hp => .tail _ (.tail _ (.tail _ (.tail _ hp)))) (.head _) F₃ ?_ ?_
        · intro p hp
          rcases List.mem_cons.mp hp with rfl | hp
          · exact ⟨heK, Ne.symm hLK, hK₀⟩
          · rcases List.mem_cons.mp hp with rfl | hp
            · exact ⟨heI₃, Ne.symm hLI', hI₀⟩
            · rcases List.mem_cons.mp hp with rfl | hp
              · exact ⟨heC, Ne.symm hLC, hC₀⟩
              · exact N₃ p hp
        · intro zz tz h₄ tk₄ hzz F₄ N₄
          have hst₄ := (N₄ _ (.tail _ (.head _))).1
          have hn₄ := hoC.ns (N₄ _ (.tail _ (.tail _ (.head _)))).1
          have hK₄ := (N₄ _ (.head _)).1
          have N₄' : News h₀ env.locals h₄ ((D, LCg.lst ys) :: T) := fun p hp => N₄ p (.tail _ (.tail _ (.tail _ hp)))
          refine append_at (hsz := by show ys.toArray.size ≤ sizeLine; rw [List.size_toArray, hIn.length, sizeLine_eq]; omega) (N₄' _ (.head _)).1 fun h₅ hs₅ hD₅ => ?_
          have k5 := but_keep hs₅
          refine ⟨n + 1 - (i + 1), by omega, h₅, tk₄, i + 1, ys ++ [.int zz tz], zs ++ [zz], _, oK3, _, rfl, hlt', rfl, by rw [List.length_append, hzl]; rfl, hIn.append (.cons zz tz .nil), ?_, ?_, fr_keep F₄ k5 hLD hD₀, hn₄.sameBut hs₅ (Ne.symm hDC), k5 _ _ (Ne.symm hDK) hK₄, hdK, ?_⟩
          · intro j hj
            by_cases hji : j < i
            · rw [getD_app_l (by omega)]; exact hH j hji
            · have e : j = i := by omega
              subst e
              rw [getD_app_r (by omega), hzl, Nat.sub_self]
              have e2 : (0 : Int) + (j : Int) = (j : Int) := by omega
              rw [e2] at hzz
              exact hzz
          · have q : h₅.get? I = some oI := k5 _ _ hID hst₄
            have e : some oI = some _ := eI.symm.trans hst₂
            rw [e] at q
            exact q
          · intro p hp
            rcases List.mem_cons.mp hp with rfl | hp
            · exact ⟨hD₅.trans (congrArg some (LCg.lst_snoc ys _)), Ne.symm hLD, hD₀⟩
            · exact ⟨k5 _ _ (offD p hp) (N₄' p (.tail _ hp)).1, (N₄' p (.tail _ hp)).2⟩
      · obtain rfl : i = n := Nat.le_antisymm hi (Nat.not_lt.mp hlt')
        refine W.done _ _ _ hst' fun h₂ tk₂ hk₂ => ?_
        have k2 : ∀ b o, b ≠ I → h'.get? b = some o → h₂.get? b = some o := fun b o hb e => hk₂ b o (by simpa using hb) e
        have F₂ : Fr h₀ env.locals h₂ m := fr_keep F' k2 hLI' hI₀
        have N₂ : News h₀ env.locals h₂ ((D, LCg.lst ys) :: T) := news_keep N' k2 (by
          intro p hp
          rcases List.mem_cons.mp hp with rfl | hp
          · exact Ne.symm hID
          · exact offI p hp)
        show wpAny _ A (assign (.Name y py) env (.ref D)) _ _ _
        refine wpAny_assign_Name (wpAny_storeName_local hy F₂.ns (fun h₃ hn₃ hs₃ => ?_) hp)
        have hL₀ : h₀.get? env.locals = none := Heap.get?_none_of_le F₂.above
        have k3 := but_keep hs₃
        have F₃ : Fr h₀ env.locals h₃ (fun q => if q = y then some (.ref D) else m q) := ⟨hn₃, fun b o e => hs₃.extBut b o (fun q => by rw [q, hL₀] at e; cases e) (F₂.keep b o e), F₂.above⟩
        have N₃ : News h₀ env.locals h₃ ((D, LCg.lst ys) :: T) := fun p hp => ⟨k3 _ _ (N₂ p hp).2.1 (N₂ p hp).1, (N₂ p hp).2⟩
        refine ⟨m', (hn'.at' fun o e => k2 _ o (Ne.symm hIC) e).sameBut hs₃ (Ne.symm hLC), fun h'' hs'' => ?_⟩
        have k4 := but_keep hs''
        refine hk D ys zs h'' _ hIn hzl hH (fr_keep F₃ k4 hLC hC₀) (news_keep N₃ k4 ?_) (off_of offD)
        intro p hp
        rcases List.mem_cons.mp hp with rfl | hp
        · exact hDC
        · exact offC p hp
    · rcases List.mem_cons.mp hp with rfl | hp
      · exact ⟨hD, Ne.symm hLD, hD₀⟩
      · exact ⟨keep1 _ _ (N p hp).1, (N p hp).2⟩
  exact codeAny_compStart_list loop (W.self 0 _ _ _ hst₁ loop)
end
end
section
local macro_rules | `(tactic| walk_at "mine same") => `(tactic| rfl)
local macro_rules | `(tactic| k_mem) => `(tactic| assumption)

def ifTest : Expr → Expr
  | .IfExp t _ _ _ => t
  | e => e
noncomputable def lc30 : Expr := asVal (lawSt 30)
noncomputable def lci30 : Expr := cmpLeft (ifTest (lcElt lc30))
def In (k : Int) (p : Int × Int) : Prop := p.1 ≤ k ∧ k ≤ p.2
def HeldAt (sp : List (Int × Int)) (k z : Int) : Prop := (z = 1 ∧ ∃ p ∈ sp, In k p) ∨ (z = 0 ∧ ∀ p ∈ sp, ¬ In k p)
theorem in_yes {k a b : Int} (h : a ≤ k ∧ k ≤ b) : true = true ↔ In k (a, b) := ⟨fun _ => h, fun _ => rfl⟩
theorem in_dec {k a b : Int} (h : a ≤ k) : decide (k ≤ b) = true ↔ In k (a, b) := by rw [decide_eq_true_eq]; exact ⟨fun e => ⟨h, e⟩, fun e => e.2⟩
theorem held_1 {ns : List Int} {sp : List (Int × Int)} {k : Int} (h : ns = [] ↔ ∀ p ∈ sp, ¬ In k p) (e : decide (ns = []) = false) : HeldAt sp k 1 := .inl ⟨rfl, by
  rw [decide_eq_false_iff_not, h] at e
  exact Classical.byContradiction fun y => e fun p hp b => y ⟨p, hp, b⟩⟩
theorem held_0 {ns : List Int} {sp : List (Int × Int)} {k : Int} (h : ns = [] ↔ ∀ p ∈ sp, ¬ In k p) (e : decide (ns = []) = true) : HeldAt sp k 0 := .inr ⟨rfl, h.1 (of_decide_eq_true e)⟩
theorem in_no {k a b : Int} (h : ¬ (a ≤ k ∧ k ≤ b)) : false = true ↔ In k (a, b) := ⟨fun e => absurd e (by decide), fun e => absurd e h⟩
set_option maxHeartbeats 8000000 in
theorem tst30 (w : World) (mean : ExcName → Option Value) (mg mb : Str → Option Value) (dp un : Nat) (gd : Option (List Code)) (a : Addr) (ccd : Value) (outer : List Env) (A₀ : Around) (base h₀ : Heap) (L : Addr) (c1 c2 c3 c4 c5 c6 : Addr) (m : Str → Option Value) (s : Shared)  (E : Value → Shared → Prop) (T : List (Addr × Obj)) (Q : Bool → Shared → Prop) (C K D0 : Addr) (oC oK : Obj) (m₂ : Str → Option Value) (k x y : Int) (t tx ty : Tok) (B : Below A₀ base outer h₀) (X : (hd.heap_39 w.params).In h₀) (Tp : Top hd.view_39 LL mean mg mb h₀) (hdp : dp + 10 < recursionLimit) (hun : un + 100 < cLine) (hC : LCg.NsObj oC m₂) (hx : m₂ (Str.ofString "low") = some (.int x tx)) (hy : m₂ (Str.ofString "high") = some (.int y ty))
    (hK : oK.data = Data.cell (some (.int k t))) (gK : (K, oK) ∈ T) (F : Fr h₀ L s.heap m) (N : News h₀ L s.heap ((D0, oC) :: T))
    (hk : ∀ (b : Bool) (h' : Heap) (tk' : Nat), (b = true ↔ In k (x, y)) → Fr h₀ L h' m → News h₀ L h' ((D0, oC) :: T) → Q b { s with heap := h', toks := tk' }) :
    wpAny (model PySem.Challenge.rw_nu0312_01.row.toRowW.prog w) (lawAr dp un gd L a ccd c1 c2 c3 c4 c5 c6 outer) (isTrue (lcTest lci30) (compEnvC (lcScope lci30) [(Str.ofString "step", K)] D0 (compEnvC (lcScope lc30) [(Str.ofString "step", K), (Str.ofString "spans_x", c6)] C (lawEnv L a ccd c1 c2 c3 c4 c5 c6))) (eval (lcTest lci30) (compEnvC (lcScope lci30) [(Str.ofString "step", K)] D0 (compEnvC (lcScope lc30) [(Str.ofString "step", K), (Str.ofString "spans_x", c6)] C (lawEnv L a ccd c1 c2 c3 c4 c5 c6))))) Q E s := by
  conv in (occs := *) (lcTest _) => all_goals whnf
  conv in (occs := *) (lcScope lci30) => all_goals whnf
  conv in (occs := *) (lcScope lc30) => all_goals whnf
  k_steps
  all_goals ((refine' hk _ _ _ ?a ?qF ?qN); (case qF => assumption); (case qN => assumption); (case a => first | exact in_dec (by assumption) | exact in_yes (by omega) | exact in_no (by omega)))
set_option maxHeartbeats 8000000 in
theorem comp30i (w : World) (mean : ExcName → Option Value) (mg mb : Str → Option Value) (dp un : Nat) (gd : Option (List Code)) (a : Addr) (ccd : Value) (outer : List Env) (A₀ : Around) (base h₀ : Heap) (L : Addr) (c1 c2 c3 c4 c5 c6 : Addr) (m : Str → Option Value) (s : Shared) (Q : Value → Shared → Prop) (E : Value → Shared → Prop) (T : List (Addr × Obj)) (C K : Addr) (oK : Obj) (k : Int) (t : Tok) (B : Below A₀ base outer h₀) (X : (hd.heap_39 w.params).In h₀) (Tp : Top hd.view_39 LL mean mg mb h₀) (hdp : dp + 10 < recursionLimit) (hun : un + 100 < cLine) (sl : Addr) (vs : List Value) (nl : Nat) (sp : List (Int × Int)) (hsp : SpansIn T vs sp) (gs : (sl, PySem.W.listOf vs.toArray nl) ∈ T) (o6 : Obj) (g6 : (c6, o6) ∈ T) (d6 : o6.data = Data.cell (some (.ref sl))) (hl3 : sp.length ≤ 3) (hK : oK.data = Data.cell (some (.int k t))) (gK : (K, oK) ∈ T)
    (F : Fr h₀ L s.heap m) (N : News h₀ L s.heap T)
    (hk : ∀ (D : Addr) (ys : List Value) (ns : List Int) (h' : Heap) (tk' : Nat), IntsAre ys ns → (ns = [] ↔ ∀ p ∈ sp, ¬ In k p) → ys.length ≤ 3 → Fr h₀ L h' m → News h₀ L h' ((D, LCg.lst ys) :: T) → LCg.Off1 D T → Q (.ref D) { s with heap := h', toks := tk' }) :
    wpAny (model PySem.Challenge.rw_nu0312_01.row.toRowW.prog w) (lawAr dp un gd L a ccd c1 c2 c3 c4 c5 c6 outer) (eval lci30 (compEnvC (lcScope lc30) [(Str.ofString "step", K), (Str.ofString "spans_x", c6)] C (lawEnv L a ccd c1 c2 c3 c4 c5 c6))) Q E s := by
  conv in lci30 => whnf
  refine inner_PT (L := L) (h₀ := h₀) (m := m) (T := T) (cl := [(Str.ofString "step", K)]) rfl rfl (by decide +kernel) rfl (by decide +kernel) rfl rfl (by decide +kernel) (fun _ => rfl) hsp gs (by omega) (In k) ?_ ?_ F N ?_
  · intro Q' hQ
    exact kcf_cell N rfl g6 d6 hQ
  · intro CC oC m₂ a' b' ta tb T' s' Q' E' hC hx hy hTT F' N' hk'
    exact tst30 w mean mg mb dp un gd a ccd outer A₀ base h₀ L c1 c2 c3 c4 c5 c6 m s' E' T' Q' C K CC oC oK m₂ k a' b' t ta tb B X Tp hdp hun hC hx hy hK (hTT _ gK) F' N' hk'
  · intro D ys ns h' tk' hI hn hl F' N' o1
    exact hk D ys ns h' tk' hI hn (by omega) F' N' o1
local macro_rules | `(tactic| walk_at "eval ListComp") => `(tactic| (k_here; k_dflt (refine' comp30i _ _ _ _ _ _ _ _ _ _ _ _ _ _ _ _ _ _ _ _ _ _ _ _ _ _ _ _ _ _ (by assumption) (by assumption) (by assumption) (by assumption) (by assumption) _ _ _ _ (by assumption) (by assumption) _ (by assumption) (by assumption) (by assumption) (by assumption) (by assumption) (by assumption) (by assumption) ?_); intro D' ys' ns' h' tk' hI' hn' hl' F' N' o1'))
set_option maxHeartbeats 8000000 in
theorem elt30 (w : World) (mean : ExcName → Option Value) (mg mb : Str → Option Value) (dp un : Nat) (gd : Option (List Code)) (a : Addr) (ccd : Value) (outer : List Env) (A₀ : Around) (base h₀ : Heap) (L : Addr) (c1 c2 c3 c4 c5 c6 : Addr) (m : Str → Option Value) (s : Shared) (Q : Value → Shared → Prop) (E : Value → Shared → Prop) (T : List (Addr × Obj)) (C K : Addr) (oK : Obj) (k : Int) (t : Tok) (B : Below A₀ base outer h₀) (X : (hd.heap_39 w.params).In h₀) (Tp : Top hd.view_39 LL mean mg mb h₀) (hdp : dp + 10 < recursionLimit) (hun : un + 100 < cLine) (sl : Addr) (vs : List Value) (nl : Nat) (sp : List (Int × Int)) (hsp : SpansIn T vs sp) (gs : (sl, PySem.W.listOf vs.toArray nl) ∈ T) (o6 : Obj) (g6 : (c6, o6) ∈ T) (d6 : o6.data = Data.cell (some (.ref sl))) (hl3 : sp.length ≤ 3) (hK : oK.data = Data.cell (some (.int k t))) (gK : (K, oK) ∈ T)
    (F : Fr h₀ L s.heap m) (N : News h₀ L s.heap T)
    (hk : ∀ (zz : Int) (tz : Tok) (h' : Heap) (tk' : Nat), HeldAt sp k zz → Fr h₀ L h' m → News h₀ L h' T → Q (.int zz tz) { s with heap := h', toks := tk' }) :
    wpAny (model PySem.Challenge.rw_nu0312_01.row.toRowW.prog w) (lawAr dp un gd L a ccd c1 c2 c3 c4 c5 c6 outer) (eval (lcElt lc30) (compEnvC (lcScope lc30) [(Str.ofString "step", K), (Str.ofString "spans_x", c6)] C (lawEnv L a ccd c1 c2 c3 c4 c5 c6))) Q E s := by
  conv in (lcElt _) => whnf
  k_steps
  all_goals ((refine' hk _ _ _ _ ?a ?qF ?qN); (case qF => assumption); (case qN => exact cb_drop (by assumption) (by walk_at "mine all")); (case a => first | exact held_1 (by assumption) (by assumption) | exact held_0 (by assumption) (by assumption)))
theorem st30 : lawSt 30 = .Assign [.Name (Str.ofString "held") (tgPos (lawSt 30))] (.ListComp (lcElt lc30) [⟨.Name (Str.ofString "step") (lcPx lc30), lcIter lc30, [], 0⟩] (lcScope lc30) (lcPos lc30)) (asPos (lawSt 30)) := rfl
set_option maxHeartbeats 8000000 in
theorem b30 (w : World) (mean : ExcName → Option Value) (mg mb : Str → Option Value) (dp un : Nat) (gd : Option (List Code)) (a : Addr) (ccd : Value) (outer : List Env) (A₀ : Around) (base h₀ : Heap) (L : Addr) (c1 c2 c3 c4 c5 c6 : Addr) (m : Str → Option Value) (s : Shared) (Q : Flow → Shared → Prop) (E : Value → Shared → Prop) (T : List (Addr × Obj)) (rest : List Stmt) (B : Below A₀ base outer h₀) (X : (hd.heap_39 w.params).In h₀) (Tp : Top hd.view_39 LL mean mg mb h₀) (hdp : dp + 10 < recursionLimit) (hun : un + 100 < cLine) (sl : Addr) (vs : List Value) (nl : Nat) (sp : List (Int × Int)) (hsp : SpansIn T vs sp) (gs : (sl, PySem.W.listOf vs.toArray nl) ∈ T) (o6 : Obj) (g6 : (c6, o6) ∈ T) (d6 : o6.data = Data.cell (some (.ref sl))) (hl3 : sp.length ≤ 3) (F : Fr h₀ L s.heap m) (N : News h₀ L s.heap T)
    (hk : ∀ (m' : Str → Option Value) (h' : Heap) (tk' : Nat) (D : Addr) (ys : List Value) (zs : List Int), Same [Str.ofString "held"] m m' → m' (Str.ofString "held") = some (.ref D) → IntsAre ys zs → zs.length = 32 → (∀ j : Nat, j < 32 → HeldAt sp (j : Int) (zs.getD j 0)) → Fr h₀ L h' m' → News h₀ L h' ((D, LCg.lst ys) :: T) → LCg.Off1 D T → wpAny (model PySem.Challenge.rw_nu0312_01.row.toRowW.prog w) (lawAr dp un gd L a ccd c1 c2 c3 c4 c5 c6 outer) (execs rest (lawEnv L a ccd c1 c2 c3 c4 c5 c6)) Q E { s with heap := h', toks := tk' }) :
    wpAny (model PySem.Challenge.rw_nu0312_01.row.toRowW.prog w) (lawAr dp un gd L a ccd c1 c2 c3 c4 c5 c6 outer) (execs (lawSt 30 :: rest) (lawEnv L a ccd c1 c2 c3 c4 c5 c6)) Q E s := by
  rw [st30]
  refine wpAny_execs_cons ?_
  with_reducible refine' outer_X (h₀ := h₀) (m := m) (T := T) (env := (lawEnv L a ccd c1 c2 c3 c4 c5 c6)) (cl := [(Str.ofString "spans_x", c6)]) ?hh (HeldAt sp) 32 ?h1 ?hsw ?hclos ?hsc ?hkind ?hnames ?hxk ?hs ?hy ?hp ?hiter ?helt ?hk
  case hh => rfl
  case h1 => decide
  case hsw => rfl
  case hclos => rfl
  case hsc => rfl
  case hkind => rfl
  case hnames => decide +kernel
  case hxk => exact fun _ _ => rfl
  case hs => exact fun _ => rfl
  case hy => rfl
  case hp => rfl
  case hiter =>
    intro Q' hQ
    conv in (lcIter _) => whnf
    k_steps
    all_goals exact hQ _ _ _ _ _ _ (by assumption) (by assumption) (by assumption)
  case helt =>
    intro C K k t oK T' s' Q' E' hK h0 h32 hTT gK F' N' hk'
    exact elt30 w mean mg mb dp un gd a ccd outer A₀ base h₀ L c1 c2 c3 c4 c5 c6 m s' Q' E' T' C K oK k t B X Tp hdp hun sl vs nl sp (hsp.more hTT) (hTT _ gs) o6 (hTT _ g6) d6 hl3 hK gK F' N' hk'
  case hk =>
    intro D ys zs h' tk' hI hz hH F' N' o1
    exact hk _ h' tk' D ys zs (same_put same_refl (by k_mem)) (if_pos rfl) hI hz hH F' N' o1
end
section
local macro_rules | `(tactic| walk_at "mine apart") => `(tactic| skip)
local macro_rules | `(tactic| walk_at "mine same") => `(tactic| rfl)

theorem bad_iff {p : Int × Int} : BadS p ↔ Bad p := by
  unfold BadS Bad; omega
theorem set_bad : ∀ {sp : List (Int × Int)} (acc : Int), (∃ p ∈ sp, Bad p) → setGo sp acc = (0, Str.ofString "bad_element")
  | [], _, h => by obtain ⟨p, hp, _⟩ := h; exact nomatch hp
  | q :: r, acc, h => by
    by_cases hq : Bad q
    · exact setGo_bad (bad_iff.2 hq)
    · rw [setGo_ok (fun x => hq (bad_iff.1 x))]
      refine set_bad _ ?_
      obtain ⟨p, hp, b⟩ := h
      rcases List.mem_cons.mp hp with rfl | hp
      · exact absurd b hq
      · exact ⟨p, hp, b⟩
theorem pair_congr {f g : Nat → Bool} {c : Str} (h : ∀ k, k < 32 → f k = g k) : (((wn f 32 : Nat) : Int), c) = (((wn g 32 : Nat) : Int), c) := by rw [wn_congI h]
theorem ex_cons {k : Int} {q : Int × Int} {r : List (Int × Int)} : (∃ p ∈ q :: r, In k p) ↔ In k q ∨ ∃ p ∈ r, In k p := by
  constructor
  · rintro ⟨p, hp, h⟩
    rcases List.mem_cons.mp hp with rfl | hp
    · exact .inl h
    · exact .inr ⟨p, hp, h⟩
  · rintro (h | ⟨p, hp, h⟩)
    · exact ⟨q, .head _, h⟩
    · exact ⟨p, .tail _ hp, h⟩
open Classical in
theorem set_good : ∀ {sp : List (Int × Int)} (f : Nat → Bool), (∀ p ∈ sp, ¬ Bad p) → setGo sp ((wn f 32 : Nat) : Int) = (((wn (fun k => f k || decide (∃ p ∈ sp, In (k : Int) p)) 32 : Nat) : Int), Str.ofString "")
  | [], f, h => by
    rw [setGo]
    exact pair_congr fun k _ => by simp
  | q :: r, f, h => by
    have hq := h q (.head _)
    have hb : (0 ≤ q.1 ∧ q.1 ≤ 31) ∧ (0 ≤ q.2 ∧ q.2 ≤ 31) := by unfold Bad at hq; omega
    rw [setGo_ok (fun x => hq (bad_iff.1 x)), mask_wn hb.1 hb.2, bor_wn, set_good _ (fun p hp => h p (.tail _ hp))]
    refine pair_congr fun k _ => ?_
    simp only [ex_cons]
    by_cases h1 : In (k : Int) q
    · have h2 : (decide (q.1 ≤ (k : Int)) && decide ((k : Int) ≤ q.2)) = true := by
        rw [← Bool.decide_and]; exact decide_eq_true h1
      rw [h2]
      simp [h1]
    · have h2 : (decide (q.1 ≤ (k : Int)) && decide ((k : Int) ≤ q.2)) = false := by
        rw [← Bool.decide_and]; exact decide_eq_false h1
      rw [h2]
      simp [h1]
open Classical in
theorem held_word {sp : List (Int × Int)} {zs : List Int} (h : ∀ j : Nat, j < 32 → HeldAt sp (j : Int) (zs.getD j 0)) : wordL zs = ((wn (fun k => decide (∃ p ∈ sp, In (k : Int) p)) 32 : Nat) : Int) := by
  refine word_wn fun k hk => ?_
  rcases h k hk with ⟨e, x⟩ | ⟨e, x⟩
  · rw [e, decide_eq_true x]; rfl
  · rw [e, decide_eq_false (fun ⟨p, hp, y⟩ => x p hp y)]; rfl
theorem set_held {sp : List (Int × Int)} {zs : List Int} (hg : ∀ p ∈ sp, ¬ Bad p) (h : ∀ j : Nat, j < 32 → HeldAt sp (j : Int) (zs.getD j 0)) : setGo sp 0 = (wordL zs, Str.ofString "") := by
  have e : (0 : Int) = ((wn (fun _ => false) 32 : Nat) : Int) := by decide +kernel
  rw [e, set_good _ hg, held_word h]
  exact pair_congr fun k _ => by simp
theorem held_01 {sp : List (Int × Int)} {zs : List Int} (hl : zs.length = 32) (h : ∀ j : Nat, j < 32 → HeldAt sp (j : Int) (zs.getD j 0)) : A01 zs := fun x hx => by
  obtain ⟨j, hj, rfl⟩ := List.getElem_of_mem hx
  have e : zs.getD j 0 = zs[j] := by simp [List.getD, hj]
  have := h j (by omega)
  rw [e] at this
  rcases this with ⟨e, _⟩ | ⟨e, _⟩ <;> omega
/-- one span's bits -/
theorem mask_held {a b : Int} {zs : List Int} (hg : ¬ Bad (a, b)) (h : ∀ j : Nat, j < 32 → HeldAt [(a, b)] (j : Int) (zs.getD j 0)) : maskv a b = wordL zs := by
  have e := set_held (sp := [(a, b)]) (fun p hp => by rw [List.mem_singleton.mp hp]; exact hg) h
  rw [setGo_ok (fun x => hg (bad_iff.1 x)), setGo] at e
  have e1 := (Prod.mk.inj e).1
  have hb : (0 ≤ a ∧ a ≤ 31) ∧ (0 ≤ b ∧ b ≤ 31) := by unfold Bad at hg; omega
  rw [← e1, mask_wn hb.1 hb.2]
  have e0 : (0 : Int) = ((wn (fun _ => false) 32 : Nat) : Int) := by decide +kernel
  rw [e0, bor_wn]
  exact wn_congI fun k _ => by simp
theorem setbad_c (w : World) (mean : ExcName → Option Value) (mg mb : Str → Option Value) (news : List (Addr × Obj)) (sl : Addr) (vs : List Value) (n : Nat) (sp : List (Int × Int)) :
    Claim w mean mg mb 2 16 91 [.ref sl] news ((sl, PySem.W.listOf vs.toArray n) ∈ news ∧ SpansIn news vs sp ∧ ∃ p ∈ sp, Bad p) (RTup news 0 (Str.ofString "bad_element")) := by
  unfold Claim
  intro _ _ _ _ _ _ _ _ _ _ _ _ _ _ _ _ _ k1 k2 k3 k4 k5 kK kd ku hp hret
  have e := set_bad 0 hp.2.2
  refine use (setg_c w mean mg mb news sl vs n sp) k1 k2 k3 k4 k5 kK kd ku ⟨hp.1, hp.2.1⟩ ?_
  rw [e]; exact hret
theorem setok_c (w : World) (mean : ExcName → Option Value) (mg mb : Str → Option Value) (news : List (Addr × Obj)) (sl : Addr) (vs : List Value) (n : Nat) (sp : List (Int × Int)) (zs : List Int) :
    Claim w mean mg mb 2 16 91 [.ref sl] news ((sl, PySem.W.listOf vs.toArray n) ∈ news ∧ SpansIn news vs sp ∧ (∀ p ∈ sp, ¬ Bad p) ∧ ∀ j : Nat, j < 32 → HeldAt sp (j : Int) (zs.getD j 0)) (RTup news (wordL zs) (Str.ofString "")) := by
  unfold Claim
  intro _ _ _ _ _ _ _ _ _ _ _ _ _ _ _ _ _ k1 k2 k3 k4 k5 kK kd ku hp hret
  have e := set_held hp.2.2.1 hp.2.2.2
  refine use (setg_c w mean mg mb news sl vs n sp) k1 k2 k3 k4 k5 kK kd ku ⟨hp.1, hp.2.1⟩ ?_
  rw [e]; exact hret
set_option hygiene false
local macro_rules | `(tactic| walk_at "call ref") => `(tactic| (k_here; k_dflt ((first | (refine' use (setbad_c _ _ _ _ _ _ _ _ _) ?k1 ?k2 ?k3 ?k4 ?k5 ?kK ?kd ?ku ?kp ?_; (case k4 => k_asm); (case kp => exact ⟨by assumption, by assumption, by assumption⟩)) | (refine' use (setok_c _ _ _ _ _ _ _ _ _ _) ?k1 ?k2 ?k3 ?k4 ?k5 ?kK ?kd ?ku ?kp ?_; (case k4 => k_asm); (case kp => exact ⟨by assumption, by assumption, by assumption, by assumption⟩)) | (refine' use (lword_c _ _ _ _ _ _ _ _ _) ?k1 ?k2 ?k3 ?k4 ?k5 ?kK ?kd ?ku ?kp ?_; (case k4 => k_asm); (case kp => (refine ⟨?kpa, ?kpb, ?kpc, ?kpd⟩; (case kpa => k_mem); (case kpb => l_ints); (case kpc => assumption); (case kpd => assumption))))); (walk_at "mine tl"); (walk_at "mine in"))))
set_option hygiene true
local macro_rules | `(tactic| k_mem) => `(tactic| assumption)
set_option maxHeartbeats 8000000 in
theorem b31 (w : World) (mean : ExcName → Option Value) (mg mb : Str → Option Value) (dp un : Nat) (gd : Option (List Code)) (a : Addr) (ccd : Value) (outer : List Env) (A₀ : Around) (base h₀ : Heap) (L : Addr) (c1 c2 c3 c4 c5 c6 : Addr) (m : Str → Option Value) (s : Shared) (Q : Flow → Shared → Prop) (E : Value → Shared → Prop) (T : List (Addr × Obj)) (rest : List Stmt) (sl : Addr) (vs : List Value) (nl : Nat) (sp : List (Int × Int)) (hsp : SpansIn T vs sp) (gs : (sl, PySem.W.listOf vs.toArray nl) ∈ T) (o6 : Obj) (g6 : (c6, o6) ∈ T) (d6 : o6.data = Data.cell (some (.ref sl))) (hl3 : sp.length ≤ 3) (b : Bool) (D : Addr) (ys : List Value) (zs : List Int) (B : Below A₀ base outer h₀) (X : (hd.heap_39 w.params).In h₀) (Tp : Top hd.view_39 LL mean mg mb h₀) (hdp : dp + 10 < recursionLimit) (hun : un + 100 < cLine) 
    (hb : m (Str.ofString "faulty") = some (.bool b)) (hbi : b = true ↔ ∃ p ∈ sp, Bad p) (hh : m (Str.ofString "held") = some (.ref D)) (gD : (D, PySem.W.listOf ys.toArray ys.length) ∈ T) (hI : IntsAre ys zs) (hz : zs.length = 32)
    (hH : ∀ j : Nat, j < 32 → HeldAt sp (j : Int) (zs.getD j 0))  (F : Fr h₀ L s.heap m) (N : News h₀ L s.heap (T))
    (hk : ∀ (m' : Str → Option Value) (h' : Heap) (tk' : Nat) , Same [Str.ofString "value", Str.ofString "code"] m m' → Fr h₀ L h' m' → News h₀ L h' (T) → wpAny (model PySem.Challenge.rw_nu0312_01.row.toRowW.prog w) (lawAr dp un gd L a ccd c1 c2 c3 c4 c5 c6 outer) (execs rest (lawEnv L a ccd c1 c2 c3 c4 c5 c6)) Q E { s with heap := h', toks := tk' }) :
    wpAny (model PySem.Challenge.rw_nu0312_01.row.toRowW.prog w) (lawAr dp un gd L a ccd c1 c2 c3 c4 c5 c6 outer) (execs (lawSt 31 :: lawSt 32 :: rest) (lawEnv L a ccd c1 c2 c3 c4 c5 c6)) Q E s := by
  conv in (lawSt 31) => whnf
  conv in (lawSt 32) => whnf
  have F1 := (fr_look (x := Str.ofString "faulty") (fr_look (x := Str.ofString "held") F (by walk_at "mine rd")) (by walk_at "mine rd"))
  clear F
  cases b with
  | true =>
    have hbad := hbi.1 rfl
    k_steps
    all_goals ((refine' hk _ _ _ ?qm  ?qF ?qN); (case qF => assumption); (case qN => exact cb_drop (by assumption) (by walk_at "mine all"));  (case qm => walk_at "mine map"))
  | false =>
    have hgood : ∀ p ∈ sp, ¬ Bad p := fun p hp hbd => absurd (hbi.2 ⟨p, hp, hbd⟩) (by decide)
    have h01 := held_01 hz hH
    k_steps
    all_goals ((refine' hk _ _ _ ?qm  ?qF ?qN); (case qF => assumption); (case qN => exact cb_drop (by assumption) (by walk_at "mine all"));  (case qm => walk_at "mine map"))
end
section
local macro_rules | `(tactic| walk_at "mine same") => `(tactic| rfl)
set_option hygiene false
local macro_rules | `(tactic| walk_at "call ref") => `(tactic| (k_here; k_dflt ((first | (refine' use (lword_c _ _ _ _ _ _ _ _ _) ?k1 ?k2 ?k3 ?k4 ?k5 ?kK ?kd ?ku ?kp ?_; (case k4 => k_asm); (case kp => (refine ⟨?kpa, ?kpb, ?kpc, ?kpd⟩; (case kpa => k_mem); (case kpb => l_ints); (case kpc => walk_at "mine len32"); (case kpd => walk_at "mine bits01")))) | (refine' use (mask_c _ _ _ _ _ _ _ _ _) ?k1 ?k2 ?k3 ?k4 ?k5 ?kK ?kd ?ku ?kp ?_; (case k4 => k_asm); (case kp => (refine ⟨?_, ?_, ?_, ?_⟩ <;> omega)))); (walk_at "mine tl"); (walk_at "mine in"))))
set_option hygiene true
local macro_rules | `(tactic| k_mem) => `(tactic| assumption)

theorem eq_nil {prog : Program} {w : World} {A : Around} {E : Value → Shared → Prop} {s : Shared} {h₀ : Heap} {L l b : Addr} {n n2 : Nat} {news : List (Addr × Obj)} {Q : Value → Shared → Prop}
    (N : News h₀ L s.heap news) (hl : (l, PySem.W.listOf ([] : List Value).toArray n) ∈ news) (hb : (b, PySem.W.listOf ([] : List Value).toArray n2) ∈ news) (hu : A.units + 100 < cLine) (h : Q (.bool true) s) : wpAny (model prog w) A (compareOp .Eq (.ref l) (.ref b)) Q E s :=
  P.eq_list (items := ([] : List Value).toArray) (items2 := ([] : List Value).toArray) (n := n) (n2 := n2) (e := fun _ => true) (N _ hl).1 (N _ hb).1 rfl (fun j h1 => absurd h1 (Nat.not_lt_zero _)) (by omega) h
theorem eq_more {prog : Program} {w : World} {A : Around} {E : Value → Shared → Prop} {s : Shared} {h₀ : Heap} {L l b : Addr} {n n2 : Nat} {v : Value} {vs : List Value} {news : List (Addr × Obj)} {Q : Value → Shared → Prop}
    (N : News h₀ L s.heap news) (hl : (l, PySem.W.listOf (v :: vs).toArray n) ∈ news) (hb : (b, PySem.W.listOf ([] : List Value).toArray n2) ∈ news) (hu : A.units + 100 < cLine) (h : Q (.bool false) s) : wpAny (model prog w) A (compareOp .Eq (.ref l) (.ref b)) Q E s :=
  P.eq_list_lengths (items := (v :: vs).toArray) (items2 := ([] : List Value).toArray) (n := n) (n2 := n2) (N _ hl).1 (N _ hb).1 (by simp) (by omega) h
theorem item_first {prog : Program} {w : World} {A : Around} {E : Value → Shared → Prop} {s : Shared} {value slice : Expr} {l : Addr} {v : Value} {vs : List Value} {u : Tok} {Q : Value → Shared → Prop} (hl : s.heap.IsList l (v :: vs).toArray) (h : Q v s)
    (hs : subscripted slice false (.ref l) (.int 0 u) = operate [.ref l, .int 0 u] (getItem (.ref l) (.int 0 u)) := by with_unfolding_all rfl) (hg : ∀ r, letTemporaryGo value (.ref l) r = pure () := by intro _; with_unfolding_all rfl) :
    wpAny (model prog w) A (subscriptTail value slice (.ref l) (.int 0 u)) Q E s := item_list hl (by decide) (by decide) rfl h hs hg
local macro_rules | `(tactic| walk_at "compareOp Eq ref ref") => `(tactic| (k_here; k_dflt (first | (refine' eq_more ?a ?b ?c ?d ?_; (case a => k_asm); (case b => k_mem); (case c => walk_at "mine mem"); (case d => assumption)) | (refine' eq_nil ?a ?b ?c ?d ?_; (case a => k_asm); (case b => k_mem); (case c => walk_at "mine mem"); (case d => assumption)))))
local macro_rules | `(tactic| walk_at "subscriptTail Name Constant ref int") => `(tactic| (k_here; (with_reducible show wpAny _ _ (subscriptTail _ _ (Value.ref _) (Value.int _ _)) _ _ _); k_dflt (refine' item_first ?k1 ?_; (case k1 => exact News.isList (by k_asm) (by k_mem)))))

def bitsOf (x y : Int) : List Int := (rangeKs 0 ((32 : Int) - 0).toNat).map fun k' => if x ≤ k' ∧ k' ≤ y then 1 else if x ≤ k' ∧ ¬ k' ≤ y then 0 else 0
theorem bitsOf_len (x y : Int) : (bitsOf x y).length = 32 := by rw [bitsOf, List.length_map, rangeKs_length]; rfl
theorem bitsOf_01 (x y : Int) : ∀ z ∈ bitsOf x y, 0 ≤ z ∧ z ≤ 1 := fun z hz => by
  obtain ⟨k, _, rfl⟩ := List.mem_map.mp hz
  by_cases h : x ≤ k ∧ k ≤ y
  · rw [if_pos h]; decide
  · rw [if_neg h, ite_self]; decide
theorem bitsOf_word {x y : Int} (hg : ¬ Bad (x, y)) : wordL (bitsOf x y) = maskv x y := by
  refine (mask_held hg fun j hj => ?_).symm
  have e : (bitsOf x y).getD j 0 = if x ≤ (j : Int) ∧ (j : Int) ≤ y then 1 else 0 := by
    have e0 : ∀ k : Int, (if x ≤ k ∧ k ≤ y then (1 : Int) else if x ≤ k ∧ ¬ k ≤ y then 0 else 0) = if x ≤ k ∧ k ≤ y then 1 else 0 := fun k => by rw [ite_self]
    have h2 : j < (32 - (0 : Int)).toNat := hj
    rw [bitsOf, List.getD_eq_getElem?_getD, List.getElem?_map, rangeKs, List.getElem?_map, List.getElem?_range h2]
    simp only [Option.map_some, Option.getD_some, e0, Int.zero_add]
  rw [e]
  by_cases h : x ≤ (j : Int) ∧ (j : Int) ≤ y
  · rw [if_pos h]; exact .inl ⟨rfl, _, .head _, h⟩
  · rw [if_neg h]; exact .inr ⟨rfl, fun p hp => by rw [List.mem_singleton.mp hp]; exact h⟩
theorem ret33 {x y : Int} {Q : Flow → Shared → Prop} {s : Shared} (hg : ¬ Bad (x, y)) (h : Q (.ret (.bool true)) s) : Q (.ret (.bool (maskv x y == wordL (bitsOf x y)))) s := by
  rw [bitsOf_word hg, beq_self_eq_true]; exact h
local macro_rules | `(tactic| walk_at "mine len32") => `(tactic| exact bitsOf_len _ _)
local macro_rules | `(tactic| walk_at "mine bits01") => `(tactic| exact bitsOf_01 _ _)
theorem fr_back {h₀ h : Heap} {L : Addr} {m : Str → Option Value} {x : Str} {v : Value} (F : Fr h₀ L h (fun y => if y = x then some v else m y)) (e : m x = some v) : Fr h₀ L h m := by
  have : (fun y => if y = x then some v else m y) = m := by
    funext y
    by_cases h : y = x
    · rw [if_pos h, h, e]
    · rw [if_neg h]
  rw [this] at F; exact F
set_option maxHeartbeats 8000000 in
theorem b33t (w : World) (mean : ExcName → Option Value) (mg mb : Str → Option Value) (dp un : Nat) (gd : Option (List Code)) (a : Addr) (ccd : Value) (outer : List Env) (A₀ : Around) (base h₀ : Heap) (L : Addr) (c1 c2 c3 c4 c5 c6 : Addr) (m : Str → Option Value) (s : Shared) (Q : Flow → Shared → Prop) (E : Value → Shared → Prop) (T : List (Addr × Obj))  (B : Below A₀ base outer h₀) (X : (hd.heap_39 w.params).In h₀) (Tp : Top hd.view_39 LL mean mg mb h₀) (hdp : dp + 10 < recursionLimit) (hun : un + 100 < cLine) (hb : m (Str.ofString "faulty") = some (.bool true)) (N : News h₀ L s.heap T) (F : Fr h₀ L s.heap m)
    (hk : ∀ (h' : Heap) (tk' : Nat), Fr h₀ L h' m → Q (.ret (.bool true)) { s with heap := h', toks := tk' }) :
    wpAny (model PySem.Challenge.rw_nu0312_01.row.toRowW.prog w) (lawAr dp un gd L a ccd c1 c2 c3 c4 c5 c6 outer) (execs [lawSt 33] (lawEnv L a ccd c1 c2 c3 c4 c5 c6)) Q E s := by
  conv in (lawSt 33) => whnf
  have F1 := (fr_look (x := Str.ofString "faulty") F (by walk_at "mine rd"))
  clear F
  k_steps
  all_goals (refine' hk _ _ ?qF; (case qF => exact fr_back (by assumption) hb))
set_option maxHeartbeats 8000000 in
theorem b33n (w : World) (mean : ExcName → Option Value) (mg mb : Str → Option Value) (dp un : Nat) (gd : Option (List Code)) (a : Addr) (ccd : Value) (outer : List Env) (A₀ : Around) (base h₀ : Heap) (L : Addr) (c1 c2 c3 c4 c5 c6 : Addr) (m : Str → Option Value) (s : Shared) (Q : Flow → Shared → Prop) (E : Value → Shared → Prop) (T : List (Addr × Obj)) (sl : Addr) (nl : Nat) (o6 : Obj) (B : Below A₀ base outer h₀) (X : (hd.heap_39 w.params).In h₀) (Tp : Top hd.view_39 LL mean mg mb h₀) (hdp : dp + 10 < recursionLimit) (hun : un + 100 < cLine) (g6 : (c6, o6) ∈ T) (d6 : o6.data = Data.cell (some (.ref sl))) (hb : m (Str.ofString "faulty") = some (.bool false)) (gs : (sl, PySem.W.listOf ([] : List Value).toArray nl) ∈ T) (N : News h₀ L s.heap T) (F : Fr h₀ L s.heap m)
    (hk : ∀ (h' : Heap) (tk' : Nat), Fr h₀ L h' m → Q (.ret (.bool true)) { s with heap := h', toks := tk' }) :
    wpAny (model PySem.Challenge.rw_nu0312_01.row.toRowW.prog w) (lawAr dp un gd L a ccd c1 c2 c3 c4 c5 c6 outer) (execs [lawSt 33] (lawEnv L a ccd c1 c2 c3 c4 c5 c6)) Q E s := by
  conv in (lawSt 33) => whnf
  have F1 := (fr_look (x := Str.ofString "faulty") F (by walk_at "mine rd"))
  clear F
  k_steps
  all_goals (refine' hk _ _ ?qF; (case qF => exact fr_back (by assumption) hb))
set_option maxHeartbeats 8000000 in
theorem b33c (w : World) (mean : ExcName → Option Value) (mg mb : Str → Option Value) (dp un : Nat) (gd : Option (List Code)) (a : Addr) (ccd : Value) (outer : List Env) (A₀ : Around) (base h₀ : Heap) (L : Addr) (c1 c2 c3 c4 c5 c6 : Addr) (m : Str → Option Value) (s : Shared) (Q : Flow → Shared → Prop) (E : Value → Shared → Prop) (T : List (Addr × Obj)) (sl : Addr) (nl : Nat) (o6 : Obj) (D0 : Addr) (vs : List Value) (x y : Int) (tx ty : Tok) (n : Nat) (B : Below A₀ base outer h₀) (X : (hd.heap_39 w.params).In h₀) (Tp : Top hd.view_39 LL mean mg mb h₀) (hdp : dp + 10 < recursionLimit) (hun : un + 100 < cLine) (g6 : (c6, o6) ∈ T) (d6 : o6.data = Data.cell (some (.ref sl))) (hb : m (Str.ofString "faulty") = some (.bool false)) (gs : (sl, PySem.W.listOf (Value.ref D0 :: vs).toArray nl) ∈ T) (hg : ¬ Bad (x, y)) (N : News h₀ L s.heap ((D0, spanO x tx y ty n) :: T)) (F : Fr h₀ L s.heap m)
    (hk : ∀ (h' : Heap) (tk' : Nat), Fr h₀ L h' m → Q (.ret (.bool true)) { s with heap := h', toks := tk' }) :
    wpAny (model PySem.Challenge.rw_nu0312_01.row.toRowW.prog w) (lawAr dp un gd L a ccd c1 c2 c3 c4 c5 c6 outer) (execs [lawSt 33] (lawEnv L a ccd c1 c2 c3 c4 c5 c6)) Q E s := by
  conv in (lawSt 33) => whnf
  have F1 := (fr_look (x := Str.ofString "faulty") F (by walk_at "mine rd"))
  clear F
  have hb4 : (0 ≤ x ∧ x ≤ 31) ∧ (0 ≤ y ∧ y ≤ 31) := by unfold Bad at hg; omega
  k_steps
  all_goals refine' ret33 (x := x) (y := y) hg ?_
  all_goals (refine' hk _ _ ?qF; (case qF => exact fr_back (by assumption) hb))
set_option maxHeartbeats 8000000 in
theorem b33 (w : World) (mean : ExcName → Option Value) (mg mb : Str → Option Value) (dp un : Nat) (gd : Option (List Code)) (a : Addr) (ccd : Value) (outer : List Env) (A₀ : Around) (base h₀ : Heap) (L : Addr) (c1 c2 c3 c4 c5 c6 : Addr) (m : Str → Option Value) (s : Shared) (Q : Flow → Shared → Prop) (E : Value → Shared → Prop) (T : List (Addr × Obj)) (sl : Addr) (vs : List Value) (nl : Nat) (sp : List (Int × Int)) (hsp : SpansIn T vs sp) (gs : (sl, PySem.W.listOf vs.toArray nl) ∈ T) (o6 : Obj) (b : Bool) (B : Below A₀ base outer h₀) (X : (hd.heap_39 w.params).In h₀) (Tp : Top hd.view_39 LL mean mg mb h₀) (hdp : dp + 10 < recursionLimit) (hun : un + 100 < cLine) (g6 : (c6, o6) ∈ T) (d6 : o6.data = Data.cell (some (.ref sl))) (hb : m (Str.ofString "faulty") = some (.bool b)) (hbi : b = true ↔ ∃ p ∈ sp, Bad p) (N : News h₀ L s.heap T) (F : Fr h₀ L s.heap m)
    (hk : ∀ (h' : Heap) (tk' : Nat), Fr h₀ L h' m → Q (.ret (.bool true)) { s with heap := h', toks := tk' }) :
    wpAny (model PySem.Challenge.rw_nu0312_01.row.toRowW.prog w) (lawAr dp un gd L a ccd c1 c2 c3 c4 c5 c6 outer) (execs [lawSt 33] (lawEnv L a ccd c1 c2 c3 c4 c5 c6)) Q E s := by
  conv in (lawSt 33) => whnf
  have F1 := (fr_look (x := Str.ofString "faulty") F (by walk_at "mine rd"))
  clear F1
  cases b with
  | true => exact b33t w mean mg mb dp un gd a ccd outer A₀ base h₀ L c1 c2 c3 c4 c5 c6 m s Q E T B X Tp hdp hun hb N F hk
  | false =>
    cases hsp with
    | nil => exact b33n w mean mg mb dp un gd a ccd outer A₀ base h₀ L c1 c2 c3 c4 c5 c6 m s Q E T sl nl o6 B X Tp hdp hun g6 d6 hb gs N F hk
    | cons hm _ => exact b33c w mean mg mb dp un gd a ccd outer A₀ base h₀ L c1 c2 c3 c4 c5 c6 m s Q E T sl nl o6 _ _ _ _ _ _ _ B X Tp hdp hun g6 d6 hb gs (fun hbd => absurd (hbi.2 ⟨_, .head _, hbd⟩) (by decide)) (cb_drop N (List.forall_mem_cons.2 ⟨hm, fun _ h => h⟩)) F hk
end
section
local macro_rules | `(tactic| walk_at "mine same") => `(tactic| rfl)
set_option hygiene false
local macro_rules | `(tactic| walk_at "call ref") => `(tactic| (k_here; k_dflt ((refine' useB (pool_c _ _ _ _ _ _ _ _) ?k1 ?k2 ?k3 ?k4 ?k5 ?kK ?kd ?ku ?kp ?_); (case k4 => k_asm); (walk_at "mine tl"); (case kp => exact ⟨by assumption, by assumption, by assumption⟩); (intro pl9 fl9 vs9 ns9 k9 n9 x9 t9 u9 h9 tk9 I9 a9 b9 c9 F9 N9 d9 e9; (try dsimp only); (have e9a := (List.forall_mem_cons.1 e9).1); (have e9b := (List.forall_mem_cons.1 e9).2); (dsimp only at e9a); (have e9c := And.intro (Nat.ne_of_gt (Nat.lt_trans e9a d9)) True.intro); (have e9d := And.intro (Nat.ne_of_gt e9a) True.intro); (have e9f := And.intro e9a e9b); (try k_fold); (try k_sweep)))))
set_option hygiene true
set_option maxHeartbeats 8000000 in
theorem b0 (w : World) (mean : ExcName → Option Value) (mg mb : Str → Option Value) (dp un : Nat) (gd : Option (List Code)) (a : Addr) (ccd : Value) (outer : List Env) (A₀ : Around) (base h₀ : Heap) (L : Addr) (c1 c2 c3 c4 c5 c6 : Addr) (m : Str → Option Value) (s : Shared) (Q : Flow → Shared → Prop) (E : Value → Shared → Prop) (T : List (Addr × Obj)) (rest : List Stmt) (l : Addr) (vs : List Value) (ns : List Int) (o1 : Obj) (v1 : Option Value) (B : Below A₀ base outer h₀) (X : (hd.heap_39 w.params).In h₀) (Tp : Top hd.view_39 LL mean mg mb h₀) (hdp : dp + 10 < recursionLimit) (hun : un + 100 < cLine) 
    (hs : m (Str.ofString "script") = some (.ref l)) (hl : base.IsList l vs.toArray) (hI : IntsAre vs ns) (hn : ns.length ≤ 63) (d1 : o1.data = Data.cell v1) (hT1 : ∀ p ∈ T, p.1 ≠ c1) (F : Fr h₀ L s.heap m) (N : News h₀ L s.heap ((c1, o1) :: T))
    (hk : ∀ (m' : Str → Option Value) (h' : Heap) (tk' : Nat) (o1' : Obj) (pl fl : Addr) (fs : List Value) (gs : List Int) (nf np : Nat) (mix : Int) (p1 p2 : Tok), Same [] m m' → o1'.data = Data.cell (some (.ref pl)) → IntsAre fs gs → gs.length < 1000 → 0 ≤ mix → mix < 1009 → @LT.lt Nat _ fl pl → (@LT.lt Nat _ c1 fl ∧ ∀ p ∈ T, @LT.lt Nat _ p.1 fl) → Fr h₀ L h' m' → News h₀ L h' ((c1, o1') :: (pl, poolO fl 0 p1 mix p2 np) :: (fl, PySem.W.listOf fs.toArray nf) :: T) → wpAny (model PySem.Challenge.rw_nu0312_01.row.toRowW.prog w) (lawAr dp un gd L a ccd c1 c2 c3 c4 c5 c6 outer) (execs rest (lawEnv L a ccd c1 c2 c3 c4 c5 c6)) Q E { s with heap := h', toks := tk' }) :
    wpAny (model PySem.Challenge.rw_nu0312_01.row.toRowW.prog w) (lawAr dp un gd L a ccd c1 c2 c3 c4 c5 c6 outer) (execs (lawSt 0 :: rest) (lawEnv L a ccd c1 c2 c3 c4 c5 c6)) Q E s := by
  conv in (lawSt 0) => whnf
  have F1 := (fr_look (x := Str.ofString "script") F (by walk_at "mine rd"))
  clear F
  k_steps
  all_goals ((refine' hk _ _ _ _ _ _ _ _ _ _ _ _ _ ?qm ?q0 ?q1 ?q2 ?q3 ?q4 ?q5 ?q6 ?qF ?qN); (case qF => assumption); (case qN => exact cb_drop (by assumption) (by walk_at "mine all")); (case q0 => assumption); (case q1 => assumption); (case q2 => assumption); (case q3 => assumption); (case q4 => assumption); (case q5 => assumption); (case q6 => assumption); (case qm => walk_at "mine map"))
end
section
local macro_rules | `(tactic| walk_at "mine apart") => `(tactic| skip)
local macro_rules | `(tactic| walk_at "mine same") => `(tactic| rfl)
set_option hygiene false
local macro_rules | `(tactic| walk_at "call ref") => `(tactic| (k_here; k_dflt ((first | (refine' use (lsigned_c _ _ _ _ _ _ _) ?k1 ?k2 ?k3 ?k4 ?k5 ?kK ?kd ?ku ?kp ?_; (walk_at "mine kp"))); (walk_at "mine tl"); (first | (intro D9 t9 u9 n9 h9 tk9 F9 N9 l9) | (intro t9 h9 tk9 F9 N9) | (intro h9 tk9 F9 N9)); (try dsimp only); (try simp only [LCg.Off1, and_true] at l9); (try k_fold); (try k_sweep))))
set_option hygiene true
local macro_rules | `(tactic| k_mem) => `(tactic| assumption)

theorem fr_back1 {h₀ h : Heap} {L : Addr} {m : Str → Option Value} {x : Str} {v : Value} (F : Fr h₀ L h (fun y => if y = x then some v else m y)) (e : m x = some v) : Fr h₀ L h m := by
  have : (fun y => if y = x then some v else m y) = m := by
    funext y
    by_cases h : y = x
    · rw [if_pos h, h, e]
    · rw [if_neg h]
  rw [this] at F; exact F
noncomputable def lc1 : Expr := asVal (lawSt 1)
theorem st1 : lawSt 1 = .Assign [.Name (Str.ofString "cells") (tgPos (lawSt 1))] (.ListComp (lcElt lc1) [⟨.Name (Str.ofString "cell") (lcPx lc1), lcIter lc1, [], 0⟩] (lcScope lc1) (lcPos lc1)) (asPos (lawSt 1)) := rfl
theorem sgn_in (n : Int) : B32 (sgn n) := by
  exact sgn_range n
theorem ints_at : ∀ {vs : List Value} {ns : List Int} {i : Nat} {v : Value}, IntsAre vs ns → vs[i]? = some v → ∃ (x : Int) (t : Tok), v = .int x t
  | _, _, i, v, .nil, h => by simp at h
  | _, _, 0, v, .cons n t r, h => ⟨n, t, by simpa using h.symm⟩
  | _, _, i + 1, v, .cons n t r, h => ints_at (i := i) r (by simpa using h)
set_option maxHeartbeats 8000000 in
theorem elt1 (w : World) (mean : ExcName → Option Value) (mg mb : Str → Option Value) (dp un : Nat) (gd : Option (List Code)) (a : Addr) (ccd : Value) (outer : List Env) (A₀ : Around) (base h₀ : Heap) (L : Addr) (c1 c2 c3 c4 c5 c6 : Addr) (m : Str → Option Value) (s : Shared) (Q : Value → Shared → Prop) (E : Value → Shared → Prop) (T : List (Addr × Obj)) (C : Addr) (oC : Obj) (m₂ : Str → Option Value) (x : Int) (t : Tok) (B : Below A₀ base outer h₀) (X : (hd.heap_39 w.params).In h₀) (Tp : Top hd.view_39 LL mean mg mb h₀) (hdp : dp + 10 < recursionLimit) (hun : un + 100 < cLine) (hC : LCg.NsObj oC m₂) (hx : m₂ (Str.ofString "cell") = some (.int x t))
    (F : Fr h₀ L s.heap m) (N : News h₀ L s.heap ((C, oC) :: T))
    (hk : ∀ (h' : Heap) (tk' : Nat) (t' : Tok), Fr h₀ L h' m → News h₀ L h' ((C, oC) :: T) → Q (.int (sgn x) t') { s with heap := h', toks := tk' }) :
    wpAny (model PySem.Challenge.rw_nu0312_01.row.toRowW.prog w) (lawAr dp un gd L a ccd c1 c2 c3 c4 c5 c6 outer) (eval (lcElt lc1) (compEnvC (lcScope lc1) [] C (lawEnv L a ccd c1 c2 c3 c4 c5 c6))) Q E s := by
  conv in (lcElt _) => whnf
  conv in (lcScope _) => whnf
  k_steps
  all_goals ((refine' hk _ _ _ ?qF ?qN); (case qF => assumption); (case qN => assumption))
set_option maxHeartbeats 8000000 in
theorem rest1 (w : World) (mean : ExcName → Option Value) (mg mb : Str → Option Value) (dp un : Nat) (gd : Option (List Code)) (a : Addr) (ccd : Value) (outer : List Env) (A₀ : Around) (base h₀ : Heap) (L : Addr) (c1 c2 c3 c4 c5 c6 : Addr) (m : Str → Option Value) (s : Shared)   (T : List (Addr × Obj)) (B : Below A₀ base outer h₀) (X : (hd.heap_39 w.params).In h₀) (Tp : Top hd.view_39 LL mean mg mb h₀) (hdp : dp + 10 < recursionLimit) (hun : un + 100 < cLine) (D0 : Addr) (zs : List Value) (ks : List Int) (nz : Nat) (hI : IntsAre zs ks) (gz : (D0, PySem.W.listOf zs.toArray nz) ∈ T) (Fin : List Value → List (Addr × Obj) → Prop) (hFin : ∀ ys cs, IntsAre ys cs → cs.length = zs.length → (∀ x ∈ cs, B32 x) → Fin ys T) :
    ∀ (k i : Nat) (ys : List Value) (cs : List Int), i + k = zs.length → IntsAre ys cs → cs.length = i → (∀ x ∈ cs, B32 x) →
      LCg.CompRest PySem.Challenge.rw_nu0312_01.row.toRowW.prog w (lawAr dp un gd L a ccd c1 c2 c3 c4 c5 c6 outer) h₀ L m (lawEnv L a ccd c1 c2 c3 c4 c5 c6) (lcElt lc1) (Str.ofString "cell") (lcScope lc1) [] s (LCg.SrcAt h₀ D0 zs.toArray) (fun i v => zs.toArray[i]? = some v) Fin k i ys T
  | 0, i, ys, cs, hik, hy, hl, hb => LCg.CompRest.zero (hFin ys cs hy (hl.trans hik) hb)
  | k + 1, i, ys, cs, hik, hy, hl, hb => by
    refine LCg.CompRest.succ ?_
    intro v I oI C oC D m₂ h tk E' hv hC hx F' N' off ne
    obtain ⟨x, t, rfl⟩ := ints_at hI (show zs[i]? = some v by simpa using hv)
    refine elt1 w mean mg mb dp un gd a ccd outer A₀ base h₀ L c1 c2 c3 c4 c5 c6 m { s with heap := h, toks := tk } _ E' ((I, oI) :: (D, LCg.lst ys) :: T) C oC m₂ x t B X Tp hdp hun hC hx F' (cb_drop N' ?_) ?_
    · intro p hp
      rcases List.mem_cons.mp hp with rfl | hp
      · exact .tail _ (.head _)
      · rcases List.mem_cons.mp hp with rfl | hp
        · exact .head _
        · rcases List.mem_cons.mp hp with rfl | hp
          · exact .tail _ (.tail _ (.head _))
          · exact .tail _ (.tail _ (.tail _ hp))
    · intro h' tk' t' F'' N''
      refine ⟨h', tk', T, rfl, F'', cb_drop N'' ?_, off, .inr ⟨_, gz, rfl, _, rfl⟩, ?_⟩
      · intro p hp
        rcases List.mem_cons.mp hp with rfl | hp
        · exact .tail _ (.head _)
        · rcases List.mem_cons.mp hp with rfl | hp
          · exact .head _
          · exact .tail _ (.tail _ hp)
      · refine rest1 w mean mg mb dp un gd a ccd outer A₀ base h₀ L c1 c2 c3 c4 c5 c6 m s T B X Tp hdp hun D0 zs ks nz hI gz Fin hFin k (i + 1) _ (cs ++ [sgn x]) (by omega) (hy.append (.cons _ _ .nil)) (by rw [List.length_append, hl]; rfl) ?_
        intro y hy'
        rcases List.mem_append.mp hy' with hy' | hy'
        · exact hb y hy'
        · rw [List.mem_singleton.mp hy']; exact sgn_in x
set_option maxHeartbeats 8000000 in
theorem b1 (w : World) (mean : ExcName → Option Value) (mg mb : Str → Option Value) (dp un : Nat) (gd : Option (List Code)) (a : Addr) (ccd : Value) (outer : List Env) (A₀ : Around) (base h₀ : Heap) (L : Addr) (c1 c2 c3 c4 c5 c6 : Addr) (m : Str → Option Value) (s : Shared) (Q : Flow → Shared → Prop) (E : Value → Shared → Prop) (T : List (Addr × Obj)) (rest : List Stmt) (l : Addr) (vs : List Value) (ns : List Int) (B : Below A₀ base outer h₀) (X : (hd.heap_39 w.params).In h₀) (Tp : Top hd.view_39 LL mean mg mb h₀) (hdp : dp + 10 < recursionLimit) (hun : un + 100 < cLine)
    (hs : m (Str.ofString "script") = some (.ref l)) (hl : h₀.IsList l vs.toArray) (hI : IntsAre vs ns) (hn : ns.length ≤ 63)
    (F : Fr h₀ L s.heap m) (N : News h₀ L s.heap T)
    (hk : ∀ (m' : Str → Option Value) (h' : Heap) (tk' : Nat) (D : Addr) (ws : List Value) (cs : List Int) (n : Nat), Same [Str.ofString "cells"] m m' → m' (Str.ofString "cells") = some (.ref D) → IntsAre ws cs → cs.length ≤ 4 → (∀ x ∈ cs, B32 x) → (∀ p ∈ T, p.1 ≠ D) → Fr h₀ L h' m' → News h₀ L h' ((D, PySem.W.listOf ws.toArray n) :: T) → wpAny (model PySem.Challenge.rw_nu0312_01.row.toRowW.prog w) (lawAr dp un gd L a ccd c1 c2 c3 c4 c5 c6 outer) (execs rest (lawEnv L a ccd c1 c2 c3 c4 c5 c6)) Q E { s with heap := h', toks := tk' }) :
    wpAny (model PySem.Challenge.rw_nu0312_01.row.toRowW.prog w) (lawAr dp un gd L a ccd c1 c2 c3 c4 c5 c6 outer) (execs (lawSt 1 :: rest) (lawEnv L a ccd c1 c2 c3 c4 c5 c6)) Q E s := by
  rw [st1]
  refine wpAny_execs_cons ?_
  with_reducible refine' LCg.Assign_ListComp_U (cl := []) F ?l ?sw ?a ?b ?c ?d ?e ?y ?p ?_ ?hs
  case l => rfl
  case sw => rfl
  case a => rfl
  case b => decide +kernel
  case c => rfl
  case d => decide +kernel
  case e => rfl
  case y => rfl
  case p => rfl
  case hs => exact fun _ => rfl
  with_reducible refine' abs_post ?_
  intro Q1 hQ1
  conv in (lcIter _) => whnf
  have F1 := (fr_look (x := Str.ofString "script") F (by walk_at "mine rd"))
  clear F
  k_steps
  rename Fr _ _ _ _ => F3
  rename News _ _ _ _ => N3
  rename IntsAre _ _ => I3
  rename (∀ p ∈ _, _) => l3
  have e3 := I3.length
  have e4 : (ns.take 4).length ≤ 4 := List.length_take_le _ _
  have F4 : Fr h₀ L _ m := fr_back1 F3 hs
  refine hQ1 _ _ ?_
  refine LCg.CompSrc.ledger rfl F4 N3 (.head _) (by rw [sizeLine_eq, List.size_toArray]; omega) (fun g => ?_)
  refine' rest1 w mean mg mb dp un gd a ccd outer A₀ base h₀ L c1 c2 c3 c4 c5 c6 m _ _ B X Tp hdp hun _ _ _ _ I3 (List.Mem.head _) _ ?z0 _ 0 [] [] ?z1 .nil rfl ?z2
  case z1 => simp
  case z2 => exact fun _ h => nomatch h
  case' z0 => intro ys cs hy hc hb D h tk F5 N5 o5
  refine hk _ h tk D ys cs ys.length ?m1 (if_pos rfl) hy (by omega) hb (fun p hp => off_mem o5 p (.tail _ hp)) F5 (cb_drop N5 ?q)
  case m1 => walk_at "mine map"
  case q =>
    intro p hp
    rcases List.mem_cons.mp hp with rfl | hp
    · exact .head _
    · exact .tail _ (.tail _ hp)
end
section
local macro_rules | `(tactic| walk_at "mine same") => `(tactic| rfl)
local macro_rules | `(tactic| k_mem) => `(tactic| assumption)
local macro_rules | `(tactic| walk_at "mine val") => `(tactic| first | exact if_pos rfl | (refine (if_neg (by decide +kernel)).trans ?_; walk_at "mine val"))
set_option hygiene false
local macro_rules | `(tactic| walk_at "call ref") => `(tactic| (k_here; k_dflt ((refine' use (pick_c _ _ _ _ _ _ _ _ _ _ _ _ _ _ _ _ _ _) ?k1 ?k2 ?k3 ?k4 ?k5 ?kK ?kd ?ku ?kp ?_); (case k4 => k_asm); (case kp => (refine ⟨?kpu, ?kpm, ?kpn, ?kpi, ?kpl, ?kpb, ?kpx, ?kpy, ?kpz⟩; (case kpm => k_mem); (case kpn => k_mem); (case kpi => l_ints); (case kpl => assumption); (case kpu => (intro o9; k_upd)); (case kpb => decide); (case kpx => assumption); (case kpy => assumption); (case kpz => assumption))); (walk_at "mine tl"); (intro r9 t9 i9 x9 u9 v9 h9 tk9 a9 b9 c9 d9 e9 F9 N9); (try dsimp only); (try dsimp only at N9); (try k_fold); (try k_sweep))))
set_option hygiene true
set_option hygiene false
local macro_rules | `(tactic| walk_at "call ref") => `(tactic| (k_here; k_dflt ((refine' use (number_c _ _ _ _ _ _ _ _ _ _ _ _ _ _ _ _ _ _ _ _) ?k1 ?k2 ?k3 ?k4 ?k5 ?kK ?kd ?ku ?kp ?_); (case k4 => k_asm); (case kp => (refine ⟨?kpu, ?kpm, ?kpn, ?kpo, ?kpi, ?kpj, ?kpl, ?kpb, ?kpc, ?kpx, ?kpy, ?kpz⟩; (case kpm => k_mem); (case kpn => k_mem); (case kpo => k_mem); (case kpi => l_ints); (case kpj => l_ints); (case kpl => assumption); (case kpu => (intro o9; k_upd)); (case kpb => assumption); (case kpc => assumption); (case kpx => assumption); (case kpy => assumption); (case kpz => assumption))); (walk_at "mine tl"); (intro r9 t9 i9 x9 u9 v9 h9 tk9 a9 c9 d9 e9 F9 N9); (try dsimp only); (try dsimp only at N9); (try k_fold); (try k_sweep))))
set_option hygiene true
set_option maxHeartbeats 8000000 in
theorem b2 (w : World) (mean : ExcName → Option Value) (mg mb : Str → Option Value) (dp un : Nat) (gd : Option (List Code)) (a : Addr) (ccd : Value) (outer : List Env) (A₀ : Around) (base h₀ : Heap) (L : Addr) (c1 c2 c3 c4 c5 c6 : Addr) (m : Str → Option Value) (s : Shared) (Q : Flow → Shared → Prop) (E : Value → Shared → Prop) (T : List (Addr × Obj)) (rest : List Stmt) (cl pl fl : Addr) (ws fs : List Value) (nc np nf : Nat) (cs gs : List Int) (idx mix : Int) (p1 p2 : Tok) (o1 : Obj) (B : Below A₀ base outer h₀) (X : (hd.heap_39 w.params).In h₀) (Tp : Top hd.view_39 LL mean mg mb h₀) (hdp : dp + 10 < recursionLimit) (hun : un + 100 < cLine) 
    (hcl : m (Str.ofString "cells") = some (.ref cl)) (hIw : IntsAre ws cs) (hcn : cs.length ≤ 4) (hcb : ∀ x ∈ cs, B32 x) (gc : (cl, PySem.W.listOf ws.toArray nc) ∈ T) (g1 : (c1, o1) ∈ T) (d1 : o1.data = Data.cell (some (.ref pl))) (gf : (fl, PySem.W.listOf fs.toArray nf) ∈ T) (hIf : IntsAre fs gs) (hgl : gs.length < 1000) (hi0 : 0 ≤ idx) (hx0 : 0 ≤ mix) (hx1 : mix < 1009) (hT : ∀ p ∈ T, p.1 ≠ pl) (F : Fr h₀ L s.heap m) (N : News h₀ L s.heap ((pl, poolO fl idx p1 mix p2 np) :: T))
    (hk : ∀ (m' : Str → Option Value) (h' : Heap) (tk' : Nat) (idx' mix' : Int) (p1' p2' : Tok) (one two count : Int) (t1 t2 t3 : Tok), Same [Str.ofString "one", Str.ofString "two", Str.ofString "count"] m m' → m' (Str.ofString "one") = some (.int one t1) → m' (Str.ofString "two") = some (.int two t2) → m' (Str.ofString "count") = some (.int count t3) → B32 one → B32 two → (-2 ≤ count ∧ count ≤ 34) → 0 ≤ idx' → 0 ≤ mix' → mix' < 1009 → Fr h₀ L h' m' → News h₀ L h' ((pl, poolO fl idx' p1' mix' p2' np) :: T) → wpAny (model PySem.Challenge.rw_nu0312_01.row.toRowW.prog w) (lawAr dp un gd L a ccd c1 c2 c3 c4 c5 c6 outer) (execs rest (lawEnv L a ccd c1 c2 c3 c4 c5 c6)) Q E { s with heap := h', toks := tk' }) :
    wpAny (model PySem.Challenge.rw_nu0312_01.row.toRowW.prog w) (lawAr dp un gd L a ccd c1 c2 c3 c4 c5 c6 outer) (execs (lawSt 2 :: lawSt 3 :: lawSt 4 :: rest) (lawEnv L a ccd c1 c2 c3 c4 c5 c6)) Q E s := by
  conv in (lawSt 2) => whnf
  conv in (lawSt 3) => whnf
  conv in (lawSt 4) => whnf
  have F1 := (fr_look (x := Str.ofString "cells") F (by walk_at "mine rd"))
  clear F
  k_steps
  all_goals ((refine' hk _ _ _ _ _ _ _ _ _ _ _ _ _ ?qm ?q0 ?q1 ?q2 ?q3 ?q4 ?q5 ?q6 ?q7 ?q8 ?qF ?qN); (case qF => assumption); (case qN => exact cb_drop (by assumption) (by walk_at "mine all")); (case q0 => walk_at "mine val"); (case q1 => walk_at "mine val"); (case q2 => walk_at "mine val"); (case q3 => assumption); (case q4 => assumption); (case q5 => omega); (case q6 => assumption); (case q7 => assumption); (case q8 => assumption); (case qm => walk_at "mine map"))
end
section
local macro_rules | `(tactic| walk_at "mine same") => `(tactic| rfl)

theorem same_nil {m m' : Str → Option Value} (h : Same [] m m') : m' = m := funext fun x => h x (fun h => nomatch h)
theorem keysN {a b c d : Value} : (([(Str.ofString "s+", a), (Str.ofString "s*", b), (Str.ofString "s-", c), (Str.ofString "s/", d)] : List (Str × Value)).map (·.1)).Nodup := (by decide +kernel : [Str.ofString "s+", Str.ofString "s*", Str.ofString "s-", Str.ofString "s/"].Nodup)
theorem key1 : Str.ofString "s+" ∈ tbOps := by decide +kernel
theorem tab1 {k : List Value} (h : IntsAre k [0, 1, 1, 1]) : IntsAre k (tabOf (Str.ofString "s+")) := by rw [show tabOf (Str.ofString "s+") = [0, 1, 1, 1] from by decide +kernel]; exact h
theorem key2 : Str.ofString "s*" ∈ tbOps := by decide +kernel
theorem tab2 {k : List Value} (h : IntsAre k [0, 0, 0, 1]) : IntsAre k (tabOf (Str.ofString "s*")) := by rw [show tabOf (Str.ofString "s*") = [0, 0, 0, 1] from by decide +kernel]; exact h
theorem key3 : Str.ofString "s-" ∈ tbOps := by decide +kernel
theorem tab3 {k : List Value} (h : IntsAre k [0, 0, 1, 0]) : IntsAre k (tabOf (Str.ofString "s-")) := by rw [show tabOf (Str.ofString "s-") = [0, 0, 1, 0] from by decide +kernel]; exact h
theorem key4 : Str.ofString "s/" ∈ tbOps := by decide +kernel
theorem tab4 {k : List Value} (h : IntsAre k [0, 1, 1, 0]) : IntsAre k (tabOf (Str.ofString "s/")) := by rw [show tabOf (Str.ofString "s/") = [0, 1, 1, 0] from by decide +kernel]; exact h
set_option maxHeartbeats 8000000 in
theorem joined (w : World) (mean : ExcName → Option Value) (mg mb : Str → Option Value) (dp un : Nat) (gd : Option (List Code)) (a : Addr) (ccd : Value) (outer : List Env) (A₀ : Around) (base h₀ : Heap) (L : Addr) (c1 c2 c3 c4 c5 c6 : Addr) (m : Str → Option Value) (s : Shared) (Q : Flow → Shared → Prop) (E : Value → Shared → Prop) (l : Addr) (vs : List Value) (ns : List Int) (o1 o2 o3 o4 o5 o6 : Obj) (v1 v2 v3 v4 v5 v6 : Option Value) (B : Below A₀ base outer h₀) (X : (hd.heap_39 w.params).In h₀) (Tp : Top hd.view_39 LL mean mg mb h₀) (hdp : dp + 10 < recursionLimit) (hun : un + 100 < cLine) (hE : PassesOwn (model PySem.Challenge.rw_nu0312_01.row.toRowW.prog w) (lawAr dp un gd L a ccd c1 c2 c3 c4 c5 c6 outer) (lawEnv L a ccd c1 c2 c3 c4 c5 c6) E)
    (hs : m (Str.ofString "script") = some (.ref l)) (hlb : base.IsList l vs.toArray) (hl0 : h₀.IsList l vs.toArray) (hI : IntsAre vs ns) (hn : ns.length ≤ 63)
    (d1 : o1.data = Data.cell v1) (d2 : o2.data = Data.cell v2) (d3 : o3.data = Data.cell v3) (d4 : o4.data = Data.cell v4) (d5 : o5.data = Data.cell v5) (d6 : o6.data = Data.cell v6)
    (h12 : @LT.lt Nat _ c1 c2) (h23 : @LT.lt Nat _ c2 c3) (h34 : @LT.lt Nat _ c3 c4) (h45 : @LT.lt Nat _ c4 c5) (h56 : @LT.lt Nat _ c5 c6)
    (F : Fr h₀ L s.heap m) (N : News h₀ L s.heap [(c1, o1), (c2, o2), (c3, o3), (c4, o4), (c5, o5), (c6, o6)])
    (hk : ∀ (h' : Heap) (tk' : Nat) (m' : Str → Option Value), Fr h₀ L h' m' → Q (.ret (.bool true)) { s with heap := h', toks := tk' }) :
    wpAny (model PySem.Challenge.rw_nu0312_01.row.toRowW.prog w) (lawAr dp un gd L a ccd c1 c2 c3 c4 c5 c6 outer) (execs [lawSt 0, lawSt 1, lawSt 2, lawSt 3, lawSt 4, lawSt 5, lawSt 6, lawSt 7, lawSt 8, lawSt 9, lawSt 10, lawSt 11, lawSt 12, lawSt 13, lawSt 14, lawSt 15, lawSt 16, lawSt 17, lawSt 18, lawSt 19, lawSt 20, lawSt 21, lawSt 22, lawSt 23, lawSt 24, lawSt 25, lawSt 26, lawSt 27, lawSt 28, lawSt 29, lawSt 30, lawSt 31, lawSt 32, lawSt 33] (lawEnv L a ccd c1 c2 c3 c4 c5 c6)) Q E s := by
  have n_c1_c2 : c1 ≠ c2 := Nat.ne_of_lt h12
  have n_c1_c3 : c1 ≠ c3 := Nat.ne_of_lt (Nat.lt_trans h12 h23)
  have n_c1_c4 : c1 ≠ c4 := Nat.ne_of_lt (Nat.lt_trans (Nat.lt_trans h12 h23) h34)
  have n_c1_c5 : c1 ≠ c5 := Nat.ne_of_lt (Nat.lt_trans (Nat.lt_trans (Nat.lt_trans h12 h23) h34) h45)
  have n_c1_c6 : c1 ≠ c6 := Nat.ne_of_lt (Nat.lt_trans (Nat.lt_trans (Nat.lt_trans (Nat.lt_trans h12 h23) h34) h45) h56)
  have n_c2_c3 : c2 ≠ c3 := Nat.ne_of_lt h23
  have n_c2_c4 : c2 ≠ c4 := Nat.ne_of_lt (Nat.lt_trans h23 h34)
  have n_c2_c5 : c2 ≠ c5 := Nat.ne_of_lt (Nat.lt_trans (Nat.lt_trans h23 h34) h45)
  have n_c2_c6 : c2 ≠ c6 := Nat.ne_of_lt (Nat.lt_trans (Nat.lt_trans (Nat.lt_trans h23 h34) h45) h56)
  have n_c3_c4 : c3 ≠ c4 := Nat.ne_of_lt h34
  have n_c3_c5 : c3 ≠ c5 := Nat.ne_of_lt (Nat.lt_trans h34 h45)
  have n_c3_c6 : c3 ≠ c6 := Nat.ne_of_lt (Nat.lt_trans (Nat.lt_trans h34 h45) h56)
  have n_c4_c5 : c4 ≠ c5 := Nat.ne_of_lt h45
  have n_c4_c6 : c4 ≠ c6 := Nat.ne_of_lt (Nat.lt_trans h45 h56)
  have n_c5_c6 : c5 ≠ c6 := Nat.ne_of_lt h56
  refine @b0 w mean mg mb dp un gd a ccd outer A₀ base h₀ L c1 c2 c3 c4 c5 c6 m s Q E [(c2, o2), (c3, o3), (c4, o4), (c5, o5), (c6, o6)] [lawSt 1, lawSt 2, lawSt 3, lawSt 4, lawSt 5, lawSt 6, lawSt 7, lawSt 8, lawSt 9, lawSt 10, lawSt 11, lawSt 12, lawSt 13, lawSt 14, lawSt 15, lawSt 16, lawSt 17, lawSt 18, lawSt 19, lawSt 20, lawSt 21, lawSt 22, lawSt 23, lawSt 24, lawSt 25, lawSt 26, lawSt 27, lawSt 28, lawSt 29, lawSt 30, lawSt 31, lawSt 32, lawSt 33] l vs ns o1 v1 B X Tp hdp hun hs hlb hI hn d1 (List.forall_mem_cons.mpr ⟨(Ne.symm n_c1_c2), (List.forall_mem_cons.mpr ⟨(Ne.symm n_c1_c3), (List.forall_mem_cons.mpr ⟨(Ne.symm n_c1_c4), (List.forall_mem_cons.mpr ⟨(Ne.symm n_c1_c5), (List.forall_mem_cons.mpr ⟨(Ne.symm n_c1_c6), (List.forall_mem_nil _)⟩)⟩)⟩)⟩)⟩) F N ?_
  intro m1 h1 tk1 q1 pl fl fs gs nf np mix p1 p2 hs1 dq1 hIf hgl hx0 hx1 lfp lcf F1 N1
  obtain rfl := same_nil hs1
  have l_c1 := lcf.1
  have l_c2 := lcf.2 _ (show (c2, o2) ∈ [(c2, o2), (c3, o3), (c4, o4), (c5, o5), (c6, o6)] from (.head _))
  have l_c3 := lcf.2 _ (show (c3, o3) ∈ [(c2, o2), (c3, o3), (c4, o4), (c5, o5), (c6, o6)] from (.tail _ (.head _)))
  have l_c4 := lcf.2 _ (show (c4, o4) ∈ [(c2, o2), (c3, o3), (c4, o4), (c5, o5), (c6, o6)] from (.tail _ (.tail _ (.head _))))
  have l_c5 := lcf.2 _ (show (c5, o5) ∈ [(c2, o2), (c3, o3), (c4, o4), (c5, o5), (c6, o6)] from (.tail _ (.tail _ (.tail _ (.head _)))))
  have l_c6 := lcf.2 _ (show (c6, o6) ∈ [(c2, o2), (c3, o3), (c4, o4), (c5, o5), (c6, o6)] from (.tail _ (.tail _ (.tail _ (.tail _ (.head _))))))
  have n_c1_fl : c1 ≠ fl := Nat.ne_of_lt l_c1
  have n_c1_pl : c1 ≠ pl := Nat.ne_of_lt (Nat.lt_trans l_c1 lfp)
  have n_c2_fl : c2 ≠ fl := Nat.ne_of_lt l_c2
  have n_c2_pl : c2 ≠ pl := Nat.ne_of_lt (Nat.lt_trans l_c2 lfp)
  have n_c3_fl : c3 ≠ fl := Nat.ne_of_lt l_c3
  have n_c3_pl : c3 ≠ pl := Nat.ne_of_lt (Nat.lt_trans l_c3 lfp)
  have n_c4_fl : c4 ≠ fl := Nat.ne_of_lt l_c4
  have n_c4_pl : c4 ≠ pl := Nat.ne_of_lt (Nat.lt_trans l_c4 lfp)
  have n_c5_fl : c5 ≠ fl := Nat.ne_of_lt l_c5
  have n_c5_pl : c5 ≠ pl := Nat.ne_of_lt (Nat.lt_trans l_c5 lfp)
  have n_c6_fl : c6 ≠ fl := Nat.ne_of_lt l_c6
  have n_c6_pl : c6 ≠ pl := Nat.ne_of_lt (Nat.lt_trans l_c6 lfp)
  have n_fl_pl : fl ≠ pl := Nat.ne_of_lt lfp
  refine @b1 w mean mg mb dp un gd a ccd outer A₀ base h₀ L c1 c2 c3 c4 c5 c6 m1 { s with heap := h1, toks := tk1 } Q E [(c1, q1), (pl, poolO fl 0 p1 mix p2 np), (fl, PySem.W.listOf fs.toArray nf), (c2, o2), (c3, o3), (c4, o4), (c5, o5), (c6, o6)] [lawSt 2, lawSt 3, lawSt 4, lawSt 5, lawSt 6, lawSt 7, lawSt 8, lawSt 9, lawSt 10, lawSt 11, lawSt 12, lawSt 13, lawSt 14, lawSt 15, lawSt 16, lawSt 17, lawSt 18, lawSt 19, lawSt 20, lawSt 21, lawSt 22, lawSt 23, lawSt 24, lawSt 25, lawSt 26, lawSt 27, lawSt 28, lawSt 29, lawSt 30, lawSt 31, lawSt 32, lawSt 33] l vs ns B X Tp hdp hun hs hl0 hI hn F1 N1 ?_
  intro m2 h2 tk2 cl ws cs nc hs2 fcl hIw hcn hcb lD F2 N2
  have n_pl_cl := lD _ (show (pl, poolO fl 0 p1 mix p2 np) ∈ [(c1, q1), (pl, poolO fl 0 p1 mix p2 np), (fl, PySem.W.listOf fs.toArray nf), (c2, o2), (c3, o3), (c4, o4), (c5, o5), (c6, o6)] from (.tail _ (.head _)))
  have N3a : News h₀ L _ [(pl, poolO fl 0 p1 mix p2 np), (cl, PySem.W.listOf ws.toArray nc), (c1, q1), (fl, PySem.W.listOf fs.toArray nf), (c2, o2), (c3, o3), (c4, o4), (c5, o5), (c6, o6)] := cb_drop N2 (List.forall_mem_cons.mpr ⟨(List.Mem.tail _ (List.Mem.tail _ (List.Mem.head _))), (List.forall_mem_cons.mpr ⟨(List.Mem.head _), (List.forall_mem_cons.mpr ⟨(List.Mem.tail _ (List.Mem.head _)), (List.forall_mem_cons.mpr ⟨(List.Mem.tail _ (List.Mem.tail _ (List.Mem.tail _ (List.Mem.head _)))), (List.forall_mem_cons.mpr ⟨(List.Mem.tail _ (List.Mem.tail _ (List.Mem.tail _ (List.Mem.tail _ (List.Mem.head _))))), (List.forall_mem_cons.mpr ⟨(List.Mem.tail _ (List.Mem.tail _ (List.Mem.tail _ (List.Mem.tail _ (List.Mem.tail _ (List.Mem.head _)))))), (List.forall_mem_cons.mpr ⟨(List.Mem.tail _ (List.Mem.tail _ (List.Mem.tail _ (List.Mem.tail _ (List.Mem.tail _ (List.Mem.tail _ (List.Mem.head _))))))), (List.forall_mem_cons.mpr ⟨(List.Mem.tail _ (List.Mem.tail _ (List.Mem.tail _ (List.Mem.tail _ (List.Mem.tail _ (List.Mem.tail _ (List.Mem.tail _ (List.Mem.head _)))))))), (List.forall_mem_cons.mpr ⟨(List.Mem.tail _ (List.Mem.tail _ (List.Mem.tail _ (List.Mem.tail _ (List.Mem.tail _ (List.Mem.tail _ (List.Mem.tail _ (List.Mem.tail _ (List.Mem.head _))))))))), (List.forall_mem_nil _)⟩)⟩)⟩)⟩)⟩)⟩)⟩)⟩)⟩)
  refine @b2 w mean mg mb dp un gd a ccd outer A₀ base h₀ L c1 c2 c3 c4 c5 c6 m2 { s with heap := h2, toks := tk2 } Q E [(cl, PySem.W.listOf ws.toArray nc), (c1, q1), (fl, PySem.W.listOf fs.toArray nf), (c2, o2), (c3, o3), (c4, o4), (c5, o5), (c6, o6)] [lawSt 5, lawSt 6, lawSt 7, lawSt 8, lawSt 9, lawSt 10, lawSt 11, lawSt 12, lawSt 13, lawSt 14, lawSt 15, lawSt 16, lawSt 17, lawSt 18, lawSt 19, lawSt 20, lawSt 21, lawSt 22, lawSt 23, lawSt 24, lawSt 25, lawSt 26, lawSt 27, lawSt 28, lawSt 29, lawSt 30, lawSt 31, lawSt 32, lawSt 33] cl pl fl ws fs nc np nf cs gs 0 mix p1 p2 q1 B X Tp hdp hun fcl hIw hcn hcb (show (cl, PySem.W.listOf ws.toArray nc) ∈ [(cl, PySem.W.listOf ws.toArray nc), (c1, q1), (fl, PySem.W.listOf fs.toArray nf), (c2, o2), (c3, o3), (c4, o4), (c5, o5), (c6, o6)] from (.head _)) (show (c1, q1) ∈ [(cl, PySem.W.listOf ws.toArray nc), (c1, q1), (fl, PySem.W.listOf fs.toArray nf), (c2, o2), (c3, o3), (c4, o4), (c5, o5), (c6, o6)] from (.tail _ (.head _))) dq1 (show (fl, PySem.W.listOf fs.toArray nf) ∈ [(cl, PySem.W.listOf ws.toArray nc), (c1, q1), (fl, PySem.W.listOf fs.toArray nf), (c2, o2), (c3, o3), (c4, o4), (c5, o5), (c6, o6)] from (.tail _ (.tail _ (.head _)))) hIf hgl (Int.le_refl 0) hx0 hx1 (List.forall_mem_cons.mpr ⟨(Ne.symm n_pl_cl), (List.forall_mem_cons.mpr ⟨n_c1_pl, (List.forall_mem_cons.mpr ⟨n_fl_pl, (List.forall_mem_cons.mpr ⟨n_c2_pl, (List.forall_mem_cons.mpr ⟨n_c3_pl, (List.forall_mem_cons.mpr ⟨n_c4_pl, (List.forall_mem_cons.mpr ⟨n_c5_pl, (List.forall_mem_cons.mpr ⟨n_c6_pl, (List.forall_mem_nil _)⟩)⟩)⟩)⟩)⟩)⟩)⟩)⟩) F2 N3a ?_
  intro m3 h3 tk3 idx mix2 p3 p4 one two count t1 t2 t3 hs3 f1 f2 f3 hb1 hb2 hcr hi2 hy0 hy1 F3 N3
  have N4a : News h₀ L _ [(pl, poolO fl idx p3 mix2 p4 np), (c1, q1), (fl, PySem.W.listOf fs.toArray nf), (c2, o2), (c3, o3), (c4, o4), (c5, o5), (c6, o6)] := cb_drop N3 (List.forall_mem_cons.mpr ⟨(List.Mem.head _), (List.forall_mem_cons.mpr ⟨(List.Mem.tail _ (List.Mem.tail _ (List.Mem.head _))), (List.forall_mem_cons.mpr ⟨(List.Mem.tail _ (List.Mem.tail _ (List.Mem.tail _ (List.Mem.head _)))), (List.forall_mem_cons.mpr ⟨(List.Mem.tail _ (List.Mem.tail _ (List.Mem.tail _ (List.Mem.tail _ (List.Mem.head _))))), (List.forall_mem_cons.mpr ⟨(List.Mem.tail _ (List.Mem.tail _ (List.Mem.tail _ (List.Mem.tail _ (List.Mem.tail _ (List.Mem.head _)))))), (List.forall_mem_cons.mpr ⟨(List.Mem.tail _ (List.Mem.tail _ (List.Mem.tail _ (List.Mem.tail _ (List.Mem.tail _ (List.Mem.tail _ (List.Mem.head _))))))), (List.forall_mem_cons.mpr ⟨(List.Mem.tail _ (List.Mem.tail _ (List.Mem.tail _ (List.Mem.tail _ (List.Mem.tail _ (List.Mem.tail _ (List.Mem.tail _ (List.Mem.head _)))))))), (List.forall_mem_cons.mpr ⟨(List.Mem.tail _ (List.Mem.tail _ (List.Mem.tail _ (List.Mem.tail _ (List.Mem.tail _ (List.Mem.tail _ (List.Mem.tail _ (List.Mem.tail _ (List.Mem.head _))))))))), (List.forall_mem_nil _)⟩)⟩)⟩)⟩)⟩)⟩)⟩)⟩)
  refine @b5 w mean mg mb dp un gd a ccd outer A₀ base h₀ L c1 c2 c3 c4 c5 c6 m3 { s with heap := h3, toks := tk3 } Q E [(pl, poolO fl idx p3 mix2 p4 np), (c1, q1), (fl, PySem.W.listOf fs.toArray nf), (c2, o2), (c3, o3), (c4, o4), (c5, o5), (c6, o6)] [lawSt 6, lawSt 7, lawSt 8, lawSt 9, lawSt 10, lawSt 11, lawSt 12, lawSt 13, lawSt 14, lawSt 15, lawSt 16, lawSt 17, lawSt 18, lawSt 19, lawSt 20, lawSt 21, lawSt 22, lawSt 23, lawSt 24, lawSt 25, lawSt 26, lawSt 27, lawSt 28, lawSt 29, lawSt 30, lawSt 31, lawSt 32, lawSt 33] one two t1 t2 B X Tp hdp hun hb1 hb2 f1 f2 F3 N4a ?_
  intro m4 h4 tk4  hs4  F4 N4
  obtain rfl := same_nil hs4
  refine @b6 w mean mg mb dp un gd a ccd outer A₀ base h₀ L c1 c2 c3 c4 c5 c6 m4 { s with heap := h4, toks := tk4 } Q E [(pl, poolO fl idx p3 mix2 p4 np), (c1, q1), (fl, PySem.W.listOf fs.toArray nf), (c2, o2), (c3, o3), (c4, o4), (c5, o5), (c6, o6)] [lawSt 7, lawSt 8, lawSt 9, lawSt 10, lawSt 11, lawSt 12, lawSt 13, lawSt 14, lawSt 15, lawSt 16, lawSt 17, lawSt 18, lawSt 19, lawSt 20, lawSt 21, lawSt 22, lawSt 23, lawSt 24, lawSt 25, lawSt 26, lawSt 27, lawSt 28, lawSt 29, lawSt 30, lawSt 31, lawSt 32, lawSt 33] one two t1 t2 B X Tp hdp hun hb1 hb2 f1 f2 F4 N4 ?_
  intro m5 h5 tk5  hs5  F5 N5
  obtain rfl := same_nil hs5
  refine @b7 w mean mg mb dp un gd a ccd outer A₀ base h₀ L c1 c2 c3 c4 c5 c6 m5 { s with heap := h5, toks := tk5 } Q E [(pl, poolO fl idx p3 mix2 p4 np), (c1, q1), (fl, PySem.W.listOf fs.toArray nf), (c2, o2), (c3, o3), (c4, o4), (c5, o5), (c6, o6)] [lawSt 8, lawSt 9, lawSt 10, lawSt 11, lawSt 12, lawSt 13, lawSt 14, lawSt 15, lawSt 16, lawSt 17, lawSt 18, lawSt 19, lawSt 20, lawSt 21, lawSt 22, lawSt 23, lawSt 24, lawSt 25, lawSt 26, lawSt 27, lawSt 28, lawSt 29, lawSt 30, lawSt 31, lawSt 32, lawSt 33] one two t1 t2 B X Tp hdp hun hb1 hb2 f1 f2 F5 N5 ?_
  intro m6 h6 tk6  hs6  F6 N6
  obtain rfl := same_nil hs6
  have N7a : News h₀ L _ [(c2, o2), (pl, poolO fl idx p3 mix2 p4 np), (c1, q1), (fl, PySem.W.listOf fs.toArray nf), (c3, o3), (c4, o4), (c5, o5), (c6, o6)] := cb_drop N6 (List.forall_mem_cons.mpr ⟨(List.Mem.tail _ (List.Mem.tail _ (List.Mem.tail _ (List.Mem.head _)))), (List.forall_mem_cons.mpr ⟨(List.Mem.head _), (List.forall_mem_cons.mpr ⟨(List.Mem.tail _ (List.Mem.head _)), (List.forall_mem_cons.mpr ⟨(List.Mem.tail _ (List.Mem.tail _ (List.Mem.head _))), (List.forall_mem_cons.mpr ⟨(List.Mem.tail _ (List.Mem.tail _ (List.Mem.tail _ (List.Mem.tail _ (List.Mem.head _))))), (List.forall_mem_cons.mpr ⟨(List.Mem.tail _ (List.Mem.tail _ (List.Mem.tail _ (List.Mem.tail _ (List.Mem.tail _ (List.Mem.head _)))))), (List.forall_mem_cons.mpr ⟨(List.Mem.tail _ (List.Mem.tail _ (List.Mem.tail _ (List.Mem.tail _ (List.Mem.tail _ (List.Mem.tail _ (List.Mem.head _))))))), (List.forall_mem_cons.mpr ⟨(List.Mem.tail _ (List.Mem.tail _ (List.Mem.tail _ (List.Mem.tail _ (List.Mem.tail _ (List.Mem.tail _ (List.Mem.tail _ (List.Mem.head _)))))))), (List.forall_mem_nil _)⟩)⟩)⟩)⟩)⟩)⟩)⟩)⟩)
  refine @b8 w mean mg mb dp un gd a ccd outer A₀ base h₀ L c1 c2 c3 c4 c5 c6 m6 { s with heap := h6, toks := tk6 } Q E [(pl, poolO fl idx p3 mix2 p4 np), (c1, q1), (fl, PySem.W.listOf fs.toArray nf), (c3, o3), (c4, o4), (c5, o5), (c6, o6)] [lawSt 9, lawSt 10, lawSt 11, lawSt 12, lawSt 13, lawSt 14, lawSt 15, lawSt 16, lawSt 17, lawSt 18, lawSt 19, lawSt 20, lawSt 21, lawSt 22, lawSt 23, lawSt 24, lawSt 25, lawSt 26, lawSt 27, lawSt 28, lawSt 29, lawSt 30, lawSt 31, lawSt 32, lawSt 33] one two t1 t2 o2 v2 B X Tp hdp hun hE hb1 hb2 f1 f2 d2 (List.forall_mem_cons.mpr ⟨(Ne.symm n_c2_pl), (List.forall_mem_cons.mpr ⟨n_c1_c2, (List.forall_mem_cons.mpr ⟨(Ne.symm n_c2_fl), (List.forall_mem_cons.mpr ⟨(Ne.symm n_c2_c3), (List.forall_mem_cons.mpr ⟨(Ne.symm n_c2_c4), (List.forall_mem_cons.mpr ⟨(Ne.symm n_c2_c5), (List.forall_mem_cons.mpr ⟨(Ne.symm n_c2_c6), (List.forall_mem_nil _)⟩)⟩)⟩)⟩)⟩)⟩)⟩) F6 N7a ?_
  intro m7 h7 tk7 q2 w2 hs7 dq2 F7 N7
  have f_one_7 := (hs7 _ (by decide +kernel)).trans f1
  have f_count_7 := (hs7 _ (by decide +kernel)).trans f3
  refine @b9 w mean mg mb dp un gd a ccd outer A₀ base h₀ L c1 c2 c3 c4 c5 c6 m7 { s with heap := h7, toks := tk7 } Q E [(pl, poolO fl idx p3 mix2 p4 np), (c1, q1), (fl, PySem.W.listOf fs.toArray nf), (c3, o3), (c4, o4), (c5, o5), (c6, o6)] [lawSt 10, lawSt 11, lawSt 12, lawSt 13, lawSt 14, lawSt 15, lawSt 16, lawSt 17, lawSt 18, lawSt 19, lawSt 20, lawSt 21, lawSt 22, lawSt 23, lawSt 24, lawSt 25, lawSt 26, lawSt 27, lawSt 28, lawSt 29, lawSt 30, lawSt 31, lawSt 32, lawSt 33] one count t1 t3 q2 w2 B X Tp hdp hun hE hb1 f_one_7 f_count_7 dq2 (List.forall_mem_cons.mpr ⟨(Ne.symm n_c2_pl), (List.forall_mem_cons.mpr ⟨n_c1_c2, (List.forall_mem_cons.mpr ⟨(Ne.symm n_c2_fl), (List.forall_mem_cons.mpr ⟨(Ne.symm n_c2_c3), (List.forall_mem_cons.mpr ⟨(Ne.symm n_c2_c4), (List.forall_mem_cons.mpr ⟨(Ne.symm n_c2_c5), (List.forall_mem_cons.mpr ⟨(Ne.symm n_c2_c6), (List.forall_mem_nil _)⟩)⟩)⟩)⟩)⟩)⟩)⟩) F7 N7 ?_
  intro m8 h8 tk8 q3 w3 hs8 dq3 F8 N8
  have f_one_8 := (hs8 _ (by decide +kernel)).trans f_one_7
  have f_two_7 := (hs7 _ (by decide +kernel)).trans f2
  have f_two_8 := (hs8 _ (by decide +kernel)).trans f_two_7
  have N9a : News h₀ L _ [(c3, o3), (c4, o4), (pl, poolO fl idx p3 mix2 p4 np), (c1, q1), (fl, PySem.W.listOf fs.toArray nf), (c2, q3), (c5, o5), (c6, o6)] := cb_drop N8 (List.forall_mem_cons.mpr ⟨(List.Mem.tail _ (List.Mem.tail _ (List.Mem.tail _ (List.Mem.tail _ (List.Mem.head _))))), (List.forall_mem_cons.mpr ⟨(List.Mem.tail _ (List.Mem.tail _ (List.Mem.tail _ (List.Mem.tail _ (List.Mem.tail _ (List.Mem.head _)))))), (List.forall_mem_cons.mpr ⟨(List.Mem.tail _ (List.Mem.head _)), (List.forall_mem_cons.mpr ⟨(List.Mem.tail _ (List.Mem.tail _ (List.Mem.head _))), (List.forall_mem_cons.mpr ⟨(List.Mem.tail _ (List.Mem.tail _ (List.Mem.tail _ (List.Mem.head _)))), (List.forall_mem_cons.mpr ⟨(List.Mem.head _), (List.forall_mem_cons.mpr ⟨(List.Mem.tail _ (List.Mem.tail _ (List.Mem.tail _ (List.Mem.tail _ (List.Mem.tail _ (List.Mem.tail _ (List.Mem.head _))))))), (List.forall_mem_cons.mpr ⟨(List.Mem.tail _ (List.Mem.tail _ (List.Mem.tail _ (List.Mem.tail _ (List.Mem.tail _ (List.Mem.tail _ (List.Mem.tail _ (List.Mem.head _)))))))), (List.forall_mem_nil _)⟩)⟩)⟩)⟩)⟩)⟩)⟩)⟩)
  refine @b10 w mean mg mb dp un gd a ccd outer A₀ base h₀ L c1 c2 c3 c4 c5 c6 m8 { s with heap := h8, toks := tk8 } Q E [(pl, poolO fl idx p3 mix2 p4 np), (c1, q1), (fl, PySem.W.listOf fs.toArray nf), (c2, q3), (c5, o5), (c6, o6)] [lawSt 12, lawSt 13, lawSt 14, lawSt 15, lawSt 16, lawSt 17, lawSt 18, lawSt 19, lawSt 20, lawSt 21, lawSt 22, lawSt 23, lawSt 24, lawSt 25, lawSt 26, lawSt 27, lawSt 28, lawSt 29, lawSt 30, lawSt 31, lawSt 32, lawSt 33] one two t1 t2 o3 o4 v3 v4 B X Tp hdp hun f_one_8 f_two_8 d3 d4 h34 (List.forall_mem_cons.mpr ⟨(Ne.symm n_c3_pl), (List.forall_mem_cons.mpr ⟨n_c1_c3, (List.forall_mem_cons.mpr ⟨(Ne.symm n_c3_fl), (List.forall_mem_cons.mpr ⟨n_c2_c3, (List.forall_mem_cons.mpr ⟨(Ne.symm n_c3_c5), (List.forall_mem_cons.mpr ⟨(Ne.symm n_c3_c6), (List.forall_mem_nil _)⟩)⟩)⟩)⟩)⟩)⟩) (List.forall_mem_cons.mpr ⟨(Ne.symm n_c4_pl), (List.forall_mem_cons.mpr ⟨n_c1_c4, (List.forall_mem_cons.mpr ⟨(Ne.symm n_c4_fl), (List.forall_mem_cons.mpr ⟨n_c2_c4, (List.forall_mem_cons.mpr ⟨(Ne.symm n_c4_c5), (List.forall_mem_cons.mpr ⟨(Ne.symm n_c4_c6), (List.forall_mem_nil _)⟩)⟩)⟩)⟩)⟩)⟩) F8 N9a ?_
  intro m9 h9 tk9 r3 r4 ul vl us vs2 nu nv t4 t5 hs9 dr3 dr4 hIu hIv fx fy lul lvl F9 N9
  have n_c2_ul := lul _ (show (c2, q3) ∈ [(pl, poolO fl idx p3 mix2 p4 np), (c1, q1), (fl, PySem.W.listOf fs.toArray nf), (c2, q3), (c5, o5), (c6, o6)] from (.tail _ (.tail _ (.tail _ (.head _)))))
  have n_c5_ul := lul _ (show (c5, o5) ∈ [(pl, poolO fl idx p3 mix2 p4 np), (c1, q1), (fl, PySem.W.listOf fs.toArray nf), (c2, q3), (c5, o5), (c6, o6)] from (.tail _ (.tail _ (.tail _ (.tail _ (.head _))))))
  have n_c2_vl := lvl _ (show (c2, q3) ∈ [(pl, poolO fl idx p3 mix2 p4 np), (c1, q1), (fl, PySem.W.listOf fs.toArray nf), (c2, q3), (c5, o5), (c6, o6)] from (.tail _ (.tail _ (.tail _ (.head _)))))
  have n_c5_vl := lvl _ (show (c5, o5) ∈ [(pl, poolO fl idx p3 mix2 p4 np), (c1, q1), (fl, PySem.W.listOf fs.toArray nf), (c2, q3), (c5, o5), (c6, o6)] from (.tail _ (.tail _ (.tail _ (.tail _ (.head _))))))
  have N10a : News h₀ L _ [(c2, q3), (c5, o5), (pl, poolO fl idx p3 mix2 p4 np), (c1, q1), (fl, PySem.W.listOf fs.toArray nf), (c3, r3), (c4, r4), (ul, PySem.W.listOf us.toArray nu), (vl, PySem.W.listOf vs2.toArray nv), (c6, o6)] := cb_drop N9 (List.forall_mem_cons.mpr ⟨(List.Mem.tail _ (List.Mem.tail _ (List.Mem.tail _ (List.Mem.tail _ (List.Mem.tail _ (List.Mem.tail _ (List.Mem.tail _ (List.Mem.head _)))))))), (List.forall_mem_cons.mpr ⟨(List.Mem.tail _ (List.Mem.tail _ (List.Mem.tail _ (List.Mem.tail _ (List.Mem.tail _ (List.Mem.tail _ (List.Mem.tail _ (List.Mem.tail _ (List.Mem.head _))))))))), (List.forall_mem_cons.mpr ⟨(List.Mem.tail _ (List.Mem.tail _ (List.Mem.tail _ (List.Mem.tail _ (List.Mem.head _))))), (List.forall_mem_cons.mpr ⟨(List.Mem.tail _ (List.Mem.tail _ (List.Mem.tail _ (List.Mem.tail _ (List.Mem.tail _ (List.Mem.head _)))))), (List.forall_mem_cons.mpr ⟨(List.Mem.tail _ (List.Mem.tail _ (List.Mem.tail _ (List.Mem.tail _ (List.Mem.tail _ (List.Mem.tail _ (List.Mem.head _))))))), (List.forall_mem_cons.mpr ⟨(List.Mem.head _), (List.forall_mem_cons.mpr ⟨(List.Mem.tail _ (List.Mem.head _)), (List.forall_mem_cons.mpr ⟨(List.Mem.tail _ (List.Mem.tail _ (List.Mem.head _))), (List.forall_mem_cons.mpr ⟨(List.Mem.tail _ (List.Mem.tail _ (List.Mem.tail _ (List.Mem.head _)))), (List.forall_mem_cons.mpr ⟨(List.Mem.tail _ (List.Mem.tail _ (List.Mem.tail _ (List.Mem.tail _ (List.Mem.tail _ (List.Mem.tail _ (List.Mem.tail _ (List.Mem.tail _ (List.Mem.tail _ (List.Mem.head _)))))))))), (List.forall_mem_nil _)⟩)⟩)⟩)⟩)⟩)⟩)⟩)⟩)⟩)⟩)
  refine @b12 w mean mg mb dp un gd a ccd outer A₀ base h₀ L c1 c2 c3 c4 c5 c6 m9 { s with heap := h9, toks := tk9 } Q E [(pl, poolO fl idx p3 mix2 p4 np), (c1, q1), (fl, PySem.W.listOf fs.toArray nf), (c3, r3), (c4, r4), (ul, PySem.W.listOf us.toArray nu), (vl, PySem.W.listOf vs2.toArray nv), (c6, o6)] [lawSt 13, lawSt 14, lawSt 15, lawSt 16, lawSt 17, lawSt 18, lawSt 19, lawSt 20, lawSt 21, lawSt 22, lawSt 23, lawSt 24, lawSt 25, lawSt 26, lawSt 27, lawSt 28, lawSt 29, lawSt 30, lawSt 31, lawSt 32, lawSt 33] q3 o5 v5 B X Tp hdp hun d5 (Nat.lt_trans h23 (Nat.lt_trans h34 h45)) (List.forall_mem_cons.mpr ⟨(Ne.symm n_c2_pl), (List.forall_mem_cons.mpr ⟨n_c1_c2, (List.forall_mem_cons.mpr ⟨(Ne.symm n_c2_fl), (List.forall_mem_cons.mpr ⟨(Ne.symm n_c2_c3), (List.forall_mem_cons.mpr ⟨(Ne.symm n_c2_c4), (List.forall_mem_cons.mpr ⟨(Ne.symm n_c2_ul), (List.forall_mem_cons.mpr ⟨(Ne.symm n_c2_vl), (List.forall_mem_cons.mpr ⟨(Ne.symm n_c2_c6), (List.forall_mem_nil _)⟩)⟩)⟩)⟩)⟩)⟩)⟩)⟩) (List.forall_mem_cons.mpr ⟨(Ne.symm n_c5_pl), (List.forall_mem_cons.mpr ⟨n_c1_c5, (List.forall_mem_cons.mpr ⟨(Ne.symm n_c5_fl), (List.forall_mem_cons.mpr ⟨n_c3_c5, (List.forall_mem_cons.mpr ⟨n_c4_c5, (List.forall_mem_cons.mpr ⟨(Ne.symm n_c5_ul), (List.forall_mem_cons.mpr ⟨(Ne.symm n_c5_vl), (List.forall_mem_cons.mpr ⟨(Ne.symm n_c5_c6), (List.forall_mem_nil _)⟩)⟩)⟩)⟩)⟩)⟩)⟩)⟩) F9 N10a ?_
  intro m10 h10 tk10 r5 od td tl1 tl2 tl3 tl4 k1 k2 k3 k4 n1 n2 n3 n4 hs10 dr5 hod hsm ht1 ht2 ht3 ht4 hlt F10 N10
  obtain rfl := same_nil hs10
  obtain ⟨a0, a1, a2, a3, a4⟩ := hlt
  have n_c2_td : c2 ≠ td := Nat.ne_of_lt a0
  have n_c2_tl1 : c2 ≠ tl1 := Nat.ne_of_lt (Nat.lt_trans a0 a1)
  have n_c2_tl2 : c2 ≠ tl2 := Nat.ne_of_lt (Nat.lt_trans (Nat.lt_trans a0 a1) a2)
  have n_c2_tl3 : c2 ≠ tl3 := Nat.ne_of_lt (Nat.lt_trans (Nat.lt_trans (Nat.lt_trans a0 a1) a2) a3)
  have n_c2_tl4 : c2 ≠ tl4 := Nat.ne_of_lt (Nat.lt_trans (Nat.lt_trans (Nat.lt_trans (Nat.lt_trans a0 a1) a2) a3) a4)
  have hTab : ∀ op ∈ tbOps, ∃ (tl : Addr) (ws : List Value) (nt : Nat), valueAt [(Str.ofString "s+", Value.ref tl1), (Str.ofString "s*", Value.ref tl2), (Str.ofString "s-", Value.ref tl3), (Str.ofString "s/", Value.ref tl4)] op = some (.ref tl) ∧ (tl, PySem.W.listOf ws.toArray nt) ∈ [(pl, poolO fl idx p3 mix2 p4 np), (c1, q1), (fl, PySem.W.listOf fs.toArray nf), (c3, r3), (c4, r4), (ul, PySem.W.listOf us.toArray nu), (vl, PySem.W.listOf vs2.toArray nv), (c6, o6), (c5, r5), (td, od), (tl1, PySem.W.listOf k1.toArray n1), (tl2, PySem.W.listOf k2.toArray n2), (tl3, PySem.W.listOf k3.toArray n3), (tl4, PySem.W.listOf k4.toArray n4)] ∧ IntsAre ws (tabOf op) := by
    intro op hop
    rcases in4 hop with rfl | rfl | rfl | rfl
    · exact ⟨tl1, k1, n1, valueAt_of_get (i := 0) keysN rfl, (List.Mem.tail _ (List.Mem.tail _ (List.Mem.tail _ (List.Mem.tail _ (List.Mem.tail _ (List.Mem.tail _ (List.Mem.tail _ (List.Mem.tail _ (List.Mem.tail _ (List.Mem.tail _ (List.Mem.head _))))))))))), tab1 ht1⟩
    · exact ⟨tl2, k2, n2, valueAt_of_get (i := 1) keysN rfl, (List.Mem.tail _ (List.Mem.tail _ (List.Mem.tail _ (List.Mem.tail _ (List.Mem.tail _ (List.Mem.tail _ (List.Mem.tail _ (List.Mem.tail _ (List.Mem.tail _ (List.Mem.tail _ (List.Mem.tail _ (List.Mem.head _)))))))))))), tab2 ht2⟩
    · exact ⟨tl3, k3, n3, valueAt_of_get (i := 2) keysN rfl, (List.Mem.tail _ (List.Mem.tail _ (List.Mem.tail _ (List.Mem.tail _ (List.Mem.tail _ (List.Mem.tail _ (List.Mem.tail _ (List.Mem.tail _ (List.Mem.tail _ (List.Mem.tail _ (List.Mem.tail _ (List.Mem.tail _ (List.Mem.head _))))))))))))), tab3 ht3⟩
    · exact ⟨tl4, k4, n4, valueAt_of_get (i := 3) keysN rfl, (List.Mem.tail _ (List.Mem.tail _ (List.Mem.tail _ (List.Mem.tail _ (List.Mem.tail _ (List.Mem.tail _ (List.Mem.tail _ (List.Mem.tail _ (List.Mem.tail _ (List.Mem.tail _ (List.Mem.tail _ (List.Mem.tail _ (List.Mem.tail _ (List.Mem.head _)))))))))))))), tab4 ht4⟩
  have hKeys : ∀ kv ∈ [(Str.ofString "s+", Value.ref tl1), (Str.ofString "s*", Value.ref tl2), (Str.ofString "s-", Value.ref tl3), (Str.ofString "s/", Value.ref tl4)], kv.1 ∈ tbOps := List.forall_mem_cons.mpr ⟨key1, List.forall_mem_cons.mpr ⟨key2, List.forall_mem_cons.mpr ⟨key3, List.forall_mem_cons.mpr ⟨key4, List.forall_mem_nil _⟩⟩⟩⟩
  have N11a : News h₀ L _ [(c2, q3), (pl, poolO fl idx p3 mix2 p4 np), (c1, q1), (fl, PySem.W.listOf fs.toArray nf), (c3, r3), (c4, r4), (ul, PySem.W.listOf us.toArray nu), (vl, PySem.W.listOf vs2.toArray nv), (c6, o6), (c5, r5), (td, od), (tl1, PySem.W.listOf k1.toArray n1), (tl2, PySem.W.listOf k2.toArray n2), (tl3, PySem.W.listOf k3.toArray n3), (tl4, PySem.W.listOf k4.toArray n4)] := cb_drop N10 (List.forall_mem_cons.mpr ⟨(List.Mem.head _), (List.forall_mem_cons.mpr ⟨(List.Mem.tail _ (List.Mem.tail _ (List.Mem.tail _ (List.Mem.tail _ (List.Mem.tail _ (List.Mem.tail _ (List.Mem.tail _ (List.Mem.head _)))))))), (List.forall_mem_cons.mpr ⟨(List.Mem.tail _ (List.Mem.tail _ (List.Mem.tail _ (List.Mem.tail _ (List.Mem.tail _ (List.Mem.tail _ (List.Mem.tail _ (List.Mem.tail _ (List.Mem.head _))))))))), (List.forall_mem_cons.mpr ⟨(List.Mem.tail _ (List.Mem.tail _ (List.Mem.tail _ (List.Mem.tail _ (List.Mem.tail _ (List.Mem.tail _ (List.Mem.tail _ (List.Mem.tail _ (List.Mem.tail _ (List.Mem.head _)))))))))), (List.forall_mem_cons.mpr ⟨(List.Mem.tail _ (List.Mem.tail _ (List.Mem.tail _ (List.Mem.tail _ (List.Mem.tail _ (List.Mem.tail _ (List.Mem.tail _ (List.Mem.tail _ (List.Mem.tail _ (List.Mem.tail _ (List.Mem.head _))))))))))), (List.forall_mem_cons.mpr ⟨(List.Mem.tail _ (List.Mem.tail _ (List.Mem.tail _ (List.Mem.tail _ (List.Mem.tail _ (List.Mem.tail _ (List.Mem.tail _ (List.Mem.tail _ (List.Mem.tail _ (List.Mem.tail _ (List.Mem.tail _ (List.Mem.head _)))))))))))), (List.forall_mem_cons.mpr ⟨(List.Mem.tail _ (List.Mem.tail _ (List.Mem.tail _ (List.Mem.tail _ (List.Mem.tail _ (List.Mem.tail _ (List.Mem.tail _ (List.Mem.tail _ (List.Mem.tail _ (List.Mem.tail _ (List.Mem.tail _ (List.Mem.tail _ (List.Mem.head _))))))))))))), (List.forall_mem_cons.mpr ⟨(List.Mem.tail _ (List.Mem.tail _ (List.Mem.tail _ (List.Mem.tail _ (List.Mem.tail _ (List.Mem.tail _ (List.Mem.tail _ (List.Mem.tail _ (List.Mem.tail _ (List.Mem.tail _ (List.Mem.tail _ (List.Mem.tail _ (List.Mem.tail _ (List.Mem.head _)))))))))))))), (List.forall_mem_cons.mpr ⟨(List.Mem.tail _ (List.Mem.tail _ (List.Mem.tail _ (List.Mem.tail _ (List.Mem.tail _ (List.Mem.tail _ (List.Mem.tail _ (List.Mem.tail _ (List.Mem.tail _ (List.Mem.tail _ (List.Mem.tail _ (List.Mem.tail _ (List.Mem.tail _ (List.Mem.tail _ (List.Mem.head _))))))))))))))), (List.forall_mem_cons.mpr ⟨(List.Mem.tail _ (List.Mem.head _)), (List.forall_mem_cons.mpr ⟨(List.Mem.tail _ (List.Mem.tail _ (List.Mem.head _))), (List.forall_mem_cons.mpr ⟨(List.Mem.tail _ (List.Mem.tail _ (List.Mem.tail _ (List.Mem.head _)))), (List.forall_mem_cons.mpr ⟨(List.Mem.tail _ (List.Mem.tail _ (List.Mem.tail _ (List.Mem.tail _ (List.Mem.head _))))), (List.forall_mem_cons.mpr ⟨(List.Mem.tail _ (List.Mem.tail _ (List.Mem.tail _ (List.Mem.tail _ (List.Mem.tail _ (List.Mem.head _)))))), (List.forall_mem_cons.mpr ⟨(List.Mem.tail _ (List.Mem.tail _ (List.Mem.tail _ (List.Mem.tail _ (List.Mem.tail _ (List.Mem.tail _ (List.Mem.head _))))))), (List.forall_mem_nil _)⟩)⟩)⟩)⟩)⟩)⟩)⟩)⟩)⟩)⟩)⟩)⟩)⟩)⟩)⟩)
  refine @b13 w mean mg mb dp un gd a ccd outer A₀ base h₀ L c1 c2 c3 c4 c5 c6 m10 { s with heap := h10, toks := tk10 } Q E [(pl, poolO fl idx p3 mix2 p4 np), (c1, q1), (fl, PySem.W.listOf fs.toArray nf), (c3, r3), (c4, r4), (ul, PySem.W.listOf us.toArray nu), (vl, PySem.W.listOf vs2.toArray nv), (c6, o6), (c5, r5), (td, od), (tl1, PySem.W.listOf k1.toArray n1), (tl2, PySem.W.listOf k2.toArray n2), (tl3, PySem.W.listOf k3.toArray n3), (tl4, PySem.W.listOf k4.toArray n4)] [lawSt 14, lawSt 15, lawSt 16, lawSt 17, lawSt 18, lawSt 19, lawSt 20, lawSt 21, lawSt 22, lawSt 23, lawSt 24, lawSt 25, lawSt 26, lawSt 27, lawSt 28, lawSt 29, lawSt 30, lawSt 31, lawSt 32, lawSt 33] _ _ t4 t5 r3 r4 r5 od ul vl td us vs2 nu nv (bitsL one) (bitsL two) [(Str.ofString "s+", Value.ref tl1), (Str.ofString "s*", Value.ref tl2), (Str.ofString "s-", Value.ref tl3), (Str.ofString "s/", Value.ref tl4)] q3 w3 B X Tp hdp hun hE fx fy rfl rfl (bitsL_01 one) (bitsL_01 two) (bitsL_length one) (bitsL_length two) hIu hIv (show (c3, r3) ∈ [(pl, poolO fl idx p3 mix2 p4 np), (c1, q1), (fl, PySem.W.listOf fs.toArray nf), (c3, r3), (c4, r4), (ul, PySem.W.listOf us.toArray nu), (vl, PySem.W.listOf vs2.toArray nv), (c6, o6), (c5, r5), (td, od), (tl1, PySem.W.listOf k1.toArray n1), (tl2, PySem.W.listOf k2.toArray n2), (tl3, PySem.W.listOf k3.toArray n3), (tl4, PySem.W.listOf k4.toArray n4)] from (.tail _ (.tail _ (.tail _ (.head _))))) dr3 (show (c4, r4) ∈ [(pl, poolO fl idx p3 mix2 p4 np), (c1, q1), (fl, PySem.W.listOf fs.toArray nf), (c3, r3), (c4, r4), (ul, PySem.W.listOf us.toArray nu), (vl, PySem.W.listOf vs2.toArray nv), (c6, o6), (c5, r5), (td, od), (tl1, PySem.W.listOf k1.toArray n1), (tl2, PySem.W.listOf k2.toArray n2), (tl3, PySem.W.listOf k3.toArray n3), (tl4, PySem.W.listOf k4.toArray n4)] from (.tail _ (.tail _ (.tail _ (.tail _ (.head _)))))) dr4 (show (c5, r5) ∈ [(pl, poolO fl idx p3 mix2 p4 np), (c1, q1), (fl, PySem.W.listOf fs.toArray nf), (c3, r3), (c4, r4), (ul, PySem.W.listOf us.toArray nu), (vl, PySem.W.listOf vs2.toArray nv), (c6, o6), (c5, r5), (td, od), (tl1, PySem.W.listOf k1.toArray n1), (tl2, PySem.W.listOf k2.toArray n2), (tl3, PySem.W.listOf k3.toArray n3), (tl4, PySem.W.listOf k4.toArray n4)] from (.tail _ (.tail _ (.tail _ (.tail _ (.tail _ (.tail _ (.tail _ (.tail _ (.head _)))))))))) dr5 (show (ul, PySem.W.listOf us.toArray nu) ∈ [(pl, poolO fl idx p3 mix2 p4 np), (c1, q1), (fl, PySem.W.listOf fs.toArray nf), (c3, r3), (c4, r4), (ul, PySem.W.listOf us.toArray nu), (vl, PySem.W.listOf vs2.toArray nv), (c6, o6), (c5, r5), (td, od), (tl1, PySem.W.listOf k1.toArray n1), (tl2, PySem.W.listOf k2.toArray n2), (tl3, PySem.W.listOf k3.toArray n3), (tl4, PySem.W.listOf k4.toArray n4)] from (.tail _ (.tail _ (.tail _ (.tail _ (.tail _ (.head _))))))) (show (vl, PySem.W.listOf vs2.toArray nv) ∈ [(pl, poolO fl idx p3 mix2 p4 np), (c1, q1), (fl, PySem.W.listOf fs.toArray nf), (c3, r3), (c4, r4), (ul, PySem.W.listOf us.toArray nu), (vl, PySem.W.listOf vs2.toArray nv), (c6, o6), (c5, r5), (td, od), (tl1, PySem.W.listOf k1.toArray n1), (tl2, PySem.W.listOf k2.toArray n2), (tl3, PySem.W.listOf k3.toArray n3), (tl4, PySem.W.listOf k4.toArray n4)] from (.tail _ (.tail _ (.tail _ (.tail _ (.tail _ (.tail _ (.head _)))))))) (show (td, od) ∈ [(pl, poolO fl idx p3 mix2 p4 np), (c1, q1), (fl, PySem.W.listOf fs.toArray nf), (c3, r3), (c4, r4), (ul, PySem.W.listOf us.toArray nu), (vl, PySem.W.listOf vs2.toArray nv), (c6, o6), (c5, r5), (td, od), (tl1, PySem.W.listOf k1.toArray n1), (tl2, PySem.W.listOf k2.toArray n2), (tl3, PySem.W.listOf k3.toArray n3), (tl4, PySem.W.listOf k4.toArray n4)] from (.tail _ (.tail _ (.tail _ (.tail _ (.tail _ (.tail _ (.tail _ (.tail _ (.tail _ (.head _))))))))))) hod hTab hKeys hsm dq3 (List.forall_mem_cons.mpr ⟨(Ne.symm n_c2_pl), (List.forall_mem_cons.mpr ⟨n_c1_c2, (List.forall_mem_cons.mpr ⟨(Ne.symm n_c2_fl), (List.forall_mem_cons.mpr ⟨(Ne.symm n_c2_c3), (List.forall_mem_cons.mpr ⟨(Ne.symm n_c2_c4), (List.forall_mem_cons.mpr ⟨(Ne.symm n_c2_ul), (List.forall_mem_cons.mpr ⟨(Ne.symm n_c2_vl), (List.forall_mem_cons.mpr ⟨(Ne.symm n_c2_c6), (List.forall_mem_cons.mpr ⟨(Ne.symm n_c2_c5), (List.forall_mem_cons.mpr ⟨(Ne.symm n_c2_td), (List.forall_mem_cons.mpr ⟨(Ne.symm n_c2_tl1), (List.forall_mem_cons.mpr ⟨(Ne.symm n_c2_tl2), (List.forall_mem_cons.mpr ⟨(Ne.symm n_c2_tl3), (List.forall_mem_cons.mpr ⟨(Ne.symm n_c2_tl4), (List.forall_mem_nil _)⟩)⟩)⟩)⟩)⟩)⟩)⟩)⟩)⟩)⟩)⟩)⟩)⟩)⟩) F10 N11a ?_
  intro m11 h11 tk11 q4 w4 hs11 dq4 F11 N11
  have N12a : News h₀ L _ [(pl, poolO fl idx p3 mix2 p4 np), (c1, q1), (fl, PySem.W.listOf fs.toArray nf), (c2, q4), (c3, r3), (c4, r4), (ul, PySem.W.listOf us.toArray nu), (vl, PySem.W.listOf vs2.toArray nv), (c6, o6)] := cb_drop N11 (List.forall_mem_cons.mpr ⟨(List.Mem.tail _ (List.Mem.head _)), (List.forall_mem_cons.mpr ⟨(List.Mem.tail _ (List.Mem.tail _ (List.Mem.head _))), (List.forall_mem_cons.mpr ⟨(List.Mem.tail _ (List.Mem.tail _ (List.Mem.tail _ (List.Mem.head _)))), (List.forall_mem_cons.mpr ⟨(List.Mem.head _), (List.forall_mem_cons.mpr ⟨(List.Mem.tail _ (List.Mem.tail _ (List.Mem.tail _ (List.Mem.tail _ (List.Mem.head _))))), (List.forall_mem_cons.mpr ⟨(List.Mem.tail _ (List.Mem.tail _ (List.Mem.tail _ (List.Mem.tail _ (List.Mem.tail _ (List.Mem.head _)))))), (List.forall_mem_cons.mpr ⟨(List.Mem.tail _ (List.Mem.tail _ (List.Mem.tail _ (List.Mem.tail _ (List.Mem.tail _ (List.Mem.tail _ (List.Mem.head _))))))), (List.forall_mem_cons.mpr ⟨(List.Mem.tail _ (List.Mem.tail _ (List.Mem.tail _ (List.Mem.tail _ (List.Mem.tail _ (List.Mem.tail _ (List.Mem.tail _ (List.Mem.head _)))))))), (List.forall_mem_cons.mpr ⟨(List.Mem.tail _ (List.Mem.tail _ (List.Mem.tail _ (List.Mem.tail _ (List.Mem.tail _ (List.Mem.tail _ (List.Mem.tail _ (List.Mem.tail _ (List.Mem.head _))))))))), (List.forall_mem_nil _)⟩)⟩)⟩)⟩)⟩)⟩)⟩)⟩)⟩)
  refine @b14 w mean mg mb dp un gd a ccd outer A₀ base h₀ L c1 c2 c3 c4 c5 c6 m11 { s with heap := h11, toks := tk11 } Q E [(pl, poolO fl idx p3 mix2 p4 np), (c1, q1), (fl, PySem.W.listOf fs.toArray nf), (c2, q4), (c3, r3), (c4, r4), (ul, PySem.W.listOf us.toArray nu), (vl, PySem.W.listOf vs2.toArray nv), (c6, o6)] [lawSt 15, lawSt 16, lawSt 17, lawSt 18, lawSt 19, lawSt 20, lawSt 21, lawSt 22, lawSt 23, lawSt 24, lawSt 25, lawSt 26, lawSt 27, lawSt 28, lawSt 29, lawSt 30, lawSt 31, lawSt 32, lawSt 33] r3 r4 ul vl us vs2 nu nv (bitsL one) (bitsL two) B X Tp hdp hun (bitsL_length one) (bitsL_length two) hIu hIv (show (c3, r3) ∈ [(pl, poolO fl idx p3 mix2 p4 np), (c1, q1), (fl, PySem.W.listOf fs.toArray nf), (c2, q4), (c3, r3), (c4, r4), (ul, PySem.W.listOf us.toArray nu), (vl, PySem.W.listOf vs2.toArray nv), (c6, o6)] from (.tail _ (.tail _ (.tail _ (.tail _ (.head _)))))) dr3 (show (c4, r4) ∈ [(pl, poolO fl idx p3 mix2 p4 np), (c1, q1), (fl, PySem.W.listOf fs.toArray nf), (c2, q4), (c3, r3), (c4, r4), (ul, PySem.W.listOf us.toArray nu), (vl, PySem.W.listOf vs2.toArray nv), (c6, o6)] from (.tail _ (.tail _ (.tail _ (.tail _ (.tail _ (.head _))))))) dr4 (show (ul, PySem.W.listOf us.toArray nu) ∈ [(pl, poolO fl idx p3 mix2 p4 np), (c1, q1), (fl, PySem.W.listOf fs.toArray nf), (c2, q4), (c3, r3), (c4, r4), (ul, PySem.W.listOf us.toArray nu), (vl, PySem.W.listOf vs2.toArray nv), (c6, o6)] from (.tail _ (.tail _ (.tail _ (.tail _ (.tail _ (.tail _ (.head _)))))))) (show (vl, PySem.W.listOf vs2.toArray nv) ∈ [(pl, poolO fl idx p3 mix2 p4 np), (c1, q1), (fl, PySem.W.listOf fs.toArray nf), (c2, q4), (c3, r3), (c4, r4), (ul, PySem.W.listOf us.toArray nu), (vl, PySem.W.listOf vs2.toArray nv), (c6, o6)] from (.tail _ (.tail _ (.tail _ (.tail _ (.tail _ (.tail _ (.tail _ (.head _))))))))) F11 N12a ?_
  intro m12 h12 tk12 ins hs12 fin ein F12 N12
  refine @b15 w mean mg mb dp un gd a ccd outer A₀ base h₀ L c1 c2 c3 c4 c5 c6 m12 { s with heap := h12, toks := tk12 } Q E [(pl, poolO fl idx p3 mix2 p4 np), (c1, q1), (fl, PySem.W.listOf fs.toArray nf), (c2, q4), (c3, r3), (c4, r4), (ul, PySem.W.listOf us.toArray nu), (vl, PySem.W.listOf vs2.toArray nv), (c6, o6)] [lawSt 16, lawSt 17, lawSt 18, lawSt 19, lawSt 20, lawSt 21, lawSt 22, lawSt 23, lawSt 24, lawSt 25, lawSt 26, lawSt 27, lawSt 28, lawSt 29, lawSt 30, lawSt 31, lawSt 32, lawSt 33] r3 r4 ul vl us vs2 nu nv (bitsL one) (bitsL two) B X Tp hdp hun (bitsL_length one) (bitsL_length two) hIu hIv (show (c3, r3) ∈ [(pl, poolO fl idx p3 mix2 p4 np), (c1, q1), (fl, PySem.W.listOf fs.toArray nf), (c2, q4), (c3, r3), (c4, r4), (ul, PySem.W.listOf us.toArray nu), (vl, PySem.W.listOf vs2.toArray nv), (c6, o6)] from (.tail _ (.tail _ (.tail _ (.tail _ (.head _)))))) dr3 (show (c4, r4) ∈ [(pl, poolO fl idx p3 mix2 p4 np), (c1, q1), (fl, PySem.W.listOf fs.toArray nf), (c2, q4), (c3, r3), (c4, r4), (ul, PySem.W.listOf us.toArray nu), (vl, PySem.W.listOf vs2.toArray nv), (c6, o6)] from (.tail _ (.tail _ (.tail _ (.tail _ (.tail _ (.head _))))))) dr4 (show (ul, PySem.W.listOf us.toArray nu) ∈ [(pl, poolO fl idx p3 mix2 p4 np), (c1, q1), (fl, PySem.W.listOf fs.toArray nf), (c2, q4), (c3, r3), (c4, r4), (ul, PySem.W.listOf us.toArray nu), (vl, PySem.W.listOf vs2.toArray nv), (c6, o6)] from (.tail _ (.tail _ (.tail _ (.tail _ (.tail _ (.tail _ (.head _)))))))) (show (vl, PySem.W.listOf vs2.toArray nv) ∈ [(pl, poolO fl idx p3 mix2 p4 np), (c1, q1), (fl, PySem.W.listOf fs.toArray nf), (c2, q4), (c3, r3), (c4, r4), (ul, PySem.W.listOf us.toArray nu), (vl, PySem.W.listOf vs2.toArray nv), (c6, o6)] from (.tail _ (.tail _ (.tail _ (.tail _ (.tail _ (.tail _ (.tail _ (.head _))))))))) F12 N12 ?_
  intro m13 h13 tk13 bey hs13 fbe ebe F13 N13
  have f_x_11 := (hs11 _ (by decide +kernel)).trans fx
  have f_x_12 := (hs12 _ (by decide +kernel)).trans f_x_11
  have f_x_13 := (hs13 _ (by decide +kernel)).trans f_x_12
  have f_y_11 := (hs11 _ (by decide +kernel)).trans fy
  have f_y_12 := (hs12 _ (by decide +kernel)).trans f_y_11
  have f_y_13 := (hs13 _ (by decide +kernel)).trans f_y_12
  have f_inside_13 := (hs13 _ (by decide +kernel)).trans fin
  refine @b16 w mean mg mb dp un gd a ccd outer A₀ base h₀ L c1 c2 c3 c4 c5 c6 m13 { s with heap := h13, toks := tk13 } Q E [(pl, poolO fl idx p3 mix2 p4 np), (c1, q1), (fl, PySem.W.listOf fs.toArray nf), (c2, q4), (c3, r3), (c4, r4), (ul, PySem.W.listOf us.toArray nu), (vl, PySem.W.listOf vs2.toArray nv), (c6, o6)] [lawSt 17, lawSt 18, lawSt 19, lawSt 20, lawSt 21, lawSt 22, lawSt 23, lawSt 24, lawSt 25, lawSt 26, lawSt 27, lawSt 28, lawSt 29, lawSt 30, lawSt 31, lawSt 32, lawSt 33] _ _ t4 t5 (bitsL one) (bitsL two) ins bey B X Tp hdp hun f_x_13 f_y_13 rfl rfl (bitsL_01 one) (bitsL_01 two) f_inside_13 fbe ein ebe F13 N13 ?_
  intro m14 h14 tk14  hs14  F14 N14
  obtain rfl := same_nil hs14
  refine @b17 w mean mg mb dp un gd a ccd outer A₀ base h₀ L c1 c2 c3 c4 c5 c6 m14 { s with heap := h14, toks := tk14 } Q E [(pl, poolO fl idx p3 mix2 p4 np), (c1, q1), (fl, PySem.W.listOf fs.toArray nf), (c2, q4), (c3, r3), (c4, r4), (ul, PySem.W.listOf us.toArray nu), (vl, PySem.W.listOf vs2.toArray nv), (c6, o6)] [lawSt 18, lawSt 19, lawSt 20, lawSt 21, lawSt 22, lawSt 23, lawSt 24, lawSt 25, lawSt 26, lawSt 27, lawSt 28, lawSt 29, lawSt 30, lawSt 31, lawSt 32, lawSt 33] _ t4 (bitsL one) B X Tp hdp hun f_x_13 rfl (bitsL_01 one) F14 N14 ?_
  intro m15 h15 tk15  hs15  F15 N15
  obtain rfl := same_nil hs15
  have f_count_8 := (hs8 _ (by decide +kernel)).trans f_count_7
  have f_count_9 := (hs9 _ (by decide +kernel)).trans f_count_8
  have f_count_11 := (hs11 _ (by decide +kernel)).trans f_count_9
  have f_count_12 := (hs12 _ (by decide +kernel)).trans f_count_11
  have f_count_13 := (hs13 _ (by decide +kernel)).trans f_count_12
  refine @b18 w mean mg mb dp un gd a ccd outer A₀ base h₀ L c1 c2 c3 c4 c5 c6 m15 { s with heap := h15, toks := tk15 } Q E [(pl, poolO fl idx p3 mix2 p4 np), (c1, q1), (fl, PySem.W.listOf fs.toArray nf), (c2, q4), (c3, r3), (c4, r4), (ul, PySem.W.listOf us.toArray nu), (vl, PySem.W.listOf vs2.toArray nv), (c6, o6)] [lawSt 20, lawSt 21, lawSt 22, lawSt 23, lawSt 24, lawSt 25, lawSt 26, lawSt 27, lawSt 28, lawSt 29, lawSt 30, lawSt 31, lawSt 32, lawSt 33] _ count t3 t4 (bitsL one) r3 ul us nu B X Tp hdp hun f_x_13 f_count_13 rfl (bitsL_01 one) (bitsL_length one) hIu (show (c3, r3) ∈ [(pl, poolO fl idx p3 mix2 p4 np), (c1, q1), (fl, PySem.W.listOf fs.toArray nf), (c2, q4), (c3, r3), (c4, r4), (ul, PySem.W.listOf us.toArray nu), (vl, PySem.W.listOf vs2.toArray nv), (c6, o6)] from (.tail _ (.tail _ (.tail _ (.tail _ (.head _)))))) dr3 (show (ul, PySem.W.listOf us.toArray nu) ∈ [(pl, poolO fl idx p3 mix2 p4 np), (c1, q1), (fl, PySem.W.listOf fs.toArray nf), (c2, q4), (c3, r3), (c4, r4), (ul, PySem.W.listOf us.toArray nu), (vl, PySem.W.listOf vs2.toArray nv), (c6, o6)] from (.tail _ (.tail _ (.tail _ (.tail _ (.tail _ (.tail _ (.head _)))))))) F15 N15 ?_
  intro m16 h16 tk16  hs16  F16 N16
  have N17a : News h₀ L _ [(pl, poolO fl idx p3 mix2 p4 np), (c1, q1), (fl, PySem.W.listOf fs.toArray nf), (c2, q4), (c6, o6)] := cb_drop N16 (List.forall_mem_cons.mpr ⟨(List.Mem.head _), (List.forall_mem_cons.mpr ⟨(List.Mem.tail _ (List.Mem.head _)), (List.forall_mem_cons.mpr ⟨(List.Mem.tail _ (List.Mem.tail _ (List.Mem.head _))), (List.forall_mem_cons.mpr ⟨(List.Mem.tail _ (List.Mem.tail _ (List.Mem.tail _ (List.Mem.head _)))), (List.forall_mem_cons.mpr ⟨(List.Mem.tail _ (List.Mem.tail _ (List.Mem.tail _ (List.Mem.tail _ (List.Mem.tail _ (List.Mem.tail _ (List.Mem.tail _ (List.Mem.tail _ (List.Mem.head _))))))))), (List.forall_mem_nil _)⟩)⟩)⟩)⟩)⟩)
  refine @b20 w mean mg mb dp un gd a ccd outer A₀ base h₀ L c1 c2 c3 c4 c5 c6 m16 { s with heap := h16, toks := tk16 } Q E [(pl, poolO fl idx p3 mix2 p4 np), (c1, q1), (fl, PySem.W.listOf fs.toArray nf), (c2, q4), (c6, o6)] [lawSt 21, lawSt 22, lawSt 23, lawSt 24, lawSt 25, lawSt 26, lawSt 27, lawSt 28, lawSt 29, lawSt 30, lawSt 31, lawSt 32, lawSt 33]  B X Tp hdp hun  F16 N17a ?_
  intro m17 h17 tk17 tx zx nx hs17 ftx hzx hzl lx F17 N17
  have n_pl_tx := Nat.ne_of_lt (lx _ (show (pl, poolO fl idx p3 mix2 p4 np) ∈ [(pl, poolO fl idx p3 mix2 p4 np), (c1, q1), (fl, PySem.W.listOf fs.toArray nf), (c2, q4), (c6, o6)] from (.head _)))
  have N18a : News h₀ L _ [(pl, poolO fl idx p3 mix2 p4 np), (tx, PySem.W.listOf zx.toArray nx), (c1, q1), (fl, PySem.W.listOf fs.toArray nf), (c2, q4), (c6, o6)] := cb_drop N17 (List.forall_mem_cons.mpr ⟨(List.Mem.tail _ (List.Mem.head _)), (List.forall_mem_cons.mpr ⟨(List.Mem.head _), (List.forall_mem_cons.mpr ⟨(List.Mem.tail _ (List.Mem.tail _ (List.Mem.head _))), (List.forall_mem_cons.mpr ⟨(List.Mem.tail _ (List.Mem.tail _ (List.Mem.tail _ (List.Mem.head _)))), (List.forall_mem_cons.mpr ⟨(List.Mem.tail _ (List.Mem.tail _ (List.Mem.tail _ (List.Mem.tail _ (List.Mem.head _))))), (List.forall_mem_cons.mpr ⟨(List.Mem.tail _ (List.Mem.tail _ (List.Mem.tail _ (List.Mem.tail _ (List.Mem.tail _ (List.Mem.head _)))))), (List.forall_mem_nil _)⟩)⟩)⟩)⟩)⟩)⟩)
  refine @b21 w mean mg mb dp un gd a ccd outer A₀ base h₀ L c1 c2 c3 c4 c5 c6 m17 { s with heap := h17, toks := tk17 } Q E [(tx, PySem.W.listOf zx.toArray nx), (c1, q1), (fl, PySem.W.listOf fs.toArray nf), (c2, q4), (c6, o6)] [lawSt 22, lawSt 23, lawSt 24, lawSt 25, lawSt 26, lawSt 27, lawSt 28, lawSt 29, lawSt 30, lawSt 31, lawSt 32, lawSt 33] tx pl fl zx fs nx np nf gs idx mix2 p3 p4 q1 B X Tp hdp hun ftx hzx hzl (show (tx, PySem.W.listOf zx.toArray nx) ∈ [(tx, PySem.W.listOf zx.toArray nx), (c1, q1), (fl, PySem.W.listOf fs.toArray nf), (c2, q4), (c6, o6)] from (.head _)) (show (c1, q1) ∈ [(tx, PySem.W.listOf zx.toArray nx), (c1, q1), (fl, PySem.W.listOf fs.toArray nf), (c2, q4), (c6, o6)] from (.tail _ (.head _))) dq1 (show (fl, PySem.W.listOf fs.toArray nf) ∈ [(tx, PySem.W.listOf zx.toArray nx), (c1, q1), (fl, PySem.W.listOf fs.toArray nf), (c2, q4), (c6, o6)] from (.tail _ (.tail _ (.head _)))) hIf hgl hi2 hy0 hy1 (List.forall_mem_cons.mpr ⟨(Ne.symm n_pl_tx), (List.forall_mem_cons.mpr ⟨n_c1_pl, (List.forall_mem_cons.mpr ⟨n_fl_pl, (List.forall_mem_cons.mpr ⟨n_c2_pl, (List.forall_mem_cons.mpr ⟨n_c6_pl, (List.forall_mem_nil _)⟩)⟩)⟩)⟩)⟩) F17 N18a ?_
  intro m18 h18 tk18 idx3 mix3 p5 p6 lt tlt hs18 fl1 ilt hi3 hz0 hz1 F18 N18
  have f_texts_18 := (hs18 _ (by decide +kernel)).trans ftx
  refine @b22 w mean mg mb dp un gd a ccd outer A₀ base h₀ L c1 c2 c3 c4 c5 c6 m18 { s with heap := h18, toks := tk18 } Q E [(tx, PySem.W.listOf zx.toArray nx), (c1, q1), (fl, PySem.W.listOf fs.toArray nf), (c2, q4), (c6, o6)] [lawSt 23, lawSt 24, lawSt 25, lawSt 26, lawSt 27, lawSt 28, lawSt 29, lawSt 30, lawSt 31, lawSt 32, lawSt 33] tx pl fl zx fs nx np nf gs idx3 mix3 p5 p6 q1 B X Tp hdp hun f_texts_18 hzx hzl (show (tx, PySem.W.listOf zx.toArray nx) ∈ [(tx, PySem.W.listOf zx.toArray nx), (c1, q1), (fl, PySem.W.listOf fs.toArray nf), (c2, q4), (c6, o6)] from (.head _)) (show (c1, q1) ∈ [(tx, PySem.W.listOf zx.toArray nx), (c1, q1), (fl, PySem.W.listOf fs.toArray nf), (c2, q4), (c6, o6)] from (.tail _ (.head _))) dq1 (show (fl, PySem.W.listOf fs.toArray nf) ∈ [(tx, PySem.W.listOf zx.toArray nx), (c1, q1), (fl, PySem.W.listOf fs.toArray nf), (c2, q4), (c6, o6)] from (.tail _ (.tail _ (.head _)))) hIf hgl hi3 hz0 hz1 (List.forall_mem_cons.mpr ⟨(Ne.symm n_pl_tx), (List.forall_mem_cons.mpr ⟨n_c1_pl, (List.forall_mem_cons.mpr ⟨n_fl_pl, (List.forall_mem_cons.mpr ⟨n_c2_pl, (List.forall_mem_cons.mpr ⟨n_c6_pl, (List.forall_mem_nil _)⟩)⟩)⟩)⟩)⟩) F18 N18 ?_
  intro m19 h19 tk19 idx4 mix4 p7 p8 rt trt hs19 fr1 irt hi4 hw0 hw1 F19 N19
  have f_left_19 := (hs19 _ (by decide +kernel)).trans fl1
  have N20a : News h₀ L _ [(pl, poolO fl idx4 p7 mix4 p8 np), (c1, q1), (fl, PySem.W.listOf fs.toArray nf), (c2, q4), (c6, o6)] := cb_drop N19 (List.forall_mem_cons.mpr ⟨(List.Mem.head _), (List.forall_mem_cons.mpr ⟨(List.Mem.tail _ (List.Mem.tail _ (List.Mem.head _))), (List.forall_mem_cons.mpr ⟨(List.Mem.tail _ (List.Mem.tail _ (List.Mem.tail _ (List.Mem.head _)))), (List.forall_mem_cons.mpr ⟨(List.Mem.tail _ (List.Mem.tail _ (List.Mem.tail _ (List.Mem.tail _ (List.Mem.head _))))), (List.forall_mem_cons.mpr ⟨(List.Mem.tail _ (List.Mem.tail _ (List.Mem.tail _ (List.Mem.tail _ (List.Mem.tail _ (List.Mem.head _)))))), (List.forall_mem_nil _)⟩)⟩)⟩)⟩)⟩)
  refine @b23 w mean mg mb dp un gd a ccd outer A₀ base h₀ L c1 c2 c3 c4 c5 c6 m19 { s with heap := h19, toks := tk19 } Q E [(pl, poolO fl idx4 p7 mix4 p8 np), (c1, q1), (fl, PySem.W.listOf fs.toArray nf), (c2, q4), (c6, o6)] [lawSt 24, lawSt 25, lawSt 26, lawSt 27, lawSt 28, lawSt 29, lawSt 30, lawSt 31, lawSt 32, lawSt 33] lt rt tlt trt B X Tp hdp hun f_left_19 fr1 ilt irt F19 N20a ?_
  intro m20 h20 tk20 ts hs20 fsg F20 N20
  have f_one_9 := (hs9 _ (by decide +kernel)).trans f_one_8
  have f_one_11 := (hs11 _ (by decide +kernel)).trans f_one_9
  have f_one_12 := (hs12 _ (by decide +kernel)).trans f_one_11
  have f_one_13 := (hs13 _ (by decide +kernel)).trans f_one_12
  have f_one_16 := (hs16 _ (by decide +kernel)).trans f_one_13
  have f_one_17 := (hs17 _ (by decide +kernel)).trans f_one_16
  have f_one_18 := (hs18 _ (by decide +kernel)).trans f_one_17
  have f_one_19 := (hs19 _ (by decide +kernel)).trans f_one_18
  have f_one_20 := (hs20 _ (by decide +kernel)).trans f_one_19
  have f_two_9 := (hs9 _ (by decide +kernel)).trans f_two_8
  have f_two_11 := (hs11 _ (by decide +kernel)).trans f_two_9
  have f_two_12 := (hs12 _ (by decide +kernel)).trans f_two_11
  have f_two_13 := (hs13 _ (by decide +kernel)).trans f_two_12
  have f_two_16 := (hs16 _ (by decide +kernel)).trans f_two_13
  have f_two_17 := (hs17 _ (by decide +kernel)).trans f_two_16
  have f_two_18 := (hs18 _ (by decide +kernel)).trans f_two_17
  have f_two_19 := (hs19 _ (by decide +kernel)).trans f_two_18
  have f_two_20 := (hs20 _ (by decide +kernel)).trans f_two_19
  refine @b24 w mean mg mb dp un gd a ccd outer A₀ base h₀ L c1 c2 c3 c4 c5 c6 m20 { s with heap := h20, toks := tk20 } Q E [(pl, poolO fl idx4 p7 mix4 p8 np), (c1, q1), (fl, PySem.W.listOf fs.toArray nf), (c2, q4), (c6, o6)] [lawSt 25, lawSt 26, lawSt 27, lawSt 28, lawSt 29, lawSt 30, lawSt 31, lawSt 32, lawSt 33] one two t1 t2 B X Tp hdp hun f_one_20 f_two_20 F20 N20 ?_
  intro m21 h21 tk21 tf hs21 ffa F21 N21
  have f_one_21 := (hs21 _ (by decide +kernel)).trans f_one_20
  have f_two_21 := (hs21 _ (by decide +kernel)).trans f_two_20
  have f_left_20 := (hs20 _ (by decide +kernel)).trans f_left_19
  have f_left_21 := (hs21 _ (by decide +kernel)).trans f_left_20
  have f_right_20 := (hs20 _ (by decide +kernel)).trans fr1
  have f_right_21 := (hs21 _ (by decide +kernel)).trans f_right_20
  have f_sign_21 := (hs21 _ (by decide +kernel)).trans fsg
  have N22a : News h₀ L _ [(c2, q4), (pl, poolO fl idx4 p7 mix4 p8 np), (c1, q1), (fl, PySem.W.listOf fs.toArray nf), (c6, o6)] := cb_drop N21 (List.forall_mem_cons.mpr ⟨(List.Mem.tail _ (List.Mem.tail _ (List.Mem.tail _ (List.Mem.head _)))), (List.forall_mem_cons.mpr ⟨(List.Mem.head _), (List.forall_mem_cons.mpr ⟨(List.Mem.tail _ (List.Mem.head _)), (List.forall_mem_cons.mpr ⟨(List.Mem.tail _ (List.Mem.tail _ (List.Mem.head _))), (List.forall_mem_cons.mpr ⟨(List.Mem.tail _ (List.Mem.tail _ (List.Mem.tail _ (List.Mem.tail _ (List.Mem.head _))))), (List.forall_mem_nil _)⟩)⟩)⟩)⟩)⟩)
  refine @b25 w mean mg mb dp un gd a ccd outer A₀ base h₀ L c1 c2 c3 c4 c5 c6 m21 { s with heap := h21, toks := tk21 } Q E [(pl, poolO fl idx4 p7 mix4 p8 np), (c1, q1), (fl, PySem.W.listOf fs.toArray nf), (c6, o6)] [lawSt 26, lawSt 27, lawSt 28, lawSt 29, lawSt 30, lawSt 31, lawSt 32, lawSt 33] one two t1 t2 lt rt tlt trt ts tf q4 w4 B X Tp hdp hun hE f_one_21 f_two_21 f_left_21 f_right_21 ilt irt f_sign_21 ffa dq4 (List.forall_mem_cons.mpr ⟨(Ne.symm n_c2_pl), (List.forall_mem_cons.mpr ⟨n_c1_c2, (List.forall_mem_cons.mpr ⟨(Ne.symm n_c2_fl), (List.forall_mem_cons.mpr ⟨(Ne.symm n_c2_c6), (List.forall_mem_nil _)⟩)⟩)⟩)⟩) F21 N22a ?_
  intro m22 h22 tk22 q5 w5 hs22 dq5 F22 N22
  obtain rfl := same_nil hs22
  refine @b26 w mean mg mb dp un gd a ccd outer A₀ base h₀ L c1 c2 c3 c4 c5 c6 m22 { s with heap := h22, toks := tk22 } Q E [(pl, poolO fl idx4 p7 mix4 p8 np), (c1, q1), (fl, PySem.W.listOf fs.toArray nf), (c6, o6)] [lawSt 27, lawSt 28, lawSt 29, lawSt 30, lawSt 31, lawSt 32, lawSt 33] one t1 q5 w5 B X Tp hdp hun hE f_one_21 dq5 (List.forall_mem_cons.mpr ⟨(Ne.symm n_c2_pl), (List.forall_mem_cons.mpr ⟨n_c1_c2, (List.forall_mem_cons.mpr ⟨(Ne.symm n_c2_fl), (List.forall_mem_cons.mpr ⟨(Ne.symm n_c2_c6), (List.forall_mem_nil _)⟩)⟩)⟩)⟩) F22 N22 ?_
  intro m23 h23 tk23 q6 w6 hs23 dq6 F23 N23
  obtain rfl := same_nil hs23
  refine @b27 w mean mg mb dp un gd a ccd outer A₀ base h₀ L c1 c2 c3 c4 c5 c6 m23 { s with heap := h23, toks := tk23 } Q E [(pl, poolO fl idx4 p7 mix4 p8 np), (c1, q1), (fl, PySem.W.listOf fs.toArray nf), (c6, o6)] [lawSt 28, lawSt 29, lawSt 30, lawSt 31, lawSt 32, lawSt 33] q6 w6 B X Tp hdp hun hE dq6 (List.forall_mem_cons.mpr ⟨(Ne.symm n_c2_pl), (List.forall_mem_cons.mpr ⟨n_c1_c2, (List.forall_mem_cons.mpr ⟨(Ne.symm n_c2_fl), (List.forall_mem_cons.mpr ⟨(Ne.symm n_c2_c6), (List.forall_mem_nil _)⟩)⟩)⟩)⟩) F23 N23 ?_
  intro m24 h24 tk24 q7 w7 hs24 dq7 F24 N24
  have N25a : News h₀ L _ [(pl, poolO fl idx4 p7 mix4 p8 np), (c6, o6), (c1, q1), (fl, PySem.W.listOf fs.toArray nf)] := cb_drop N24 (List.forall_mem_cons.mpr ⟨(List.Mem.tail _ (List.Mem.head _)), (List.forall_mem_cons.mpr ⟨(List.Mem.tail _ (List.Mem.tail _ (List.Mem.tail _ (List.Mem.tail _ (List.Mem.head _))))), (List.forall_mem_cons.mpr ⟨(List.Mem.tail _ (List.Mem.tail _ (List.Mem.head _))), (List.forall_mem_cons.mpr ⟨(List.Mem.tail _ (List.Mem.tail _ (List.Mem.tail _ (List.Mem.head _)))), (List.forall_mem_nil _)⟩)⟩)⟩)⟩)
  refine @b28 w mean mg mb dp un gd a ccd outer A₀ base h₀ L c1 c2 c3 c4 c5 c6 m24 { s with heap := h24, toks := tk24 } Q E [(c1, q1), (fl, PySem.W.listOf fs.toArray nf)] [lawSt 29, lawSt 30, lawSt 31, lawSt 32, lawSt 33] B X Tp hdp hun pl fl fs np nf gs q1 o6 v6 d6 idx4 mix4 p7 p8 hi4 hw0 hw1 (show (c1, q1) ∈ [(c1, q1), (fl, PySem.W.listOf fs.toArray nf)] from (.head _)) dq1 (show (fl, PySem.W.listOf fs.toArray nf) ∈ [(c1, q1), (fl, PySem.W.listOf fs.toArray nf)] from (.tail _ (.head _))) hIf hgl (List.forall_mem_cons.mpr ⟨n_c1_c6, (List.forall_mem_cons.mpr ⟨(Ne.symm n_c6_fl), (List.forall_mem_nil _)⟩)⟩) (List.forall_mem_cons.mpr ⟨n_c1_pl, (List.forall_mem_cons.mpr ⟨n_fl_pl, (List.forall_mem_nil _)⟩)⟩) (Nat.lt_trans l_c6 lfp)  F24 N25a ?_
  intro m25 h25 tk25 TT q8 sl sv sn sp hs25 g6 dq8 gsl hsp hl3 hbn F25 N25
  obtain rfl := same_nil hs25
  refine @b29 w mean mg mb dp un gd a ccd outer A₀ base h₀ L c1 c2 c3 c4 c5 c6 m25 { s with heap := h25, toks := tk25 } Q E TT [lawSt 30, lawSt 31, lawSt 32, lawSt 33] sl sv sn sp hsp gsl q8 g6 dq8 hl3 B X Tp hdp hun  F25 N25 ?_
  intro m26 h26 tk26 fb hs26 ffb hbi F26 N26
  refine @b30 w mean mg mb dp un gd a ccd outer A₀ base h₀ L c1 c2 c3 c4 c5 c6 m26 { s with heap := h26, toks := tk26 } Q E TT [lawSt 31, lawSt 32, lawSt 33] B X Tp hdp hun sl sv sn sp hsp gsl q8 g6 dq8 hl3  F26 N26 ?_
  intro m27 h27 tk27 D ys zz hs27 fhe hIz hzz hHe F27 N27
  intro oD
  have up : ∀ p ∈ TT, p ∈ (D, LCg.lst ys) :: TT := fun p hp => .tail _ hp
  have f_faulty_27 := (hs27 _ (by decide +kernel)).trans ffb
  refine @b31 w mean mg mb dp un gd a ccd outer A₀ base h₀ L c1 c2 c3 c4 c5 c6 m27 { s with heap := h27, toks := tk27 } Q E ((D, LCg.lst ys) :: TT) [lawSt 33] sl sv sn sp (hsp.more up) (up _ gsl) q8 (up _ g6) dq8 hl3 fb D ys zz B X Tp hdp hun f_faulty_27 hbi fhe (List.Mem.head _) hIz hzz hHe F27 N27 ?_
  intro m28 h28 tk28  hs28  F28 N28
  have f_faulty_28 := (hs28 _ (by decide +kernel)).trans f_faulty_27
  exact @b33 w mean mg mb dp un gd a ccd outer A₀ base h₀ L c1 c2 c3 c4 c5 c6 m28 { s with heap := h28, toks := tk28 } Q E ((D, LCg.lst ys) :: TT) sl sv sn sp (hsp.more up) (up _ gsl) q8 fb B X Tp hdp hun (up _ g6) dq8 f_faulty_28 hbi N28 F28 (fun h tk FF => hk h tk _ FF)
end
section
local macro_rules | `(tactic| walk_at "mine same") => `(tactic| rfl)

theorem env_law (L a : Addr) (ccd : Value) : envOfC (Str.ofString "law") lawScope L a ccd = lawEnv L a ccd (L + 1) (L + 1 + 1) (L + 1 + 1 + 1) (L + 1 + 1 + 1 + 1) (L + 1 + 1 + 1 + 1 + 1) (L + 1 + 1 + 1 + 1 + 1 + 1) := by
  unfold envOfC
  conv in (lawScope) => whnf
  rfl
theorem lt_one (n : Nat) : n < n + 1 := Nat.lt_succ_self n
set_option maxHeartbeats 8000000 in
theorem joinedG (w : World) (mean : ExcName → Option Value) (mg mb : Str → Option Value) (a : Addr) (ccd : Value) (H : Heap) (L : Addr) (m : Str → Option Value) (s : Shared) (Q : Flow → Shared → Prop) (E : Value → Shared → Prop) (nm : Str) (sc : Scope) (body : List Stmt)
    (l : Addr) (vs : List Value) (ns : List Int) (o1 o2 o3 o4 o5 o6 : Obj) (v1 v2 v3 v4 v5 v6 : Option Value) (enm : nm = Str.ofString "law") (esc : sc = lawScope) (eb : body = [lawSt 0, lawSt 1, lawSt 2, lawSt 3, lawSt 4, lawSt 5, lawSt 6, lawSt 7, lawSt 8, lawSt 9, lawSt 10, lawSt 11, lawSt 12, lawSt 13, lawSt 14, lawSt 15, lawSt 16, lawSt 17, lawSt 18, lawSt 19, lawSt 20, lawSt 21, lawSt 22, lawSt 23, lawSt 24, lawSt 25, lawSt 26, lawSt 27, lawSt 28, lawSt 29, lawSt 30, lawSt 31, lawSt 32, lawSt 33])
    (B : Below callerA H [] H) (X : (hd.heap_39 w.params).In H) (Tp : Top hd.view_39 LL mean mg mb H) (hs : m (Str.ofString "script") = some (.ref l)) (hl0 : H.IsList l vs.toArray) (hI : IntsAre vs ns) (hn : ns.length ≤ 63)
    (d1 : o1.data = Data.cell v1) (d2 : o2.data = Data.cell v2) (d3 : o3.data = Data.cell v3) (d4 : o4.data = Data.cell v4) (d5 : o5.data = Data.cell v5) (d6 : o6.data = Data.cell v6)
    (F : Fr H L s.heap m) (N : News H L s.heap [(L + 1 + 1 + 1 + 1 + 1 + 1, o6), (L + 1 + 1 + 1 + 1 + 1, o5), (L + 1 + 1 + 1 + 1, o4), (L + 1 + 1 + 1, o3), (L + 1 + 1, o2), (L + 1, o1)])
    (hE : PassesOwn (model PySem.Challenge.rw_nu0312_01.row.toRowW.prog w) (callerA.deeper (envOfC nm sc L a ccd)) (envOfC nm sc L a ccd) E)
    (hk : ∀ (h' : Heap) (tk' : Nat) (m' : Str → Option Value), Fr H L h' m' → Q (.ret (.bool true)) { s with heap := h', toks := tk' }) :
    wpAny (model PySem.Challenge.rw_nu0312_01.row.toRowW.prog w) (callerA.deeper (envOfC nm sc L a ccd)) (execs body (envOfC nm sc L a ccd)) Q E s := by
  subst enm esc eb
  rw [env_law] at hE ⊢
  refine @joined w mean mg mb _ _ _ a ccd [] callerA H H L (L + 1) (L + 1 + 1) (L + 1 + 1 + 1) (L + 1 + 1 + 1 + 1) (L + 1 + 1 + 1 + 1 + 1) (L + 1 + 1 + 1 + 1 + 1 + 1) m s Q E l vs ns o1 o2 o3 o4 o5 o6 v1 v2 v3 v4 v5 v6 B X Tp ?_ ?_ hE hs hl0 hl0 hI hn d1 d2 d3 d4 d5 d6 (lt_one _) (lt_one _) (lt_one _) (lt_one _) (lt_one _) F (cb_drop N (List.forall_mem_cons.mpr ⟨(List.Mem.tail _ (List.Mem.tail _ (List.Mem.tail _ (List.Mem.tail _ (List.Mem.tail _ (List.Mem.head _)))))), (List.forall_mem_cons.mpr ⟨(List.Mem.tail _ (List.Mem.tail _ (List.Mem.tail _ (List.Mem.tail _ (List.Mem.head _))))), (List.forall_mem_cons.mpr ⟨(List.Mem.tail _ (List.Mem.tail _ (List.Mem.tail _ (List.Mem.head _)))), (List.forall_mem_cons.mpr ⟨(List.Mem.tail _ (List.Mem.tail _ (List.Mem.head _))), (List.forall_mem_cons.mpr ⟨(List.Mem.tail _ (List.Mem.head _)), (List.forall_mem_cons.mpr ⟨(List.Mem.head _), (List.forall_mem_nil _)⟩)⟩)⟩)⟩)⟩)⟩)) hk
  · decide +kernel
  · decide +kernel
end
end
end
end
section
set_option maxHeartbeats 8000000 in
theorem e2 : PySem.Challenge.rw_nu0312_01.Holds := by
  refine hd ?_
  k_go0
  refine' joinedG _ _ _ _ _ _ _ _ _ _ _ _ _ _ _ _ _ _ _ _ _ _ _ _ _ _ _ _ _ _ ?e1 ?e2 ?e3 ?B ?X ?Tp ?hs ?hl ?hI ?hn ?d1 ?d2 ?d3 ?d4 ?d5 ?d6 ?F ?N ?hE ?hk
  case F => assumption
  case N => assumption
  case B => assumption
  case X => assumption
  case Tp => assumption
  case e1 => rfl
  case e2 => rfl
  case e3 => rfl
  case hl => assumption
  case hI => assumption
  case hn => omega
  case hs => rfl
  case d1 => assumption
  case d2 => assumption
  case d3 => assumption
  case d4 => assumption
  case d5 => assumption
  case d6 => assumption
  case hE => passes_own
  case hk => 
    intro h' tk' m' F'
    k_steps
    all_goals (try k_data)
end
end Mine
theorem PySem.Challenge.cw_nu0312_01_holds : PySem.Challenge.rw_nu0312_01.Holds := by
  exact Mine.e2
