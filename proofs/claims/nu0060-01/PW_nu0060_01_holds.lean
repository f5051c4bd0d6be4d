import PyProof.Rows.All
import Wide.All
import OpenK.AllK
import Wide.FinOn
import Lean
import PySem.Challenge.RW_nu0060_01
open PySem PySem.W PyProof.Rows PySem.Calls
set_option Elab.async false
set_option maxRecDepth 100000
set_option maxHeartbeats 8000000
set_option linter.unusedVariables false
set_option linter.all false
namespace Mine
noncomputable abbrev topAt (i : Nat) : Option Stmt := (PySem.Challenge.pw_nu0060_01.main.body.drop i).head?
noncomputable abbrev inAt (i j : Nat) : Option Stmt := match topAt i with
  | some (.ClassDef _ _ _ b _ _ _ _ _ _ _) => (b.drop j).head?
  | _ => none
noncomputable abbrev fnTop (i : Nat) {n : Str} {a : Arguments} {b : List Stmt} {d : List PySem.Expr} {r : Option PySem.Expr} {t : List TypeParam} {sc : Scope} {ts : Option Scope} {bd : Str} {p : Pos} (_ : topAt i = some (.FunctionDef n a b d r t sc ts bd p)) (qual : Str) (md : Value) (c : Addr) : Obj :=
  Obj.mk (Value.type "function") none (Data.func (FuncData.mk n qual a (.stmts b) sc 3 [] Value.none Value.none Value.none md none (Value.ref c) Value.none 0)) #[]
noncomputable abbrev fnIn (i j : Nat) {n : Str} {a : Arguments} {b : List Stmt} {d : List PySem.Expr} {r : Option PySem.Expr} {t : List TypeParam} {sc : Scope} {ts : Option Scope} {bd : Str} {p : Pos} (_ : inAt i j = some (.FunctionDef n a b d r t sc ts bd p)) (qual : Str) (md : Value) (c : Addr) : Obj :=
  Obj.mk (Value.type "function") none (Data.func (FuncData.mk n qual a (.stmts b) sc 3 [] Value.none Value.none Value.none md none (Value.ref c) Value.none 0)) #[]
/-- the objects that stand behind the top -/
noncomputable def hd.heap_39 : Params → Frag := fun P =>
(nat_lit 2, Obj.mk Value.none none (Data.dict #[DictEntry.mk (PyData.keyHash P (Str.ofString "type.__subclasses__.Exception.0")) (Value.str (Str.ofString "type.__subclasses__.Exception.0") 327) (Value.int 101 0), DictEntry.mk (PyData.keyHash P (Str.ofString "type.__subclasses__.Exception.n")) (Value.str (Str.ofString "type.__subclasses__.Exception.n") 328) (Value.int 1 0)] 2) #[]) ::
(nat_lit 3, Obj.mk (Value.type "dict") none (Data.dict #[DictEntry.mk (PyData.keyHash P (Str.ofString "__name__")) (Value.str (Str.ofString "__name__") 165) (Value.str (Str.ofString "law_nu0060_01") 645), DictEntry.mk (PyData.keyHash P (Str.ofString "__doc__")) (Value.str (Str.ofString "__doc__") 166) Value.none, DictEntry.mk (PyData.keyHash P (Str.ofString "__package__")) (Value.str (Str.ofString "__package__") 167) Value.none, DictEntry.mk (PyData.keyHash P (Str.ofString "__loader__")) (Value.str (Str.ofString "__loader__") 168) (Value.builtin "__main__.__loader__#opaque"), DictEntry.mk (PyData.keyHash P (Str.ofString "__spec__")) (Value.str (Str.ofString "__spec__") 169) Value.none, DictEntry.mk (PyData.keyHash P (Str.ofString "__annotations__")) (Value.str (Str.ofString "__annotations__") 170) (Value.ref 6), DictEntry.mk (PyData.keyHash P (Str.ofString "__builtins__")) (Value.str (Str.ofString "__builtins__") 171) (Value.ref 4), DictEntry.mk (PyData.keyHash P (Str.ofString "__file__")) (Value.str (Str.ofString "__file__") 173) (Value.str (Str.ofString "/claim/cut.py") 172), DictEntry.mk (PyData.keyHash P (Str.ofString "__cached__")) (Value.str (Str.ofString "__cached__") 174) Value.none, DictEntry.mk (PyData.keyHash P (Str.ofString "_wall")) (Value.str (Str.ofString "_wall") 193) (Value.ref 21), DictEntry.mk (PyData.keyHash P (Str.ofString "like_node")) (Value.str (Str.ofString "like_node") 208) (Value.ref 28), DictEntry.mk (PyData.keyHash P (Str.ofString "ancestors")) (Value.str (Str.ofString "ancestors") 217) (Value.ref 35), DictEntry.mk (PyData.keyHash P (Str.ofString "place_among")) (Value.str (Str.ofString "place_among") 229) (Value.ref 42), DictEntry.mk (PyData.keyHash P (Str.ofString "up_to_begin")) (Value.str (Str.ofString "up_to_begin") 240) (Value.ref 49), DictEntry.mk (PyData.keyHash P (Str.ofString "single_number")) (Value.str (Str.ofString "single_number") 251) (Value.ref 56), DictEntry.mk (PyData.keyHash P (Str.ofString "multiple_numbers")) (Value.str (Str.ofString "multiple_numbers") 263) (Value.ref 63), DictEntry.mk (PyData.keyHash P (Str.ofString "walked")) (Value.str (Str.ofString "walked") 275) (Value.ref 70), DictEntry.mk (PyData.keyHash P (Str.ofString "any_number")) (Value.str (Str.ofString "any_number") 288) (Value.ref 77), DictEntry.mk (PyData.keyHash P (Str.ofString "counted")) (Value.str (Str.ofString "counted") 299) (Value.ref 84), DictEntry.mk (PyData.keyHash P (Str.ofString "MarkupError")) (Value.str (Str.ofString "MarkupError") 330) (Value.ref 101), DictEntry.mk (PyData.keyHash P (Str.ofString "TreeFault")) (Value.str (Str.ofString "TreeFault") 346) (Value.ref 114), DictEntry.mk (PyData.keyHash P (Str.ofString "PARENTS")) (Value.str (Str.ofString "PARENTS") 351) (Value.ref 117), DictEntry.mk (PyData.keyHash P (Str.ofString "NodeRow")) (Value.str (Str.ofString "NodeRow") 393) (Value.ref 134), DictEntry.mk (PyData.keyHash P (Str.ofString "Tree")) (Value.str (Str.ofString "Tree") 644) (Value.ref 323), DictEntry.mk (PyData.keyHash P (Str.ofString "_law_pool")) (Value.str (Str.ofString "_law_pool") 657) (Value.ref 334), DictEntry.mk (PyData.keyHash P (Str.ofString "_law_take")) (Value.str (Str.ofString "_law_take") 666) (Value.ref 341), DictEntry.mk (PyData.keyHash P (Str.ofString "_law_one")) (Value.str (Str.ofString "_law_one") 674) (Value.ref 348), DictEntry.mk (PyData.keyHash P (Str.ofString "_law_grown")) (Value.str (Str.ofString "_law_grown") 687) (Value.ref 355), DictEntry.mk (PyData.keyHash P (Str.ofString "_law_upwards")) (Value.str (Str.ofString "_law_upwards") 697) (Value.ref 362), DictEntry.mk (PyData.keyHash P (Str.ofString "_law_among")) (Value.str (Str.ofString "_law_among") 703) (Value.ref 367), DictEntry.mk (PyData.keyHash P (Str.ofString "_law_due")) (Value.str (Str.ofString "_law_due") 709) (Value.ref 372), DictEntry.mk (PyData.keyHash P (Str.ofString "_law_attribute_right")) (Value.str (Str.ofString "_law_attribute_right") 715) (Value.ref 377), DictEntry.mk (PyData.keyHash P (Str.ofString "law")) (Value.str (Str.ofString "law") 721) (Value.ref 382)] 33) #[]) ::
(nat_lit 15, Obj.mk (Value.type "tuple") none (Data.seq #[]) #[]) ::
(nat_lit 17, Obj.mk (Value.type "tuple") none (Data.seq #[Value.str (Str.ofString "k") 190]) #[]) ::
(nat_lit 18, Obj.mk (Value.type "tuple") none (Data.seq #[]) #[]) ::
(nat_lit 20, Obj.mk (Value.type "code") none (Data.fields #[Value.str (Str.ofString "_wall") 187, Value.str (Str.ofString "_wall") 188, Value.str (Str.ofString "/claim/cut.py") 189, Value.int 1 0, Value.int 1 0, Value.int 0 0, Value.int 0 0, Value.int 3 0, Value.ref 15, Value.bool true, Value.int 181 0, Value.ref 16, Value.none, Value.ref 17, Value.ref 18, Value.ref 19, Value.int 191 0, Value.int 1 0, Value.str (Str.ofString "/claim/cut.py") 192]) #[]) ::
(nat_lit 21, fnTop 0 rfl (Str.ofString "_wall") (Value.str (Str.ofString "__main__") 164) 20) ::
(nat_lit 22, Obj.mk (Value.type "tuple") none (Data.seq #[]) #[]) ::
(nat_lit 24, Obj.mk (Value.type "tuple") none (Data.seq #[Value.str (Str.ofString "tree") 199, Value.str (Str.ofString "node") 200, Value.str (Str.ofString "is_like") 201]) #[]) ::
(nat_lit 25, Obj.mk (Value.type "tuple") none (Data.seq #[Value.str (Str.ofString "tree") 202, Value.str (Str.ofString "kind") 203, Value.str (Str.ofString "local") 204, Value.str (Str.ofString "uri") 205]) #[]) ::
(nat_lit 27, Obj.mk (Value.type "code") none (Data.fields #[Value.str (Str.ofString "like_node") 196, Value.str (Str.ofString "like_node") 197, Value.str (Str.ofString "/claim/cut.py") 198, Value.int 5 0, Value.int 2 0, Value.int 0 0, Value.int 0 0, Value.int 3 0, Value.ref 22, Value.bool true, Value.int 181 0, Value.ref 23, Value.none, Value.ref 24, Value.ref 25, Value.ref 26, Value.int 206 0, Value.int 5 0, Value.str (Str.ofString "/claim/cut.py") 207]) #[]) ::
(nat_lit 28, fnTop 2 rfl (Str.ofString "like_node") (Value.str (Str.ofString "markupmill.numbering") 194) 27) ::
(nat_lit 29, Obj.mk (Value.type "tuple") none (Data.seq #[]) #[]) ::
(nat_lit 31, Obj.mk (Value.type "tuple") none (Data.seq #[Value.str (Str.ofString "tree") 212, Value.str (Str.ofString "node") 213, Value.str (Str.ofString "found") 214]) #[]) ::
(nat_lit 32, Obj.mk (Value.type "tuple") none (Data.seq #[]) #[]) ::
(nat_lit 34, Obj.mk (Value.type "code") none (Data.fields #[Value.str (Str.ofString "ancestors") 209, Value.str (Str.ofString "ancestors") 210, Value.str (Str.ofString "/claim/cut.py") 211, Value.int 20 0, Value.int 2 0, Value.int 0 0, Value.int 0 0, Value.int 3 0, Value.ref 29, Value.bool true, Value.int 181 0, Value.ref 30, Value.none, Value.ref 31, Value.ref 32, Value.ref 33, Value.int 215 0, Value.int 20 0, Value.str (Str.ofString "/claim/cut.py") 216]) #[]) ::
(nat_lit 35, fnTop 3 rfl (Str.ofString "ancestors") (Value.str (Str.ofString "markupmill.numbering") 194) 34) ::
(nat_lit 36, Obj.mk (Value.type "tuple") none (Data.seq #[]) #[]) ::
(nat_lit 38, Obj.mk (Value.type "tuple") none (Data.seq #[Value.str (Str.ofString "tree") 221, Value.str (Str.ofString "node") 222, Value.str (Str.ofString "is_counted") 223, Value.str (Str.ofString "parent") 224, Value.str (Str.ofString "many") 225, Value.str (Str.ofString "child") 226]) #[]) ::
(nat_lit 39, Obj.mk (Value.type "tuple") none (Data.seq #[]) #[]) ::
(nat_lit 41, Obj.mk (Value.type "code") none (Data.fields #[Value.str (Str.ofString "place_among") 218, Value.str (Str.ofString "place_among") 219, Value.str (Str.ofString "/claim/cut.py") 220, Value.int 26 0, Value.int 3 0, Value.int 0 0, Value.int 0 0, Value.int 3 0, Value.ref 36, Value.bool true, Value.int 181 0, Value.ref 37, Value.none, Value.ref 38, Value.ref 39, Value.ref 40, Value.int 227 0, Value.int 26 0, Value.str (Str.ofString "/claim/cut.py") 228]) #[]) ::
(nat_lit 42, fnTop 4 rfl (Str.ofString "place_among") (Value.str (Str.ofString "markupmill.numbering") 194) 41) ::
(nat_lit 43, Obj.mk (Value.type "tuple") none (Data.seq #[]) #[]) ::
(nat_lit 45, Obj.mk (Value.type "tuple") none (Data.seq #[Value.str (Str.ofString "tree") 233, Value.str (Str.ofString "node") 234, Value.str (Str.ofString "is_begin") 235, Value.str (Str.ofString "found") 236, Value.str (Str.ofString "one") 237]) #[]) ::
(nat_lit 46, Obj.mk (Value.type "tuple") none (Data.seq #[]) #[]) ::
(nat_lit 48, Obj.mk (Value.type "code") none (Data.fields #[Value.str (Str.ofString "up_to_begin") 230, Value.str (Str.ofString "up_to_begin") 231, Value.str (Str.ofString "/claim/cut.py") 232, Value.int 37 0, Value.int 3 0, Value.int 0 0, Value.int 0 0, Value.int 3 0, Value.ref 43, Value.bool true, Value.int 181 0, Value.ref 44, Value.none, Value.ref 45, Value.ref 46, Value.ref 47, Value.int 238 0, Value.int 37 0, Value.str (Str.ofString "/claim/cut.py") 239]) #[]) ::
(nat_lit 49, fnTop 5 rfl (Str.ofString "up_to_begin") (Value.str (Str.ofString "markupmill.numbering") 194) 48) ::
(nat_lit 50, Obj.mk (Value.type "tuple") none (Data.seq #[]) #[]) ::
(nat_lit 52, Obj.mk (Value.type "tuple") none (Data.seq #[Value.str (Str.ofString "tree") 244, Value.str (Str.ofString "node") 245, Value.str (Str.ofString "is_counted") 246, Value.str (Str.ofString "is_begin") 247, Value.str (Str.ofString "one") 248]) #[]) ::
(nat_lit 53, Obj.mk (Value.type "tuple") none (Data.seq #[]) #[]) ::
(nat_lit 55, Obj.mk (Value.type "code") none (Data.fields #[Value.str (Str.ofString "single_number") 241, Value.str (Str.ofString "single_number") 242, Value.str (Str.ofString "/claim/cut.py") 243, Value.int 44 0, Value.int 4 0, Value.int 0 0, Value.int 0 0, Value.int 3 0, Value.ref 50, Value.bool true, Value.int 181 0, Value.ref 51, Value.none, Value.ref 52, Value.ref 53, Value.ref 54, Value.int 249 0, Value.int 44 0, Value.str (Str.ofString "/claim/cut.py") 250]) #[]) ::
(nat_lit 56, fnTop 6 rfl (Str.ofString "single_number") (Value.str (Str.ofString "markupmill.numbering") 194) 55) ::
(nat_lit 57, Obj.mk (Value.type "tuple") none (Data.seq #[]) #[]) ::
(nat_lit 59, Obj.mk (Value.type "tuple") none (Data.seq #[Value.str (Str.ofString "tree") 255, Value.str (Str.ofString "node") 256, Value.str (Str.ofString "is_counted") 257, Value.str (Str.ofString "is_begin") 258, Value.str (Str.ofString "found") 259, Value.str (Str.ofString "one") 260]) #[]) ::
(nat_lit 60, Obj.mk (Value.type "tuple") none (Data.seq #[]) #[]) ::
(nat_lit 62, Obj.mk (Value.type "code") none (Data.fields #[Value.str (Str.ofString "multiple_numbers") 252, Value.str (Str.ofString "multiple_numbers") 253, Value.str (Str.ofString "/claim/cut.py") 254, Value.int 49 0, Value.int 4 0, Value.int 0 0, Value.int 0 0, Value.int 3 0, Value.ref 57, Value.bool true, Value.int 181 0, Value.ref 58, Value.none, Value.ref 59, Value.ref 60, Value.ref 61, Value.int 261 0, Value.int 49 0, Value.str (Str.ofString "/claim/cut.py") 262]) #[]) ::
(nat_lit 63, fnTop 7 rfl (Str.ofString "multiple_numbers") (Value.str (Str.ofString "markupmill.numbering") 194) 62) ::
(nat_lit 64, Obj.mk (Value.type "tuple") none (Data.seq #[]) #[]) ::
(nat_lit 66, Obj.mk (Value.type "tuple") none (Data.seq #[Value.str (Str.ofString "tree") 267, Value.str (Str.ofString "root") 268, Value.str (Str.ofString "node") 269, Value.str (Str.ofString "found") 270, Value.str (Str.ofString "left") 271, Value.str (Str.ofString "one") 272]) #[]) ::
(nat_lit 67, Obj.mk (Value.type "tuple") none (Data.seq #[]) #[]) ::
(nat_lit 69, Obj.mk (Value.type "code") none (Data.fields #[Value.str (Str.ofString "walked") 264, Value.str (Str.ofString "walked") 265, Value.str (Str.ofString "/claim/cut.py") 266, Value.int 55 0, Value.int 3 0, Value.int 0 0, Value.int 0 0, Value.int 3 0, Value.ref 64, Value.bool true, Value.int 181 0, Value.ref 65, Value.none, Value.ref 66, Value.ref 67, Value.ref 68, Value.int 273 0, Value.int 55 0, Value.str (Str.ofString "/claim/cut.py") 274]) #[]) ::
(nat_lit 70, fnTop 8 rfl (Str.ofString "walked") (Value.str (Str.ofString "markupmill.numbering") 194) 69) ::
(nat_lit 71, Obj.mk (Value.type "tuple") none (Data.seq #[]) #[]) ::
(nat_lit 73, Obj.mk (Value.type "tuple") none (Data.seq #[Value.str (Str.ofString "tree") 279, Value.str (Str.ofString "node") 280, Value.str (Str.ofString "is_counted") 281, Value.str (Str.ofString "is_begin") 282, Value.str (Str.ofString "end") 283, Value.str (Str.ofString "many") 284, Value.str (Str.ofString "one") 285]) #[]) ::
(nat_lit 74, Obj.mk (Value.type "tuple") none (Data.seq #[]) #[]) ::
(nat_lit 76, Obj.mk (Value.type "code") none (Data.fields #[Value.str (Str.ofString "any_number") 276, Value.str (Str.ofString "any_number") 277, Value.str (Str.ofString "/claim/cut.py") 278, Value.int 65 0, Value.int 4 0, Value.int 0 0, Value.int 0 0, Value.int 3 0, Value.ref 71, Value.bool true, Value.int 181 0, Value.ref 72, Value.none, Value.ref 73, Value.ref 74, Value.ref 75, Value.int 286 0, Value.int 65 0, Value.str (Str.ofString "/claim/cut.py") 287]) #[]) ::
(nat_lit 77, fnTop 9 rfl (Str.ofString "any_number") (Value.str (Str.ofString "markupmill.numbering") 194) 76) ::
(nat_lit 78, Obj.mk (Value.type "tuple") none (Data.seq #[]) #[]) ::
(nat_lit 80, Obj.mk (Value.type "tuple") none (Data.seq #[Value.str (Str.ofString "tree") 292, Value.str (Str.ofString "node") 293, Value.str (Str.ofString "level") 294, Value.str (Str.ofString "is_counted") 295, Value.str (Str.ofString "is_begin") 296]) #[]) ::
(nat_lit 81, Obj.mk (Value.type "tuple") none (Data.seq #[]) #[]) ::
(nat_lit 83, Obj.mk (Value.type "code") none (Data.fields #[Value.str (Str.ofString "counted") 289, Value.str (Str.ofString "counted") 290, Value.str (Str.ofString "/claim/cut.py") 291, Value.int 78 0, Value.int 5 0, Value.int 0 0, Value.int 0 0, Value.int 3 0, Value.ref 78, Value.bool true, Value.int 181 0, Value.ref 79, Value.none, Value.ref 80, Value.ref 81, Value.ref 82, Value.int 297 0, Value.int 78 0, Value.str (Str.ofString "/claim/cut.py") 298]) #[]) ::
(nat_lit 84, fnTop 10 rfl (Str.ofString "counted") (Value.str (Str.ofString "markupmill.numbering") 194) 83) ::
(nat_lit 85, Obj.mk (Value.type "tuple") none (Data.seq #[Value.type "Exception"]) #[]) ::
(nat_lit 92, Obj.mk (Value.type "tuple") none (Data.seq #[]) #[]) ::
(nat_lit 94, Obj.mk (Value.type "tuple") none (Data.seq #[Value.str (Str.ofString "self") 317, Value.str (Str.ofString "message") 318]) #[]) ::
(nat_lit 95, Obj.mk (Value.type "tuple") none (Data.seq #[]) #[]) ::
(nat_lit 97, Obj.mk (Value.type "code") none (Data.fields #[Value.str (Str.ofString "__init__") 314, Value.str (Str.ofString "MarkupError.__init__") 315, Value.str (Str.ofString "/claim/cut.py") 316, Value.int 87 0, Value.int 2 0, Value.int 0 0, Value.int 0 0, Value.int 3 0, Value.ref 92, Value.bool true, Value.int 181 0, Value.ref 93, Value.none, Value.ref 94, Value.ref 95, Value.ref 96, Value.int 319 0, Value.int 87 0, Value.str (Str.ofString "/claim/cut.py") 320]) #[]) ::
(nat_lit 98, fnIn 12 0 rfl (Str.ofString "MarkupError.__init__") (Value.str (Str.ofString "markupmill.errors") 300) 97) ::
(nat_lit 99, Obj.mk (Value.type "tuple") none (Data.seq #[Value.str (Str.ofString "message") 322]) #[]) ::
(nat_lit 100, Obj.mk (Value.type "dict") none (Data.dict #[DictEntry.mk (PyData.keyHash P (Str.ofString "__module__")) (Value.str (Str.ofString "__module__") 309) (Value.str (Str.ofString "markupmill.errors") 300), DictEntry.mk (PyData.keyHash P (Str.ofString "__firstlineno__")) (Value.str (Str.ofString "__firstlineno__") 313) (Value.int 85 312), DictEntry.mk (PyData.keyHash P (Str.ofString "__init__")) (Value.str (Str.ofString "__init__") 321) (Value.ref 98), DictEntry.mk (PyData.keyHash P (Str.ofString "__static_attributes__")) (Value.str (Str.ofString "__static_attributes__") 323) (Value.ref 99), DictEntry.mk (PyData.keyHash P (Str.ofString "__weakref__")) (Value.str (Str.ofString "__weakref__") 325) (Value.ref 102), DictEntry.mk (PyData.keyHash P (Str.ofString "__doc__")) (Value.str (Str.ofString "__doc__") 326) Value.none] 3) #[]) ::
(nat_lit 101, Obj.mk (Value.type "type") none (Data.cls (ClassData.mk (Str.ofString "MarkupError") [Value.type "Exception"] [Value.ref 101, Value.type "Exception", Value.type "BaseException", Value.type "object"] 100 (Str.ofString "MarkupError") true [] [Value.ref 114] false none false)) #[some (Value.ref 85), none, some (Value.str (Str.ofString "MarkupError") 302), some (Value.str (Str.ofString "MarkupError") 310), some (Value.builtin "Exception.__new__"), some (Value.bool true)]) ::
(nat_lit 102, Obj.mk (Value.type "getset_descriptor") none (Data.fields #[Value.str (Str.ofString "__weakref__") 324, Value.ref 101, Value.builtin "ExceptionGroup.__weakref__", Value.none]) #[]) ::
(nat_lit 105, Obj.mk (Value.type "tuple") none (Data.seq #[Value.ref 101]) #[]) ::
(nat_lit 112, Obj.mk (Value.type "tuple") none (Data.seq #[]) #[]) ::
(nat_lit 113, Obj.mk (Value.type "dict") none (Data.dict #[DictEntry.mk (PyData.keyHash P (Str.ofString "__module__")) (Value.str (Str.ofString "__module__") 338) (Value.str (Str.ofString "markupmill.errors") 300), DictEntry.mk (PyData.keyHash P (Str.ofString "__firstlineno__")) (Value.str (Str.ofString "__firstlineno__") 342) (Value.int 90 341), DictEntry.mk (PyData.keyHash P (Str.ofString "__static_attributes__")) (Value.str (Str.ofString "__static_attributes__") 343) (Value.ref 112), DictEntry.mk (PyData.keyHash P (Str.ofString "__doc__")) (Value.str (Str.ofString "__doc__") 344) Value.none] 2) #[]) ::
(nat_lit 114, Obj.mk (Value.type "type") none (Data.cls (ClassData.mk (Str.ofString "TreeFault") [Value.ref 101] [Value.ref 114, Value.ref 101, Value.type "Exception", Value.type "BaseException", Value.type "object"] 113 (Str.ofString "TreeFault") true [] [] false none false)) #[some (Value.ref 105), none, some (Value.str (Str.ofString "TreeFault") 331), some (Value.str (Str.ofString "TreeFault") 339), some (Value.builtin "Exception.__new__"), some (Value.bool true)]) ::
(nat_lit 117, Obj.mk (Value.type "tuple") none (Data.seq #[Value.str (Str.ofString "root") 349, Value.str (Str.ofString "element") 350]) #[]) ::
(nat_lit 125, Obj.mk (Value.type "tuple") none (Data.seq #[]) #[]) ::
(nat_lit 127, Obj.mk (Value.type "tuple") none (Data.seq #[Value.str (Str.ofString "self") 367, Value.str (Str.ofString "kind") 368, Value.str (Str.ofString "name") 369, Value.str (Str.ofString "uri") 370, Value.str (Str.ofString "local") 371, Value.str (Str.ofString "value") 372, Value.str (Str.ofString "parent") 373]) #[]) ::
(nat_lit 128, Obj.mk (Value.type "tuple") none (Data.seq #[]) #[]) ::
(nat_lit 130, Obj.mk (Value.type "code") none (Data.fields #[Value.str (Str.ofString "__init__") 364, Value.str (Str.ofString "NodeRow.__init__") 365, Value.str (Str.ofString "/claim/cut.py") 366, Value.int 96 0, Value.int 7 0, Value.int 0 0, Value.int 0 0, Value.int 3 0, Value.ref 125, Value.bool true, Value.int 181 0, Value.ref 126, Value.none, Value.ref 127, Value.ref 128, Value.ref 129, Value.int 374 0, Value.int 96 0, Value.str (Str.ofString "/claim/cut.py") 375]) #[]) ::
(nat_lit 131, fnIn 16 0 rfl (Str.ofString "NodeRow.__init__") (Value.str (Str.ofString "markupmill.tree") 347) 130) ::
(nat_lit 132, Obj.mk (Value.type "tuple") none (Data.seq #[Value.str (Str.ofString "attributes") 377, Value.str (Str.ofString "children") 378, Value.str (Str.ofString "kind") 379, Value.str (Str.ofString "local") 380, Value.str (Str.ofString "name") 381, Value.str (Str.ofString "namespaces") 382, Value.str (Str.ofString "parent") 383, Value.str (Str.ofString "uri") 384, Value.str (Str.ofString "value") 385]) #[]) ::
(nat_lit 133, Obj.mk (Value.type "dict") none (Data.dict #[DictEntry.mk (PyData.keyHash P (Str.ofString "__module__")) (Value.str (Str.ofString "__module__") 359) (Value.str (Str.ofString "markupmill.tree") 347), DictEntry.mk (PyData.keyHash P (Str.ofString "__firstlineno__")) (Value.str (Str.ofString "__firstlineno__") 363) (Value.int 94 362), DictEntry.mk (PyData.keyHash P (Str.ofString "__init__")) (Value.str (Str.ofString "__init__") 376) (Value.ref 131), DictEntry.mk (PyData.keyHash P (Str.ofString "__static_attributes__")) (Value.str (Str.ofString "__static_attributes__") 386) (Value.ref 132), DictEntry.mk (PyData.keyHash P (Str.ofString "__dict__")) (Value.str (Str.ofString "__dict__") 388) (Value.ref 135), DictEntry.mk (PyData.keyHash P (Str.ofString "__weakref__")) (Value.str (Str.ofString "__weakref__") 390) (Value.ref 136), DictEntry.mk (PyData.keyHash P (Str.ofString "__doc__")) (Value.str (Str.ofString "__doc__") 391) Value.none] 4) #[]) ::
(nat_lit 134, Obj.mk (Value.type "type") none (Data.cls (ClassData.mk (Str.ofString "NodeRow") [Value.type "object"] [Value.ref 134, Value.type "object"] 133 (Str.ofString "NodeRow") true [] [] false none false)) #[none, none, some (Value.str (Str.ofString "NodeRow") 352), some (Value.str (Str.ofString "NodeRow") 360), some (Value.builtin "object.__new__"), some (Value.bool true)]) ::
(nat_lit 135, Obj.mk (Value.type "getset_descriptor") none (Data.fields #[Value.str (Str.ofString "__dict__") 387, Value.ref 134, Value.builtin "function.__dict__", Value.builtin "function.__dict__#set"]) #[]) ::
(nat_lit 136, Obj.mk (Value.type "getset_descriptor") none (Data.fields #[Value.str (Str.ofString "__weakref__") 389, Value.ref 134, Value.builtin "ExceptionGroup.__weakref__", Value.none]) #[]) ::
(nat_lit 146, Obj.mk (Value.type "tuple") none (Data.seq #[]) #[]) ::
(nat_lit 148, Obj.mk (Value.type "tuple") none (Data.seq #[Value.str (Str.ofString "self") 409]) #[]) ::
(nat_lit 149, Obj.mk (Value.type "tuple") none (Data.seq #[]) #[]) ::
(nat_lit 151, Obj.mk (Value.type "code") none (Data.fields #[Value.str (Str.ofString "__init__") 406, Value.str (Str.ofString "Tree.__init__") 407, Value.str (Str.ofString "/claim/cut.py") 408, Value.int 108 0, Value.int 1 0, Value.int 0 0, Value.int 0 0, Value.int 3 0, Value.ref 146, Value.bool true, Value.int 181 0, Value.ref 147, Value.none, Value.ref 148, Value.ref 149, Value.ref 150, Value.int 410 0, Value.int 108 0, Value.str (Str.ofString "/claim/cut.py") 411]) #[]) ::
(nat_lit 152, fnIn 17 0 rfl (Str.ofString "Tree.__init__") (Value.str (Str.ofString "markupmill.tree") 347) 151) ::
(nat_lit 153, Obj.mk (Value.type "tuple") none (Data.seq #[]) #[]) ::
(nat_lit 155, Obj.mk (Value.type "tuple") none (Data.seq #[Value.str (Str.ofString "self") 416, Value.str (Str.ofString "kind") 417, Value.str (Str.ofString "name") 418, Value.str (Str.ofString "uri") 419, Value.str (Str.ofString "local") 420, Value.str (Str.ofString "value") 421, Value.str (Str.ofString "parent") 422]) #[]) ::
(nat_lit 156, Obj.mk (Value.type "tuple") none (Data.seq #[]) #[]) ::
(nat_lit 158, Obj.mk (Value.type "code") none (Data.fields #[Value.str (Str.ofString "new_row") 413, Value.str (Str.ofString "Tree.new_row") 414, Value.str (Str.ofString "/claim/cut.py") 415, Value.int 111 0, Value.int 7 0, Value.int 0 0, Value.int 0 0, Value.int 3 0, Value.ref 153, Value.bool true, Value.int 181 0, Value.ref 154, Value.none, Value.ref 155, Value.ref 156, Value.ref 157, Value.int 423 0, Value.int 111 0, Value.str (Str.ofString "/claim/cut.py") 424]) #[]) ::
(nat_lit 159, fnIn 17 1 rfl (Str.ofString "Tree.new_row") (Value.str (Str.ofString "markupmill.tree") 347) 158) ::
(nat_lit 160, Obj.mk (Value.type "tuple") none (Data.seq #[]) #[]) ::
(nat_lit 162, Obj.mk (Value.type "tuple") none (Data.seq #[Value.str (Str.ofString "self") 429, Value.str (Str.ofString "node") 430]) #[]) ::
(nat_lit 163, Obj.mk (Value.type "tuple") none (Data.seq #[]) #[]) ::
(nat_lit 165, Obj.mk (Value.type "code") none (Data.fields #[Value.str (Str.ofString "row") 426, Value.str (Str.ofString "Tree.row") 427, Value.str (Str.ofString "/claim/cut.py") 428, Value.int 115 0, Value.int 2 0, Value.int 0 0, Value.int 0 0, Value.int 3 0, Value.ref 160, Value.bool true, Value.int 181 0, Value.ref 161, Value.none, Value.ref 162, Value.ref 163, Value.ref 164, Value.int 431 0, Value.int 115 0, Value.str (Str.ofString "/claim/cut.py") 432]) #[]) ::
(nat_lit 166, fnIn 17 2 rfl (Str.ofString "Tree.row") (Value.str (Str.ofString "markupmill.tree") 347) 165) ::
(nat_lit 167, Obj.mk (Value.type "tuple") none (Data.seq #[]) #[]) ::
(nat_lit 169, Obj.mk (Value.type "tuple") none (Data.seq #[Value.str (Str.ofString "self") 437]) #[]) ::
(nat_lit 170, Obj.mk (Value.type "tuple") none (Data.seq #[]) #[]) ::
(nat_lit 172, Obj.mk (Value.type "code") none (Data.fields #[Value.str (Str.ofString "new_root") 434, Value.str (Str.ofString "Tree.new_root") 435, Value.str (Str.ofString "/claim/cut.py") 436, Value.int 120 0, Value.int 1 0, Value.int 0 0, Value.int 0 0, Value.int 3 0, Value.ref 167, Value.bool true, Value.int 181 0, Value.ref 168, Value.none, Value.ref 169, Value.ref 170, Value.ref 171, Value.int 438 0, Value.int 120 0, Value.str (Str.ofString "/claim/cut.py") 439]) #[]) ::
(nat_lit 173, fnIn 17 3 rfl (Str.ofString "Tree.new_root") (Value.str (Str.ofString "markupmill.tree") 347) 172) ::
(nat_lit 174, Obj.mk (Value.type "tuple") none (Data.seq #[]) #[]) ::
(nat_lit 176, Obj.mk (Value.type "tuple") none (Data.seq #[Value.str (Str.ofString "self") 444, Value.str (Str.ofString "parent") 445, Value.str (Str.ofString "kind") 446, Value.str (Str.ofString "name") 447, Value.str (Str.ofString "uri") 448, Value.str (Str.ofString "local") 449, Value.str (Str.ofString "value") 450, Value.str (Str.ofString "node") 451]) #[]) ::
(nat_lit 177, Obj.mk (Value.type "tuple") none (Data.seq #[]) #[]) ::
(nat_lit 179, Obj.mk (Value.type "code") none (Data.fields #[Value.str (Str.ofString "add_child") 441, Value.str (Str.ofString "Tree.add_child") 442, Value.str (Str.ofString "/claim/cut.py") 443, Value.int 123 0, Value.int 7 0, Value.int 0 0, Value.int 0 0, Value.int 3 0, Value.ref 174, Value.bool true, Value.int 181 0, Value.ref 175, Value.none, Value.ref 176, Value.ref 177, Value.ref 178, Value.int 452 0, Value.int 123 0, Value.str (Str.ofString "/claim/cut.py") 453]) #[]) ::
(nat_lit 180, fnIn 17 4 rfl (Str.ofString "Tree.add_child") (Value.str (Str.ofString "markupmill.tree") 347) 179) ::
(nat_lit 181, Obj.mk (Value.type "tuple") none (Data.seq #[]) #[]) ::
(nat_lit 183, Obj.mk (Value.type "tuple") none (Data.seq #[Value.str (Str.ofString "self") 458, Value.str (Str.ofString "parent") 459, Value.str (Str.ofString "name") 460, Value.str (Str.ofString "uri") 461, Value.str (Str.ofString "local") 462]) #[]) ::
(nat_lit 184, Obj.mk (Value.type "tuple") none (Data.seq #[]) #[]) ::
(nat_lit 186, Obj.mk (Value.type "code") none (Data.fields #[Value.str (Str.ofString "add_element") 455, Value.str (Str.ofString "Tree.add_element") 456, Value.str (Str.ofString "/claim/cut.py") 457, Value.int 131 0, Value.int 5 0, Value.int 0 0, Value.int 0 0, Value.int 3 0, Value.ref 181, Value.bool true, Value.int 181 0, Value.ref 182, Value.none, Value.ref 183, Value.ref 184, Value.ref 185, Value.int 463 0, Value.int 131 0, Value.str (Str.ofString "/claim/cut.py") 464]) #[]) ::
(nat_lit 187, fnIn 17 5 rfl (Str.ofString "Tree.add_element") (Value.str (Str.ofString "markupmill.tree") 347) 186) ::
(nat_lit 188, Obj.mk (Value.type "tuple") none (Data.seq #[]) #[]) ::
(nat_lit 190, Obj.mk (Value.type "tuple") none (Data.seq #[Value.str (Str.ofString "self") 469, Value.str (Str.ofString "parent") 470, Value.str (Str.ofString "value") 471]) #[]) ::
(nat_lit 191, Obj.mk (Value.type "tuple") none (Data.seq #[]) #[]) ::
(nat_lit 193, Obj.mk (Value.type "code") none (Data.fields #[Value.str (Str.ofString "add_text") 466, Value.str (Str.ofString "Tree.add_text") 467, Value.str (Str.ofString "/claim/cut.py") 468, Value.int 134 0, Value.int 3 0, Value.int 0 0, Value.int 0 0, Value.int 3 0, Value.ref 188, Value.bool true, Value.int 181 0, Value.ref 189, Value.none, Value.ref 190, Value.ref 191, Value.ref 192, Value.int 472 0, Value.int 134 0, Value.str (Str.ofString "/claim/cut.py") 473]) #[]) ::
(nat_lit 194, fnIn 17 6 rfl (Str.ofString "Tree.add_text") (Value.str (Str.ofString "markupmill.tree") 347) 193) ::
(nat_lit 195, Obj.mk (Value.type "tuple") none (Data.seq #[]) #[]) ::
(nat_lit 197, Obj.mk (Value.type "tuple") none (Data.seq #[Value.str (Str.ofString "self") 478, Value.str (Str.ofString "parent") 479, Value.str (Str.ofString "value") 480]) #[]) ::
(nat_lit 198, Obj.mk (Value.type "tuple") none (Data.seq #[]) #[]) ::
(nat_lit 200, Obj.mk (Value.type "code") none (Data.fields #[Value.str (Str.ofString "add_comment") 475, Value.str (Str.ofString "Tree.add_comment") 476, Value.str (Str.ofString "/claim/cut.py") 477, Value.int 137 0, Value.int 3 0, Value.int 0 0, Value.int 0 0, Value.int 3 0, Value.ref 195, Value.bool true, Value.int 181 0, Value.ref 196, Value.none, Value.ref 197, Value.ref 198, Value.ref 199, Value.int 481 0, Value.int 137 0, Value.str (Str.ofString "/claim/cut.py") 482]) #[]) ::
(nat_lit 201, fnIn 17 7 rfl (Str.ofString "Tree.add_comment") (Value.str (Str.ofString "markupmill.tree") 347) 200) ::
(nat_lit 202, Obj.mk (Value.type "tuple") none (Data.seq #[]) #[]) ::
(nat_lit 204, Obj.mk (Value.type "tuple") none (Data.seq #[Value.str (Str.ofString "self") 487, Value.str (Str.ofString "parent") 488, Value.str (Str.ofString "target") 489, Value.str (Str.ofString "data") 490]) #[]) ::
(nat_lit 205, Obj.mk (Value.type "tuple") none (Data.seq #[]) #[]) ::
(nat_lit 207, Obj.mk (Value.type "code") none (Data.fields #[Value.str (Str.ofString "add_instruction") 484, Value.str (Str.ofString "Tree.add_instruction") 485, Value.str (Str.ofString "/claim/cut.py") 486, Value.int 140 0, Value.int 4 0, Value.int 0 0, Value.int 0 0, Value.int 3 0, Value.ref 202, Value.bool true, Value.int 181 0, Value.ref 203, Value.none, Value.ref 204, Value.ref 205, Value.ref 206, Value.int 491 0, Value.int 140 0, Value.str (Str.ofString "/claim/cut.py") 492]) #[]) ::
(nat_lit 208, fnIn 17 8 rfl (Str.ofString "Tree.add_instruction") (Value.str (Str.ofString "markupmill.tree") 347) 207) ::
(nat_lit 209, Obj.mk (Value.type "tuple") none (Data.seq #[]) #[]) ::
(nat_lit 211, Obj.mk (Value.type "tuple") none (Data.seq #[Value.str (Str.ofString "self") 497, Value.str (Str.ofString "element") 498, Value.str (Str.ofString "row") 499]) #[]) ::
(nat_lit 212, Obj.mk (Value.type "tuple") none (Data.seq #[]) #[]) ::
(nat_lit 214, Obj.mk (Value.type "code") none (Data.fields #[Value.str (Str.ofString "element_row") 494, Value.str (Str.ofString "Tree.element_row") 495, Value.str (Str.ofString "/claim/cut.py") 496, Value.int 143 0, Value.int 2 0, Value.int 0 0, Value.int 0 0, Value.int 3 0, Value.ref 209, Value.bool true, Value.int 181 0, Value.ref 210, Value.none, Value.ref 211, Value.ref 212, Value.ref 213, Value.int 500 0, Value.int 143 0, Value.str (Str.ofString "/claim/cut.py") 501]) #[]) ::
(nat_lit 215, fnIn 17 9 rfl (Str.ofString "Tree.element_row") (Value.str (Str.ofString "markupmill.tree") 347) 214) ::
(nat_lit 216, Obj.mk (Value.type "tuple") none (Data.seq #[]) #[]) ::
(nat_lit 218, Obj.mk (Value.type "tuple") none (Data.seq #[Value.str (Str.ofString "self") 506, Value.str (Str.ofString "element") 507, Value.str (Str.ofString "name") 508, Value.str (Str.ofString "uri") 509, Value.str (Str.ofString "local") 510, Value.str (Str.ofString "value") 511, Value.str (Str.ofString "row") 512, Value.str (Str.ofString "node") 513, Value.str (Str.ofString "known") 514]) #[]) ::
(nat_lit 219, Obj.mk (Value.type "tuple") none (Data.seq #[]) #[]) ::
(nat_lit 221, Obj.mk (Value.type "code") none (Data.fields #[Value.str (Str.ofString "set_attribute") 503, Value.str (Str.ofString "Tree.set_attribute") 504, Value.str (Str.ofString "/claim/cut.py") 505, Value.int 149 0, Value.int 6 0, Value.int 0 0, Value.int 0 0, Value.int 3 0, Value.ref 216, Value.bool true, Value.int 181 0, Value.ref 217, Value.none, Value.ref 218, Value.ref 219, Value.ref 220, Value.int 515 0, Value.int 149 0, Value.str (Str.ofString "/claim/cut.py") 516]) #[]) ::
(nat_lit 222, fnIn 17 10 rfl (Str.ofString "Tree.set_attribute") (Value.str (Str.ofString "markupmill.tree") 347) 221) ::
(nat_lit 223, Obj.mk (Value.type "tuple") none (Data.seq #[]) #[]) ::
(nat_lit 225, Obj.mk (Value.type "tuple") none (Data.seq #[Value.str (Str.ofString "self") 521, Value.str (Str.ofString "element") 522, Value.str (Str.ofString "prefix") 523, Value.str (Str.ofString "uri") 524]) #[]) ::
(nat_lit 226, Obj.mk (Value.type "tuple") none (Data.seq #[]) #[]) ::
(nat_lit 228, Obj.mk (Value.type "code") none (Data.fields #[Value.str (Str.ofString "add_namespace") 518, Value.str (Str.ofString "Tree.add_namespace") 519, Value.str (Str.ofString "/claim/cut.py") 520, Value.int 161 0, Value.int 4 0, Value.int 0 0, Value.int 0 0, Value.int 3 0, Value.ref 223, Value.bool true, Value.int 181 0, Value.ref 224, Value.none, Value.ref 225, Value.ref 226, Value.ref 227, Value.int 525 0, Value.int 161 0, Value.str (Str.ofString "/claim/cut.py") 526]) #[]) ::
(nat_lit 229, fnIn 17 11 rfl (Str.ofString "Tree.add_namespace") (Value.str (Str.ofString "markupmill.tree") 347) 228) ::
(nat_lit 230, Obj.mk (Value.type "tuple") none (Data.seq #[]) #[]) ::
(nat_lit 232, Obj.mk (Value.type "tuple") none (Data.seq #[Value.str (Str.ofString "self") 531, Value.str (Str.ofString "node") 532, Value.str (Str.ofString "value") 533]) #[]) ::
(nat_lit 233, Obj.mk (Value.type "tuple") none (Data.seq #[]) #[]) ::
(nat_lit 235, Obj.mk (Value.type "code") none (Data.fields #[Value.str (Str.ofString "set_value") 528, Value.str (Str.ofString "Tree.set_value") 529, Value.str (Str.ofString "/claim/cut.py") 530, Value.int 164 0, Value.int 3 0, Value.int 0 0, Value.int 0 0, Value.int 3 0, Value.ref 230, Value.bool true, Value.int 181 0, Value.ref 231, Value.none, Value.ref 232, Value.ref 233, Value.ref 234, Value.int 534 0, Value.int 164 0, Value.str (Str.ofString "/claim/cut.py") 535]) #[]) ::
(nat_lit 236, fnIn 17 12 rfl (Str.ofString "Tree.set_value") (Value.str (Str.ofString "markupmill.tree") 347) 235) ::
(nat_lit 237, Obj.mk (Value.type "tuple") none (Data.seq #[]) #[]) ::
(nat_lit 239, Obj.mk (Value.type "tuple") none (Data.seq #[Value.str (Str.ofString "self") 540, Value.str (Str.ofString "node") 541]) #[]) ::
(nat_lit 240, Obj.mk (Value.type "tuple") none (Data.seq #[]) #[]) ::
(nat_lit 242, Obj.mk (Value.type "code") none (Data.fields #[Value.str (Str.ofString "kind") 537, Value.str (Str.ofString "Tree.kind") 538, Value.str (Str.ofString "/claim/cut.py") 539, Value.int 167 0, Value.int 2 0, Value.int 0 0, Value.int 0 0, Value.int 3 0, Value.ref 237, Value.bool true, Value.int 181 0, Value.ref 238, Value.none, Value.ref 239, Value.ref 240, Value.ref 241, Value.int 542 0, Value.int 167 0, Value.str (Str.ofString "/claim/cut.py") 543]) #[]) ::
(nat_lit 243, fnIn 17 13 rfl (Str.ofString "Tree.kind") (Value.str (Str.ofString "markupmill.tree") 347) 242) ::
(nat_lit 244, Obj.mk (Value.type "tuple") none (Data.seq #[]) #[]) ::
(nat_lit 246, Obj.mk (Value.type "tuple") none (Data.seq #[Value.str (Str.ofString "self") 548, Value.str (Str.ofString "node") 549]) #[]) ::
(nat_lit 247, Obj.mk (Value.type "tuple") none (Data.seq #[]) #[]) ::
(nat_lit 249, Obj.mk (Value.type "code") none (Data.fields #[Value.str (Str.ofString "name") 545, Value.str (Str.ofString "Tree.name") 546, Value.str (Str.ofString "/claim/cut.py") 547, Value.int 170 0, Value.int 2 0, Value.int 0 0, Value.int 0 0, Value.int 3 0, Value.ref 244, Value.bool true, Value.int 181 0, Value.ref 245, Value.none, Value.ref 246, Value.ref 247, Value.ref 248, Value.int 550 0, Value.int 170 0, Value.str (Str.ofString "/claim/cut.py") 551]) #[]) ::
(nat_lit 250, fnIn 17 14 rfl (Str.ofString "Tree.name") (Value.str (Str.ofString "markupmill.tree") 347) 249) ::
(nat_lit 251, Obj.mk (Value.type "tuple") none (Data.seq #[]) #[]) ::
(nat_lit 253, Obj.mk (Value.type "tuple") none (Data.seq #[Value.str (Str.ofString "self") 556, Value.str (Str.ofString "node") 557]) #[]) ::
(nat_lit 254, Obj.mk (Value.type "tuple") none (Data.seq #[]) #[]) ::
(nat_lit 256, Obj.mk (Value.type "code") none (Data.fields #[Value.str (Str.ofString "uri") 553, Value.str (Str.ofString "Tree.uri") 554, Value.str (Str.ofString "/claim/cut.py") 555, Value.int 173 0, Value.int 2 0, Value.int 0 0, Value.int 0 0, Value.int 3 0, Value.ref 251, Value.bool true, Value.int 181 0, Value.ref 252, Value.none, Value.ref 253, Value.ref 254, Value.ref 255, Value.int 558 0, Value.int 173 0, Value.str (Str.ofString "/claim/cut.py") 559]) #[]) ::
(nat_lit 257, fnIn 17 15 rfl (Str.ofString "Tree.uri") (Value.str (Str.ofString "markupmill.tree") 347) 256) ::
(nat_lit 258, Obj.mk (Value.type "tuple") none (Data.seq #[]) #[]) ::
(nat_lit 260, Obj.mk (Value.type "tuple") none (Data.seq #[Value.str (Str.ofString "self") 564, Value.str (Str.ofString "node") 565]) #[]) ::
(nat_lit 261, Obj.mk (Value.type "tuple") none (Data.seq #[]) #[]) ::
(nat_lit 263, Obj.mk (Value.type "code") none (Data.fields #[Value.str (Str.ofString "local") 561, Value.str (Str.ofString "Tree.local") 562, Value.str (Str.ofString "/claim/cut.py") 563, Value.int 176 0, Value.int 2 0, Value.int 0 0, Value.int 0 0, Value.int 3 0, Value.ref 258, Value.bool true, Value.int 181 0, Value.ref 259, Value.none, Value.ref 260, Value.ref 261, Value.ref 262, Value.int 566 0, Value.int 176 0, Value.str (Str.ofString "/claim/cut.py") 567]) #[]) ::
(nat_lit 264, fnIn 17 16 rfl (Str.ofString "Tree.local") (Value.str (Str.ofString "markupmill.tree") 347) 263) ::
(nat_lit 265, Obj.mk (Value.type "tuple") none (Data.seq #[]) #[]) ::
(nat_lit 267, Obj.mk (Value.type "tuple") none (Data.seq #[Value.str (Str.ofString "self") 572, Value.str (Str.ofString "node") 573]) #[]) ::
(nat_lit 268, Obj.mk (Value.type "tuple") none (Data.seq #[]) #[]) ::
(nat_lit 270, Obj.mk (Value.type "code") none (Data.fields #[Value.str (Str.ofString "value") 569, Value.str (Str.ofString "Tree.value") 570, Value.str (Str.ofString "/claim/cut.py") 571, Value.int 179 0, Value.int 2 0, Value.int 0 0, Value.int 0 0, Value.int 3 0, Value.ref 265, Value.bool true, Value.int 181 0, Value.ref 266, Value.none, Value.ref 267, Value.ref 268, Value.ref 269, Value.int 574 0, Value.int 179 0, Value.str (Str.ofString "/claim/cut.py") 575]) #[]) ::
(nat_lit 271, fnIn 17 17 rfl (Str.ofString "Tree.value") (Value.str (Str.ofString "markupmill.tree") 347) 270) ::
(nat_lit 272, Obj.mk (Value.type "tuple") none (Data.seq #[]) #[]) ::
(nat_lit 274, Obj.mk (Value.type "tuple") none (Data.seq #[Value.str (Str.ofString "self") 580, Value.str (Str.ofString "node") 581]) #[]) ::
(nat_lit 275, Obj.mk (Value.type "tuple") none (Data.seq #[]) #[]) ::
(nat_lit 277, Obj.mk (Value.type "code") none (Data.fields #[Value.str (Str.ofString "parent") 577, Value.str (Str.ofString "Tree.parent") 578, Value.str (Str.ofString "/claim/cut.py") 579, Value.int 182 0, Value.int 2 0, Value.int 0 0, Value.int 0 0, Value.int 3 0, Value.ref 272, Value.bool true, Value.int 181 0, Value.ref 273, Value.none, Value.ref 274, Value.ref 275, Value.ref 276, Value.int 582 0, Value.int 182 0, Value.str (Str.ofString "/claim/cut.py") 583]) #[]) ::
(nat_lit 278, fnIn 17 18 rfl (Str.ofString "Tree.parent") (Value.str (Str.ofString "markupmill.tree") 347) 277) ::
(nat_lit 279, Obj.mk (Value.type "tuple") none (Data.seq #[]) #[]) ::
(nat_lit 281, Obj.mk (Value.type "tuple") none (Data.seq #[Value.str (Str.ofString "self") 588, Value.str (Str.ofString "node") 589]) #[]) ::
(nat_lit 282, Obj.mk (Value.type "tuple") none (Data.seq #[]) #[]) ::
(nat_lit 284, Obj.mk (Value.type "code") none (Data.fields #[Value.str (Str.ofString "children") 585, Value.str (Str.ofString "Tree.children") 586, Value.str (Str.ofString "/claim/cut.py") 587, Value.int 185 0, Value.int 2 0, Value.int 0 0, Value.int 0 0, Value.int 3 0, Value.ref 279, Value.bool true, Value.int 181 0, Value.ref 280, Value.none, Value.ref 281, Value.ref 282, Value.ref 283, Value.int 590 0, Value.int 185 0, Value.str (Str.ofString "/claim/cut.py") 591]) #[]) ::
(nat_lit 285, fnIn 17 19 rfl (Str.ofString "Tree.children") (Value.str (Str.ofString "markupmill.tree") 347) 284) ::
(nat_lit 286, Obj.mk (Value.type "tuple") none (Data.seq #[]) #[]) ::
(nat_lit 288, Obj.mk (Value.type "tuple") none (Data.seq #[Value.str (Str.ofString "self") 596, Value.str (Str.ofString "node") 597]) #[]) ::
(nat_lit 289, Obj.mk (Value.type "tuple") none (Data.seq #[]) #[]) ::
(nat_lit 291, Obj.mk (Value.type "code") none (Data.fields #[Value.str (Str.ofString "attributes") 593, Value.str (Str.ofString "Tree.attributes") 594, Value.str (Str.ofString "/claim/cut.py") 595, Value.int 188 0, Value.int 2 0, Value.int 0 0, Value.int 0 0, Value.int 3 0, Value.ref 286, Value.bool true, Value.int 181 0, Value.ref 287, Value.none, Value.ref 288, Value.ref 289, Value.ref 290, Value.int 598 0, Value.int 188 0, Value.str (Str.ofString "/claim/cut.py") 599]) #[]) ::
(nat_lit 292, fnIn 17 20 rfl (Str.ofString "Tree.attributes") (Value.str (Str.ofString "markupmill.tree") 347) 291) ::
(nat_lit 293, Obj.mk (Value.type "tuple") none (Data.seq #[]) #[]) ::
(nat_lit 295, Obj.mk (Value.type "tuple") none (Data.seq #[Value.str (Str.ofString "self") 604, Value.str (Str.ofString "node") 605]) #[]) ::
(nat_lit 296, Obj.mk (Value.type "tuple") none (Data.seq #[]) #[]) ::
(nat_lit 298, Obj.mk (Value.type "code") none (Data.fields #[Value.str (Str.ofString "namespaces") 601, Value.str (Str.ofString "Tree.namespaces") 602, Value.str (Str.ofString "/claim/cut.py") 603, Value.int 191 0, Value.int 2 0, Value.int 0 0, Value.int 0 0, Value.int 3 0, Value.ref 293, Value.bool true, Value.int 181 0, Value.ref 294, Value.none, Value.ref 295, Value.ref 296, Value.ref 297, Value.int 606 0, Value.int 191 0, Value.str (Str.ofString "/claim/cut.py") 607]) #[]) ::
(nat_lit 299, fnIn 17 21 rfl (Str.ofString "Tree.namespaces") (Value.str (Str.ofString "markupmill.tree") 347) 298) ::
(nat_lit 300, Obj.mk (Value.type "tuple") none (Data.seq #[]) #[]) ::
(nat_lit 302, Obj.mk (Value.type "tuple") none (Data.seq #[Value.str (Str.ofString "self") 612, Value.str (Str.ofString "node") 613]) #[]) ::
(nat_lit 303, Obj.mk (Value.type "tuple") none (Data.seq #[]) #[]) ::
(nat_lit 305, Obj.mk (Value.type "code") none (Data.fields #[Value.str (Str.ofString "root_of") 609, Value.str (Str.ofString "Tree.root_of") 610, Value.str (Str.ofString "/claim/cut.py") 611, Value.int 194 0, Value.int 2 0, Value.int 0 0, Value.int 0 0, Value.int 3 0, Value.ref 300, Value.bool true, Value.int 181 0, Value.ref 301, Value.none, Value.ref 302, Value.ref 303, Value.ref 304, Value.int 614 0, Value.int 194 0, Value.str (Str.ofString "/claim/cut.py") 615]) #[]) ::
(nat_lit 306, fnIn 17 22 rfl (Str.ofString "Tree.root_of") (Value.str (Str.ofString "markupmill.tree") 347) 305) ::
(nat_lit 307, Obj.mk (Value.type "tuple") none (Data.seq #[]) #[]) ::
(nat_lit 309, Obj.mk (Value.type "tuple") none (Data.seq #[Value.str (Str.ofString "self") 620, Value.str (Str.ofString "node") 621, Value.str (Str.ofString "other") 622]) #[]) ::
(nat_lit 310, Obj.mk (Value.type "tuple") none (Data.seq #[]) #[]) ::
(nat_lit 312, Obj.mk (Value.type "code") none (Data.fields #[Value.str (Str.ofString "is_above") 617, Value.str (Str.ofString "Tree.is_above") 618, Value.str (Str.ofString "/claim/cut.py") 619, Value.int 199 0, Value.int 3 0, Value.int 0 0, Value.int 0 0, Value.int 3 0, Value.ref 307, Value.bool true, Value.int 181 0, Value.ref 308, Value.none, Value.ref 309, Value.ref 310, Value.ref 311, Value.int 623 0, Value.int 199 0, Value.str (Str.ofString "/claim/cut.py") 624]) #[]) ::
(nat_lit 313, fnIn 17 23 rfl (Str.ofString "Tree.is_above") (Value.str (Str.ofString "markupmill.tree") 347) 312) ::
(nat_lit 314, Obj.mk (Value.type "tuple") none (Data.seq #[]) #[]) ::
(nat_lit 316, Obj.mk (Value.type "tuple") none (Data.seq #[Value.str (Str.ofString "self") 629, Value.str (Str.ofString "element") 630, Value.str (Str.ofString "uri") 631, Value.str (Str.ofString "local") 632]) #[]) ::
(nat_lit 317, Obj.mk (Value.type "tuple") none (Data.seq #[]) #[]) ::
(nat_lit 319, Obj.mk (Value.type "code") none (Data.fields #[Value.str (Str.ofString "attribute_value") 626, Value.str (Str.ofString "Tree.attribute_value") 627, Value.str (Str.ofString "/claim/cut.py") 628, Value.int 202 0, Value.int 4 0, Value.int 0 0, Value.int 0 0, Value.int 3 0, Value.ref 314, Value.bool true, Value.int 181 0, Value.ref 315, Value.none, Value.ref 316, Value.ref 317, Value.ref 318, Value.int 633 0, Value.int 202 0, Value.str (Str.ofString "/claim/cut.py") 634]) #[]) ::
(nat_lit 320, fnIn 17 24 rfl (Str.ofString "Tree.attribute_value") (Value.str (Str.ofString "markupmill.tree") 347) 319) ::
(nat_lit 321, Obj.mk (Value.type "tuple") none (Data.seq #[Value.str (Str.ofString "rows") 636]) #[]) ::
(nat_lit 322, Obj.mk (Value.type "dict") none (Data.dict #[DictEntry.mk (PyData.keyHash P (Str.ofString "__module__")) (Value.str (Str.ofString "__module__") 401) (Value.str (Str.ofString "markupmill.tree") 347), DictEntry.mk (PyData.keyHash P (Str.ofString "__firstlineno__")) (Value.str (Str.ofString "__firstlineno__") 405) (Value.int 106 404), DictEntry.mk (PyData.keyHash P (Str.ofString "__init__")) (Value.str (Str.ofString "__init__") 412) (Value.ref 152), DictEntry.mk (PyData.keyHash P (Str.ofString "new_row")) (Value.str (Str.ofString "new_row") 425) (Value.ref 159), DictEntry.mk (PyData.keyHash P (Str.ofString "row")) (Value.str (Str.ofString "row") 433) (Value.ref 166), DictEntry.mk (PyData.keyHash P (Str.ofString "new_root")) (Value.str (Str.ofString "new_root") 440) (Value.ref 173), DictEntry.mk (PyData.keyHash P (Str.ofString "add_child")) (Value.str (Str.ofString "add_child") 454) (Value.ref 180), DictEntry.mk (PyData.keyHash P (Str.ofString "add_element")) (Value.str (Str.ofString "add_element") 465) (Value.ref 187), DictEntry.mk (PyData.keyHash P (Str.ofString "add_text")) (Value.str (Str.ofString "add_text") 474) (Value.ref 194), DictEntry.mk (PyData.keyHash P (Str.ofString "add_comment")) (Value.str (Str.ofString "add_comment") 483) (Value.ref 201), DictEntry.mk (PyData.keyHash P (Str.ofString "add_instruction")) (Value.str (Str.ofString "add_instruction") 493) (Value.ref 208), DictEntry.mk (PyData.keyHash P (Str.ofString "element_row")) (Value.str (Str.ofString "element_row") 502) (Value.ref 215), DictEntry.mk (PyData.keyHash P (Str.ofString "set_attribute")) (Value.str (Str.ofString "set_attribute") 517) (Value.ref 222), DictEntry.mk (PyData.keyHash P (Str.ofString "add_namespace")) (Value.str (Str.ofString "add_namespace") 527) (Value.ref 229), DictEntry.mk (PyData.keyHash P (Str.ofString "set_value")) (Value.str (Str.ofString "set_value") 536) (Value.ref 236), DictEntry.mk (PyData.keyHash P (Str.ofString "kind")) (Value.str (Str.ofString "kind") 544) (Value.ref 243), DictEntry.mk (PyData.keyHash P (Str.ofString "name")) (Value.str (Str.ofString "name") 552) (Value.ref 250), DictEntry.mk (PyData.keyHash P (Str.ofString "uri")) (Value.str (Str.ofString "uri") 560) (Value.ref 257), DictEntry.mk (PyData.keyHash P (Str.ofString "local")) (Value.str (Str.ofString "local") 568) (Value.ref 264), DictEntry.mk (PyData.keyHash P (Str.ofString "value")) (Value.str (Str.ofString "value") 576) (Value.ref 271), DictEntry.mk (PyData.keyHash P (Str.ofString "parent")) (Value.str (Str.ofString "parent") 584) (Value.ref 278), DictEntry.mk (PyData.keyHash P (Str.ofString "children")) (Value.str (Str.ofString "children") 592) (Value.ref 285), DictEntry.mk (PyData.keyHash P (Str.ofString "attributes")) (Value.str (Str.ofString "attributes") 600) (Value.ref 292), DictEntry.mk (PyData.keyHash P (Str.ofString "namespaces")) (Value.str (Str.ofString "namespaces") 608) (Value.ref 299), DictEntry.mk (PyData.keyHash P (Str.ofString "root_of")) (Value.str (Str.ofString "root_of") 616) (Value.ref 306), DictEntry.mk (PyData.keyHash P (Str.ofString "is_above")) (Value.str (Str.ofString "is_above") 625) (Value.ref 313), DictEntry.mk (PyData.keyHash P (Str.ofString "attribute_value")) (Value.str (Str.ofString "attribute_value") 635) (Value.ref 320), DictEntry.mk (PyData.keyHash P (Str.ofString "__static_attributes__")) (Value.str (Str.ofString "__static_attributes__") 637) (Value.ref 321), DictEntry.mk (PyData.keyHash P (Str.ofString "__dict__")) (Value.str (Str.ofString "__dict__") 639) (Value.ref 324), DictEntry.mk (PyData.keyHash P (Str.ofString "__weakref__")) (Value.str (Str.ofString "__weakref__") 641) (Value.ref 325), DictEntry.mk (PyData.keyHash P (Str.ofString "__doc__")) (Value.str (Str.ofString "__doc__") 642) Value.none] 4) #[]) ::
(nat_lit 323, Obj.mk (Value.type "type") none (Data.cls (ClassData.mk (Str.ofString "Tree") [Value.type "object"] [Value.ref 323, Value.type "object"] 322 (Str.ofString "Tree") true [] [] false none false)) #[none, none, some (Value.str (Str.ofString "Tree") 394), some (Value.str (Str.ofString "Tree") 402), some (Value.builtin "object.__new__"), some (Value.bool true)]) ::
(nat_lit 324, Obj.mk (Value.type "getset_descriptor") none (Data.fields #[Value.str (Str.ofString "__dict__") 638, Value.ref 323, Value.builtin "function.__dict__", Value.builtin "function.__dict__#set"]) #[]) ::
(nat_lit 325, Obj.mk (Value.type "getset_descriptor") none (Data.fields #[Value.str (Str.ofString "__weakref__") 640, Value.ref 323, Value.builtin "ExceptionGroup.__weakref__", Value.none]) #[]) ::
(nat_lit 328, Obj.mk (Value.type "tuple") none (Data.seq #[]) #[]) ::
(nat_lit 330, Obj.mk (Value.type "tuple") none (Data.seq #[Value.str (Str.ofString "script") 650, Value.str (Str.ofString "k") 651, Value.str (Str.ofString "cell") 652, Value.str (Str.ofString "big") 653, Value.str (Str.ofString "mixed") 654]) #[]) ::
(nat_lit 331, Obj.mk (Value.type "tuple") none (Data.seq #[]) #[]) ::
(nat_lit 333, Obj.mk (Value.type "code") none (Data.fields #[Value.str (Str.ofString "_law_pool") 647, Value.str (Str.ofString "_law_pool") 648, Value.str (Str.ofString "/claim/cut.py") 649, Value.int 205 0, Value.int 2 0, Value.int 0 0, Value.int 0 0, Value.int 3 0, Value.ref 328, Value.bool true, Value.int 181 0, Value.ref 329, Value.none, Value.ref 330, Value.ref 331, Value.ref 332, Value.int 655 0, Value.int 205 0, Value.str (Str.ofString "/claim/cut.py") 656]) #[]) ::
(nat_lit 334, fnTop 19 rfl (Str.ofString "_law_pool") (Value.str (Str.ofString "law_nu0060_01") 645) 333) ::
(nat_lit 335, Obj.mk (Value.type "tuple") none (Data.seq #[]) #[]) ::
(nat_lit 337, Obj.mk (Value.type "tuple") none (Data.seq #[Value.str (Str.ofString "source") 661, Value.str (Str.ofString "top") 662, Value.str (Str.ofString "drawn") 663]) #[]) ::
(nat_lit 338, Obj.mk (Value.type "tuple") none (Data.seq #[]) #[]) ::
(nat_lit 340, Obj.mk (Value.type "code") none (Data.fields #[Value.str (Str.ofString "_law_take") 658, Value.str (Str.ofString "_law_take") 659, Value.str (Str.ofString "/claim/cut.py") 660, Value.int 210 0, Value.int 2 0, Value.int 0 0, Value.int 0 0, Value.int 3 0, Value.ref 335, Value.bool true, Value.int 181 0, Value.ref 336, Value.none, Value.ref 337, Value.ref 338, Value.ref 339, Value.int 664 0, Value.int 210 0, Value.str (Str.ofString "/claim/cut.py") 665]) #[]) ::
(nat_lit 341, fnTop 20 rfl (Str.ofString "_law_take") (Value.str (Str.ofString "law_nu0060_01") 645) 340) ::
(nat_lit 342, Obj.mk (Value.type "tuple") none (Data.seq #[]) #[]) ::
(nat_lit 344, Obj.mk (Value.type "tuple") none (Data.seq #[Value.str (Str.ofString "source") 670, Value.str (Str.ofString "things") 671]) #[]) ::
(nat_lit 345, Obj.mk (Value.type "tuple") none (Data.seq #[]) #[]) ::
(nat_lit 347, Obj.mk (Value.type "code") none (Data.fields #[Value.str (Str.ofString "_law_one") 667, Value.str (Str.ofString "_law_one") 668, Value.str (Str.ofString "/claim/cut.py") 669, Value.int 217 0, Value.int 2 0, Value.int 0 0, Value.int 0 0, Value.int 3 0, Value.ref 342, Value.bool true, Value.int 181 0, Value.ref 343, Value.none, Value.ref 344, Value.ref 345, Value.ref 346, Value.int 672 0, Value.int 217 0, Value.str (Str.ofString "/claim/cut.py") 673]) #[]) ::
(nat_lit 348, fnTop 21 rfl (Str.ofString "_law_one") (Value.str (Str.ofString "law_nu0060_01") 645) 347) ::
(nat_lit 349, Obj.mk (Value.type "tuple") none (Data.seq #[]) #[]) ::
(nat_lit 351, Obj.mk (Value.type "tuple") none (Data.seq #[Value.str (Str.ofString "source") 678, Value.str (Str.ofString "tree") 679, Value.str (Str.ofString "rows") 680, Value.str (Str.ofString "last") 681, Value.str (Str.ofString "turn") 682, Value.str (Str.ofString "deep") 683, Value.str (Str.ofString "name") 684]) #[]) ::
(nat_lit 352, Obj.mk (Value.type "tuple") none (Data.seq #[]) #[]) ::
(nat_lit 354, Obj.mk (Value.type "code") none (Data.fields #[Value.str (Str.ofString "_law_grown") 675, Value.str (Str.ofString "_law_grown") 676, Value.str (Str.ofString "/claim/cut.py") 677, Value.int 219 0, Value.int 2 0, Value.int 0 0, Value.int 0 0, Value.int 3 0, Value.ref 349, Value.bool true, Value.int 181 0, Value.ref 350, Value.none, Value.ref 351, Value.ref 352, Value.ref 353, Value.int 685 0, Value.int 219 0, Value.str (Str.ofString "/claim/cut.py") 686]) #[]) ::
(nat_lit 355, fnTop 22 rfl (Str.ofString "_law_grown") (Value.str (Str.ofString "law_nu0060_01") 645) 354) ::
(nat_lit 356, Obj.mk (Value.type "tuple") none (Data.seq #[]) #[]) ::
(nat_lit 358, Obj.mk (Value.type "tuple") none (Data.seq #[Value.str (Str.ofString "rows") 691, Value.str (Str.ofString "at") 692, Value.str (Str.ofString "begin") 693, Value.str (Str.ofString "found") 694]) #[]) ::
(nat_lit 359, Obj.mk (Value.type "tuple") none (Data.seq #[]) #[]) ::
(nat_lit 361, Obj.mk (Value.type "code") none (Data.fields #[Value.str (Str.ofString "_law_upwards") 688, Value.str (Str.ofString "_law_upwards") 689, Value.str (Str.ofString "/claim/cut.py") 690, Value.int 232 0, Value.int 3 0, Value.int 0 0, Value.int 0 0, Value.int 3 0, Value.ref 356, Value.bool true, Value.int 181 0, Value.ref 357, Value.none, Value.ref 358, Value.ref 359, Value.ref 360, Value.int 695 0, Value.int 232 0, Value.str (Str.ofString "/claim/cut.py") 696]) #[]) ::
(nat_lit 362, fnTop 23 rfl (Str.ofString "_law_upwards") (Value.str (Str.ofString "law_nu0060_01") 645) 361) ::
(nat_lit 363, Obj.mk (Value.type "tuple") none (Data.seq #[]) #[]) ::
(nat_lit 366, Obj.mk (Value.type "code") none (Data.fields #[Value.str (Str.ofString "_law_among") 698, Value.str (Str.ofString "_law_among") 699, Value.str (Str.ofString "/claim/cut.py") 700, Value.int 237 0, Value.int 3 0, Value.int 0 0, Value.int 0 0, Value.int 3 0, Value.ref 363, Value.bool true, Value.int 181 0, Value.ref 364, Value.none, Value.none, Value.none, Value.ref 365, Value.int 701 0, Value.int 237 0, Value.str (Str.ofString "/claim/cut.py") 702]) #[]) ::
(nat_lit 367, fnTop 24 rfl (Str.ofString "_law_among") (Value.str (Str.ofString "law_nu0060_01") 645) 366) ::
(nat_lit 368, Obj.mk (Value.type "tuple") none (Data.seq #[]) #[]) ::
(nat_lit 371, Obj.mk (Value.type "code") none (Data.fields #[Value.str (Str.ofString "_law_due") 704, Value.str (Str.ofString "_law_due") 705, Value.str (Str.ofString "/claim/cut.py") 706, Value.int 239 0, Value.int 5 0, Value.int 0 0, Value.int 0 0, Value.int 3 0, Value.ref 368, Value.bool true, Value.int 181 0, Value.ref 369, Value.none, Value.none, Value.none, Value.ref 370, Value.int 707 0, Value.int 239 0, Value.str (Str.ofString "/claim/cut.py") 708]) #[]) ::
(nat_lit 372, fnTop 25 rfl (Str.ofString "_law_due") (Value.str (Str.ofString "law_nu0060_01") 645) 371) ::
(nat_lit 373, Obj.mk (Value.type "tuple") none (Data.seq #[]) #[]) ::
(nat_lit 376, Obj.mk (Value.type "code") none (Data.fields #[Value.str (Str.ofString "_law_attribute_right") 710, Value.str (Str.ofString "_law_attribute_right") 711, Value.str (Str.ofString "/claim/cut.py") 712, Value.int 248 0, Value.int 4 0, Value.int 0 0, Value.int 0 0, Value.int 3 0, Value.ref 373, Value.bool true, Value.int 181 0, Value.ref 374, Value.none, Value.none, Value.none, Value.ref 375, Value.int 713 0, Value.int 248 0, Value.str (Str.ofString "/claim/cut.py") 714]) #[]) ::
(nat_lit 377, fnTop 26 rfl (Str.ofString "_law_attribute_right") (Value.str (Str.ofString "law_nu0060_01") 645) 376) ::
(nat_lit 378, Obj.mk (Value.type "tuple") none (Data.seq #[]) #[]) ::
(nat_lit 381, Obj.mk (Value.type "code") none (Data.fields #[Value.str (Str.ofString "law") 716, Value.str (Str.ofString "law") 717, Value.str (Str.ofString "/claim/cut.py") 718, Value.int 268 0, Value.int 1 0, Value.int 0 0, Value.int 0 0, Value.int 3 0, Value.ref 378, Value.bool true, Value.int 181 0, Value.ref 379, Value.none, Value.none, Value.none, Value.ref 380, Value.int 719 0, Value.int 268 0, Value.str (Str.ofString "/claim/cut.py") 720]) #[]) ::
(nat_lit 382, fnTop 27 rfl (Str.ofString "law") (Value.str (Str.ofString "law_nu0060_01") 645) 381) :: []
def hd.addrs : List Addr := [2, 3, 15, 17, 18, 20, 21, 22, 24, 25, 27, 28, 29, 31, 32, 34, 35, 36, 38, 39, 41, 42, 43, 45, 46, 48, 49, 50, 52, 53, 55, 56, 57, 59, 60, 62, 63, 64, 66, 67, 69, 70, 71, 73, 74, 76, 77, 78, 80, 81, 83, 84, 85, 92, 94, 95, 97, 98, 99, 100, 101, 102, 105, 112, 113, 114, 117, 125, 127, 128, 130, 131, 132, 133, 134, 135, 136, 146, 148, 149, 151, 152, 153, 155, 156, 158, 159, 160, 162, 163, 165, 166, 167, 169, 170, 172, 173, 174, 176, 177, 179, 180, 181, 183, 184, 186, 187, 188, 190, 191, 193, 194, 195, 197, 198, 200, 201, 202, 204, 205, 207, 208, 209, 211, 212, 214, 215, 216, 218, 219, 221, 222, 223, 225, 226, 228, 229, 230, 232, 233, 235, 236, 237, 239, 240, 242, 243, 244, 246, 247, 249, 250, 251, 253, 254, 256, 257, 258, 260, 261, 263, 264, 265, 267, 268, 270, 271, 272, 274, 275, 277, 278, 279, 281, 282, 284, 285, 286, 288, 289, 291, 292, 293, 295, 296, 298, 299, 300, 302, 303, 305, 306, 307, 309, 310, 312, 313, 314, 316, 317, 319, 320, 321, 322, 323, 324, 325, 328, 330, 331, 333, 334, 335, 337, 338, 340, 341, 342, 344, 345, 347, 348, 349, 351, 352, 354, 355, 356, 358, 359, 361, 362, 363, 366, 367, 368, 371, 372, 373, 376, 377, 378, 381, 382]
noncomputable abbrev pickView {x0 x1 x2 x3 x4 x5 x6 x7 x8 x9 x10 x11 x12 x13 x14 x15 x16 x17 x18 x19 x20 x21 x22 x23 x24 x25 x26 x27 : Stmt}
  (_ : PySem.Challenge.pw_nu0060_01.main.body = [x0, x1, x2, x3, x4, x5, x6, x7, x8, x9, x10, x11, x12, x13, x14, x15, x16, x17, x18, x19, x20, x21, x22, x23, x24, x25, x26, x27]) : List Stmt :=
  [x0, x2, x3, x4, x5, x6, x7, x8, x9, x10, x12, x13, x15, x16, x17, x19, x20, x21, x22, x23, x24, x25, x26, x27]
noncomputable def viewBody : List Stmt := pickView rfl
/-- the top, without its four plain names -/
noncomputable def hd.view_39 : Program := { PySem.Challenge.pw_nu0060_01 with main := { PySem.Challenge.pw_nu0060_01.main with body := viewBody } }
theorem addrs_eq : ∀ P, hd.addrs = (hd.heap_39 P).map (·.1) := fun _ => by kernel_rfl
noncomputable abbrev cdTop (i : Nat) {n : Str} {a : Arguments} {b : List Stmt} {d : List PySem.Expr} {r : Option PySem.Expr} {t : List TypeParam} {sc : Scope} {ts : Option Scope} {bd : Str} {p : Pos} (_ : topAt i = some (.FunctionDef n a b d r t sc ts bd p)) (qual : Str) : Obj := Obj.mk Value.none none (Data.func (FuncData.mk n qual a (.stmts b) sc 0 [] Value.none Value.none Value.none Value.none none Value.none Value.none 0)) #[]
noncomputable abbrev cdIn (i j : Nat) {n : Str} {a : Arguments} {b : List Stmt} {d : List PySem.Expr} {r : Option PySem.Expr} {t : List TypeParam} {sc : Scope} {ts : Option Scope} {bd : Str} {p : Pos} (_ : inAt i j = some (.FunctionDef n a b d r t sc ts bd p)) (qual : Str) : Obj := Obj.mk Value.none none (Data.func (FuncData.mk n qual a (.stmts b) sc 0 [] Value.none Value.none Value.none Value.none none Value.none Value.none 0)) #[]
/-- the objects of the last heap that heap_39 leaves out -/
noncomputable def hd.rest : Params → List (Addr × Obj) := fun P =>
(nat_lit 0, Obj.mk (Value.type "dict") none (Data.dict #[DictEntry.mk (PyData.keyHash P (Str.ofString "__name__")) (Value.str (Str.ofString "__name__") 1) (Value.str (Str.ofString "builtins") 160), DictEntry.mk (PyData.keyHash P (Str.ofString "__doc__")) (Value.str (Str.ofString "__doc__") 2) (Value.builtin "builtins.__doc__:str#opaque"), DictEntry.mk (PyData.keyHash P (Str.ofString "__package__")) (Value.str (Str.ofString "__package__") 3) (Value.builtin "builtins.__package__:str#opaque"), DictEntry.mk (PyData.keyHash P (Str.ofString "__loader__")) (Value.str (Str.ofString "__loader__") 4) (Value.builtin "builtins.__loader__:shared#opaque"), DictEntry.mk (PyData.keyHash P (Str.ofString "__spec__")) (Value.str (Str.ofString "__spec__") 5) (Value.builtin "builtins.__spec__#opaque"), DictEntry.mk (PyData.keyHash P (Str.ofString "__build_class__")) (Value.str (Str.ofString "__build_class__") 6) (Value.builtin "__build_class__"), DictEntry.mk (PyData.keyHash P (Str.ofString "__import__")) (Value.str (Str.ofString "__import__") 7) (Value.builtin "__import__"), DictEntry.mk (PyData.keyHash P (Str.ofString "abs")) (Value.str (Str.ofString "abs") 8) (Value.builtin "abs"), DictEntry.mk (PyData.keyHash P (Str.ofString "all")) (Value.str (Str.ofString "all") 9) (Value.builtin "all"), DictEntry.mk (PyData.keyHash P (Str.ofString "any")) (Value.str (Str.ofString "any") 10) (Value.builtin "any"), DictEntry.mk (PyData.keyHash P (Str.ofString "ascii")) (Value.str (Str.ofString "ascii") 11) (Value.builtin "ascii"), DictEntry.mk (PyData.keyHash P (Str.ofString "bin")) (Value.str (Str.ofString "bin") 12) (Value.builtin "bin"), DictEntry.mk (PyData.keyHash P (Str.ofString "breakpoint")) (Value.str (Str.ofString "breakpoint") 13) (Value.builtin "breakpoint"), DictEntry.mk (PyData.keyHash P (Str.ofString "callable")) (Value.str (Str.ofString "callable") 14) (Value.builtin "callable"), DictEntry.mk (PyData.keyHash P (Str.ofString "chr")) (Value.str (Str.ofString "chr") 15) (Value.builtin "chr"), DictEntry.mk (PyData.keyHash P (Str.ofString "compile")) (Value.str (Str.ofString "compile") 16) (Value.builtin "compile"), DictEntry.mk (PyData.keyHash P (Str.ofString "delattr")) (Value.str (Str.ofString "delattr") 17) (Value.builtin "delattr"), DictEntry.mk (PyData.keyHash P (Str.ofString "dir")) (Value.str (Str.ofString "dir") 18) (Value.builtin "dir"), DictEntry.mk (PyData.keyHash P (Str.ofString "divmod")) (Value.str (Str.ofString "divmod") 19) (Value.builtin "divmod"), DictEntry.mk (PyData.keyHash P (Str.ofString "eval")) (Value.str (Str.ofString "eval") 20) (Value.builtin "eval"), DictEntry.mk (PyData.keyHash P (Str.ofString "exec")) (Value.str (Str.ofString "exec") 21) (Value.builtin "exec"), DictEntry.mk (PyData.keyHash P (Str.ofString "format")) (Value.str (Str.ofString "format") 22) (Value.builtin "format"), DictEntry.mk (PyData.keyHash P (Str.ofString "getattr")) (Value.str (Str.ofString "getattr") 23) (Value.builtin "getattr"), DictEntry.mk (PyData.keyHash P (Str.ofString "globals")) (Value.str (Str.ofString "globals") 24) (Value.builtin "globals"), DictEntry.mk (PyData.keyHash P (Str.ofString "hasattr")) (Value.str (Str.ofString "hasattr") 25) (Value.builtin "hasattr"), DictEntry.mk (PyData.keyHash P (Str.ofString "hash")) (Value.str (Str.ofString "hash") 26) (Value.builtin "hash"), DictEntry.mk (PyData.keyHash P (Str.ofString "hex")) (Value.str (Str.ofString "hex") 27) (Value.builtin "hex"), DictEntry.mk (PyData.keyHash P (Str.ofString "id")) (Value.str (Str.ofString "id") 28) (Value.builtin "id"), DictEntry.mk (PyData.keyHash P (Str.ofString "input")) (Value.str (Str.ofString "input") 29) (Value.builtin "input"), DictEntry.mk (PyData.keyHash P (Str.ofString "isinstance")) (Value.str (Str.ofString "isinstance") 30) (Value.builtin "isinstance"), DictEntry.mk (PyData.keyHash P (Str.ofString "issubclass")) (Value.str (Str.ofString "issubclass") 31) (Value.builtin "issubclass"), DictEntry.mk (PyData.keyHash P (Str.ofString "iter")) (Value.str (Str.ofString "iter") 32) (Value.builtin "iter"), DictEntry.mk (PyData.keyHash P (Str.ofString "aiter")) (Value.str (Str.ofString "aiter") 33) (Value.builtin "aiter"), DictEntry.mk (PyData.keyHash P (Str.ofString "len")) (Value.str (Str.ofString "len") 34) (Value.builtin "len"), DictEntry.mk (PyData.keyHash P (Str.ofString "locals")) (Value.str (Str.ofString "locals") 35) (Value.builtin "locals"), DictEntry.mk (PyData.keyHash P (Str.ofString "max")) (Value.str (Str.ofString "max") 36) (Value.builtin "max"), DictEntry.mk (PyData.keyHash P (Str.ofString "min")) (Value.str (Str.ofString "min") 37) (Value.builtin "min"), DictEntry.mk (PyData.keyHash P (Str.ofString "next")) (Value.str (Str.ofString "next") 38) (Value.builtin "next"), DictEntry.mk (PyData.keyHash P (Str.ofString "anext")) (Value.str (Str.ofString "anext") 39) (Value.builtin "anext"), DictEntry.mk (PyData.keyHash P (Str.ofString "oct")) (Value.str (Str.ofString "oct") 40) (Value.builtin "oct"), DictEntry.mk (PyData.keyHash P (Str.ofString "ord")) (Value.str (Str.ofString "ord") 41) (Value.builtin "ord"), DictEntry.mk (PyData.keyHash P (Str.ofString "pow")) (Value.str (Str.ofString "pow") 42) (Value.builtin "pow"), DictEntry.mk (PyData.keyHash P (Str.ofString "print")) (Value.str (Str.ofString "print") 43) (Value.builtin "print"), DictEntry.mk (PyData.keyHash P (Str.ofString "repr")) (Value.str (Str.ofString "repr") 44) (Value.builtin "repr"), DictEntry.mk (PyData.keyHash P (Str.ofString "round")) (Value.str (Str.ofString "round") 45) (Value.builtin "round"), DictEntry.mk (PyData.keyHash P (Str.ofString "setattr")) (Value.str (Str.ofString "setattr") 46) (Value.builtin "setattr"), DictEntry.mk (PyData.keyHash P (Str.ofString "sorted")) (Value.str (Str.ofString "sorted") 47) (Value.builtin "sorted"), DictEntry.mk (PyData.keyHash P (Str.ofString "sum")) (Value.str (Str.ofString "sum") 48) (Value.builtin "sum"), DictEntry.mk (PyData.keyHash P (Str.ofString "vars")) (Value.str (Str.ofString "vars") 49) (Value.builtin "vars"), DictEntry.mk (PyData.keyHash P (Str.ofString "None")) (Value.str (Str.ofString "None") 50) Value.none, DictEntry.mk (PyData.keyHash P (Str.ofString "Ellipsis")) (Value.str (Str.ofString "Ellipsis") 51) Value.ellipsis, DictEntry.mk (PyData.keyHash P (Str.ofString "NotImplemented")) (Value.str (Str.ofString "NotImplemented") 52) Value.notImplemented, DictEntry.mk (PyData.keyHash P (Str.ofString "False")) (Value.str (Str.ofString "False") 53) (Value.bool false), DictEntry.mk (PyData.keyHash P (Str.ofString "True")) (Value.str (Str.ofString "True") 54) (Value.bool true), DictEntry.mk (PyData.keyHash P (Str.ofString "bool")) (Value.str (Str.ofString "bool") 55) (Value.type "bool"), DictEntry.mk (PyData.keyHash P (Str.ofString "memoryview")) (Value.str (Str.ofString "memoryview") 56) (Value.type "memoryview"), DictEntry.mk (PyData.keyHash P (Str.ofString "bytearray")) (Value.str (Str.ofString "bytearray") 57) (Value.type "bytearray"), DictEntry.mk (PyData.keyHash P (Str.ofString "bytes")) (Value.str (Str.ofString "bytes") 58) (Value.type "bytes"), DictEntry.mk (PyData.keyHash P (Str.ofString "classmethod")) (Value.str (Str.ofString "classmethod") 59) (Value.type "classmethod"), DictEntry.mk (PyData.keyHash P (Str.ofString "complex")) (Value.str (Str.ofString "complex") 60) (Value.type "complex"), DictEntry.mk (PyData.keyHash P (Str.ofString "dict")) (Value.str (Str.ofString "dict") 61) (Value.type "dict"), DictEntry.mk (PyData.keyHash P (Str.ofString "enumerate")) (Value.str (Str.ofString "enumerate") 62) (Value.type "enumerate"), DictEntry.mk (PyData.keyHash P (Str.ofString "filter")) (Value.str (Str.ofString "filter") 63) (Value.type "filter"), DictEntry.mk (PyData.keyHash P (Str.ofString "float")) (Value.str (Str.ofString "float") 64) (Value.type "float"), DictEntry.mk (PyData.keyHash P (Str.ofString "frozenset")) (Value.str (Str.ofString "frozenset") 65) (Value.type "frozenset"), DictEntry.mk (PyData.keyHash P (Str.ofString "property")) (Value.str (Str.ofString "property") 66) (Value.type "property"), DictEntry.mk (PyData.keyHash P (Str.ofString "int")) (Value.str (Str.ofString "int") 67) (Value.type "int"), DictEntry.mk (PyData.keyHash P (Str.ofString "list")) (Value.str (Str.ofString "list") 68) (Value.type "list"), DictEntry.mk (PyData.keyHash P (Str.ofString "map")) (Value.str (Str.ofString "map") 69) (Value.type "map"), DictEntry.mk (PyData.keyHash P (Str.ofString "object")) (Value.str (Str.ofString "object") 70) (Value.type "object"), DictEntry.mk (PyData.keyHash P (Str.ofString "range")) (Value.str (Str.ofString "range") 71) (Value.type "range"), DictEntry.mk (PyData.keyHash P (Str.ofString "reversed")) (Value.str (Str.ofString "reversed") 72) (Value.type "reversed"), DictEntry.mk (PyData.keyHash P (Str.ofString "set")) (Value.str (Str.ofString "set") 73) (Value.type "set"), DictEntry.mk (PyData.keyHash P (Str.ofString "slice")) (Value.str (Str.ofString "slice") 74) (Value.type "slice"), DictEntry.mk (PyData.keyHash P (Str.ofString "staticmethod")) (Value.str (Str.ofString "staticmethod") 75) (Value.type "staticmethod"), DictEntry.mk (PyData.keyHash P (Str.ofString "str")) (Value.str (Str.ofString "str") 76) (Value.type "str"), DictEntry.mk (PyData.keyHash P (Str.ofString "super")) (Value.str (Str.ofString "super") 77) (Value.type "super"), DictEntry.mk (PyData.keyHash P (Str.ofString "tuple")) (Value.str (Str.ofString "tuple") 78) (Value.type "tuple"), DictEntry.mk (PyData.keyHash P (Str.ofString "type")) (Value.str (Str.ofString "type") 79) (Value.type "type"), DictEntry.mk (PyData.keyHash P (Str.ofString "zip")) (Value.str (Str.ofString "zip") 80) (Value.type "zip"), DictEntry.mk (PyData.keyHash P (Str.ofString "__debug__")) (Value.str (Str.ofString "__debug__") 81) (Value.bool true), DictEntry.mk (PyData.keyHash P (Str.ofString "BaseException")) (Value.str (Str.ofString "BaseException") 82) (Value.type "BaseException"), DictEntry.mk (PyData.keyHash P (Str.ofString "BaseExceptionGroup")) (Value.str (Str.ofString "BaseExceptionGroup") 83) (Value.type "BaseExceptionGroup"), DictEntry.mk (PyData.keyHash P (Str.ofString "Exception")) (Value.str (Str.ofString "Exception") 84) (Value.type "Exception"), DictEntry.mk (PyData.keyHash P (Str.ofString "GeneratorExit")) (Value.str (Str.ofString "GeneratorExit") 85) (Value.type "GeneratorExit"), DictEntry.mk (PyData.keyHash P (Str.ofString "KeyboardInterrupt")) (Value.str (Str.ofString "KeyboardInterrupt") 86) (Value.type "KeyboardInterrupt"), DictEntry.mk (PyData.keyHash P (Str.ofString "SystemExit")) (Value.str (Str.ofString "SystemExit") 87) (Value.type "SystemExit"), DictEntry.mk (PyData.keyHash P (Str.ofString "ArithmeticError")) (Value.str (Str.ofString "ArithmeticError") 88) (Value.type "ArithmeticError"), DictEntry.mk (PyData.keyHash P (Str.ofString "AssertionError")) (Value.str (Str.ofString "AssertionError") 89) (Value.type "AssertionError"), DictEntry.mk (PyData.keyHash P (Str.ofString "AttributeError")) (Value.str (Str.ofString "AttributeError") 90) (Value.type "AttributeError"), DictEntry.mk (PyData.keyHash P (Str.ofString "BufferError")) (Value.str (Str.ofString "BufferError") 91) (Value.type "BufferError"), DictEntry.mk (PyData.keyHash P (Str.ofString "EOFError")) (Value.str (Str.ofString "EOFError") 92) (Value.type "EOFError"), DictEntry.mk (PyData.keyHash P (Str.ofString "ImportError")) (Value.str (Str.ofString "ImportError") 93) (Value.type "ImportError"), DictEntry.mk (PyData.keyHash P (Str.ofString "LookupError")) (Value.str (Str.ofString "LookupError") 94) (Value.type "LookupError"), DictEntry.mk (PyData.keyHash P (Str.ofString "MemoryError")) (Value.str (Str.ofString "MemoryError") 95) (Value.type "MemoryError"), DictEntry.mk (PyData.keyHash P (Str.ofString "NameError")) (Value.str (Str.ofString "NameError") 96) (Value.type "NameError"), DictEntry.mk (PyData.keyHash P (Str.ofString "OSError")) (Value.str (Str.ofString "OSError") 97) (Value.type "OSError"), DictEntry.mk (PyData.keyHash P (Str.ofString "ReferenceError")) (Value.str (Str.ofString "ReferenceError") 98) (Value.type "ReferenceError"), DictEntry.mk (PyData.keyHash P (Str.ofString "RuntimeError")) (Value.str (Str.ofString "RuntimeError") 99) (Value.type "RuntimeError"), DictEntry.mk (PyData.keyHash P (Str.ofString "StopAsyncIteration")) (Value.str (Str.ofString "StopAsyncIteration") 100) (Value.type "StopAsyncIteration"), DictEntry.mk (PyData.keyHash P (Str.ofString "StopIteration")) (Value.str (Str.ofString "StopIteration") 101) (Value.type "StopIteration"), DictEntry.mk (PyData.keyHash P (Str.ofString "SyntaxError")) (Value.str (Str.ofString "SyntaxError") 102) (Value.type "SyntaxError"), DictEntry.mk (PyData.keyHash P (Str.ofString "SystemError")) (Value.str (Str.ofString "SystemError") 103) (Value.type "SystemError"), DictEntry.mk (PyData.keyHash P (Str.ofString "TypeError")) (Value.str (Str.ofString "TypeError") 104) (Value.type "TypeError"), DictEntry.mk (PyData.keyHash P (Str.ofString "ValueError")) (Value.str (Str.ofString "ValueError") 105) (Value.type "ValueError"), DictEntry.mk (PyData.keyHash P (Str.ofString "Warning")) (Value.str (Str.ofString "Warning") 106) (Value.type "Warning"), DictEntry.mk (PyData.keyHash P (Str.ofString "FloatingPointError")) (Value.str (Str.ofString "FloatingPointError") 107) (Value.type "FloatingPointError"), DictEntry.mk (PyData.keyHash P (Str.ofString "OverflowError")) (Value.str (Str.ofString "OverflowError") 108) (Value.type "OverflowError"), DictEntry.mk (PyData.keyHash P (Str.ofString "ZeroDivisionError")) (Value.str (Str.ofString "ZeroDivisionError") 109) (Value.type "ZeroDivisionError"), DictEntry.mk (PyData.keyHash P (Str.ofString "BytesWarning")) (Value.str (Str.ofString "BytesWarning") 110) (Value.type "BytesWarning"), DictEntry.mk (PyData.keyHash P (Str.ofString "DeprecationWarning")) (Value.str (Str.ofString "DeprecationWarning") 111) (Value.type "DeprecationWarning"), DictEntry.mk (PyData.keyHash P (Str.ofString "EncodingWarning")) (Value.str (Str.ofString "EncodingWarning") 112) (Value.type "EncodingWarning"), DictEntry.mk (PyData.keyHash P (Str.ofString "FutureWarning")) (Value.str (Str.ofString "FutureWarning") 113) (Value.type "FutureWarning"), DictEntry.mk (PyData.keyHash P (Str.ofString "ImportWarning")) (Value.str (Str.ofString "ImportWarning") 114) (Value.type "ImportWarning"), DictEntry.mk (PyData.keyHash P (Str.ofString "PendingDeprecationWarning")) (Value.str (Str.ofString "PendingDeprecationWarning") 115) (Value.type "PendingDeprecationWarning"), DictEntry.mk (PyData.keyHash P (Str.ofString "ResourceWarning")) (Value.str (Str.ofString "ResourceWarning") 116) (Value.type "ResourceWarning"), DictEntry.mk (PyData.keyHash P (Str.ofString "RuntimeWarning")) (Value.str (Str.ofString "RuntimeWarning") 117) (Value.type "RuntimeWarning"), DictEntry.mk (PyData.keyHash P (Str.ofString "SyntaxWarning")) (Value.str (Str.ofString "SyntaxWarning") 118) (Value.type "SyntaxWarning"), DictEntry.mk (PyData.keyHash P (Str.ofString "UnicodeWarning")) (Value.str (Str.ofString "UnicodeWarning") 119) (Value.type "UnicodeWarning"), DictEntry.mk (PyData.keyHash P (Str.ofString "UserWarning")) (Value.str (Str.ofString "UserWarning") 120) (Value.type "UserWarning"), DictEntry.mk (PyData.keyHash P (Str.ofString "BlockingIOError")) (Value.str (Str.ofString "BlockingIOError") 121) (Value.type "BlockingIOError"), DictEntry.mk (PyData.keyHash P (Str.ofString "ChildProcessError")) (Value.str (Str.ofString "ChildProcessError") 122) (Value.type "ChildProcessError"), DictEntry.mk (PyData.keyHash P (Str.ofString "ConnectionError")) (Value.str (Str.ofString "ConnectionError") 123) (Value.type "ConnectionError"), DictEntry.mk (PyData.keyHash P (Str.ofString "FileExistsError")) (Value.str (Str.ofString "FileExistsError") 124) (Value.type "FileExistsError"), DictEntry.mk (PyData.keyHash P (Str.ofString "FileNotFoundError")) (Value.str (Str.ofString "FileNotFoundError") 125) (Value.type "FileNotFoundError"), DictEntry.mk (PyData.keyHash P (Str.ofString "InterruptedError")) (Value.str (Str.ofString "InterruptedError") 126) (Value.type "InterruptedError"), DictEntry.mk (PyData.keyHash P (Str.ofString "IsADirectoryError")) (Value.str (Str.ofString "IsADirectoryError") 127) (Value.type "IsADirectoryError"), DictEntry.mk (PyData.keyHash P (Str.ofString "NotADirectoryError")) (Value.str (Str.ofString "NotADirectoryError") 128) (Value.type "NotADirectoryError"), DictEntry.mk (PyData.keyHash P (Str.ofString "PermissionError")) (Value.str (Str.ofString "PermissionError") 129) (Value.type "PermissionError"), DictEntry.mk (PyData.keyHash P (Str.ofString "ProcessLookupError")) (Value.str (Str.ofString "ProcessLookupError") 130) (Value.type "ProcessLookupError"), DictEntry.mk (PyData.keyHash P (Str.ofString "TimeoutError")) (Value.str (Str.ofString "TimeoutError") 131) (Value.type "TimeoutError"), DictEntry.mk (PyData.keyHash P (Str.ofString "IndentationError")) (Value.str (Str.ofString "IndentationError") 132) (Value.type "IndentationError"), DictEntry.mk (PyData.keyHash P (Str.ofString "_IncompleteInputError")) (Value.str (Str.ofString "_IncompleteInputError") 133) (Value.type "_IncompleteInputError"), DictEntry.mk (PyData.keyHash P (Str.ofString "IndexError")) (Value.str (Str.ofString "IndexError") 134) (Value.type "IndexError"), DictEntry.mk (PyData.keyHash P (Str.ofString "KeyError")) (Value.str (Str.ofString "KeyError") 135) (Value.type "KeyError"), DictEntry.mk (PyData.keyHash P (Str.ofString "ModuleNotFoundError")) (Value.str (Str.ofString "ModuleNotFoundError") 136) (Value.type "ModuleNotFoundError"), DictEntry.mk (PyData.keyHash P (Str.ofString "NotImplementedError")) (Value.str (Str.ofString "NotImplementedError") 137) (Value.type "NotImplementedError"), DictEntry.mk (PyData.keyHash P (Str.ofString "PythonFinalizationError")) (Value.str (Str.ofString "PythonFinalizationError") 138) (Value.type "PythonFinalizationError"), DictEntry.mk (PyData.keyHash P (Str.ofString "RecursionError")) (Value.str (Str.ofString "RecursionError") 139) (Value.type "RecursionError"), DictEntry.mk (PyData.keyHash P (Str.ofString "UnboundLocalError")) (Value.str (Str.ofString "UnboundLocalError") 140) (Value.type "UnboundLocalError"), DictEntry.mk (PyData.keyHash P (Str.ofString "UnicodeError")) (Value.str (Str.ofString "UnicodeError") 141) (Value.type "UnicodeError"), DictEntry.mk (PyData.keyHash P (Str.ofString "BrokenPipeError")) (Value.str (Str.ofString "BrokenPipeError") 142) (Value.type "BrokenPipeError"), DictEntry.mk (PyData.keyHash P (Str.ofString "ConnectionAbortedError")) (Value.str (Str.ofString "ConnectionAbortedError") 143) (Value.type "ConnectionAbortedError"), DictEntry.mk (PyData.keyHash P (Str.ofString "ConnectionRefusedError")) (Value.str (Str.ofString "ConnectionRefusedError") 144) (Value.type "ConnectionRefusedError"), DictEntry.mk (PyData.keyHash P (Str.ofString "ConnectionResetError")) (Value.str (Str.ofString "ConnectionResetError") 145) (Value.type "ConnectionResetError"), DictEntry.mk (PyData.keyHash P (Str.ofString "TabError")) (Value.str (Str.ofString "TabError") 146) (Value.type "TabError"), DictEntry.mk (PyData.keyHash P (Str.ofString "UnicodeDecodeError")) (Value.str (Str.ofString "UnicodeDecodeError") 147) (Value.type "UnicodeDecodeError"), DictEntry.mk (PyData.keyHash P (Str.ofString "UnicodeEncodeError")) (Value.str (Str.ofString "UnicodeEncodeError") 148) (Value.type "UnicodeEncodeError"), DictEntry.mk (PyData.keyHash P (Str.ofString "UnicodeTranslateError")) (Value.str (Str.ofString "UnicodeTranslateError") 149) (Value.type "UnicodeTranslateError"), DictEntry.mk (PyData.keyHash P (Str.ofString "ExceptionGroup")) (Value.str (Str.ofString "ExceptionGroup") 150) (Value.type "ExceptionGroup"), DictEntry.mk (PyData.keyHash P (Str.ofString "EnvironmentError")) (Value.str (Str.ofString "EnvironmentError") 151) (Value.type "OSError"), DictEntry.mk (PyData.keyHash P (Str.ofString "IOError")) (Value.str (Str.ofString "IOError") 152) (Value.type "OSError"), DictEntry.mk (PyData.keyHash P (Str.ofString "open")) (Value.str (Str.ofString "open") 153) (Value.builtin "open"), DictEntry.mk (PyData.keyHash P (Str.ofString "quit")) (Value.str (Str.ofString "quit") 154) (Value.builtin "builtins.quit#opaque"), DictEntry.mk (PyData.keyHash P (Str.ofString "exit")) (Value.str (Str.ofString "exit") 155) (Value.builtin "builtins.exit#opaque"), DictEntry.mk (PyData.keyHash P (Str.ofString "copyright")) (Value.str (Str.ofString "copyright") 156) (Value.builtin "builtins.copyright#opaque"), DictEntry.mk (PyData.keyHash P (Str.ofString "credits")) (Value.str (Str.ofString "credits") 157) (Value.builtin "builtins.credits#opaque"), DictEntry.mk (PyData.keyHash P (Str.ofString "license")) (Value.str (Str.ofString "license") 158) (Value.builtin "builtins.license#opaque"), DictEntry.mk (PyData.keyHash P (Str.ofString "help")) (Value.str (Str.ofString "help") 159) (Value.builtin "builtins.help#opaque")] 159) #[]) ::
(nat_lit 1, Obj.mk (Value.type "dict") none (Data.dict #[DictEntry.mk (PyData.keyHash P (Str.ofString "builtins")) (Value.str (Str.ofString "builtins") 162) (Value.ref 4), DictEntry.mk (PyData.keyHash P (Str.ofString "__main__")) (Value.str (Str.ofString "__main__") 163) (Value.ref 5)] 2) #[]) ::
(nat_lit 4, Obj.mk (Value.type "module") (some 0) Data.plain #[]) ::
(nat_lit 5, Obj.mk (Value.type "module") (some 3) Data.plain #[]) ::
(nat_lit 6, Obj.mk (Value.type "dict") none (Data.dict #[]) #[]) ::
(nat_lit 7, Obj.mk (Value.type "tuple") none (Data.seq #[]) #[]) ::
(nat_lit 8, Obj.mk Value.none none (Data.fields #[]) #[]) ::
(nat_lit 9, Obj.mk (Value.type "code") none (Data.fields #[Value.str (Str.ofString "<module>") 176, Value.str (Str.ofString "<module>") 177, Value.str (Str.ofString "/claim/cut.py") 178, Value.int 1 0, Value.int 0 0, Value.int 0 0, Value.int 0 0, Value.int 0 0, Value.ref 7, Value.bool false, Value.int 175 0, Value.ref 8, Value.none, Value.none, Value.none, Value.none, Value.int 179 0, Value.int 1 0, Value.str (Str.ofString "/claim/cut.py") 180]) #[]) ::
(nat_lit 10, Obj.mk (Value.type "frame") none Data.plain #[some (Value.ref 9), some (Value.ref 3), some (Value.ref 3), none, some (Value.str (Str.ofString "__main__") 164), none, some (Value.ref 0)]) ::
(nat_lit 11, Obj.mk (Value.type "tuple") none (Data.seq #[]) #[]) ::
(nat_lit 12, Obj.mk Value.none none (Data.fields #[Value.int 1 0, Value.int 0 0, Value.ref 20, Value.int 5 0, Value.int 0 0, Value.ref 27, Value.int 20 0, Value.int 0 0, Value.ref 34, Value.int 26 0, Value.int 0 0, Value.ref 41, Value.int 37 0, Value.int 0 0, Value.ref 48, Value.int 44 0, Value.int 0 0, Value.ref 55, Value.int 49 0, Value.int 0 0, Value.ref 62, Value.int 55 0, Value.int 0 0, Value.ref 69, Value.int 65 0, Value.int 0 0, Value.ref 76, Value.int 78 0, Value.int 0 0, Value.ref 83, Value.int 85 0, Value.int 0 0, Value.ref 90, Value.int 90 0, Value.int 0 0, Value.ref 110, Value.int 94 0, Value.int 0 0, Value.ref 123, Value.int 106 0, Value.int 0 0, Value.ref 144, Value.int 205 0, Value.int 0 0, Value.ref 333, Value.int 210 0, Value.int 0 0, Value.ref 340, Value.int 217 0, Value.int 0 0, Value.ref 347, Value.int 219 0, Value.int 0 0, Value.ref 354, Value.int 232 0, Value.int 0 0, Value.ref 361, Value.int 237 0, Value.int 0 0, Value.ref 366, Value.int 239 0, Value.int 0 0, Value.ref 371, Value.int 248 0, Value.int 0 0, Value.ref 376, Value.int 268 0, Value.int 0 0, Value.ref 381]) #[]) ::
(nat_lit 13, Obj.mk (Value.type "code") none (Data.fields #[Value.str (Str.ofString "<module>") 182, Value.str (Str.ofString "<module>") 183, Value.str (Str.ofString "/claim/cut.py") 184, Value.int 1 0, Value.int 0 0, Value.int 0 0, Value.int 0 0, Value.int 0 0, Value.ref 11, Value.bool false, Value.int 181 0, Value.ref 12, Value.none, Value.none, Value.none, Value.none, Value.int 185 0, Value.int 1 0, Value.str (Str.ofString "/claim/cut.py") 186]) #[]) ::
(nat_lit 14, Obj.mk (Value.type "frame") none Data.plain #[some (Value.ref 13), some (Value.ref 3), some (Value.ref 3), none, some (Value.str (Str.ofString "__main__") 164), none, some (Value.ref 0)]) ::
(nat_lit 16, Obj.mk Value.none none (Data.fields #[]) #[]) ::
(nat_lit 19, cdTop 0 rfl (Str.ofString "_wall")) ::
(nat_lit 23, Obj.mk Value.none none (Data.fields #[]) #[]) ::
(nat_lit 26, cdTop 2 rfl (Str.ofString "like_node")) ::
(nat_lit 30, Obj.mk Value.none none (Data.fields #[]) #[]) ::
(nat_lit 33, cdTop 3 rfl (Str.ofString "ancestors")) ::
(nat_lit 37, Obj.mk Value.none none (Data.fields #[]) #[]) ::
(nat_lit 40, cdTop 4 rfl (Str.ofString "place_among")) ::
(nat_lit 44, Obj.mk Value.none none (Data.fields #[]) #[]) ::
(nat_lit 47, cdTop 5 rfl (Str.ofString "up_to_begin")) ::
(nat_lit 51, Obj.mk Value.none none (Data.fields #[]) #[]) ::
(nat_lit 54, cdTop 6 rfl (Str.ofString "single_number")) ::
(nat_lit 58, Obj.mk Value.none none (Data.fields #[]) #[]) ::
(nat_lit 61, cdTop 7 rfl (Str.ofString "multiple_numbers")) ::
(nat_lit 65, Obj.mk Value.none none (Data.fields #[]) #[]) ::
(nat_lit 68, cdTop 8 rfl (Str.ofString "walked")) ::
(nat_lit 72, Obj.mk Value.none none (Data.fields #[]) #[]) ::
(nat_lit 75, cdTop 9 rfl (Str.ofString "any_number")) ::
(nat_lit 79, Obj.mk Value.none none (Data.fields #[]) #[]) ::
(nat_lit 82, cdTop 10 rfl (Str.ofString "counted")) ::
(nat_lit 86, Obj.mk (Value.type "builtin_function_or_method") none (Data.fields #[Value.builtin "type.__prepare__", Value.type "type"]) #[]) ::
(nat_lit 87, Obj.mk (Value.type "dict") none (Data.dict #[DictEntry.mk (PyData.keyHash P (Str.ofString "__module__")) (Value.str (Str.ofString "__module__") 309) (Value.str (Str.ofString "markupmill.errors") 300), DictEntry.mk (PyData.keyHash P (Str.ofString "__qualname__")) (Value.str (Str.ofString "__qualname__") 311) (Value.str (Str.ofString "MarkupError") 310), DictEntry.mk (PyData.keyHash P (Str.ofString "__firstlineno__")) (Value.str (Str.ofString "__firstlineno__") 313) (Value.int 85 312), DictEntry.mk (PyData.keyHash P (Str.ofString "__init__")) (Value.str (Str.ofString "__init__") 321) (Value.ref 98), DictEntry.mk (PyData.keyHash P (Str.ofString "__static_attributes__")) (Value.str (Str.ofString "__static_attributes__") 323) (Value.ref 99)] 5) #[]) ::
(nat_lit 88, Obj.mk (Value.type "tuple") none (Data.seq #[]) #[]) ::
(nat_lit 89, Obj.mk Value.none none (Data.fields #[Value.int 87 0, Value.int 4 0, Value.ref 97]) #[]) ::
(nat_lit 90, Obj.mk (Value.type "code") none (Data.fields #[Value.str (Str.ofString "MarkupError") 304, Value.str (Str.ofString "MarkupError") 305, Value.str (Str.ofString "/claim/cut.py") 306, Value.int 85 0, Value.int 0 0, Value.int 0 0, Value.int 0 0, Value.int 0 0, Value.ref 88, Value.bool false, Value.int 181 0, Value.ref 89, Value.none, Value.none, Value.none, Value.none, Value.int 307 0, Value.int 85 0, Value.str (Str.ofString "/claim/cut.py") 308]) #[]) ::
(nat_lit 91, Obj.mk (Value.type "frame") none Data.plain #[some (Value.ref 90), some (Value.ref 3), some (Value.ref 87), none, some (Value.str (Str.ofString "markupmill.errors") 300), none, some (Value.ref 0)]) ::
(nat_lit 93, Obj.mk Value.none none (Data.fields #[]) #[]) ::
(nat_lit 96, cdIn 12 0 rfl (Str.ofString "MarkupError.__init__")) ::
(nat_lit 103, Obj.mk (Value.type "super") none (Data.fields #[Value.ref 101, Value.ref 101, Value.ref 101]) #[]) ::
(nat_lit 104, Obj.mk (Value.type "builtin_function_or_method") none (Data.fields #[Value.builtin "object.__init_subclass__", Value.ref 101]) #[]) ::
(nat_lit 106, Obj.mk (Value.type "builtin_function_or_method") none (Data.fields #[Value.builtin "type.__prepare__", Value.type "type"]) #[]) ::
(nat_lit 107, Obj.mk (Value.type "dict") none (Data.dict #[DictEntry.mk (PyData.keyHash P (Str.ofString "__module__")) (Value.str (Str.ofString "__module__") 338) (Value.str (Str.ofString "markupmill.errors") 300), DictEntry.mk (PyData.keyHash P (Str.ofString "__qualname__")) (Value.str (Str.ofString "__qualname__") 340) (Value.str (Str.ofString "TreeFault") 339), DictEntry.mk (PyData.keyHash P (Str.ofString "__firstlineno__")) (Value.str (Str.ofString "__firstlineno__") 342) (Value.int 90 341), DictEntry.mk (PyData.keyHash P (Str.ofString "__static_attributes__")) (Value.str (Str.ofString "__static_attributes__") 343) (Value.ref 112)] 4) #[]) ::
(nat_lit 108, Obj.mk (Value.type "tuple") none (Data.seq #[]) #[]) ::
(nat_lit 109, Obj.mk Value.none none (Data.fields #[]) #[]) ::
(nat_lit 110, Obj.mk (Value.type "code") none (Data.fields #[Value.str (Str.ofString "TreeFault") 333, Value.str (Str.ofString "TreeFault") 334, Value.str (Str.ofString "/claim/cut.py") 335, Value.int 90 0, Value.int 0 0, Value.int 0 0, Value.int 0 0, Value.int 0 0, Value.ref 108, Value.bool false, Value.int 181 0, Value.ref 109, Value.none, Value.none, Value.none, Value.none, Value.int 336 0, Value.int 90 0, Value.str (Str.ofString "/claim/cut.py") 337]) #[]) ::
(nat_lit 111, Obj.mk (Value.type "frame") none Data.plain #[some (Value.ref 110), some (Value.ref 3), some (Value.ref 107), none, some (Value.str (Str.ofString "markupmill.errors") 300), none, some (Value.ref 0)]) ::
(nat_lit 115, Obj.mk (Value.type "super") none (Data.fields #[Value.ref 114, Value.ref 114, Value.ref 114]) #[]) ::
(nat_lit 116, Obj.mk (Value.type "builtin_function_or_method") none (Data.fields #[Value.builtin "object.__init_subclass__", Value.ref 114]) #[]) ::
(nat_lit 118, Obj.mk (Value.type "tuple") none (Data.seq #[]) #[]) ::
(nat_lit 119, Obj.mk (Value.type "builtin_function_or_method") none (Data.fields #[Value.builtin "type.__prepare__", Value.type "type"]) #[]) ::
(nat_lit 120, Obj.mk (Value.type "dict") none (Data.dict #[DictEntry.mk (PyData.keyHash P (Str.ofString "__module__")) (Value.str (Str.ofString "__module__") 359) (Value.str (Str.ofString "markupmill.tree") 347), DictEntry.mk (PyData.keyHash P (Str.ofString "__qualname__")) (Value.str (Str.ofString "__qualname__") 361) (Value.str (Str.ofString "NodeRow") 360), DictEntry.mk (PyData.keyHash P (Str.ofString "__firstlineno__")) (Value.str (Str.ofString "__firstlineno__") 363) (Value.int 94 362), DictEntry.mk (PyData.keyHash P (Str.ofString "__init__")) (Value.str (Str.ofString "__init__") 376) (Value.ref 131), DictEntry.mk (PyData.keyHash P (Str.ofString "__static_attributes__")) (Value.str (Str.ofString "__static_attributes__") 386) (Value.ref 132)] 5) #[]) ::
(nat_lit 121, Obj.mk (Value.type "tuple") none (Data.seq #[]) #[]) ::
(nat_lit 122, Obj.mk Value.none none (Data.fields #[Value.int 96 0, Value.int 4 0, Value.ref 130]) #[]) ::
(nat_lit 123, Obj.mk (Value.type "code") none (Data.fields #[Value.str (Str.ofString "NodeRow") 354, Value.str (Str.ofString "NodeRow") 355, Value.str (Str.ofString "/claim/cut.py") 356, Value.int 94 0, Value.int 0 0, Value.int 0 0, Value.int 0 0, Value.int 0 0, Value.ref 121, Value.bool false, Value.int 181 0, Value.ref 122, Value.none, Value.none, Value.none, Value.none, Value.int 357 0, Value.int 94 0, Value.str (Str.ofString "/claim/cut.py") 358]) #[]) ::
(nat_lit 124, Obj.mk (Value.type "frame") none Data.plain #[some (Value.ref 123), some (Value.ref 3), some (Value.ref 120), none, some (Value.str (Str.ofString "markupmill.tree") 347), none, some (Value.ref 0)]) ::
(nat_lit 126, Obj.mk Value.none none (Data.fields #[]) #[]) ::
(nat_lit 129, cdIn 16 0 rfl (Str.ofString "NodeRow.__init__")) ::
(nat_lit 137, Obj.mk (Value.type "super") none (Data.fields #[Value.ref 134, Value.ref 134, Value.ref 134]) #[]) ::
(nat_lit 138, Obj.mk (Value.type "builtin_function_or_method") none (Data.fields #[Value.builtin "object.__init_subclass__", Value.ref 134]) #[]) ::
(nat_lit 139, Obj.mk (Value.type "tuple") none (Data.seq #[]) #[]) ::
(nat_lit 140, Obj.mk (Value.type "builtin_function_or_method") none (Data.fields #[Value.builtin "type.__prepare__", Value.type "type"]) #[]) ::
(nat_lit 141, Obj.mk (Value.type "dict") none (Data.dict #[DictEntry.mk (PyData.keyHash P (Str.ofString "__module__")) (Value.str (Str.ofString "__module__") 401) (Value.str (Str.ofString "markupmill.tree") 347), DictEntry.mk (PyData.keyHash P (Str.ofString "__qualname__")) (Value.str (Str.ofString "__qualname__") 403) (Value.str (Str.ofString "Tree") 402), DictEntry.mk (PyData.keyHash P (Str.ofString "__firstlineno__")) (Value.str (Str.ofString "__firstlineno__") 405) (Value.int 106 404), DictEntry.mk (PyData.keyHash P (Str.ofString "__init__")) (Value.str (Str.ofString "__init__") 412) (Value.ref 152), DictEntry.mk (PyData.keyHash P (Str.ofString "new_row")) (Value.str (Str.ofString "new_row") 425) (Value.ref 159), DictEntry.mk (PyData.keyHash P (Str.ofString "row")) (Value.str (Str.ofString "row") 433) (Value.ref 166), DictEntry.mk (PyData.keyHash P (Str.ofString "new_root")) (Value.str (Str.ofString "new_root") 440) (Value.ref 173), DictEntry.mk (PyData.keyHash P (Str.ofString "add_child")) (Value.str (Str.ofString "add_child") 454) (Value.ref 180), DictEntry.mk (PyData.keyHash P (Str.ofString "add_element")) (Value.str (Str.ofString "add_element") 465) (Value.ref 187), DictEntry.mk (PyData.keyHash P (Str.ofString "add_text")) (Value.str (Str.ofString "add_text") 474) (Value.ref 194), DictEntry.mk (PyData.keyHash P (Str.ofString "add_comment")) (Value.str (Str.ofString "add_comment") 483) (Value.ref 201), DictEntry.mk (PyData.keyHash P (Str.ofString "add_instruction")) (Value.str (Str.ofString "add_instruction") 493) (Value.ref 208), DictEntry.mk (PyData.keyHash P (Str.ofString "element_row")) (Value.str (Str.ofString "element_row") 502) (Value.ref 215), DictEntry.mk (PyData.keyHash P (Str.ofString "set_attribute")) (Value.str (Str.ofString "set_attribute") 517) (Value.ref 222), DictEntry.mk (PyData.keyHash P (Str.ofString "add_namespace")) (Value.str (Str.ofString "add_namespace") 527) (Value.ref 229), DictEntry.mk (PyData.keyHash P (Str.ofString "set_value")) (Value.str (Str.ofString "set_value") 536) (Value.ref 236), DictEntry.mk (PyData.keyHash P (Str.ofString "kind")) (Value.str (Str.ofString "kind") 544) (Value.ref 243), DictEntry.mk (PyData.keyHash P (Str.ofString "name")) (Value.str (Str.ofString "name") 552) (Value.ref 250), DictEntry.mk (PyData.keyHash P (Str.ofString "uri")) (Value.str (Str.ofString "uri") 560) (Value.ref 257), DictEntry.mk (PyData.keyHash P (Str.ofString "local")) (Value.str (Str.ofString "local") 568) (Value.ref 264), DictEntry.mk (PyData.keyHash P (Str.ofString "value")) (Value.str (Str.ofString "value") 576) (Value.ref 271), DictEntry.mk (PyData.keyHash P (Str.ofString "parent")) (Value.str (Str.ofString "parent") 584) (Value.ref 278), DictEntry.mk (PyData.keyHash P (Str.ofString "children")) (Value.str (Str.ofString "children") 592) (Value.ref 285), DictEntry.mk (PyData.keyHash P (Str.ofString "attributes")) (Value.str (Str.ofString "attributes") 600) (Value.ref 292), DictEntry.mk (PyData.keyHash P (Str.ofString "namespaces")) (Value.str (Str.ofString "namespaces") 608) (Value.ref 299), DictEntry.mk (PyData.keyHash P (Str.ofString "root_of")) (Value.str (Str.ofString "root_of") 616) (Value.ref 306), DictEntry.mk (PyData.keyHash P (Str.ofString "is_above")) (Value.str (Str.ofString "is_above") 625) (Value.ref 313), DictEntry.mk (PyData.keyHash P (Str.ofString "attribute_value")) (Value.str (Str.ofString "attribute_value") 635) (Value.ref 320), DictEntry.mk (PyData.keyHash P (Str.ofString "__static_attributes__")) (Value.str (Str.ofString "__static_attributes__") 637) (Value.ref 321)] 29) #[]) ::
(nat_lit 142, Obj.mk (Value.type "tuple") none (Data.seq #[]) #[]) ::
(nat_lit 143, Obj.mk Value.none none (Data.fields #[Value.int 108 0, Value.int 4 0, Value.ref 151, Value.int 111 0, Value.int 4 0, Value.ref 158, Value.int 115 0, Value.int 4 0, Value.ref 165, Value.int 120 0, Value.int 4 0, Value.ref 172, Value.int 123 0, Value.int 4 0, Value.ref 179, Value.int 131 0, Value.int 4 0, Value.ref 186, Value.int 134 0, Value.int 4 0, Value.ref 193, Value.int 137 0, Value.int 4 0, Value.ref 200, Value.int 140 0, Value.int 4 0, Value.ref 207, Value.int 143 0, Value.int 4 0, Value.ref 214, Value.int 149 0, Value.int 4 0, Value.ref 221, Value.int 161 0, Value.int 4 0, Value.ref 228, Value.int 164 0, Value.int 4 0, Value.ref 235, Value.int 167 0, Value.int 4 0, Value.ref 242, Value.int 170 0, Value.int 4 0, Value.ref 249, Value.int 173 0, Value.int 4 0, Value.ref 256, Value.int 176 0, Value.int 4 0, Value.ref 263, Value.int 179 0, Value.int 4 0, Value.ref 270, Value.int 182 0, Value.int 4 0, Value.ref 277, Value.int 185 0, Value.int 4 0, Value.ref 284, Value.int 188 0, Value.int 4 0, Value.ref 291, Value.int 191 0, Value.int 4 0, Value.ref 298, Value.int 194 0, Value.int 4 0, Value.ref 305, Value.int 199 0, Value.int 4 0, Value.ref 312, Value.int 202 0, Value.int 4 0, Value.ref 319]) #[]) ::
(nat_lit 144, Obj.mk (Value.type "code") none (Data.fields #[Value.str (Str.ofString "Tree") 396, Value.str (Str.ofString "Tree") 397, Value.str (Str.ofString "/claim/cut.py") 398, Value.int 106 0, Value.int 0 0, Value.int 0 0, Value.int 0 0, Value.int 0 0, Value.ref 142, Value.bool false, Value.int 181 0, Value.ref 143, Value.none, Value.none, Value.none, Value.none, Value.int 399 0, Value.int 106 0, Value.str (Str.ofString "/claim/cut.py") 400]) #[]) ::
(nat_lit 145, Obj.mk (Value.type "frame") none Data.plain #[some (Value.ref 144), some (Value.ref 3), some (Value.ref 141), none, some (Value.str (Str.ofString "markupmill.tree") 347), none, some (Value.ref 0)]) ::
(nat_lit 147, Obj.mk Value.none none (Data.fields #[]) #[]) ::
(nat_lit 150, cdIn 17 0 rfl (Str.ofString "Tree.__init__")) ::
(nat_lit 154, Obj.mk Value.none none (Data.fields #[]) #[]) ::
(nat_lit 157, cdIn 17 1 rfl (Str.ofString "Tree.new_row")) ::
(nat_lit 161, Obj.mk Value.none none (Data.fields #[]) #[]) ::
(nat_lit 164, cdIn 17 2 rfl (Str.ofString "Tree.row")) ::
(nat_lit 168, Obj.mk Value.none none (Data.fields #[]) #[]) ::
(nat_lit 171, cdIn 17 3 rfl (Str.ofString "Tree.new_root")) ::
(nat_lit 175, Obj.mk Value.none none (Data.fields #[]) #[]) ::
(nat_lit 178, cdIn 17 4 rfl (Str.ofString "Tree.add_child")) ::
(nat_lit 182, Obj.mk Value.none none (Data.fields #[]) #[]) ::
(nat_lit 185, cdIn 17 5 rfl (Str.ofString "Tree.add_element")) ::
(nat_lit 189, Obj.mk Value.none none (Data.fields #[]) #[]) ::
(nat_lit 192, cdIn 17 6 rfl (Str.ofString "Tree.add_text")) ::
(nat_lit 196, Obj.mk Value.none none (Data.fields #[]) #[]) ::
(nat_lit 199, cdIn 17 7 rfl (Str.ofString "Tree.add_comment")) ::
(nat_lit 203, Obj.mk Value.none none (Data.fields #[]) #[]) ::
(nat_lit 206, cdIn 17 8 rfl (Str.ofString "Tree.add_instruction")) ::
(nat_lit 210, Obj.mk Value.none none (Data.fields #[]) #[]) ::
(nat_lit 213, cdIn 17 9 rfl (Str.ofString "Tree.element_row")) ::
(nat_lit 217, Obj.mk Value.none none (Data.fields #[]) #[]) ::
(nat_lit 220, cdIn 17 10 rfl (Str.ofString "Tree.set_attribute")) ::
(nat_lit 224, Obj.mk Value.none none (Data.fields #[]) #[]) ::
(nat_lit 227, cdIn 17 11 rfl (Str.ofString "Tree.add_namespace")) ::
(nat_lit 231, Obj.mk Value.none none (Data.fields #[]) #[]) ::
(nat_lit 234, cdIn 17 12 rfl (Str.ofString "Tree.set_value")) ::
(nat_lit 238, Obj.mk Value.none none (Data.fields #[]) #[]) ::
(nat_lit 241, cdIn 17 13 rfl (Str.ofString "Tree.kind")) ::
(nat_lit 245, Obj.mk Value.none none (Data.fields #[]) #[]) ::
(nat_lit 248, cdIn 17 14 rfl (Str.ofString "Tree.name")) ::
(nat_lit 252, Obj.mk Value.none none (Data.fields #[]) #[]) ::
(nat_lit 255, cdIn 17 15 rfl (Str.ofString "Tree.uri")) ::
(nat_lit 259, Obj.mk Value.none none (Data.fields #[]) #[]) ::
(nat_lit 262, cdIn 17 16 rfl (Str.ofString "Tree.local")) ::
(nat_lit 266, Obj.mk Value.none none (Data.fields #[]) #[]) ::
(nat_lit 269, cdIn 17 17 rfl (Str.ofString "Tree.value")) ::
(nat_lit 273, Obj.mk Value.none none (Data.fields #[]) #[]) ::
(nat_lit 276, cdIn 17 18 rfl (Str.ofString "Tree.parent")) ::
(nat_lit 280, Obj.mk Value.none none (Data.fields #[]) #[]) ::
(nat_lit 283, cdIn 17 19 rfl (Str.ofString "Tree.children")) ::
(nat_lit 287, Obj.mk Value.none none (Data.fields #[]) #[]) ::
(nat_lit 290, cdIn 17 20 rfl (Str.ofString "Tree.attributes")) ::
(nat_lit 294, Obj.mk Value.none none (Data.fields #[]) #[]) ::
(nat_lit 297, cdIn 17 21 rfl (Str.ofString "Tree.namespaces")) ::
(nat_lit 301, Obj.mk Value.none none (Data.fields #[]) #[]) ::
(nat_lit 304, cdIn 17 22 rfl (Str.ofString "Tree.root_of")) ::
(nat_lit 308, Obj.mk Value.none none (Data.fields #[]) #[]) ::
(nat_lit 311, cdIn 17 23 rfl (Str.ofString "Tree.is_above")) ::
(nat_lit 315, Obj.mk Value.none none (Data.fields #[]) #[]) ::
(nat_lit 318, cdIn 17 24 rfl (Str.ofString "Tree.attribute_value")) ::
(nat_lit 326, Obj.mk (Value.type "super") none (Data.fields #[Value.ref 323, Value.ref 323, Value.ref 323]) #[]) ::
(nat_lit 327, Obj.mk (Value.type "builtin_function_or_method") none (Data.fields #[Value.builtin "object.__init_subclass__", Value.ref 323]) #[]) ::
(nat_lit 329, Obj.mk Value.none none (Data.fields #[]) #[]) ::
(nat_lit 332, cdTop 19 rfl (Str.ofString "_law_pool")) ::
(nat_lit 336, Obj.mk Value.none none (Data.fields #[]) #[]) ::
(nat_lit 339, cdTop 20 rfl (Str.ofString "_law_take")) ::
(nat_lit 343, Obj.mk Value.none none (Data.fields #[]) #[]) ::
(nat_lit 346, cdTop 21 rfl (Str.ofString "_law_one")) ::
(nat_lit 350, Obj.mk Value.none none (Data.fields #[]) #[]) ::
(nat_lit 353, cdTop 22 rfl (Str.ofString "_law_grown")) ::
(nat_lit 357, Obj.mk Value.none none (Data.fields #[]) #[]) ::
(nat_lit 360, cdTop 23 rfl (Str.ofString "_law_upwards")) ::
(nat_lit 364, Obj.mk Value.none none (Data.fields #[]) #[]) ::
(nat_lit 365, cdTop 24 rfl (Str.ofString "_law_among")) ::
(nat_lit 369, Obj.mk Value.none none (Data.fields #[]) #[]) ::
(nat_lit 370, cdTop 25 rfl (Str.ofString "_law_due")) ::
(nat_lit 374, Obj.mk Value.none none (Data.fields #[]) #[]) ::
(nat_lit 375, cdTop 26 rfl (Str.ofString "_law_attribute_right")) ::
(nat_lit 379, Obj.mk Value.none none (Data.fields #[]) #[]) ::
(nat_lit 380, cdTop 27 rfl (Str.ofString "law")) :: []
/-- two ledgers by address -/
noncomputable def mergeO : Nat → List (Addr × Obj) → List (Addr × Obj) → List Obj
  | 0, _, _ => []
  | _ + 1, [], l => l.map (·.2)
  | _ + 1, l, [] => l.map (·.2)
  | n + 1, (a, o) :: l, (b, o') :: l' => match Nat.blt a b with
    | true => o :: mergeO n l ((b, o') :: l')
    | false => o' :: mergeO n ((a, o) :: l) l'
noncomputable def hd.all (P : Params) : List Obj := mergeO 400 (hd.heap_39 P) (hd.rest P)
noncomputable def life0 : Life := Life.mk [] [] [] 0 [] [] false #[] [] 0 false false false 0 [2000, 10, 10] false 0 true [] [] 0 false
noncomputable def heapA (P : Params) : Heap := Heap.mk (Array.mk (((((hd.all P).take 15).set 2 (Obj.mk Value.none none (Data.dict #[]) #[])).set 3 (Obj.mk (Value.type "dict") none (Data.dict #[DictEntry.mk (PyData.keyHash P (Str.ofString "__name__")) (Value.str (Str.ofString "__name__") 165) (Value.str (Str.ofString "__main__") 164), DictEntry.mk (PyData.keyHash P (Str.ofString "__doc__")) (Value.str (Str.ofString "__doc__") 166) Value.none, DictEntry.mk (PyData.keyHash P (Str.ofString "__package__")) (Value.str (Str.ofString "__package__") 167) Value.none, DictEntry.mk (PyData.keyHash P (Str.ofString "__loader__")) (Value.str (Str.ofString "__loader__") 168) (Value.builtin "__main__.__loader__#opaque"), DictEntry.mk (PyData.keyHash P (Str.ofString "__spec__")) (Value.str (Str.ofString "__spec__") 169) Value.none, DictEntry.mk (PyData.keyHash P (Str.ofString "__annotations__")) (Value.str (Str.ofString "__annotations__") 170) (Value.ref 6), DictEntry.mk (PyData.keyHash P (Str.ofString "__builtins__")) (Value.str (Str.ofString "__builtins__") 171) (Value.ref 4), DictEntry.mk (PyData.keyHash P (Str.ofString "__file__")) (Value.str (Str.ofString "__file__") 173) (Value.str (Str.ofString "/claim/cut.py") 172), DictEntry.mk (PyData.keyHash P (Str.ofString "__cached__")) (Value.str (Str.ofString "__cached__") 174) Value.none] 9) #[])).set 12 (Obj.mk Value.none none (Data.fields #[]) #[]))) life0
noncomputable def stA (w : World) (os : OsState) : Shared := ⟨heapA w.params, Array.mk [], Drawn.mk 0 0 0 0, 187, os⟩
noncomputable def heapC (P : Params) : Heap := Heap.mk (Array.mk ((((hd.all P).take 139).set 3 (Obj.mk (Value.type "dict") none (Data.dict #[DictEntry.mk (PyData.keyHash P (Str.ofString "__name__")) (Value.str (Str.ofString "__name__") 165) (Value.str (Str.ofString "markupmill.tree") 347), DictEntry.mk (PyData.keyHash P (Str.ofString "__doc__")) (Value.str (Str.ofString "__doc__") 166) Value.none, DictEntry.mk (PyData.keyHash P (Str.ofString "__package__")) (Value.str (Str.ofString "__package__") 167) Value.none, DictEntry.mk (PyData.keyHash P (Str.ofString "__loader__")) (Value.str (Str.ofString "__loader__") 168) (Value.builtin "__main__.__loader__#opaque"), DictEntry.mk (PyData.keyHash P (Str.ofString "__spec__")) (Value.str (Str.ofString "__spec__") 169) Value.none, DictEntry.mk (PyData.keyHash P (Str.ofString "__annotations__")) (Value.str (Str.ofString "__annotations__") 170) (Value.ref 6), DictEntry.mk (PyData.keyHash P (Str.ofString "__builtins__")) (Value.str (Str.ofString "__builtins__") 171) (Value.ref 4), DictEntry.mk (PyData.keyHash P (Str.ofString "__file__")) (Value.str (Str.ofString "__file__") 173) (Value.str (Str.ofString "/claim/cut.py") 172), DictEntry.mk (PyData.keyHash P (Str.ofString "__cached__")) (Value.str (Str.ofString "__cached__") 174) Value.none, DictEntry.mk (PyData.keyHash P (Str.ofString "_wall")) (Value.str (Str.ofString "_wall") 193) (Value.ref 21), DictEntry.mk (PyData.keyHash P (Str.ofString "like_node")) (Value.str (Str.ofString "like_node") 208) (Value.ref 28), DictEntry.mk (PyData.keyHash P (Str.ofString "ancestors")) (Value.str (Str.ofString "ancestors") 217) (Value.ref 35), DictEntry.mk (PyData.keyHash P (Str.ofString "place_among")) (Value.str (Str.ofString "place_among") 229) (Value.ref 42), DictEntry.mk (PyData.keyHash P (Str.ofString "up_to_begin")) (Value.str (Str.ofString "up_to_begin") 240) (Value.ref 49), DictEntry.mk (PyData.keyHash P (Str.ofString "single_number")) (Value.str (Str.ofString "single_number") 251) (Value.ref 56), DictEntry.mk (PyData.keyHash P (Str.ofString "multiple_numbers")) (Value.str (Str.ofString "multiple_numbers") 263) (Value.ref 63), DictEntry.mk (PyData.keyHash P (Str.ofString "walked")) (Value.str (Str.ofString "walked") 275) (Value.ref 70), DictEntry.mk (PyData.keyHash P (Str.ofString "any_number")) (Value.str (Str.ofString "any_number") 288) (Value.ref 77), DictEntry.mk (PyData.keyHash P (Str.ofString "counted")) (Value.str (Str.ofString "counted") 299) (Value.ref 84), DictEntry.mk (PyData.keyHash P (Str.ofString "MarkupError")) (Value.str (Str.ofString "MarkupError") 330) (Value.ref 101), DictEntry.mk (PyData.keyHash P (Str.ofString "TreeFault")) (Value.str (Str.ofString "TreeFault") 346) (Value.ref 114), DictEntry.mk (PyData.keyHash P (Str.ofString "PARENTS")) (Value.str (Str.ofString "PARENTS") 351) (Value.ref 117), DictEntry.mk (PyData.keyHash P (Str.ofString "NodeRow")) (Value.str (Str.ofString "NodeRow") 393) (Value.ref 134)] 23) #[])).set 12 (Obj.mk Value.none none (Data.fields #[Value.int 1 0, Value.int 0 0, Value.ref 20, Value.int 5 0, Value.int 0 0, Value.ref 27, Value.int 20 0, Value.int 0 0, Value.ref 34, Value.int 26 0, Value.int 0 0, Value.ref 41, Value.int 37 0, Value.int 0 0, Value.ref 48, Value.int 44 0, Value.int 0 0, Value.ref 55, Value.int 49 0, Value.int 0 0, Value.ref 62, Value.int 55 0, Value.int 0 0, Value.ref 69, Value.int 65 0, Value.int 0 0, Value.ref 76, Value.int 78 0, Value.int 0 0, Value.ref 83, Value.int 85 0, Value.int 0 0, Value.ref 90, Value.int 90 0, Value.int 0 0, Value.ref 110, Value.int 94 0, Value.int 0 0, Value.ref 123]) #[]))) life0
noncomputable def stC (w : World) (os : OsState) : Shared := ⟨heapC w.params, Array.mk [], Drawn.mk 0 0 0 0, 394, os⟩
noncomputable def heapD (P : Params) : Heap := Heap.mk (Array.mk ((((hd.all P).take 328).set 3 (Obj.mk (Value.type "dict") none (Data.dict #[DictEntry.mk (PyData.keyHash P (Str.ofString "__name__")) (Value.str (Str.ofString "__name__") 165) (Value.str (Str.ofString "markupmill.tree") 347), DictEntry.mk (PyData.keyHash P (Str.ofString "__doc__")) (Value.str (Str.ofString "__doc__") 166) Value.none, DictEntry.mk (PyData.keyHash P (Str.ofString "__package__")) (Value.str (Str.ofString "__package__") 167) Value.none, DictEntry.mk (PyData.keyHash P (Str.ofString "__loader__")) (Value.str (Str.ofString "__loader__") 168) (Value.builtin "__main__.__loader__#opaque"), DictEntry.mk (PyData.keyHash P (Str.ofString "__spec__")) (Value.str (Str.ofString "__spec__") 169) Value.none, DictEntry.mk (PyData.keyHash P (Str.ofString "__annotations__")) (Value.str (Str.ofString "__annotations__") 170) (Value.ref 6), DictEntry.mk (PyData.keyHash P (Str.ofString "__builtins__")) (Value.str (Str.ofString "__builtins__") 171) (Value.ref 4), DictEntry.mk (PyData.keyHash P (Str.ofString "__file__")) (Value.str (Str.ofString "__file__") 173) (Value.str (Str.ofString "/claim/cut.py") 172), DictEntry.mk (PyData.keyHash P (Str.ofString "__cached__")) (Value.str (Str.ofString "__cached__") 174) Value.none, DictEntry.mk (PyData.keyHash P (Str.ofString "_wall")) (Value.str (Str.ofString "_wall") 193) (Value.ref 21), DictEntry.mk (PyData.keyHash P (Str.ofString "like_node")) (Value.str (Str.ofString "like_node") 208) (Value.ref 28), DictEntry.mk (PyData.keyHash P (Str.ofString "ancestors")) (Value.str (Str.ofString "ancestors") 217) (Value.ref 35), DictEntry.mk (PyData.keyHash P (Str.ofString "place_among")) (Value.str (Str.ofString "place_among") 229) (Value.ref 42), DictEntry.mk (PyData.keyHash P (Str.ofString "up_to_begin")) (Value.str (Str.ofString "up_to_begin") 240) (Value.ref 49), DictEntry.mk (PyData.keyHash P (Str.ofString "single_number")) (Value.str (Str.ofString "single_number") 251) (Value.ref 56), DictEntry.mk (PyData.keyHash P (Str.ofString "multiple_numbers")) (Value.str (Str.ofString "multiple_numbers") 263) (Value.ref 63), DictEntry.mk (PyData.keyHash P (Str.ofString "walked")) (Value.str (Str.ofString "walked") 275) (Value.ref 70), DictEntry.mk (PyData.keyHash P (Str.ofString "any_number")) (Value.str (Str.ofString "any_number") 288) (Value.ref 77), DictEntry.mk (PyData.keyHash P (Str.ofString "counted")) (Value.str (Str.ofString "counted") 299) (Value.ref 84), DictEntry.mk (PyData.keyHash P (Str.ofString "MarkupError")) (Value.str (Str.ofString "MarkupError") 330) (Value.ref 101), DictEntry.mk (PyData.keyHash P (Str.ofString "TreeFault")) (Value.str (Str.ofString "TreeFault") 346) (Value.ref 114), DictEntry.mk (PyData.keyHash P (Str.ofString "PARENTS")) (Value.str (Str.ofString "PARENTS") 351) (Value.ref 117), DictEntry.mk (PyData.keyHash P (Str.ofString "NodeRow")) (Value.str (Str.ofString "NodeRow") 393) (Value.ref 134), DictEntry.mk (PyData.keyHash P (Str.ofString "Tree")) (Value.str (Str.ofString "Tree") 644) (Value.ref 323)] 24) #[])).set 12 (Obj.mk Value.none none (Data.fields #[Value.int 1 0, Value.int 0 0, Value.ref 20, Value.int 5 0, Value.int 0 0, Value.ref 27, Value.int 20 0, Value.int 0 0, Value.ref 34, Value.int 26 0, Value.int 0 0, Value.ref 41, Value.int 37 0, Value.int 0 0, Value.ref 48, Value.int 44 0, Value.int 0 0, Value.ref 55, Value.int 49 0, Value.int 0 0, Value.ref 62, Value.int 55 0, Value.int 0 0, Value.ref 69, Value.int 65 0, Value.int 0 0, Value.ref 76, Value.int 78 0, Value.int 0 0, Value.ref 83, Value.int 85 0, Value.int 0 0, Value.ref 90, Value.int 90 0, Value.int 0 0, Value.ref 110, Value.int 94 0, Value.int 0 0, Value.ref 123, Value.int 106 0, Value.int 0 0, Value.ref 144]) #[]))) life0
noncomputable def stD (w : World) (os : OsState) : Shared := ⟨heapD w.params, Array.mk [], Drawn.mk 0 0 0 0, 645, os⟩
noncomputable def heapZ (P : Params) : Heap := Heap.mk (Array.mk (hd.all P)) life0
noncomputable def stZ (w : World) (os : OsState) : Shared := ⟨heapZ w.params, Array.mk [], Drawn.mk 0 0 0 0, 722, os⟩
noncomputable def topB : List Stmt := behindTheImports PySem.Challenge.rw_nu0060_01.row.prog
noncomputable def topEnv : Env := { scope := PySem.Challenge.rw_nu0060_01.row.prog.main.scope, locals := mainNs, globals := mainNs, cells := [], code := Value.ref 13, frame := some 14 }
noncomputable abbrev topC : Code := .body topB topEnv
noncomputable abbrev topF : List Frame := [topFrame (Pos.mk 0 0 0 0)]
theorem topB_eq : topB.take 17 ++ ((topB.drop 17).take 1 ++ (topB.drop 18 ++ [])) = topB := by
  rw [List.append_nil, show topB.drop 18 = (topB.drop 17).drop 1 by rw [List.drop_drop], List.take_append_drop, List.take_append_drop]
theorem r_pre (w : World) (os : OsState) : topGo treeTable PySem.Challenge.rw_nu0060_01.row.prog w 11 (some (Value.ref 6)) 12 ⟨boot_heap w.params, Array.mk [], boot_drawn, boot_toks, os⟩ (topStub PySem.Challenge.rw_nu0060_01.row.prog) = some (stA w os, Thread.mk (denote treeTable topC) topC (Pos.mk 0 0 0 0) topF) := by kernel_rfl
theorem r_block (w : World) (os : OsState) : segRun treeTable PySem.Challenge.rw_nu0060_01.row.prog w 11 (some (Value.ref 6)) 1 1 (stA w os) (blockOf topB topEnv topC (Pos.mk 0 0 0 0) topF) = some (.next, stA w os, topC, Pos.mk 0 0 0 0) := by kernel_rfl
theorem r_one (w : World) (os : OsState) : segRun treeTable PySem.Challenge.rw_nu0060_01.row.prog w 11 (some (Value.ref 6)) 1 1100 (stA w os) (piecesOf (topB.take 17) topEnv topC (Pos.mk 0 0 0 0) topF) = some (.next, stC w os, topC, Pos.mk 94 0 105 28) := by kernel_rfl
theorem r_two (w : World) (os : OsState) : segRun treeTable PySem.Challenge.rw_nu0060_01.row.prog w 11 (some (Value.ref 6)) 1 1100 (stC w os) (piecesOf ((topB.drop 17).take 1) topEnv topC (Pos.mk 94 0 105 28) topF) = some (.next, stD w os, topC, Pos.mk 106 0 203 16) := by kernel_rfl
theorem r_three (w : World) (os : OsState) : segRun treeTable PySem.Challenge.rw_nu0060_01.row.prog w 11 (some (Value.ref 6)) 1 400 (stD w os) (piecesOf (topB.drop 18) topEnv topC (Pos.mk 106 0 203 16) topF) = some (.next, stZ w os, topC, Pos.mk 268 0 289 15) := by kernel_rfl
theorem r_fin (w : World) (os : OsState) : topRun treeTable PySem.Challenge.rw_nu0060_01.row.prog w 11 (some (Value.ref 6)) 2 (stZ w os) ⟨doneF .next, topC, Pos.mk 268 0 289 15, topF⟩ = some (stZ w os) := by kernel_rfl
theorem l_size (w : World) : ((boot_heap w.params).isNs mainGlobals && (Array.mk [] : Array GenState).size == 0, (boot_heap w.params).objs.size, (boot_heap w.params).nsMap mainGlobals "__annotations__") = (true, 11, some (Value.ref 6)) := by kernel_rfl
theorem l_one (w : World) (os : OsState) : (staticsOk (importedModules PySem.Challenge.rw_nu0060_01.row.prog.main.body) (boot_heap w.params) (heapZ w.params) && namesBound PySem.Challenge.rw_nu0060_01.row.prog (heapZ w.params) && gensDone (stZ w os) && laidKept (boot_heap w.params) (heapZ w.params)) = true := by kernel_rfl
theorem l_two (w : World) (os : OsState) : openSeen hd.view_39 [] (importedModules PySem.Challenge.rw_nu0060_01.row.prog.main.body) (fun s => xlAt hd.view_39 [] s && recOk PySem.Challenge.rw_nu0060_01.row.records s) true (stZ w os) = openGood hd.view_39 [] := by kernel_rfl
theorem l_three (w : World) (os : OsState) : (kmHook hd.heap_39 hd.addrs addrs_eq [374, 23, 379]).obs (stZ w os) = (kmHook hd.heap_39 hd.addrs addrs_eq [374, 23, 379]).val w := by kernel_rfl
theorem r_all (w : World) (os : OsState) : topRun treeTable PySem.Challenge.rw_nu0060_01.row.prog w 11 (some (Value.ref 6)) (12 + (1 + (1100 + (1100 + (400 + 2))))) ⟨boot_heap w.params, Array.mk [], boot_drawn, boot_toks, os⟩ (topStub PySem.Challenge.rw_nu0060_01.row.prog) = some (stZ w os) := by
  refine go_top (r_pre w os) (piece_block (r_block w os) ?_)
  rw [← topB_eq]
  exact piece_app (r_one w os) (piece_app (r_two w os) (piece_app (r_three w os) (piece_nil (r_fin w os))))
/-- the top comes through, and leaves these objects: in pieces, each one look of the kernel -/
theorem left_once : LeftO PySem.Challenge.rw_nu0060_01.row.prog hd.view_39 [] (fun s => xlAt hd.view_39 [] s && recOk PySem.Challenge.rw_nu0060_01.row.records s) (kmHook hd.heap_39 hd.addrs addrs_eq [374, 23, 379]).obs (kmHook hd.heap_39 hd.addrs addrs_eq [374, 23, 379]).val 4806 :=
  LeftO.of_pieces (boot_open (p := PySem.Challenge.rw_nu0060_01.row.prog) (N := 4806) rfl rfl fun _ => rfl) l_size r_all rfl fun w => funext fun os => Prod.ext (l_one w os) (Prod.ext (l_two w os) (l_three w os))
theorem hk_said : PySem.Challenge.rw_nu0060_01.wellSaid = true := by kernel_rfl
theorem hk_chains : (chainsOk hd.view_39 && opensWell PySem.Challenge.rw_nu0060_01.row.prog && (frees PySem.Challenge.rw_nu0060_01.row.toRowW && PySem.Challenge.rw_nu0060_01.row.within.isEmpty)) = true := by decide +kernel
theorem hk_bare : PySem.Challenge.rw_nu0060_01.row.prog.bare := ⟨rfl, rfl, rfl, rfl, rfl, by decide +kernel⟩


/-- outside the addresses of ms all that stands in h stands in h' -/
def Chg (ms : List Addr) (h h' : Heap) : Prop := ∀ b o, b ∉ ms → h.get? b = some o → h'.get? b = some o

theorem Chg.refl {ms : List Addr} {h : Heap} : Chg ms h h := fun _ _ _ e => e
theorem Chg.trans {ms : List Addr} {h h' h'' : Heap} (a : Chg ms h h') (b : Chg ms h' h'') : Chg ms h h'' := fun x o n e => b x o n (a x o n e)
theorem Chg.mono {ms ms' : List Addr} {h h' : Heap} (a : Chg ms h h') (hs : ∀ x ∈ ms, x ∈ ms') : Chg ms' h h' := fun x o n e => a x o (fun q => n (hs x q)) e
theorem Chg.nil {h h' : Heap} (c : Chg [] h h') : h.StaysIn h' := fun b o e => c b o List.not_mem_nil e
theorem Chg.of {ms : List Addr} {h h' : Heap} (c : h.StaysIn h') : Chg ms h h' := fun b o _ e => c b o e
theorem Chg.stays {ms : List Addr} {h h' B : Heap} (c : Chg ms h h') (hB : B.StaysIn h) (hm : ∀ x ∈ ms, B.get? x = none) : B.StaysIn h' :=
  fun b o e => c b o (fun q => by rw [hm b q] at e; cases e) (hB b o e)
theorem Stays.trans {h h' h'' : Heap} (a : h.StaysIn h') (b : h'.StaysIn h'') : h.StaysIn h'' := fun x o e => b x o (a x o e)

/-- room for k frames more -/
structure Room (A : Around) (k : Nat) : Prop where
  hd : A.handled = none
  d : A.depth + k ≤ 900
  u : A.units + 10 * k ≤ 9000
theorem Room.deeper {A : Around} {k : Nat} {env : Env} (r : Room A (k + 1)) : Room (A.deeper env) k := ⟨r.hd, by have := r.d; show A.depth + 1 + k ≤ 900; omega, by have := r.u; show A.units + 3 + 10 * k ≤ 9000; omega⟩
theorem Room.less {A : Around} {k j : Nat} (r : Room A k) (h : j ≤ k) : Room A j := ⟨r.hd, by have := r.d; omega, by have := r.u; omega⟩
theorem Room.frames {A : Around} {k : Nat} (r : Room A (k + 1)) : A.depth < recursionLimit := by have := r.d; show A.depth < 1000; omega
theorem Room.units {A : Around} {k : Nat} (r : Room A k) : A.units < cLine := by have := r.u; show A.units < 9900; omega

/-- the top's facts -/
def Ok (w : World) (h : Heap) : Prop := (hd.heap_39 w.params).In h ∧ ∃ p loose mean mg mb, Top p loose mean mg mb h
theorem Ok.keeps {w : World} {h h' : Heap} (x : Ok w h) (k : h.StaysIn h') : Ok w h' := ⟨x.1.keeps k, let ⟨p, l, m, a, b, t⟩ := x.2; ⟨p, l, m, a, b, t.keeps k⟩⟩

/-- the addresses that stand below d -/
def LtA (d : Addr) (as : List Addr) : Prop := ∀ a ∈ as, @LT.lt Nat _ a d
theorem ltA_of {d : Addr} {l : List (Addr × Obj)} (h : ∀ p ∈ l, @LT.lt Nat _ p.1 d) : LtA d (l.map (·.1)) := fun a ha => by
  obtain ⟨p, hp, rfl⟩ := List.mem_map.mp ha
  exact h p hp
theorem neA {d a : Addr} {as : List Addr} (h : LtA d as) (m : a ∈ as) : @Ne Nat a d := Nat.ne_of_lt (h a m)
theorem neA' {d a : Addr} {as : List Addr} (h : LtA d as) (m : a ∈ as) : @Ne Nat d a := Nat.ne_of_gt (h a m)
theorem neP {d a : Addr} {o : Obj} {l : List (Addr × Obj)} (h : ∀ p ∈ l, @Ne Nat p.1 d) (m : (a, o) ∈ l) : @Ne Nat a d := h _ m
theorem neP' {d a : Addr} {o : Obj} {l : List (Addr × Obj)} (h : ∀ p ∈ l, @Ne Nat p.1 d) (m : (a, o) ∈ l) : @Ne Nat d a := Ne.symm (h _ m)
theorem ltA_tl {d : Addr} {as : List Addr} {l : List (Addr × Obj)} (n : Nat) (h : LtA d as) (e : as.drop n = l.map (·.1)) : ∀ p ∈ l, @LT.lt Nat _ p.1 d := fun p hp => h p.1 (List.mem_of_mem_drop (i := n) (e ▸ List.mem_map_of_mem hp))
theorem fcons {α : Type} {P : α → Prop} {a : α} {l : List α} (h : P a) (r : ∀ x ∈ l, P x) : ∀ x ∈ a :: l, P x := List.forall_mem_cons.mpr ⟨h, r⟩
theorem fnil {α : Type} {P : α → Prop} : ∀ x ∈ ([] : List α), P x := fun _ h => absurd h List.not_mem_nil
theorem fhead {α : Type} {P : α → Prop} {a : α} {l : List α} (h : ∀ x ∈ a :: l, P x) : P a := h a (.head _)
theorem ftail {α : Type} {P : α → Prop} {a : α} {l : List α} (h : ∀ x ∈ a :: l, P x) : ∀ x ∈ l, P x := fun x hx => h x (.tail _ hx)
theorem ltA_mem {d a : Addr} {as : List Addr} (h : LtA d as) (m : a ∈ as) : @LT.lt Nat _ a d := h a m
theorem ne_lt' {a b : Nat} (h : a < b) : a ≠ b := Nat.ne_of_lt h
theorem ne_gt' {a b : Nat} (h : b < a) : a ≠ b := Nat.ne_of_gt h
theorem ne_off {a : Nat} (k j : Nat) (h : Nat.beq k j = false) : a + k ≠ a + j := fun e => by
  have : k = j := Nat.add_left_cancel e
  subst this
  rw [Nat.beq_refl] at h; cases h
theorem ne_up {a L : Nat} (k : Nat) (h : a < L) : L + k ≠ a := Nat.ne_of_gt (Nat.lt_of_lt_of_le h (Nat.le_add_right L k))
theorem ne_up' {a L : Nat} (k : Nat) (h : a < L) : a ≠ L + k := Nat.ne_of_lt (Nat.lt_of_lt_of_le h (Nat.le_add_right L k))
theorem allA {d : Addr} {l : List (Addr × Obj)} {as : List Addr} (h : LtA d as) (e : l.map (·.1) = as) : ∀ p ∈ l, @Ne Nat p.1 d := fun p hp => Nat.ne_of_lt (h p.1 (e ▸ List.mem_map_of_mem hp))
theorem ltA_get {d : Addr} {l : List (Addr × Obj)} (h : LtA d (l.map (·.1))) : ∀ p ∈ l, @LT.lt Nat _ p.1 d := fun p hp => h _ (List.mem_map_of_mem hp)
local macro_rules | `(tactic| walk_at $s:str) => `(tactic| k_extra $s)
local macro_rules | `(tactic| k_lt $h:ident) => `(tactic| (replace $h := ltA_of $h; dsimp only [List.map] at $h:ident))
local macro_rules | `(tactic| k_ne) => `(tactic| k_extra "m_ne")
local macro_rules | `(tactic| k_all) => `(tactic| k_extra "m_all")
theorem word_M1_1 : True := by
  (k_with "m_ne" => (refine neN ?_; (try dsimp only); first | with_reducible assumption | (refine Ne.symm ?_; with_reducible assumption) | exact neA (by with_reducible assumption) (by k_mem) | exact neA' (by with_reducible assumption) (by k_mem) | (refine ne_lt' ?_; with_reducible assumption) | (refine ne_gt' ?_; with_reducible assumption) | exact neP (by with_reducible assumption) (by k_mem) | exact neP' (by with_reducible assumption) (by k_mem) | k_extra "m_off" | omega | ((try simp only [LtA, List.forall_mem_cons] at *); omega)))
  (k_with "m_off" => first | exact ne_up 1 (by with_reducible assumption) | exact ne_up' 1 (by with_reducible assumption) | exact ne_up 2 (by with_reducible assumption) | exact ne_up' 2 (by with_reducible assumption) | exact ne_up 3 (by with_reducible assumption) | exact ne_up' 3 (by with_reducible assumption) | exact ne_up 4 (by with_reducible assumption) | exact ne_up' 4 (by with_reducible assumption) | exact ne_off 0 1 rfl | exact ne_off 0 2 rfl | exact ne_off 0 3 rfl | exact ne_off 0 4 rfl | exact ne_off 1 0 rfl | exact ne_off 1 2 rfl | exact ne_off 1 3 rfl | exact ne_off 1 4 rfl | exact ne_off 2 0 rfl | exact ne_off 2 1 rfl | exact ne_off 2 3 rfl | exact ne_off 2 4 rfl | exact ne_off 3 0 rfl | exact ne_off 3 1 rfl | exact ne_off 3 2 rfl | exact ne_off 3 4 rfl | exact ne_off 4 0 rfl | exact ne_off 4 1 rfl | exact ne_off 4 2 rfl | exact ne_off 4 3 rfl)
  (k_with "m_all" => first | with_reducible assumption | exact allA (by with_reducible assumption) (by exact rfl) | exact List.forall_mem_nil _ | (refine' List.forall_mem_cons.mpr ⟨?zma, ?zmb⟩; (case zma => k_ne); (case zmb => k_all)))
  exact True.intro
theorem fill (w : World) (h : Heap) (X : (hd.heap_39 w.params).In h) (mm : PySem.Challenge.rw_nu0060_01 = PySem.Challenge.rw_nu0060_01) : PySem.Challenge.rw_nu0060_01 = PySem.Challenge.rw_nu0060_01 ∧ (hd.heap_39 w.params).In h := by
  k_fill
  exact ⟨mm, X⟩

section
variable {prog : Program} {w : World} {A : Around} {s : Shared} {E : Value → Shared → Prop} {name qual : Str} {params : Arguments} {body : List Stmt} {scope : Scope} {cl : List (Str × Addr)} {dV kV doc pm cdv ct : Value} {an : Option Addr}
  {fo : Obj} {f : Addr} {args : List Value} {binds : List (Str × Value)} {Q : Value → Shared → Prop} {B0 : Heap} {oc : Value} {od : Option Addr} {osl : Array (Option Value)}

/-- a call of a plain def: ms are the objects that it may change, g is what stays -/
theorem enter (ms : List (Addr × Obj)) (hms : ∀ p ∈ ms, s.heap.get? p.1 = some p.2) (hlim : s.heap.NoLimit)
    (ho : s.heap.get? f = some fo) (hd : fo.data = .func (fnX name qual params body scope cl dV kV doc pm an cdv ct)) (hcd : s.heap.CodeRec cdv qual) (hroom : A.depth < recursionLimit)
    (hbind : BindsTo s (fnX name qual params body scope cl dV kV doc pm an cdv ct) ⟨args, []⟩ binds) (hloc : ∀ y ∈ binds, scope.names.lookup y.1 = some .local)
    (h : ∀ g L' h₁, Chg (ms.map (·.1)) s.heap g → g.StaysIn s.heap → (∀ p ∈ ms, g.get? p.1 = none) → Fr g L' h₁ (fun y => binds.reverse.lookup y) → News g L' h₁ ms →
      wpAny (model prog w) (A.deeper (envX qual scope L' f cdv cl)) (execs body (envX qual scope L' f cdv cl))
        (fun fl s' => Q (match fl with | .ret v => v | _ => .none) s') (fun _ _ => False) { s with heap := h₁, toks := s.toks + binds.length })
    (hcell : ∀ x ∈ scope.names, x.2 ≠ .cell) (hco : scope.isCoroutine = false := by rfl) (hgen : scope.isGenerator = false := by rfl) (hk : scope.kind = .function := by rfl) :
    wpAny (model prog w) A (call (.ref f) args) Q E s := by
  refine wpAny_call ?_
  refine codeAny_call_def (fd := fnX name qual params body scope cl dV kV doc pm an cdv ct) (body := body) (binds := binds) hroom ho hd hlim hcd rfl hbind hcell hloc (fun h₁ hns hk₁ => ?_) hco hgen hk
  refine wpAny_mono (h (hideAll s.heap (ms.map (·.1))) s.heap.objs.size h₁ (fun b o n e => hideAll_get _ e n) (fun b o e => of_hideAll _ e) (fun p hp => hideAll_none _ (List.mem_map_of_mem hp))
    ⟨hns, fun b o e => hk₁ b o (of_hideAll _ e), Nat.le_of_eq (hideAll_size _ _)⟩
    (fun p hp => ⟨hk₁ _ _ (hms p hp), Nat.ne_of_lt (Heap.lt_size (hms p hp)), hideAll_none _ (List.mem_map_of_mem hp)⟩)) (fun fl s' hl => hl) fun _ _ y => y.elim

/-- the same for a def of the text's own -/
theorem enterK {k : Nat} (ms : List (Addr × Obj)) (O : Ok w B0) (hB : B0.StaysIn s.heap) (hms : ∀ p ∈ ms, s.heap.get? p.1 = some p.2 ∧ B0.get? p.1 = none) (hroom : Room A (k + 1))
    (ho : (hd.heap_39 w.params).lookup f = some ⟨oc, od, .func (fnX name qual params body scope [] dV kV doc pm an cdv ct), osl⟩) (hcd : codeIn (hd.heap_39 w.params) cdv qual = true)
    (hbind : bindArgs (fnX name qual params body scope [] dV kV doc pm an cdv ct) ⟨args, []⟩ = pure binds) (hloc : ∀ y ∈ binds, scope.names.lookup y.1 = some .local)
    (h : ∀ A' g L' h₁ tk₁ p loose mean mg mb, Room A' k → Chg (ms.map (·.1)) s.heap g → B0.StaysIn g → Ok w g → (hd.heap_39 w.params).In g → Top p loose mean mg mb g → (∀ p ∈ ms, g.get? p.1 = none) → Fr g L' h₁ (fun y => binds.reverse.lookup y) → News g L' h₁ ms →
      wpAny (model prog w) A' (execs body (envX qual scope L' f cdv []))
        (fun fl s' => Q (match fl with | .ret v => v | _ => .none) s') (fun _ _ => False) { s with heap := h₁, toks := tk₁ })
    (hcell : ∀ x ∈ scope.names, x.2 ≠ .cell) (hco : scope.isCoroutine = false) (hgen : scope.isGenerator = false) (hk : scope.kind = .function) :
    wpAny (model prog w) A (call (.ref f) args) Q E s := by
  obtain ⟨X, p, loose, mean, mg, mb, T⟩ := id O
  refine enter ms (fun p hp => (hms p hp).1) (T.nolimit.keeps hB) (hB _ _ (X _ _ ho)) rfl (codeRec_of (X.keeps hB) hcd) hroom.frames (BindsTo.of_eq hbind) hloc (fun g L' h₁ cg gs gm F N => ?_) hcell hco hgen hk
  have st : B0.StaysIn g := fun b o e => cg b o (fun q => by
    obtain ⟨p, hp, rfl⟩ := List.mem_map.mp q
    rw [(hms p hp).2] at e; cases e) (hB b o e)
  exact h _ g L' h₁ _ p loose mean mg mb hroom.deeper cg st (O.keeps st) (X.keeps st) (T.keeps st) gm F N
end

/-- what a call that keeps all gives back -/
structure Kept (s : Shared) (R : Value → Heap → Prop) (v : Value) (s' : Shared) : Prop where
  k : Keeps s s'
  r : R v s'.heap

/-- a step that keeps all that stands -/
theorem pure_step {α : Type} {M : Model} {A : Around} {t : Sem α} {R : α → Heap → Prop} {E : Value → Shared → Prop} {s : Shared} {g : Heap} {L : Addr} {m : Str → Option Value} {news : List (Addr × Obj)} {Q : α → Shared → Prop}
    (F : Fr g L s.heap m) (N : News g L s.heap news) (h : wpAny M A t (fun v s' => Keeps s s' ∧ R v s'.heap) E s)
    (k : ∀ v h' tk, Fr g L h' m → News g L h' news → s.heap.StaysIn h' → R v h' → Q v { s with heap := h', toks := tk }) : wpAny M A t Q E s :=
  wpAny_mono h (fun v s' ⟨⟨h', tk, e, st⟩, r⟩ => by
    subst e
    exact k v h' tk ⟨F.ns.keeps st, fun b o e => st b o (F.keep b o e), F.above⟩ (fun p hp => ⟨st _ _ (N p hp).1, (N p hp).2⟩) st r) fun _ _ e => e

/-- an end of such a step, seen from a frame whose base is all that stood -/
theorem keeps_of {s : Shared} {g h' : Heap} {L : Addr} {m : Str → Option Value} {tk : Nat} {ms : List Addr} (c : Chg ms s.heap g) (hm : ms = []) (F : Fr g L h' m) : Keeps s { s with heap := h', toks := tk } :=
  ⟨h', tk, rfl, fun b o e => F.keep b o (c b o (by rw [hm]; exact List.not_mem_nil) e)⟩

theorem kept_step {M : Model} {A : Around} {t : Sem Value} {R : Value → Heap → Prop} {E : Value → Shared → Prop} {s : Shared} {g : Heap} {L : Addr} {m : Str → Option Value} {news : List (Addr × Obj)} {Q : Value → Shared → Prop}
    (F : Fr g L s.heap m) (N : News g L s.heap news) (h : wpAny M A t (Kept s R) E s)
    (k : ∀ v h' tk, Fr g L h' m → News g L h' news → s.heap.StaysIn h' → R v h' → Q v { s with heap := h', toks := tk }) : wpAny M A t Q E s :=
  pure_step (R := R) F N (wpAny_mono h (fun _ _ x => ⟨x.k, x.r⟩) fun _ _ e => e) k

theorem InstAt.base {h : Heap} {x dx C : Addr} {od : Obj} (e1 : h.get? x = some (instObj C dx)) (e2 : h.get? dx = some od) : W.InstAt h x (instObj C dx) C (some od) := ⟨e1, rfl, rfl, e2⟩

theorem fresh_of {ms : List Addr} {h g : Heap} {a : Addr} (c : Chg ms h g) (hm : ms = []) (e : g.get? a = none) : h.get? a = none := by
  cases q : h.get? a with
  | none => rfl
  | some o => rw [c a o (by rw [hm]; exact List.not_mem_nil) q] at e; cases e
theorem fresh_back {h h' : Heap} {a : Addr} (c : h.StaysIn h') (e : h'.get? a = none) : h.get? a = none := by
  cases q : h.get? a with
  | none => rfl
  | some o => rw [c a o q] at e; cases e
theorem news_apart {g h : Heap} {L a : Addr} {news : List (Addr × Obj)} (N : News g L h news) (e : h.get? a = none) : ∀ p ∈ news, p.1 ≠ a := fun p hp q => by
  have := (N p hp).1; rw [q, e] at this; cases this
theorem fr_fresh {g h : Heap} {L a : Addr} {m : Str → Option Value} (F : Fr g L h m) (e : h.get? a = none) : g.get? a = none := by
  cases q : g.get? a with
  | none => rfl
  | some o => rw [F.keep a o q] at e; cases e
theorem ints_push {its : Array Value} {xs : List Int} {n : Int} {t : Tok} (hI : IntsAre its.toList xs) : IntsAre (its.push (.int n t)).toList (xs ++ [n]) := by
  rw [Array.toList_push]; exact IntsAre.append hI (.cons n t .nil)
theorem ints_size {its : Array Value} {xs : List Int} (hI : IntsAre its.toList xs) : its.size = xs.length := by rw [← hI.length, Array.length_toList]
theorem nat_size {its : Array Value} {l : List Nat} (hI : IntsAre its.toList (l.map fun (x : Nat) => (x : Int))) : its.size = l.length := by rw [ints_size hI, List.length_map]

/-- a list object -/
theorem isList_of {h : Heap} {l : Addr} {its : Array Value} {ep : Nat} (e : h.get? l = some (listOf its ep)) : h.IsList l its := ⟨_, e, rfl, ep, rfl⟩


theorem loadX_L {M : Model} {A : Around} {E : Value → Shared → Prop} {s : Shared} {h₀ : Heap} {L a : Addr} {m : Str → Option Value} {cn : Str} {cs : Scope} {ccd : Value} {cl : List (Str × Addr)} {x : Str} {v : Value} {Q : Value → Shared → Prop}
    (F : Fr h₀ L s.heap m) (hv : m x = some v) (h : Q v s) (hk : cs.kind = .function) (hx : (envX cn cs L a ccd cl).kindOf x = some .local) : wpAny M A (loadName (envX cn cs L a ccd cl) x) Q E s := wpAny_loadName_local hk hx F.ns hv h


/-- one row of the tree as the heap bears it -/
structure Nd where
  a : Addr
  d : Addr
  c : Addr
  t : Addr
  kind : Str
  uri : Str
  lname : Str
  par : Option Nat
  kids : List Nat
  attrs : List Nat

def parV (p : Option Nat) (v : Value) : Prop := match p with
  | none => v = .none
  | some p => ∃ t, v = .int (p : Int) t

noncomputable abbrev natZ (l : List Nat) : List Int := l.map fun (x : Nat) => (x : Int)

theorem kept_val {M : Model} {A : Around} {t : Sem Value} {E : Value → Shared → Prop} {s : Shared} {g : Heap} {L : Addr} {m : Str → Option Value} {news : List (Addr × Obj)} {Q : Value → Shared → Prop} {c : Value} (F : Fr g L s.heap m) (N : News g L s.heap news) (h : wpAny M A t (Kept s fun v _ => v = c) E s) (k : ∀ h' tk, Fr g L h' m → News g L h' news → s.heap.StaysIn h' → Q c { s with heap := h', toks := tk }) : wpAny M A t Q E s :=
  kept_step F N h fun v h' tk F' N' st r => by subst r; exact k h' tk F' N' st
theorem kept_ex {M : Model} {A : Around} {t : Sem Value} {E : Value → Shared → Prop} {s : Shared} {g : Heap} {L : Addr} {m : Str → Option Value} {news : List (Addr × Obj)} {Q : Value → Shared → Prop} {c : Tok → Value} (F : Fr g L s.heap m) (N : News g L s.heap news) (h : wpAny M A t (Kept s fun v _ => ∃ t, v = c t) E s) (k : ∀ h' tk, Fr g L h' m → News g L h' news → s.heap.StaysIn h' → ∀ x, Q (c x) { s with heap := h', toks := tk }) : wpAny M A t Q E s :=
  kept_step F N h fun v h' tk F' N' st r => by obtain ⟨x, r⟩ := r; subst r; exact k h' tk F' N' st x
theorem kept_i5 {M : Model} {A : Around} {t : Sem Value} {E : Value → Shared → Prop} {s : Shared} {g : Heap} {L : Addr} {m : Str → Option Value} {news : List (Addr × Obj)} {Q : Value → Shared → Prop} {zs : List Nat} (F : Fr g L s.heap m) (N : News g L s.heap news) (h : wpAny M A t (Kept s fun v h' => ∃ l its ep, v = .ref l ∧ s.heap.get? l = none ∧ h'.get? l = some (listOf its ep) ∧ IntsAre its.toList (natZ zs)) E s) (k : ∀ h' tk, Fr g L h' m → News g L h' news → s.heap.StaysIn h' → ∀ (l : Addr) (its : Array Value) (ep : Nat), s.heap.get? l = none → h'.get? l = some (listOf its ep) → IntsAre its.toList (natZ zs) → (∀ p ∈ news, p.1 ≠ l) → Q (.ref l) { s with heap := h', toks := tk }) : wpAny M A t Q E s :=
  kept_step F N h fun v h' tk F' N' st r => by obtain ⟨l, its, ep, r, r2, r3, r4⟩ := r; subst r; exact k h' tk F' N' st l its ep r2 r3 r4 (news_apart N r2)
theorem kept_i6 {M : Model} {A : Around} {t : Sem Value} {E : Value → Shared → Prop} {s : Shared} {g : Heap} {L : Addr} {m : Str → Option Value} {news : List (Addr × Obj)} {Q : Value → Shared → Prop} {zs : List Nat} (F : Fr g L s.heap m) (N : News g L s.heap news) (h : wpAny M A t (Kept s fun v h' => ∃ l its ep, v = .ref l ∧ s.heap.get? l = none ∧ h'.get? l = some (listOf its ep) ∧ IntsAre its.toList (natZ zs)) E s) (k : ∀ h' tk, Fr g L h' m → News g L h' news → s.heap.StaysIn h' → ∀ (l : Addr) (its : Array Value) (ep : Nat), s.heap.get? l = none → h'.get? l = some (listOf its ep) → IntsAre its.toList (natZ zs) → (∀ p ∈ news, p.1 ≠ l) → its.size = zs.length → Q (.ref l) { s with heap := h', toks := tk }) : wpAny M A t Q E s :=
  kept_i5 F N h fun h' tk F' N' st l its ep r2 r3 r4 r5 => k h' tk F' N' st l its ep r2 r3 r4 r5 (nat_size r4)
theorem kept_i7 {M : Model} {A : Around} {t : Sem Value} {E : Value → Shared → Prop} {s : Shared} {g : Heap} {L : Addr} {m : Str → Option Value} {news : List (Addr × Obj)} {Q : Value → Shared → Prop} {zs : List Nat} (F : Fr g L s.heap m) (N : News g L s.heap news) (h : wpAny M A t (Kept s fun v h' => ∃ l its ep, v = .ref l ∧ s.heap.get? l = none ∧ h'.get? l = some (listOf its ep) ∧ IntsAre its.toList (natZ zs)) E s) (k : ∀ h' tk, Fr g L h' m → News g L h' news → s.heap.StaysIn h' → ∀ (l : Addr) (its : Array Value) (ep : Nat), s.heap.get? l = none → h'.get? l = some (listOf its ep) → IntsAre its.toList (natZ zs) → (∀ p ∈ news, p.1 ≠ l) → g.get? l = none → Q (.ref l) { s with heap := h', toks := tk }) : wpAny M A t Q E s :=
  kept_i5 F N h fun h' tk F' N' st l its ep r2 r3 r4 r5 => k h' tk F' N' st l its ep r2 r3 r4 r5 (fr_fresh F r2)

structure NdAt (h : Heap) (nd : Nd) : Prop where
  inst : h.get? nd.a = some (instObj 134 nd.d)
  dict : ∃ es n, h.get? nd.d = some (dictOf es n) ∧ (∃ t, getL "kind" es = some (some (.str nd.kind t))) ∧ (∃ t, getL "uri" es = some (some (.str nd.uri t))) ∧ (∃ t, getL "local" es = some (some (.str nd.lname t))) ∧
    (∃ v, getL "parent" es = some (some v) ∧ parV nd.par v) ∧ getL "children" es = some (some (.ref nd.c)) ∧ getL "attributes" es = some (some (.ref nd.t))
  kids : ∃ vs ep, h.get? nd.c = some (listOf vs.toArray ep) ∧ IntsAre vs (natZ nd.kids)
  attrs : ∃ vs ep, h.get? nd.t = some (listOf vs.toArray ep) ∧ IntsAre vs (natZ nd.attrs)
  small : nd.kids.length ≤ 100 ∧ nd.attrs.length ≤ 100

structure TreeAt (h : Heap) (tr rl : Addr) (nds : List Nd) : Prop where
  inst : ∃ dt hh tk n, h.get? tr = some (instObj 323 dt) ∧ h.get? dt = some (dictOf [⟨hh, .str "rows" tk, .ref rl⟩] n)
  rows : ∃ ep, h.get? rl = some (listOf (nds.map fun nd => Value.ref nd.a).toArray ep)
  nodes : ∀ nd ∈ nds, NdAt h nd
  small : nds.length ≤ 100

theorem NdAt.keeps {h h' : Heap} {nd : Nd} (x : NdAt h nd) (k : h.StaysIn h') : NdAt h' nd where
  inst := k _ _ x.inst
  dict := let ⟨es, n, a, b⟩ := x.dict; ⟨es, n, k _ _ a, b⟩
  kids := let ⟨vs, ep, a, b⟩ := x.kids; ⟨vs, ep, k _ _ a, b⟩
  attrs := let ⟨vs, ep, a, b⟩ := x.attrs; ⟨vs, ep, k _ _ a, b⟩
  small := x.small
theorem TreeAt.keeps {h h' : Heap} {tr rl : Addr} {nds : List Nd} (x : TreeAt h tr rl nds) (k : h.StaysIn h') : TreeAt h' tr rl nds where
  inst := let ⟨dt, hh, tk, n, a, b⟩ := x.inst; ⟨dt, hh, tk, n, k _ _ a, k _ _ b⟩
  rows := let ⟨ep, a⟩ := x.rows; ⟨ep, k _ _ a⟩
  nodes := fun nd hm => (x.nodes nd hm).keeps k
  small := x.small

theorem parV.handed {p : Option Nat} {v : Value} (h : parV p v) : handedIn v = true := by
  cases p with
  | none => rw [show v = .none from h]; rfl
  | some p => obtain ⟨t, rfl⟩ := h; rfl
theorem line_small {n : Nat} (h : n ≤ 1000) : n ≤ sizeLine := Nat.le_trans h (by decide)


theorem word_M2_1 : True := by
  (k_with "m_om" => ((repeat (rename @Ne Nat _ _ => zne; clear zne)); omega))
  (k_with "m_get" => first | with_reducible assumption | exact Fr.keep (by with_reducible assumption) _ _ (by with_reducible assumption) | exact News.get (by with_reducible assumption) (by k_mem))
  exact True.intro
local macro_rules | `(tactic| k_inst) => `(tactic| (refine' InstAt.base ?e1 ?e2; (case e1 => k_extra "m_get"); (case e2 => k_extra "m_get")))
theorem word_M2_2 : True := by
  (k_with "m_size" => first | k_extra "m_om" | (simp only [List.size_toArray, List.length_map, List.length_reverse, Array.length_toList, List.length_append, List.length_cons, List.length_nil, Array.size_push] at *; k_extra "m_om"))
  exact True.intro
local macro_rules | `(tactic| is_list) => `(tactic| exact isList_of (by k_extra "m_get"))
local macro_rules | `(tactic| k_handed) => `(tactic| assumption)
theorem word_M2_3 : True := by
  (k_with "call type:list" => (k_dflt (((with_reducible show wpAny _ _ (call (Value.type _) [Value.ref _]) _ _ _); (refine' list_copyK ?zk1 ?zk2 ?zk3 ?_ ?z; (case zk1 => k_asm); (case zk2 => k_asm); (case zk3 => is_list); (case z => exact line_small (by k_extra "m_size"))); intro _ _ _ _ _ l1; (try k_lt l1); (try k_sweep); (try (revert l1; intro _))))))
  (k_with "call builtin:len" => (k_dflt (((with_reducible show wpAny _ _ (call (Value.builtin "len") [Value.ref _]) _ _ _); refine call_len_list (isList_of (by k_extra "m_get")) (by k_extra "m_size") ?_))))
  (k_with "subscriptTail" => (k_dflt (((with_reducible show wpAny _ _ (subscriptTail _ _ (Value.ref _) (Value.int _ _)) _ _ _); (with_unfolding_all refine' item_litK ?zk1 ?zk2 ?zk3 ?zk4 ?_ ?zk6; (case zk1 => exact isList_of (by k_extra "m_get")); (case zk2 => first | exact Int.natCast_nonneg _ | decide | omega); (case zk3 => first | with_reducible assumption | decide | omega); (case zk4 => first | assumption | exact rfl); (case zk6 => with_unfolding_all rfl))))))
  (k_with "subscriptTail Name Constant ref int" => (k_dflt (((with_reducible show wpAny _ _ (subscriptTail _ _ (Value.ref _) (Value.int _ _)) _ _ _); (with_unfolding_all refine' item_litK ?zk1 ?zk2 ?zk3 ?zk4 ?_ ?zk6; (case zk1 => exact isList_of (by k_extra "m_get")); (case zk2 => first | exact Int.natCast_nonneg _ | decide | omega); (case zk3 => first | with_reducible assumption | decide | omega); (case zk4 => first | assumption | exact rfl); (case zk6 => with_unfolding_all rfl))))))
  (k_with "m_fact" => first | decide | k_extra "m_om" | (simp; done) | (simp only [decide_eq_true_eq, decide_eq_false_iff_not, Bool.not_eq_true', Bool.not_eq_false', Bool.not_eq_true, Bool.not_eq_false, Bool.not_not, ne_eq]; k_extra "m_om") | (simp only [decide_eq_true_eq, decide_eq_false_iff_not, Bool.not_eq_true', Bool.not_eq_false', Bool.not_eq_true, Bool.not_eq_false, Bool.not_not, List.size_toArray, List.length_map, ne_eq]; k_extra "m_om"))
  (k_with "ite" => first | refine ite_pos (by k_extra "m_fact") ?_ | refine ite_neg (by k_extra "m_fact") ?_)
  (k_with "m_walk" => repeat (first | walk1 | (dsimp only; walk1)))
  (k_with "m_enter" => ((case ho => k_is); (case hcd => k_is); (case hms => exact fun _ h => nomatch h); (case hbind => exact rfl); (case hloc => exact locs rfl); (case hco => exact rfl); (case hgen => exact rfl); (case hk => exact rfl); (case hcell => decide)))
  exact True.intro
local macro_rules | `(tactic| k_get) => `(tactic| assumption)

section
variable {prog : Program} {w : World} {A : Around} {s : Shared} {E : Value → Shared → Prop} {B0 : Heap} {tr rl : Addr} {nds : List Nd} {k : Nat} {t : Tok} {nd : Nd}

theorem row_spec (R : Room A 3) (O : Ok w B0) (hB : B0.StaysIn s.heap) (TA : TreeAt s.heap tr rl nds) (hk : nds[k]? = some nd) :
    wpAny (model prog w) A (call (.ref 166) [.ref tr, .int k t]) (Kept s fun v _ => v = .ref nd.a) E s := by
  refine' enterK (binds := [("self", .ref tr), ("node", .int k t)]) [] O hB ?hms R ?ho ?hcd ?hbind ?hloc ?h ?hcell ?hco ?hgen ?hk
  k_extra "m_enter"
  intro A' g L h₁ tk₁ p loose mean mg mb R' cg hBg Og Xg Tg _ F N
  (try k_fold)
  obtain ⟨⟨dt, hh, tk, n, e1, e2⟩, ⟨ep, e3⟩, hnd, hsm⟩ := TA.keeps cg.nil
  have hk' : (nds.map fun nd => Value.ref nd.a)[((k : Nat) : Int).toNat]? = some (.ref nd.a) := by simp [hk]
  have hlt : k < nds.length := (List.getElem?_eq_some_iff.mp hk).1
  k_extra "m_walk"
  exact ⟨keeps_of cg rfl F, rfl⟩


theorem word_M2_4 : True := by
  (k_with "call ref" => (k_dflt (((with_reducible show wpAny _ _ (call (Value.ref 166) _) _ _ _); refine' kept_val ?zF ?zN (row_spec ?zR ?zO ?zB ?zT ?zk) ?_; (case zF => k_asm); (case zN => k_asm); (case zR => exact Room.less (by k_asm) (by exact Nat.le_of_ble_eq_true rfl)); (case zO => k_asm); (case zB => exact Fr.keep (by k_asm)); (case zT => exact TreeAt.keeps (by k_asm) (Fr.keep (by k_asm))); (case zk => k_asm); intro _ _ _ _ _; (try k_sweep)))))
  exact True.intro
theorem kind_spec (R : Room A 4) (O : Ok w B0) (hB : B0.StaysIn s.heap) (TA : TreeAt s.heap tr rl nds) (hk : nds[k]? = some nd) :
    wpAny (model prog w) A (call (.ref 243) [.ref tr, .int k t]) (Kept s fun v h' => ∃ t, v = .str nd.kind t) E s := by
  refine' enterK (binds := [("self",.ref tr),("node",.int k t)]) [] O hB ?hms R ?ho ?hcd ?hbind ?hloc ?h ?hcell ?hco ?hgen ?hk
  k_extra "m_enter"
  intro A' g L h₁ tk₁ p loose mean mg mb R' cg hBg Og Xg Tg _ F N
  k_fold
  have TA' := TA.keeps cg.nil
  obtain ⟨⟨dt, hh, tk, n, e1, e2⟩, ⟨ep, e3⟩, hnd, hsm⟩ := id TA'
  obtain ⟨n1, ⟨es, nn, n2, ⟨t1, n3⟩, ⟨t2, n4⟩, ⟨t3, n5⟩, ⟨pv, n6, n6'⟩, n7, n8⟩, ⟨kvs, kep, n9, n9'⟩, ⟨avs, aep, n10, n10'⟩, n11, n12⟩ := hnd nd (List.mem_of_getElem? hk)
  have hpv := n6'.handed
  have hkl := n9'.length
  simp only [List.length_map] at hkl
  k_extra "m_walk"
  exact ⟨keeps_of cg rfl (by assumption), _, rfl⟩
theorem uri_spec (R : Room A 4) (O : Ok w B0) (hB : B0.StaysIn s.heap) (TA : TreeAt s.heap tr rl nds) (hk : nds[k]? = some nd) :
    wpAny (model prog w) A (call (.ref 257) [.ref tr, .int k t]) (Kept s fun v h' => ∃ t, v = .str nd.uri t) E s := by
  refine' enterK (binds := [("self",.ref tr),("node",.int k t)]) [] O hB ?hms R ?ho ?hcd ?hbind ?hloc ?h ?hcell ?hco ?hgen ?hk
  k_extra "m_enter"
  intro A' g L h₁ tk₁ p loose mean mg mb R' cg hBg Og Xg Tg _ F N
  k_fold
  have TA' := TA.keeps cg.nil
  obtain ⟨⟨dt, hh, tk, n, e1, e2⟩, ⟨ep, e3⟩, hnd, hsm⟩ := id TA'
  obtain ⟨n1, ⟨es, nn, n2, ⟨t1, n3⟩, ⟨t2, n4⟩, ⟨t3, n5⟩, ⟨pv, n6, n6'⟩, n7, n8⟩, ⟨kvs, kep, n9, n9'⟩, ⟨avs, aep, n10, n10'⟩, n11, n12⟩ := hnd nd (List.mem_of_getElem? hk)
  have hpv := n6'.handed
  have hkl := n9'.length
  simp only [List.length_map] at hkl
  k_extra "m_walk"
  exact ⟨keeps_of cg rfl (by assumption), _, rfl⟩
theorem local_spec (R : Room A 4) (O : Ok w B0) (hB : B0.StaysIn s.heap) (TA : TreeAt s.heap tr rl nds) (hk : nds[k]? = some nd) :
    wpAny (model prog w) A (call (.ref 264) [.ref tr, .int k t]) (Kept s fun v h' => ∃ t, v = .str nd.lname t) E s := by
  refine' enterK (binds := [("self",.ref tr),("node",.int k t)]) [] O hB ?hms R ?ho ?hcd ?hbind ?hloc ?h ?hcell ?hco ?hgen ?hk
  k_extra "m_enter"
  intro A' g L h₁ tk₁ p loose mean mg mb R' cg hBg Og Xg Tg _ F N
  k_fold
  have TA' := TA.keeps cg.nil
  obtain ⟨⟨dt, hh, tk, n, e1, e2⟩, ⟨ep, e3⟩, hnd, hsm⟩ := id TA'
  obtain ⟨n1, ⟨es, nn, n2, ⟨t1, n3⟩, ⟨t2, n4⟩, ⟨t3, n5⟩, ⟨pv, n6, n6'⟩, n7, n8⟩, ⟨kvs, kep, n9, n9'⟩, ⟨avs, aep, n10, n10'⟩, n11, n12⟩ := hnd nd (List.mem_of_getElem? hk)
  have hpv := n6'.handed
  have hkl := n9'.length
  simp only [List.length_map] at hkl
  k_extra "m_walk"
  exact ⟨keeps_of cg rfl (by assumption), _, rfl⟩
theorem parent_spec (R : Room A 4) (O : Ok w B0) (hB : B0.StaysIn s.heap) (TA : TreeAt s.heap tr rl nds) (hk : nds[k]? = some nd) :
    wpAny (model prog w) A (call (.ref 278) [.ref tr, .int k t]) (Kept s fun v h' => parV nd.par v) E s := by
  refine' enterK (binds := [("self",.ref tr),("node",.int k t)]) [] O hB ?hms R ?ho ?hcd ?hbind ?hloc ?h ?hcell ?hco ?hgen ?hk
  k_extra "m_enter"
  intro A' g L h₁ tk₁ p loose mean mg mb R' cg hBg Og Xg Tg _ F N
  k_fold
  have TA' := TA.keeps cg.nil
  obtain ⟨⟨dt, hh, tk, n, e1, e2⟩, ⟨ep, e3⟩, hnd, hsm⟩ := id TA'
  obtain ⟨n1, ⟨es, nn, n2, ⟨t1, n3⟩, ⟨t2, n4⟩, ⟨t3, n5⟩, ⟨pv, n6, n6'⟩, n7, n8⟩, ⟨kvs, kep, n9, n9'⟩, ⟨avs, aep, n10, n10'⟩, n11, n12⟩ := hnd nd (List.mem_of_getElem? hk)
  have hpv := n6'.handed
  have hkl := n9'.length
  simp only [List.length_map] at hkl
  k_extra "m_walk"
  exact ⟨keeps_of cg rfl (by assumption), n6'⟩
theorem children_spec (R : Room A 4) (O : Ok w B0) (hB : B0.StaysIn s.heap) (TA : TreeAt s.heap tr rl nds) (hk : nds[k]? = some nd) :
    wpAny (model prog w) A (call (.ref 285) [.ref tr, .int k t]) (Kept s fun v h' => ∃ l its ep, v = .ref l ∧ s.heap.get? l = none ∧ h'.get? l = some (listOf its ep) ∧ IntsAre its.toList (natZ nd.kids)) E s := by
  refine' enterK (binds := [("self",.ref tr),("node",.int k t)]) [] O hB ?hms R ?ho ?hcd ?hbind ?hloc ?h ?hcell ?hco ?hgen ?hk
  k_extra "m_enter"
  intro A' g L h₁ tk₁ p loose mean mg mb R' cg hBg Og Xg Tg _ F N
  k_fold
  have TA' := TA.keeps cg.nil
  obtain ⟨⟨dt, hh, tk, n, e1, e2⟩, ⟨ep, e3⟩, hnd, hsm⟩ := id TA'
  obtain ⟨n1, ⟨es, nn, n2, ⟨t1, n3⟩, ⟨t2, n4⟩, ⟨t3, n5⟩, ⟨pv, n6, n6'⟩, n7, n8⟩, ⟨kvs, kep, n9, n9'⟩, ⟨avs, aep, n10, n10'⟩, n11, n12⟩ := hnd nd (List.mem_of_getElem? hk)
  have hpv := n6'.handed
  have hkl := n9'.length
  simp only [List.length_map] at hkl
  k_extra "m_walk"
  rename_i D' c' h' F' N' l1
  exact ⟨keeps_of cg rfl F', _, kvs.toArray, _, rfl, fresh_of cg rfl (News.fresh N' (.head _)), News.get N' (.head _), n9'⟩
end


section
variable {prog : Program} {w : World} {A : Around} {E : Value → Shared → Prop} {s : Shared} {env : Env} {g : Heap} {x : Str} {body : List Stmt} {Q : Flow → Shared → Prop}

theorem iter_list {ax : Addr} {its : Array Value} {ep : Nat} {m₀ : Str → Option Value} {news : List (Addr × Obj)} {L : Addr} (hL : env.locals = L) (J : Nat → (Str → Option Value) → List (Addr × Obj) → Prop)
    (hh : A.handled = none) (hl : s.heap.get? ax = some (listOf its ep)) (F : Fr g L s.heap m₀) (N : News g L s.heap news) (hadr : ∀ p ∈ news, p.1 ≠ ax) (hj : J 0 m₀ news)
    (turn : ∀ i v m₁ news₁ h tk own, its[i]? = some v → news₁.map (·.1) = news.map (·.1) → OwnOff own (news.map (·.1)) → J i m₁ news₁ → Fr g L h (fun y => if y = x then some v else m₁ y) → News g L h (news₁ ++ own) →
      wpAny (model prog w) A (execs body env) (InvPostN g L (J (i + 1)) own (news.map (·.1)) { s with heap := h, toks := tk } Q) E { s with heap := h, toks := tk })
    (done : ∀ m₁ news₁ h tk, news₁.map (·.1) = news.map (·.1) → J its.size m₁ news₁ → Fr g L h m₁ → News g L h news₁ → Q .next { s with heap := h, toks := tk }) :
    wpAny (model prog w) A (pyIter (.ref ax)) (fun it s₂ => LoopAtV prog w A g env x body Q E it s₂) E s := by
  subst hL
  have hls : s.heap.IsList ax its := isList_of hl
  have hlt : ax < s.heap.objs.size := Heap.lt_size hl
  have hne : ax ≠ s.heap.objs.size := Nat.ne_of_lt hlt
  refine wpAny_pyIter_list hls ?_
  have W := Walks.list (prog := prog) (w := w) hh s.heap.objs.size ax hne its
  let J' : Nat → (Str → Option Value) → List (Addr × Obj) → Prop := fun i m₁ news₁ => news₁.map (·.1) = news.map (·.1) ∧ J i m₁ news₁
  refine ⟨_, _, _, its.size, _, _, m₀, news, J', rfl, W, ?_, ?_, ?_, ⟨⟨_, Heap.get?_push_size _ rfl, rfl, rfl⟩, hls.at fun o e => Heap.get?_push_of_some _ e⟩, F.push _, (fun p hp => ⟨Heap.get?_push_of_some _ (N p hp).1, (N p hp).2⟩), ⟨rfl, hj⟩, ?_, ?_⟩
  · intro hm
    rcases List.mem_cons.mp hm with e | hm
    · exact absurd F.ns.lt (e ▸ Nat.lt_irrefl _)
    · have e := List.mem_singleton.mp hm
      obtain ⟨oL, es, ep', hL, hd, _⟩ := F.ns
      rw [e, hl] at hL; cases hL; cases hd
  · intro b hb
    rw [List.mem_singleton.mp hb]
    exact next_is_new F
  · intro p hp hI
    exact absurd (Heap.lt_size (N p hp).1) ((List.mem_singleton.mp hI) ▸ Nat.lt_irrefl _)
  · rintro i v m₁ news₁ s₁ own ⟨hh', tk', rfl⟩ hin hP ⟨hadr₁, hJ⟩ hoff hown _ _ _ F₁ N₁
    have hsep : OwnOff own (news.map (·.1)) := by
      intro p hp b hb e
      obtain ⟨q, hq, rfl⟩ := List.mem_map.mp hb
      rcases List.mem_cons.mp (hown p hp) with h1 | h1
      · exact absurd (Heap.lt_size (N q hq).1) (by rw [← e, h1]; exact Nat.lt_irrefl _)
      · exact hadr q hq (e.symm.trans (List.mem_singleton.mp h1))
    have hx : its[i]? = some v := hP
    have N₂ : News g env.locals hh' (news₁ ++ own) := fun p hp => N₁ p ((List.mem_append.mp hp).elim (fun h => List.mem_append.mpr (.inr h)) fun h => List.mem_append.mpr (.inl h))
    refine wpAny_mono (turn i v m₁ news₁ hh' tk' own hx hadr₁ hsep hJ F₁ N₂) (fun f s₂ p => ?_) fun _ _ e => e
    have fin : InvEndN g env.locals (J (i + 1)) own (news.map (·.1)) { s with heap := hh', toks := tk' } s₂ → LoopStepU g env.locals [s.heap.objs.size] own (J' (i + 1)) { s with heap := hh', toks := tk' } .next s₂ := by
      rintro ⟨h', tk, m', news', nx, e, F', N', hn, ho, ha, hm⟩
      refine ⟨rfl, h', tk, m', nx, e, F', fun p hp => N' p ((List.mem_append.mp hp).elim (ho p) (hn p)), fun p hp hq => ?_, ha, hm⟩
      have h1 : p.1 ∈ nx.map (·.1) := List.mem_map.mpr ⟨p, hp, rfl⟩
      rw [ha, ← hadr₁] at h1
      obtain ⟨q, hq1, hq2⟩ := List.mem_map.mp h1
      exact hoff q hq1 (by rw [hq2]; exact hq)
    cases f with
    | ret v => exact .ret p
    | brk => exact .brk p
    | next => exact .next (fin p)
    | cont => exact .cont (fin p)
  · rintro h' tk m' news' F' N' _ ⟨ha, hJ⟩
    exact done m' news' h' tk ha hJ F' N'

theorem iter_range {r : Addr} {n : Nat} {t u v : Tok} {m₀ : Str → Option Value} {news : List (Addr × Obj)} {L : Addr} (hL : env.locals = L) (J : Nat → (Str → Option Value) → List (Addr × Obj) → Prop)
    (hh : A.handled = none) (hr : IsRange s.heap r 0 n 1 t u v) (hn : n ≤ 1000) (F : Fr g L s.heap m₀) (N : News g L s.heap news) (hj : J 0 m₀ news)
    (turn : ∀ i t m₁ news₁ h tk own, i < n → news₁.map (·.1) = news.map (·.1) → OwnOff own (news.map (·.1)) → J i m₁ news₁ → Fr g L h (fun y => if y = x then some (.int (i : Int) t) else m₁ y) → News g L h (news₁ ++ own) →
      wpAny (model prog w) A (execs body env) (InvPostN g L (J (i + 1)) own (news.map (·.1)) { s with heap := h, toks := tk } Q) E { s with heap := h, toks := tk })
    (done : ∀ m₁ news₁ h tk, news₁.map (·.1) = news.map (·.1) → J n m₁ news₁ → Fr g L h m₁ → News g L h news₁ → Q .next { s with heap := h, toks := tk }) :
    wpAny (model prog w) A (pyIter (.ref r)) (fun it s₂ => LoopAtV prog w A g env x body Q E it s₂) E s := by
  subst hL
  have hsz : Builtin.Range.rangeSize 0 n 1 = ((n : Nat) : Int) := by simp [Builtin.Range.rangeSize]; omega
  refine wpAny_pyIter_range hr (by simp [Builtin.Range.small, hsz, Builtin.Range.rangeFitsLong]; omega) ?_
  rw [hsz]
  have W := LCg.range_walks (prog := prog) (w := w) (I := s.heap.objs.size) hh 0 n
  let J' : Nat → (Str → Option Value) → List (Addr × Obj) → Prop := fun i m₁ news₁ => news₁.map (·.1) = news.map (·.1) ∧ J i m₁ news₁
  refine ⟨_, _, _, n, _, _, m₀, news, J', rfl, W, ?_, ?_, ?_, ?_, F.push _, (fun p hp => ⟨Heap.get?_push_of_some _ (N p hp).1, (N p hp).2⟩), ⟨rfl, hj⟩, ?_, ?_⟩
  · intro hm
    exact absurd F.ns.lt ((List.mem_singleton.mp hm) ▸ Nat.lt_irrefl _)
  · intro b hb
    rw [List.mem_singleton.mp hb]
    exact next_is_new F
  · intro p hp hI
    exact absurd (Heap.lt_size (N p hp).1) ((List.mem_singleton.mp hI) ▸ Nat.lt_irrefl _)
  · show Heap.get? _ _ = some _
    rw [Heap.get?_push_size _ rfl]
    simp
  · rintro i v m₁ news₁ s₁ own ⟨hh', tk', rfl⟩ hin ⟨t, hP⟩ ⟨hadr₁, hJ⟩ hoff hown _ _ _ F₁ N₁
    have hsep : OwnOff own (news.map (·.1)) := by
      intro p hp b hb e
      obtain ⟨q, hq, rfl⟩ := List.mem_map.mp hb
      exact absurd (Heap.lt_size (N q hq).1) (by rw [← e, List.mem_singleton.mp (hown p hp)]; exact Nat.lt_irrefl _)
    have N₂ : News g env.locals hh' (news₁ ++ own) := fun p hp => N₁ p ((List.mem_append.mp hp).elim (fun h => List.mem_append.mpr (.inr h)) fun h => List.mem_append.mpr (.inl h))
    rw [Int.zero_add] at hP
    subst hP
    refine wpAny_mono (turn i t m₁ news₁ hh' tk' own hin hadr₁ hsep hJ F₁ N₂) (fun f s₂ p => ?_) fun _ _ e => e
    have fin : InvEndN g env.locals (J (i + 1)) own (news.map (·.1)) { s with heap := hh', toks := tk' } s₂ → LoopStepU g env.locals [s.heap.objs.size] own (J' (i + 1)) { s with heap := hh', toks := tk' } .next s₂ := by
      rintro ⟨h', tk, m', news', nx, e, F', N', hn, ho, ha, hm⟩
      refine ⟨rfl, h', tk, m', nx, e, F', fun p hp => N' p ((List.mem_append.mp hp).elim (ho p) (hn p)), fun p hp hq => ?_, ha, hm⟩
      have h1 : p.1 ∈ nx.map (·.1) := List.mem_map.mpr ⟨p, hp, rfl⟩
      rw [ha, ← hadr₁] at h1
      obtain ⟨q, hq1, hq2⟩ := List.mem_map.mp h1
      exact hoff q hq1 (by rw [hq2]; exact hq)
    cases f with
    | ret v => exact .ret p
    | brk => exact .brk p
    | next => exact .next (fin p)
    | cont => exact .cont (fin p)
  · rintro h' tk m' news' F' N' _ ⟨ha, hJ⟩
    exact done m' news' h' tk ha hJ F' N'

theorem invEnd {L : Addr} {J : (Str → Option Value) → List (Addr × Obj) → Prop} {own nx news' : List (Addr × Obj)} {adr : List Addr} {h' : Heap} {m' : Str → Option Value} {tk : Nat}
    (F : Fr g L h' m') (N : News g L h' news') (h1 : ∀ p ∈ nx, p ∈ news') (h2 : ∀ p ∈ own, p ∈ news') (ha : nx.map (·.1) = adr) (hJ : J m' nx) : InvEndN g L J own adr s { s with heap := h', toks := tk } :=
  ⟨h', tk, m', news', nx, rfl, F, N, h1, h2, ha, hJ⟩
theorem invEnd_same {L : Addr} {J : (Str → Option Value) → List (Addr × Obj) → Prop} {own nx : List (Addr × Obj)} {adr : List Addr} {h' : Heap} {m' : Str → Option Value} {tk : Nat}
    (F : Fr g L h' m') (N : News g L h' (nx ++ own)) (ha : nx.map (·.1) = adr) (hJ : J m' nx) : InvEndN g L J own adr s { s with heap := h', toks := tk } :=
  invEnd F N (fun p hp => List.mem_append_left _ hp) (fun p hp => List.mem_append_right _ hp) ha hJ

/-- the end of a while's turn -/
def WEnd (g : Heap) (L : Addr) (J : Nat → (Str → Option Value) → List (Addr × Obj) → Prop) (s : Shared) (Q : Flow → Shared → Prop) (n : Nat) (f : Flow) (s₃ : Shared) : Prop := match f with
  | .brk => Q .next s₃
  | .ret v => Q (.ret v) s₃
  | _ => ∃ h' tk m₂ news₂ n', s₃ = { s with heap := h', toks := tk } ∧ Fr g L h' m₂ ∧ News g L h' news₂ ∧ n' < n ∧ J n' m₂ news₂

theorem while_rule {test : Expr} {pos : Pos} {m : Str → Option Value} {news : List (Addr × Obj)} {n₀ : Nat} {L : Addr} (J : Nat → (Str → Option Value) → List (Addr × Obj) → Prop)
    (F : Fr g L s.heap m) (N : News g L s.heap news) (hJ : J n₀ m news)
    (turn : ∀ n m₁ news₁ h₁ tk₁, Fr g L h₁ m₁ → News g L h₁ news₁ → J n m₁ news₁ →
      wpAny (model prog w) A (isTrue test env (eval test env)) (fun b s₂ =>
        if b = true then wpAny (model prog w) A (execs body env) (WEnd g L J s Q n) (fun _ _ => False) s₂ else Q .next s₂) (fun _ _ => False) { s with heap := h₁, toks := tk₁ }) :
    wpAny (model prog w) A (exec (.While test body [] pos) env) Q E s := by
  refine wpAny_While (codeAny_whileLoop (fun n s' => ∃ h₁ tk₁ m₁ news₁, s' = { s with heap := h₁, toks := tk₁ } ∧ Fr g L h₁ m₁ ∧ News g L h₁ news₁ ∧ J n m₁ news₁) ?_ n₀ ⟨s.heap, s.toks, m, news, rfl, F, N, hJ⟩)
  rintro n s' ⟨h₁, tk₁, m₁, news₁, rfl, F₁, N₁, J₁⟩
  refine wpAny_mono (turn n m₁ news₁ h₁ tk₁ F₁ N₁ J₁) (fun b s₂ h₂ => ?_) fun _ _ e => e.elim
  cases b with
  | false =>
    simp only [Bool.false_eq_true, if_false] at h₂ ⊢
    exact wpAny_execs_nil h₂
  | true =>
    simp only [if_true] at h₂ ⊢
    refine wpAny_mono h₂ (fun f s₃ h₃ => ?_) fun _ _ e => e.elim
    cases f with
    | next =>
      obtain ⟨h', tk, m₂, news₂, n', rfl, F₂, N₂, hn, J₂⟩ := h₃
      exact ⟨n', hn, h', tk, m₂, news₂, rfl, F₂, N₂, J₂⟩
    | cont =>
      obtain ⟨h', tk, m₂, news₂, n', rfl, F₂, N₂, hn, J₂⟩ := h₃
      exact ⟨n', hn, h', tk, m₂, news₂, rfl, F₂, N₂, J₂⟩
    | brk => exact h₃
    | ret v => exact h₃
end


/-- the parent of row k -/
noncomputable def parN (nds : List Nd) (k : Nat) : Option Nat := (nds[k]?).bind (·.par)
/-- the rows upwards -/
noncomputable def upF (par : Nat → Option Nat) : Nat → Nat → List Nat
  | 0, k => [k]
  | f + 1, k => k :: match par k with
    | none => []
    | some p => upF par f p
noncomputable def up (par : Nat → Option Nat) (k : Nat) : List Nat := upF par k k
noncomputable def upO (par : Nat → Option Nat) : Option Nat → List Nat
  | none => []
  | some k => up par k
def ParLt (par : Nat → Option Nat) : Prop := ∀ k p, par k = some p → p < k
theorem upF_fuel {par : Nat → Option Nat} (h : ParLt par) : ∀ f k, k ≤ f → upF par f k = upF par k k := by
  intro f
  induction f using Nat.strongRecOn with
  | _ f ih =>
    intro k hk
    cases f with
    | zero => cases k with
      | zero => rfl
      | succ k => omega
    | succ f =>
      cases k with
      | zero =>
        cases hp : par 0 with
        | none => simp [upF, hp]
        | some p => exact absurd (h 0 p hp) (Nat.not_lt_zero _)
      | succ k =>
        simp only [upF]
        cases hp : par (k + 1) with
        | none => rfl
        | some p =>
          have := h _ _ hp
          simp only
          rw [ih f (Nat.lt_succ_self _) p (by omega), ih k (by omega) p (by omega)]
theorem up_eq {par : Nat → Option Nat} (h : ParLt par) (k : Nat) : up par k = k :: upO par (par k) := by
  unfold up
  cases k with
  | zero =>
    cases hp : par 0 with
    | none => rfl
    | some p => exact absurd (h 0 p hp) (Nat.not_lt_zero _)
  | succ k =>
    simp only [upF]
    cases hp : par (k + 1) with
    | none => rfl
    | some p =>
      have := h _ _ hp
      simp only [upO, up]
      rw [upF_fuel h k p (by omega)]
theorem up_le {par : Nat → Option Nat} (h : ParLt par) : ∀ k, ∀ x ∈ up par k, x ≤ k := by
  intro k
  induction k using Nat.strongRecOn with
  | _ k ih =>
    intro x hx
    rw [up_eq h] at hx
    rcases List.mem_cons.mp hx with rfl | hx
    · exact Nat.le_refl _
    · cases hp : par k with
      | none => rw [hp] at hx; cases hx
      | some p =>
        rw [hp] at hx
        have := h _ _ hp
        exact Nat.le_trans (ih p this x hx) (Nat.le_of_lt this)
theorem up_length {par : Nat → Option Nat} (h : ParLt par) : ∀ k, (up par k).length ≤ k + 1 := by
  intro k
  induction k using Nat.strongRecOn with
  | _ k ih =>
    rw [up_eq h]
    cases hp : par k with
    | none => simp [upO]
    | some p =>
      have h1 := h _ _ hp
      have h2 := ih p h1
      simp only [upO, List.length_cons]; omega

structure TreeWf (nds : List Nd) : Prop where
  lt : ∀ (k : Nat) (nd : Nd) (p : Nat), nds[k]? = some nd → nd.par = some p → p < k
  root : ∀ (k : Nat) (nd : Nd), nds[k]? = some nd → nd.par = none → k = 0
  kids : ∀ nd ∈ nds, ∀ c ∈ nd.kids, c < nds.length
theorem TreeWf.parLt {nds : List Nd} (h : TreeWf nds) : ParLt (parN nds) := fun k p e => by
  unfold parN at e
  obtain ⟨nd, a, b⟩ := Option.bind_eq_some_iff.mp e
  exact h.lt k nd p a b

theorem handed_int {x : Int} {t : Tok} : handedIn (.int x t) = true := rfl

theorem word_M4_1 : True := by
  (k_with "m_lk" => first | exact rfl | assumption | (refine (if_pos rfl).trans ?_; exact rfl) | (refine (if_neg (by decide)).trans ?_; k_extra "m_lk"))
  (k_with "eval Name" => (k_dflt ((refine' nameX_L ?zF ?zhv ?_ ?zhk ?zhx ?zhd; (case zhk => exact rfl); (case zhx => exact rfl); (case zhd => decide); (case zF => k_asm); (case zhv => k_extra "m_lk")))))
  (k_with "loadName" => (k_dflt ((refine' loadX_L ?zF ?zhv ?_ ?zhk ?zhx; (case zhk => exact rfl); (case zhx => exact rfl); (case zF => k_asm); (case zhv => k_extra "m_lk")))))
  (k_with "m_hold" => ((fail_if_success (with_reducible show wpAny _ _ (exec (Stmt.While _ _ _ _) _) _ _ _)); (fail_if_success (with_reducible show wpAny _ _ (exec (Stmt.For _ _ _ _ _) _) _ _ _)); (fail_if_success (with_reducible show wpAny _ _ (eval (Expr.ListComp _ _ _ _) _) _ _ _))))
  (k_with "m_fold" => ((with_reducible show wpAny _ _ (exec _ _) _ _ _); k_fold))
  (k_with "m_walk" => (try dsimp only); repeat' (k_extra "m_hold"; (first | (k_unfold; (try clear ek qk)) | walk1); (try dsimp only); (try k_extra "m_fold")))
  (k_with "call ref" => (k_dflt (((with_reducible show wpAny _ _ (call (Value.ref 243) _) _ _ _); refine' kept_ex ?zF ?zN (kind_spec ?zR ?zO ?zB ?zT ?zk) ?_; (case zF => k_asm); (case zN => k_asm); (case zR => exact Room.less (by k_asm) (by exact Nat.le_of_ble_eq_true rfl)); (case zO => k_asm); (case zB => exact Fr.keep (by k_asm)); (case zT => exact TreeAt.keeps (by k_asm) (Fr.keep (by k_asm))); (case zk => k_asm); intro _ _ _ _ _ _; (try k_sweep)))))
  (k_with "call ref" => (k_dflt (((with_reducible show wpAny _ _ (call (Value.ref 257) _) _ _ _); refine' kept_ex ?zF ?zN (uri_spec ?zR ?zO ?zB ?zT ?zk) ?_; (case zF => k_asm); (case zN => k_asm); (case zR => exact Room.less (by k_asm) (by exact Nat.le_of_ble_eq_true rfl)); (case zO => k_asm); (case zB => exact Fr.keep (by k_asm)); (case zT => exact TreeAt.keeps (by k_asm) (Fr.keep (by k_asm))); (case zk => k_asm); intro _ _ _ _ _ _; (try k_sweep)))))
  (k_with "call ref" => (k_dflt (((with_reducible show wpAny _ _ (call (Value.ref 264) _) _ _ _); refine' kept_ex ?zF ?zN (local_spec ?zR ?zO ?zB ?zT ?zk) ?_; (case zF => k_asm); (case zN => k_asm); (case zR => exact Room.less (by k_asm) (by exact Nat.le_of_ble_eq_true rfl)); (case zO => k_asm); (case zB => exact Fr.keep (by k_asm)); (case zT => exact TreeAt.keeps (by k_asm) (Fr.keep (by k_asm))); (case zk => k_asm); intro _ _ _ _ _ _; (try k_sweep)))))
  (k_with "call ref" => (k_dflt (((with_reducible show wpAny _ _ (call (Value.ref 278) _) _ _ _); refine' kept_step ?zF ?zN (parent_spec ?zR ?zO ?zB ?zT ?zk) ?_; (case zF => k_asm); (case zN => k_asm); (case zR => exact Room.less (by k_asm) (by exact Nat.le_of_ble_eq_true rfl)); (case zO => k_asm); (case zB => exact Fr.keep (by k_asm)); (case zT => exact TreeAt.keeps (by k_asm) (Fr.keep (by k_asm))); (case zk => k_asm); intro _ _ _ _ _ _ _; skip; (try k_sweep)))))
  (k_with "call ref" => (k_dflt (((with_reducible show wpAny _ _ (call (Value.ref 285) _) _ _ _); refine' kept_i6 ?zF ?zN (children_spec ?zR ?zO ?zB ?zT ?zk) ?_; (case zF => k_asm); (case zN => k_asm); (case zR => exact Room.less (by k_asm) (by exact Nat.le_of_ble_eq_true rfl)); (case zO => k_asm); (case zB => exact Fr.keep (by k_asm)); (case zT => exact TreeAt.keeps (by k_asm) (Fr.keep (by k_asm))); (case zk => k_asm); intro _ _ _ _ _ _ _ _ _ _ _ _ _; (try k_sweep)))))
  exact True.intro
section
variable {prog : Program} {w : World} {A : Around} {s : Shared} {E : Value → Shared → Prop} {B0 : Heap} {tr rl : Addr} {nds : List Nd} {k : Nat} {t : Tok} {nd : Nd}

theorem root_of_spec (R : Room A 6) (O : Ok w B0) (hB : B0.StaysIn s.heap) (TA : TreeAt s.heap tr rl nds) (WF : TreeWf nds) (hk : k < nds.length) :
    wpAny (model prog w) A (call (.ref 306) [.ref tr, .int k t]) (Kept s fun v _ => ∃ t, v = .int 0 t) E s := by
  refine' enterK (binds := [("self",.ref tr),("node",.int k t)]) [] O hB ?hms R ?ho ?hcd ?hbind ?hloc ?h ?hcell ?hco ?hgen ?hk
  k_extra "m_enter"
  intro A' g L h₁ tk₁ p loose mean mg mb R' cg hBg Og Xg Tg _ F N
  k_fold
  have TA' := TA.keeps cg.nil
  k_extra "m_walk"
  refine while_rule (fun n m news => news = [] ∧ m "self" = some (.ref tr) ∧ ∃ (j : Nat) (t : Tok), m "node" = some (.int (j : Int) t) ∧ j < nds.length ∧ n = j) F N ⟨rfl, rfl, k, t, rfl, hk, rfl⟩ ?_
  intro j m₁ news₁ h₁ tk₁ F N hJJ
  (try k_fold)
  obtain ⟨rfl, hm1, _, tj, hm2, hj, rfl⟩ := hJJ
  obtain ⟨nd, hnd⟩ : ∃ nd, nds[j]? = some nd := ⟨nds[j], by simp [hj]⟩
  obtain ⟨⟨dt, hh, tk, n, e1, e2⟩, ⟨ep, e3⟩, hall, hsm⟩ := id TA'
  obtain ⟨n1, ⟨es, nn, n2, ⟨t1, n3⟩, ⟨t2, n4⟩, ⟨t3, n5⟩, ⟨pv, n6, n6'⟩, n7, n8⟩, ⟨kvs, kep, n9, n9'⟩, ⟨avs, aep, n10, n10'⟩, n11, n12⟩ := hall nd (List.mem_of_getElem? hnd)
  have hpv := n6'.handed
  have hk' : (nds.map fun nd => Value.ref nd.a)[((j : Nat) : Int).toNat]? = some (.ref nd.a) := by simp [hnd]
  cases hpar : nd.par with
  | none =>
    rw [hpar] at n6'
    obtain rfl : pv = .none := n6'
    k_extra "m_walk"
    have hj0 := WF.root j nd hnd hpar
    subst hj0
    exact ⟨keeps_of cg rfl (by assumption), tj, rfl⟩
  | some p =>
    rw [hpar] at n6'
    obtain ⟨tp, rfl⟩ := n6'
    have hlt := WF.lt j nd p hnd hpar
    k_extra "m_walk"
    exact ⟨_, _, _, _, p, rfl, by assumption, by assumption, hlt, rfl, by k_extra "m_lk", p, tp, by k_extra "m_lk", by omega, rfl⟩

theorem ancestors_spec (R : Room A 6) (O : Ok w B0) (hB : B0.StaysIn s.heap) (TA : TreeAt s.heap tr rl nds) (WF : TreeWf nds) (hk : k < nds.length) :
    wpAny (model prog w) A (call (.ref 35) [.ref tr, .int k t]) (Kept s fun v h' => ∃ l its ep, v = .ref l ∧ s.heap.get? l = none ∧ h'.get? l = some (listOf its ep) ∧ IntsAre its.toList (natZ (up (parN nds) k))) E s := by
  refine' enterK (binds := [("tree",.ref tr),("node",.int k t)]) [] O hB ?hms R ?ho ?hcd ?hbind ?hloc ?h ?hcell ?hco ?hgen ?hk
  k_extra "m_enter"
  intro A' g L h₁ tk₁ p loose mean mg mb R' cg hBg Og Xg Tg _ F N
  k_fold
  have TA' := TA.keeps cg.nil
  obtain ⟨⟨dt, hh, tkr, ntr, e1, e2⟩, ⟨ep, e3⟩, hall, hsm⟩ := id TA'
  k_extra "m_walk"
  have hlen : (up (parN nds) k).length ≤ 101 := Nat.le_trans (up_length WF.parLt k) (by have := TA.small; omega)
  refine while_rule (fun n m news => ∃ (fl : Addr) (cur : Option Nat) (v : Value) (done : List Nat) (its : Array Value) (ep : Nat), news = [(fl, listOf its ep)] ∧ m "tree" = some (.ref tr) ∧ m "found" = some (.ref fl) ∧ m "node" = some v ∧ parV cur v ∧
    IntsAre its.toList (natZ done) ∧ done ++ upO (parN nds) cur = up (parN nds) k ∧ (∀ c, cur = some c → c < nds.length) ∧ n = (match cur with | none => 0 | some c => c + 1)) (by assumption) (by assumption)
    ⟨_, some k, _, [], #[], 0, rfl, rfl, rfl, rfl, ⟨t, rfl⟩, .nil, rfl, (fun c e => by cases e; exact hk), rfl⟩ ?_
  intro n m₁ news₁ h₁ tk₁ F N hJJ
  (try k_fold)
  obtain ⟨fl, cur, v, done, its, ep, rfl, hm1, hm2, hm3, hv, hI, hd, hc, rfl⟩ := hJJ
  have hsz := ints_size hI
  have hle : done.length ≤ 101 := by rw [← hd] at hlen; simp only [List.length_append] at hlen; omega
  simp only [List.length_map] at hsz
  cases cur with
  | none =>
    obtain rfl : v = .none := hv
    simp only [upO, List.append_nil] at hd
    subst hd
    k_extra "m_walk"
    exact ⟨keeps_of cg rfl (by assumption), fl, its, ep, rfl, fresh_of cg rfl (News.fresh N (.head _)), News.get N (.head _), hI⟩
  | some c =>
    obtain ⟨tc, rfl⟩ := hv
    have hcl := hc c rfl
    obtain ⟨nd, hnd⟩ : ∃ nd, nds[c]? = some nd := ⟨nds[c], by simp [hcl]⟩
    k_extra "m_walk"
    have hpn : parN nds c = nd.par := by unfold parN; rw [hnd]; rfl
    exact ⟨_, _, _, _, match nd.par with | none => 0 | some c => c + 1, rfl, by assumption, by assumption, (by cases hp : nd.par with
        | none => exact Nat.succ_pos _
        | some p => exact Nat.succ_lt_succ (WF.lt c nd p hnd hp)), fl, nd.par, _, done ++ [c], _, _, rfl, by k_extra "m_lk", by k_extra "m_lk", by k_extra "m_lk", by assumption, by rw [natZ, List.map_append]; exact ints_push hI,
      (by rw [← hd, upO, up_eq WF.parLt c, hpn]; simp), (fun p hp => Nat.lt_trans (WF.lt c nd p hnd hp) hcl), rfl⟩
end


theorem off_head {own : List (Addr × Obj)} {a : Addr} {r : List Addr} (h : OwnOff own (a :: r)) : ∀ p ∈ own, p.1 ≠ a := fun p hp => h p hp a (.head _)

/-- a test of nodes, as an object that is called -/
structure PredAt (prog : Program) (w : World) (h : Heap) (f : Addr) (n : Nat) (p : Nat → Bool) : Prop where
  fn : FnAt f h
  run : ∀ (A : Around) (s : Shared) (E : Value → Shared → Prop) (k : Nat) (t : Tok), Room A 10 → h.StaysIn s.heap → k < n → wpAny (model prog w) A (call (.ref f) [.int (k : Int) t]) (Kept s fun v _ => v = .bool (p k)) E s
theorem PredAt.keeps {prog : Program} {w : World} {h h' : Heap} {f : Addr} {n : Nat} {p : Nat → Bool} (x : PredAt prog w h f n p) (k : h.StaysIn h') : PredAt prog w h' f n p :=
  ⟨let ⟨oc, od, fd, sl, e⟩ := x.fn; ⟨oc, od, fd, sl, k _ _ e⟩, fun A s E j t R st hj => x.run A s E j t R (Stays.trans k st) hj⟩
theorem PredAt.fnAt {prog : Program} {w : World} {h h' : Heap} {f : Addr} {n : Nat} {p : Nat → Bool} (x : PredAt prog w h f n p) (k : h.StaysIn h') : FnAt f h' := (x.keeps k).fn

theorem word_M5_1 : True := by
  (k_with "m_hold" => ((fail_if_success (with_reducible show wpAny _ _ (exec (Stmt.While _ _ _ _) _) _ _ _)); (fail_if_success (with_reducible show wpAny _ _ (exec (Stmt.For _ _ _ _ _) _) _ _ _)); (fail_if_success (with_reducible show wpAny _ _ (eval (Expr.ListComp _ _ _ _) _) _ _ _)); (fail_if_success (with_reducible show wpAny _ _ (pyIter _) _ _ _))))
  (k_with "callWith ref" => (refine' callWith_F ?zk1 ?_; (case zk1 => exact PredAt.fnAt (by k_asm) (Fr.keep (by k_asm)))))
  (k_with "FnAt" => exact PredAt.fnAt (by k_asm) (Fr.keep (by k_asm)))
  (k_with "call ref" => (k_dflt ((refine' kept_val ?zF ?zN (PredAt.run ?zP _ _ _ _ _ ?zR ?zst ?zk) ?_; (case zF => k_asm); (case zP => k_asm); (case zN => k_asm); (case zR => exact Room.less (by k_asm) (by exact Nat.le_of_ble_eq_true rfl)); (case zst => exact Fr.keep (by k_asm)); (case zk => first | assumption | omega); intro _ _ _ _ _; (try k_sweep)))))
  (k_with "call ref" => (k_dflt (((with_reducible show wpAny _ _ (call (Value.ref 35) _) _ _ _); refine' kept_i5 ?zF ?zN (ancestors_spec ?zR ?zO ?zB ?zT ?zWF ?zk) ?_; (case zF => k_asm); (case zN => k_asm); (case zR => exact Room.less (by k_asm) (by exact Nat.le_of_ble_eq_true rfl)); (case zO => k_asm); (case zB => exact Fr.keep (by k_asm)); (case zT => exact TreeAt.keeps (by k_asm) (Fr.keep (by k_asm))); (case zWF => k_asm); (case zk => k_asm); intro _ _ _ _ _ _ _ _ _ _ _ _; (try k_sweep)))))
  exact True.intro
theorem sub1 {α : Type} {a : α} {r : List α} : ∀ p ∈ [a], p ∈ a :: r := fun p hp => List.mem_singleton.mp hp ▸ .head _
theorem sub2 {α : Type} {a : α} {r : List α} : ∀ p ∈ r, p ∈ a :: r := fun p hp => .tail _ hp

noncomputable def passes (pb : Nat → Bool) (k : Nat) (x : Nat) : Bool := decide (x = k) || !pb x
noncomputable def upTo (par : Nat → Option Nat) (pb : Nat → Bool) (k : Nat) : List Nat := (up par k).takeWhile (passes pb k)
theorem takeWhile_stop {α : Type} {p : α → Bool} : ∀ {l : List α} {i : Nat} {x : α}, (∀ y ∈ l.take i, p y = true) → l[i]? = some x → p x = false → l.takeWhile p = l.take i
  | [], _, _, _, e, _ => by simp at e
  | a :: l, 0, x, _, e, h => by
    simp only [List.getElem?_cons_zero, Option.some.injEq] at e
    subst e
    simp [h]
  | a :: l, i + 1, x, ha, e, h => by
    simp only [List.getElem?_cons_succ] at e
    rw [List.take_succ_cons] at ha ⊢
    rw [List.takeWhile_cons, ha a (.head _), if_pos rfl, takeWhile_stop (fun y hy => ha y (.tail _ hy)) e h]
theorem takeWhile_all' {α : Type} {p : α → Bool} : ∀ {l : List α}, (∀ y ∈ l, p y = true) → l.takeWhile p = l
  | [], _ => rfl
  | a :: l, ha => by rw [List.takeWhile_cons, ha a (.head _), if_pos rfl, takeWhile_all' fun y hy => ha y (.tail _ hy)]
theorem natZ_get {l : List Nat} {i : Nat} {x : Int} (h : (natZ l)[i]? = some x) : ∃ y : Nat, x = y ∧ l[i]? = some y := by
  rw [natZ, List.getElem?_map] at h
  obtain ⟨y, a, b⟩ := Option.map_eq_some_iff.mp h
  exact ⟨y, b.symm, a⟩
theorem ints_at {its : Array Value} {l : List Nat} {i : Nat} {v : Value} (hI : IntsAre its.toList (natZ l)) (h : its[i]? = some v) : ∃ (y : Nat) (t : Tok), v = .int (y : Int) t ∧ l[i]? = some y := by
  obtain ⟨n, t, rfl, hn⟩ := IntsAre.at hI i v (by rw [Array.getElem?_toList]; exact h)
  obtain ⟨y, rfl, hy⟩ := natZ_get hn
  exact ⟨y, t, rfl, hy⟩

section
variable {prog : Program} {w : World} {A : Around} {s : Shared} {E : Value → Shared → Prop} {B0 : Heap} {tr rl : Addr} {nds : List Nd} {k : Nat} {t : Tok} {nd : Nd} {fb fc : Addr} {pb pc : Nat → Bool}

theorem up_to_begin_spec (R : Room A 14) (O : Ok w B0) (hB : B0.StaysIn s.heap) (TA : TreeAt s.heap tr rl nds) (WF : TreeWf nds) (hk : k < nds.length) (PB : PredAt prog w s.heap fb nds.length pb) :
    wpAny (model prog w) A (call (.ref 49) [.ref tr, .int k t, .ref fb]) (Kept s fun v h' => ∃ l its ep, v = .ref l ∧ s.heap.get? l = none ∧ h'.get? l = some (listOf its ep) ∧ IntsAre its.toList (natZ (upTo (parN nds) pb k))) E s := by
  refine' enterK (binds := [("tree",.ref tr),("node",.int k t),("is_begin",.ref fb)]) [] O hB ?hms R ?ho ?hcd ?hbind ?hloc ?h ?hcell ?hco ?hgen ?hk
  k_extra "m_enter"
  intro A' g L h₁ tk₁ p loose mean mg mb R' cg hBg Og Xg Tg _ F N
  k_fold
  have TA' := TA.keeps cg.nil
  obtain ⟨⟨dt, hh, tkr, ntr, e1, e2⟩, ⟨ep, e3⟩, hall, hsm⟩ := id TA'
  have PB' := PB.keeps cg.nil
  k_extra "m_walk"
  refine For_invV g rfl rfl ?_
  k_extra "m_walk"
  have hI0 := ‹IntsAre _ (natZ (up (parN nds) k))›
  have hlen : (up (parN nds) k).length ≤ 101 := Nat.le_trans (up_length WF.parLt k) (by omega)
  refine iter_list (L := L) rfl (fun i m news => ∃ (fl : Addr) (its : Array Value) (ep : Nat), news = [(fl, listOf its ep)] ∧ m "tree" = some (.ref tr) ∧ m "found" = some (.ref fl) ∧ m "node" = some (.int (k : Int) t) ∧ m "is_begin" = some (.ref fb) ∧
    IntsAre its.toList (natZ ((up (parN nds) k).take i)) ∧ ∀ x ∈ (up (parN nds) k).take i, passes pb k x = true) R'.hd (by assumption) (by assumption) (by assumption) (by assumption)
    ⟨_, #[], 0, rfl, rfl, rfl, rfl, rfl, .nil, fun x hx => by simp at hx⟩ ?_ ?_
  · intro i v m₁ news₁ h₁ tk₁ own hv hadr hoff hJJ F N
    (try k_fold)
    obtain ⟨fl, its, epf, rfl, hm1, hm2, hm3, hm4, hI, hp⟩ := hJJ
    rw [← hadr] at hoff
    have hoff1 := off_head hoff
    obtain ⟨y, ty, rfl, hy⟩ := ints_at hI0 hv
    have hyn : y < nds.length := Nat.lt_of_le_of_lt (up_le WF.parLt k y (List.mem_of_getElem? hy)) hk
    have hsz := ints_size hI
    have hle : ((up (parN nds) k).take i).length ≤ 101 := by rw [List.length_take]; omega
    simp only [List.length_map] at hsz
    have htake : (up (parN nds) k).take (i + 1) = (up (parN nds) k).take i ++ [y] := by rw [List.take_add_one, hy]; rfl
    k_extra "m_walk"
    · have hps : passes pb k y = false := by
        simp only [passes, Bool.or_eq_false_iff, decide_eq_false_iff_not, Bool.not_eq_false']
        constructor
        · intro e; subst e; simp_all
        · simp_all
      exact ⟨keeps_of cg rfl (by assumption), fl, its, epf, rfl, fresh_of cg rfl (News.fresh (by assumption) (.head _)), News.get (by assumption) (.head _), by rw [upTo, takeWhile_stop hp hy hps]; exact hI⟩
    · have hps : passes pb k y = true := by
        simp only [passes, Bool.or_eq_true, decide_eq_true_eq, Bool.not_eq_true']
        exact .inr (by simp_all)
      exact ⟨_, _, _, _, [(fl, listOf (its.push (.int y ty)) (epf + 1))], rfl, by assumption, by assumption, sub1, sub2, hadr, fl, _, _, rfl, by k_extra "m_lk", by k_extra "m_lk", by k_extra "m_lk", by k_extra "m_lk",
        by rw [htake, natZ, List.map_append]; exact ints_push hI, by rw [htake]; intro x hx; rcases List.mem_append.mp hx with hx | hx; exact hp x hx; rw [List.mem_singleton.mp hx]; exact hps⟩
    · have hps : passes pb k y = true := by
        simp only [passes, Bool.or_eq_true, decide_eq_true_eq, Bool.not_eq_true']
        exact .inl (by omega)
      exact ⟨_, _, _, _, [(fl, listOf (its.push (.int y ty)) (epf + 1))], rfl, by assumption, by assumption, sub1, sub2, hadr, fl, _, _, rfl, by k_extra "m_lk", by k_extra "m_lk", by k_extra "m_lk", by k_extra "m_lk",
        by rw [htake, natZ, List.map_append]; exact ints_push hI, by rw [htake]; intro x hx; rcases List.mem_append.mp hx with hx | hx; exact hp x hx; rw [List.mem_singleton.mp hx]; exact hps⟩
  · intro m₁ news₁ h₁ tk₁ hadr hJJ F N
    (try k_fold)
    obtain ⟨fl, its, epf, rfl, hm1, hm2, hm3, hm4, hI, hp⟩ := hJJ
    rw [List.take_of_length_le (by rw [ints_size hI0]; simp)] at hI hp
    k_extra "m_walk"
    exact ⟨keeps_of cg rfl F, fl, its, epf, rfl, fresh_of cg rfl (News.fresh N (.head _)), News.get N (.head _), by rw [upTo, takeWhile_all' hp]; exact hI⟩
end


theorem word_M6_1 : True := by
  (k_with "call ref" => (k_dflt (((with_reducible show wpAny _ _ (call (Value.ref 49) _) _ _ _); refine' kept_i5 ?zF ?zN (up_to_begin_spec ?zR ?zO ?zB ?zT ?zWF ?zk ?zP) ?_; (case zF => k_asm); (case zN => k_asm); (case zR => exact Room.less (by k_asm) (by exact Nat.le_of_ble_eq_true rfl)); (case zO => k_asm); (case zB => exact Fr.keep (by k_asm)); (case zT => exact TreeAt.keeps (by k_asm) (Fr.keep (by k_asm))); (case zWF => k_asm); (case zk => k_asm); (case zP => exact PredAt.keeps (by k_asm) (Fr.keep (by k_asm))); intro _ _ _ _ _ _ _ _ _ _ _ _; (try k_sweep)))))
  exact True.intro
noncomputable def kidsN (nds : List Nd) (p : Nat) : List Nat := ((nds[p]?).map (·.kids)).getD []
noncomputable def kindN (nds : List Nd) (k : Nat) : Str := ((nds[k]?).map (·.kind)).getD Str.empty
noncomputable def atKind (x : Str) : Bool := [Str.ofString "attribute", Str.ofString "namespace"].any fun y => y == x
noncomputable def placeN (nds : List Nd) (pc : Nat → Bool) (k : Nat) : Nat := match parN nds k with
  | none => 1
  | some p => if atKind (kindN nds k) then 1 else 1 + ((kidsN nds p).takeWhile (fun c => decide (c ≠ k))).countP pc

section
variable {prog : Program} {w : World} {A : Around} {s : Shared} {E : Value → Shared → Prop} {B0 : Heap} {tr rl : Addr} {nds : List Nd} {k : Nat} {t : Tok} {nd : Nd} {fb fc : Addr} {pb pc : Nat → Bool}

theorem place_among_spec (R : Room A 14) (O : Ok w B0) (hB : B0.StaysIn s.heap) (TA : TreeAt s.heap tr rl nds) (WF : TreeWf nds) (hk : k < nds.length) (PC : PredAt prog w s.heap fc nds.length pc) :
    wpAny (model prog w) A (call (.ref 42) [.ref tr, .int k t, .ref fc]) (Kept s fun v h' => ∃ t, v = .int (placeN nds pc k : Nat) t) E s := by
  refine' enterK (binds := [("tree",.ref tr),("node",.int k t),("is_counted",.ref fc)]) [] O hB ?hms R ?ho ?hcd ?hbind ?hloc ?h ?hcell ?hco ?hgen ?hk
  k_extra "m_enter"
  intro A' g L h₁ tk₁ p loose mean mg mb R' cg hBg Og Xg Tg _ F N
  k_fold
  have TA' := TA.keeps cg.nil
  obtain ⟨⟨dt, hh, tkr, ntr, e1, e2⟩, ⟨ep, e3⟩, hall, hsm⟩ := id TA'
  have PC' := PC.keeps cg.nil
  obtain ⟨nd, hnd⟩ : ∃ nd, nds[k]? = some nd := ⟨nds[k], by simp [hk]⟩
  have hpn : parN nds k = nd.par := by unfold parN; rw [hnd]; rfl
  have hkn : kindN nds k = nd.kind := by unfold kindN; rw [hnd]; rfl
  k_extra "m_walk"
  rename parV nd.par _ => hr
  cases hpar : nd.par with
  | none =>
    rw [hpar] at hr hpn
    have hq : _ = Value.none := hr
    subst hq
    k_extra "m_walk"
    exact ⟨keeps_of cg rfl (by assumption), _, by unfold placeN; rw [hpn]; rfl⟩
  | some q =>
    rw [hpar] at hr hpn
    obtain ⟨tq, hq⟩ := hr
    subst hq
    have hqk := WF.lt k nd q hnd hpar
    obtain ⟨ndq, hndq⟩ : ∃ ndq, nds[q]? = some ndq := ⟨nds[q]'(Nat.lt_trans hqk hk), by simp [Nat.lt_trans hqk hk]⟩
    have hkq : kidsN nds q = ndq.kids := by unfold kidsN; rw [hndq]; rfl
    have hkl := (hall ndq (List.mem_of_getElem? hndq)).small.1
    k_extra "m_walk"
    · exact ⟨keeps_of cg rfl (by assumption), _, by unfold placeN; rw [hpn]; simp only [hkn, atKind]; rw [if_pos (by assumption)]; rfl⟩
    have hpl : placeN nds pc k = 1 + (ndq.kids.takeWhile (fun c => decide (c ≠ k))).countP pc := by unfold placeN; rw [hpn]; simp only [hkn, atKind, hkq]; rw [if_neg (by simp only [*]; decide)]
    refine For_invV g rfl rfl ?_
    k_extra "m_walk"
    have hI0 := ‹IntsAre _ (natZ ndq.kids)›
    refine iter_list (L := L) rfl (fun i m news => m "tree" = some (.ref tr) ∧ m "is_counted" = some (.ref fc) ∧ m "node" = some (.int (k : Int) t) ∧ (∃ tm, m "many" = some (.int ((1 + (ndq.kids.take i).countP pc : Nat) : Int) tm)) ∧
      ∀ x ∈ ndq.kids.take i, decide (x ≠ k) = true) R'.hd (by assumption) (by assumption) (by assumption) (by assumption)
      ⟨rfl, rfl, rfl, ⟨_, rfl⟩, fun x hx => by simp at hx⟩ ?_ ?_
    · intro i v m₁ news₁ h₁ tk₁ own hv hadr hoff hJJ F N
      (try k_fold)
      obtain ⟨hm1, hm2, hm3, ⟨tm, hm4⟩, hp⟩ := hJJ
      obtain ⟨y, ty, rfl, hy⟩ := ints_at hI0 hv
      have hyn : y < nds.length := WF.kids ndq (List.mem_of_getElem? hndq) y (List.mem_of_getElem? hy)
      have hle := List.countP_le_length (p := pc) (l := ndq.kids.take i)
      rw [List.length_take] at hle
      have htake : ndq.kids.take (i + 1) = ndq.kids.take i ++ [y] := by rw [List.take_add_one, hy]; rfl
      k_extra "m_walk"
      · have hyk : y = k := by omega
        have hst : ndq.kids.takeWhile (fun c => decide (c ≠ k)) = ndq.kids.take i := takeWhile_stop hp hy (by simp [hyk])
        exact ⟨keeps_of cg rfl (by assumption), tm, by rw [hpl, hst]⟩
      · have e : 1 + (ndq.kids.take (i + 1)).countP pc = 1 + (ndq.kids.take i).countP pc + 1 := by rw [htake, List.countP_append]; simp [*]; omega
        refine invEnd_same (by assumption) (by assumption) hadr ⟨by k_extra "m_lk", by k_extra "m_lk", by k_extra "m_lk", ⟨_, by rw [e, Int.natCast_add]; k_extra "m_lk"⟩, ?_⟩
        rw [htake]; intro x hx; rcases List.mem_append.mp hx with hx | hx; exact hp x hx; rw [List.mem_singleton.mp hx]; exact decide_eq_true (by omega)
      · have e : 1 + (ndq.kids.take (i + 1)).countP pc = 1 + (ndq.kids.take i).countP pc := by rw [htake, List.countP_append]; simp [*]
        refine invEnd_same (by assumption) (by assumption) hadr ⟨by k_extra "m_lk", by k_extra "m_lk", by k_extra "m_lk", ⟨_, by rw [e]; k_extra "m_lk"⟩, ?_⟩
        rw [htake]; intro x hx; rcases List.mem_append.mp hx with hx | hx; exact hp x hx; rw [List.mem_singleton.mp hx]; exact decide_eq_true (by omega)
    · intro m₁ news₁ h₁ tk₁ hadr hJJ F N
      (try k_fold)
      obtain ⟨hm1, hm2, hm3, ⟨tm, hm4⟩, hp⟩ := hJJ
      rw [List.take_of_length_le (by rw [ints_size hI0]; simp)] at hm4 hp
      k_extra "m_walk"
      exact ⟨keeps_of cg rfl F, tm, by rw [hpl, takeWhile_all' hp]⟩
end


theorem word_M7_1 : True := by
  (k_with "subscriptTail" => (k_dflt (((with_reducible show wpAny _ _ (subscriptTail _ (PySem.Expr.Slice none none (some _) _) (Value.ref _) (Value.ref _)) _ _ _); (refine' krv_lit (s := ⟨_, _, _, _, _⟩) ?zF ?zN ?zl ?zk ?ze ?_ ?zs ?zt ?z; (case zF => k_asm); (case zN => k_asm); (case zl => is_list); (case zk => exact IsPart.int _ _); (case ze => exact rfl); (case zs => with_unfolding_all rfl); (case zt => kmk_pure); (case z => exact line_small (by k_extra "m_size"))); intro _ _ _ _ l1; (try k_lt l1); (try k_sweep); (try (revert l1; intro _))))))
  (k_with "subscriptTail Name Slice ref ref" => (k_dflt (((with_reducible show wpAny _ _ (subscriptTail _ (PySem.Expr.Slice none none (some _) _) (Value.ref _) (Value.ref _)) _ _ _); (refine' krv_lit (s := ⟨_, _, _, _, _⟩) ?zF ?zN ?zl ?zk ?ze ?_ ?zs ?zt ?z; (case zF => k_asm); (case zN => k_asm); (case zl => is_list); (case zk => exact IsPart.int _ _); (case ze => exact rfl); (case zs => with_unfolding_all rfl); (case zt => kmk_pure); (case z => exact line_small (by k_extra "m_size"))); intro _ _ _ _ l1; (try k_lt l1); (try k_sweep); (try (revert l1; intro _))))))
  (k_with "call ref" => (k_dflt (((with_reducible show wpAny _ _ (call (Value.ref 42) _) _ _ _); refine' kept_ex ?zF ?zN (place_among_spec ?zR ?zO ?zB ?zT ?zWF ?zk ?zP) ?_; (case zF => k_asm); (case zN => k_asm); (case zR => exact Room.less (by k_asm) (by exact Nat.le_of_ble_eq_true rfl)); (case zO => k_asm); (case zB => exact Fr.keep (by k_asm)); (case zT => exact TreeAt.keeps (by k_asm) (Fr.keep (by k_asm))); (case zWF => k_asm); (case zk => k_asm); (case zP => exact PredAt.keeps (by k_asm) (Fr.keep (by k_asm))); intro _ _ _ _ _ _; (try k_sweep)))))
  exact True.intro
noncomputable def singleN (nds : List Nd) (pc pb : Nat → Bool) (k : Nat) : List Nat := match (upTo (parN nds) pb k).find? pc with
  | some x => [placeN nds pc x]
  | none => []
noncomputable def multipleN (nds : List Nd) (pc pb : Nat → Bool) (k : Nat) : List Nat := (((upTo (parN nds) pb k).filter pc).map (placeN nds pc)).reverse
theorem upTo_le {par : Nat → Option Nat} (h : ParLt par) {pb : Nat → Bool} {k x : Nat} (hx : x ∈ upTo par pb k) : x ≤ k := up_le h k x ((List.takeWhile_sublist _).subset hx)
theorem upTo_length {par : Nat → Option Nat} (h : ParLt par) {pb : Nat → Bool} {k : Nat} : (upTo par pb k).length ≤ k + 1 := Nat.le_trans (List.takeWhile_sublist _).length_le (up_length h k)
theorem find_stop {α : Type} {p : α → Bool} : ∀ {l : List α} {i : Nat} {x : α}, (∀ y ∈ l.take i, p y = false) → l[i]? = some x → p x = true → l.find? p = some x
  | [], _, _, _, e, _ => by simp at e
  | a :: l, 0, x, _, e, h => by
    simp only [List.getElem?_cons_zero, Option.some.injEq] at e
    subst e
    simp [h]
  | a :: l, i + 1, x, ha, e, h => by
    simp only [List.getElem?_cons_succ] at e
    rw [List.take_succ_cons] at ha
    rw [List.find?_cons, ha a (.head _)]
    exact find_stop (fun y hy => ha y (.tail _ hy)) e h

section
variable {prog : Program} {w : World} {A : Around} {s : Shared} {E : Value → Shared → Prop} {B0 : Heap} {tr rl : Addr} {nds : List Nd} {k : Nat} {t : Tok} {nd : Nd} {fb fc : Addr} {pb pc : Nat → Bool}

theorem single_spec (R : Room A 18) (O : Ok w B0) (hB : B0.StaysIn s.heap) (TA : TreeAt s.heap tr rl nds) (WF : TreeWf nds) (hk : k < nds.length) (PC : PredAt prog w s.heap fc nds.length pc) (PB : PredAt prog w s.heap fb nds.length pb) :
    wpAny (model prog w) A (call (.ref 56) [.ref tr, .int k t, .ref fc, .ref fb]) (Kept s fun v h' => ∃ l its ep, v = .ref l ∧ s.heap.get? l = none ∧ h'.get? l = some (listOf its ep) ∧ IntsAre its.toList (natZ (singleN nds pc pb k))) E s := by
  refine' enterK (binds := [("tree",.ref tr),("node",.int k t),("is_counted",.ref fc),("is_begin",.ref fb)]) [] O hB ?hms R ?ho ?hcd ?hbind ?hloc ?h ?hcell ?hco ?hgen ?hk
  k_extra "m_enter"
  intro A' g L h₁ tk₁ p loose mean mg mb R' cg hBg Og Xg Tg _ F N
  k_fold
  have TA' := TA.keeps cg.nil
  obtain ⟨⟨dt, hh, tkr, ntr, e1, e2⟩, ⟨ep, e3⟩, hall, hsm⟩ := id TA'
  have PC' := PC.keeps cg.nil
  have PB' := PB.keeps cg.nil
  k_extra "m_walk"
  refine For_invV g rfl rfl ?_
  k_extra "m_walk"
  have hI0 := ‹IntsAre _ (natZ (upTo (parN nds) pb k))›
  refine iter_list (L := L) rfl (fun i m news => m "tree" = some (.ref tr) ∧ m "is_counted" = some (.ref fc) ∧ ∀ x ∈ (upTo (parN nds) pb k).take i, pc x = false) R'.hd (by assumption) (by assumption) (by assumption) (by assumption)
    ⟨rfl, rfl, fun x hx => by simp at hx⟩ ?_ ?_
  · intro i v m₁ news₁ h₁ tk₁ own hv hadr hoff hJJ F N
    (try k_fold)
    obtain ⟨hm1, hm2, hp⟩ := hJJ
    obtain ⟨y, ty, rfl, hy⟩ := ints_at hI0 hv
    have hyn : y < nds.length := Nat.lt_of_le_of_lt (upTo_le WF.parLt (List.mem_of_getElem? hy)) hk
    have htake : (upTo (parN nds) pb k).take (i + 1) = (upTo (parN nds) pb k).take i ++ [y] := by rw [List.take_add_one, hy]; rfl
    k_extra "m_walk"
    · have hs : singleN nds pc pb k = [placeN nds pc y] := by unfold singleN; rw [find_stop hp hy (by assumption)]
      exact ⟨keeps_of cg rfl (by assumption), _, _, _, rfl, fresh_of cg rfl (News.fresh (by assumption) (.head _)), News.get (by assumption) (.head _), by rw [hs]; exact .cons _ _ .nil⟩
    · refine invEnd_same (by assumption) (by assumption) hadr ⟨by k_extra "m_lk", by k_extra "m_lk", ?_⟩
      rw [htake]; intro x hx; rcases List.mem_append.mp hx with hx | hx; exact hp x hx; rw [List.mem_singleton.mp hx]; assumption
  · intro m₁ news₁ h₁ tk₁ hadr hJJ F N
    (try k_fold)
    obtain ⟨hm1, hm2, hp⟩ := hJJ
    rw [List.take_of_length_le (by rw [ints_size hI0]; simp)] at hp
    have hs : singleN nds pc pb k = [] := by unfold singleN; rw [List.find?_eq_none.mpr fun x hx => by rw [hp x hx]; decide]
    k_extra "m_walk"
    exact ⟨keeps_of cg rfl (by assumption), _, _, _, rfl, fresh_of cg rfl (News.fresh (by assumption) (.head _)), News.get (by assumption) (.head _), by rw [hs]; exact .nil⟩

theorem multiple_spec (R : Room A 18) (O : Ok w B0) (hB : B0.StaysIn s.heap) (TA : TreeAt s.heap tr rl nds) (WF : TreeWf nds) (hk : k < nds.length) (PC : PredAt prog w s.heap fc nds.length pc) (PB : PredAt prog w s.heap fb nds.length pb) :
    wpAny (model prog w) A (call (.ref 63) [.ref tr, .int k t, .ref fc, .ref fb]) (Kept s fun v h' => ∃ l its ep, v = .ref l ∧ s.heap.get? l = none ∧ h'.get? l = some (listOf its ep) ∧ IntsAre its.toList (natZ (multipleN nds pc pb k))) E s := by
  refine' enterK (binds := [("tree",.ref tr),("node",.int k t),("is_counted",.ref fc),("is_begin",.ref fb)]) [] O hB ?hms R ?ho ?hcd ?hbind ?hloc ?h ?hcell ?hco ?hgen ?hk
  k_extra "m_enter"
  intro A' g L h₁ tk₁ p loose mean mg mb R' cg hBg Og Xg Tg _ F N
  k_fold
  have TA' := TA.keeps cg.nil
  obtain ⟨⟨dt, hh, tkr, ntr, e1, e2⟩, ⟨ep, e3⟩, hall, hsm⟩ := id TA'
  have PC' := PC.keeps cg.nil
  have PB' := PB.keeps cg.nil
  k_extra "m_walk"
  refine For_invV g rfl rfl ?_
  k_extra "m_walk"
  have hI0 := ‹IntsAre _ (natZ (upTo (parN nds) pb k))›
  have hlen : (upTo (parN nds) pb k).length ≤ 101 := Nat.le_trans (upTo_length WF.parLt) (by omega)
  refine iter_list (L := L) rfl (fun i m news => ∃ (fl : Addr) (its : Array Value) (ep : Nat), news = [(fl, listOf its ep)] ∧ m "tree" = some (.ref tr) ∧ m "is_counted" = some (.ref fc) ∧ m "found" = some (.ref fl) ∧
    IntsAre its.toList (natZ ((((upTo (parN nds) pb k).take i).filter pc).map (placeN nds pc)))) R'.hd (by assumption) (by assumption) (by assumption) (by assumption)
    ⟨_, #[], 0, rfl, rfl, rfl, rfl, .nil⟩ ?_ ?_
  · intro i v m₁ news₁ h₁ tk₁ own hv hadr hoff hJJ F N
    (try k_fold)
    obtain ⟨fl, its, epf, rfl, hm1, hm2, hm3, hI⟩ := hJJ
    rw [← hadr] at hoff
    have hoff1 := off_head hoff
    obtain ⟨y, ty, rfl, hy⟩ := ints_at hI0 hv
    have hyn : y < nds.length := Nat.lt_of_le_of_lt (upTo_le WF.parLt (List.mem_of_getElem? hy)) hk
    have htake : (upTo (parN nds) pb k).take (i + 1) = (upTo (parN nds) pb k).take i ++ [y] := by rw [List.take_add_one, hy]; rfl
    have hsz := ints_size hI
    have hle : (((upTo (parN nds) pb k).take i).filter pc).length ≤ 101 := Nat.le_trans (List.length_filter_le _ _) (by rw [List.length_take]; omega)
    simp only [List.length_map] at hsz
    k_extra "m_walk"
    · exact invEnd (nx := [(fl, listOf (its.push (.int ((placeN nds pc y : Nat) : Int) _)) (epf + 1))]) (by assumption) (by assumption) sub1 sub2 hadr ⟨fl, _, _, rfl, by k_extra "m_lk", by k_extra "m_lk", by k_extra "m_lk", by rw [htake, List.filter_append, List.filter_cons_of_pos (by assumption), List.filter_nil, List.map_append, natZ, List.map_append]; exact ints_push hI⟩
    · refine invEnd_same (by assumption) (by assumption) hadr ⟨fl, its, epf, rfl, by k_extra "m_lk", by k_extra "m_lk", by k_extra "m_lk", by rw [htake, List.filter_append, List.filter_cons_of_neg (by simp [*]), List.filter_nil, List.append_nil]; exact hI⟩
  · intro m₁ news₁ h₁ tk₁ hadr hJJ F N
    (try k_fold)
    obtain ⟨fl, its, epf, rfl, hm1, hm2, hm3, hI⟩ := hJJ
    rw [List.take_of_length_le (by rw [ints_size hI0]; simp)] at hI
    have hsz := ints_size hI
    have hle : ((upTo (parN nds) pb k).filter pc).length ≤ 101 := Nat.le_trans (List.length_filter_le _ _) hlen
    simp only [List.length_map] at hsz
    k_extra "m_walk"
    exact ⟨keeps_of cg rfl (by assumption), _, _, _, rfl, fresh_of cg rfl (News.fresh (by assumption) (.head _)), News.get (by assumption) (.head _), by rw [multipleN, natZ, List.map_reverse]; exact IntsAre.reverse hI⟩
end


theorem kl_last_snoc (p : List Value) (y : Value) : kl_last (p ++ [y]) = some (p, y) := by
  induction p with
  | nil => rfl
  | cons a p ih =>
    cases p with
    | nil => rfl
    | cons b p => simp only [List.cons_append] at ih ⊢; unfold kl_last; rw [ih]
theorem ints_snoc_inv {vs : List Value} {l : List Int} {x : Int} (h : IntsAre vs (l ++ [x])) : ∃ p t, vs = p ++ [.int x t] ∧ IntsAre p l := by
  have h2 := IntsAre.reverse h
  rw [List.reverse_append, List.reverse_singleton, List.singleton_append] at h2
  obtain ⟨t, vs', e, h3⟩ := IntsAre.cons_inv h2
  refine ⟨vs'.reverse, t, ?_, ?_⟩
  · rw [← List.reverse_reverse vs, e, List.reverse_cons]
  · have := IntsAre.reverse h3; rwa [List.reverse_reverse] at this

theorem news_drop {g h : Heap} {L : Addr} {news news' : List (Addr × Obj)} (N : News g L h news') (hs : ∀ p ∈ news, p ∈ news') : News g L h news := fun p hp => N p (hs p hp)
theorem sub_two {α : Type} {a b : α} {l : List α} (h1 : a ∈ l) (h2 : b ∈ l) : ∀ p ∈ [a, b], p ∈ l := fun p hp => by
  rcases List.mem_cons.mp hp with rfl | hp
  · exact h1
  · rw [List.mem_singleton.mp hp]; exact h2

/-- the rows stand in the order of the walk: pend k are the rows that wait when k rows are taken -/
structure PreAt (nds : List Nd) (n : Nat) (pend : Nat → List Nat) : Prop where
  zero : pend 0 = [0]
  next : ∀ k, k < n → ∃ rest, pend k = k :: rest ∧ pend (k + 1) = kidsN nds k ++ rest
  small : ∀ k, k ≤ n → (pend k).length ≤ 200

theorem Room.units64 {A : Around} {k : Nat} (r : Room A k) : A.units + 64 < cLine := by have := r.u; show A.units + 64 < 9900; omega
theorem word_M8_1 : True := by
  (k_with "call builtin:list.pop" => (k_dflt (((with_reducible show wpAny _ _ (call (Value.builtin _) [Value.ref _]) _ _ _); (refine' kl_pop ?zF ?zN ?zl ?zU ?z ?_; (case zF => k_asm); (case zN => k_asm); (case zl => k_asm); (case zU => k_upd); (case z => exact line_small (by k_extra "m_size"))); intro _ _ _; (try k_sweep)))))
  (k_with "compareOp NotEq ref ref" => (k_dflt (((refine' ne_intsK ?zk1 ?zk2 ?zk3 ?zk4 ?zk5 ?_; (case zk1 => is_list); (case zk2 => first | assumption | exact IntsAre.nil); (case zk3 => is_list); (case zk4 => first | assumption | exact IntsAre.nil); (case zk5 => exact Room.units64 (by k_asm)))))))
  (k_with "call builtin:list.extend" => (k_dflt (((with_reducible show wpAny _ _ (call (Value.builtin _) [Value.ref _, Value.ref _]) _ _ _); (refine' extend_in (own := [_, _]) (rest := [_]) ?zF ?zN ?zo ?zr ?zb ?_ ?z; (case zF => k_asm); (case zN => k_asm); (case zb => k_extra "m_get"); (case zo => k_all); (case zr => k_all); (case z => exact line_small (by k_extra "m_size"))); intro _ _ _ _; (try k_sweep)))))
  exact True.intro
section
variable {prog : Program} {w : World} {A : Around} {s : Shared} {E : Value → Shared → Prop} {B0 : Heap} {tr rl : Addr} {nds : List Nd} {k : Nat} {t : Tok} {nd : Nd} {fb fc : Addr} {pb pc : Nat → Bool}

theorem walked_spec {n : Nat} {pend : Nat → List Nat} {t0 : Tok} (R : Room A 8) (O : Ok w B0) (hB : B0.StaysIn s.heap) (TA : TreeAt s.heap tr rl nds) (WF : TreeWf nds) (PR : PreAt nds n pend) (hk : k < n) (hn : n ≤ nds.length) :
    wpAny (model prog w) A (call (.ref 70) [.ref tr, .int 0 t0, .int k t]) (Kept s fun v h' => ∃ l its ep, v = .ref l ∧ s.heap.get? l = none ∧ h'.get? l = some (listOf its ep) ∧ IntsAre its.toList (natZ (List.range (k + 1)))) E s := by
  refine' enterK (binds := [("tree",.ref tr),("root",.int 0 t0),("node",.int k t)]) [] O hB ?hms R ?ho ?hcd ?hbind ?hloc ?h ?hcell ?hco ?hgen ?hk
  k_extra "m_enter"
  intro A' g L h₁ tk₁ p loose mean mg mb R' cg hBg Og Xg Tg _ F N
  k_fold
  have TA' := TA.keeps cg.nil
  obtain ⟨⟨dt, hh, tkr, ntr, e1, e2⟩, ⟨ep, e3⟩, hall, hsm⟩ := id TA'
  k_extra "m_walk"
  refine while_rule (fun n m news => ∃ (fl lf : Addr) (its : Array Value) (ep : Nat) (vs : List Value) (ep2 : Nat) (j : Nat), news = [(lf, listOf vs.toArray ep2), (fl, listOf its ep)] ∧ @LT.lt Nat _ fl lf ∧ m "tree" = some (.ref tr) ∧ m "node" = some (.int (k : Int) t) ∧ m "found" = some (.ref fl) ∧
    m "left" = some (.ref lf) ∧ IntsAre its.toList (natZ (List.range j)) ∧ IntsAre vs (natZ (pend j).reverse) ∧ j ≤ k ∧ n = k - j) (by assumption) (by assumption)
    ⟨_, _, #[], 0, _, 0, 0, rfl, ltA_mem (by with_reducible assumption) (by k_mem), rfl, rfl, rfl, rfl, .nil, by rw [PR.zero]; exact .cons _ _ .nil, Nat.zero_le _, rfl⟩ ?_
  intro n' m₁ news₁ h₁ tk₁ F N hJJ
  (try k_fold)
  obtain ⟨fl, lf, its, ep, vs, ep2, j, rfl, hlt, hm1, hm2, hm3, hm4, hI1, hI2, hj, rfl⟩ := hJJ
  obtain ⟨rest, hp1, hp2⟩ := PR.next j (by omega)
  have hsm1 := PR.small j (by omega)
  have hsm2 := PR.small (j + 1) (by omega)
  rw [hp1] at hI2 hsm1
  rw [hp2] at hsm2
  have hjl : j < nds.length := by omega
  obtain ⟨ndj, hndj⟩ : ∃ ndj, nds[j]? = some ndj := ⟨nds[j], by simp [hjl]⟩
  have hkj : kidsN nds j = ndj.kids := by unfold kidsN; rw [hndj]; rfl
  rw [hkj] at hp2 hsm2
  simp only [List.length_cons, List.length_append] at hsm1 hsm2
  have e0 : natZ (j :: rest).reverse = natZ rest.reverse ++ [(j : Int)] := by simp [natZ]
  rw [e0] at hI2
  obtain ⟨p, tj, rfl, hIp⟩ := ints_snoc_inv hI2
  have hkl := kl_last_snoc p (.int (j : Int) tj)
  have hsz := ints_size hI1
  have hpz := hIp.length
  simp only [List.length_map, List.length_range, List.length_reverse] at hsz hpz
  have hzz : (p ++ [Value.int (j : Int) tj]).length ≤ 300 := by simp; omega
  have hk100 := (hall ndj (List.mem_of_getElem? hndj)).small.1
  k_extra "m_walk"
  · have hjk : j = k := by omega
    subst hjk
    exact ⟨keeps_of cg rfl (by assumption), fl, _, _, rfl, fresh_of cg rfl (News.fresh (by assumption) (by k_mem)), News.get (by assumption) (by k_mem), by rw [List.range_succ, natZ, List.map_append]; exact ints_push hI1⟩
  · have hne : ¬ j = k := by omega
    refine ⟨_, _, _, _, k - (j + 1), rfl, by assumption, news_drop (by assumption) (sub_two (by k_mem) (by k_mem)), Nat.sub_lt_sub_left (by omega) (Nat.lt_succ_self j), fl, lf, _, _, _, _, j + 1, rfl, hlt, by k_extra "m_lk", by k_extra "m_lk", by k_extra "m_lk", by k_extra "m_lk",
      by rw [List.range_succ, natZ, List.map_append]; exact ints_push hI1, ?_, by omega, rfl⟩
    rw [hp2, List.reverse_append, natZ, List.map_append]
    refine IntsAre.append hIp ?_
    have hr := IntsAre.reverse (by assumption : IntsAre _ (natZ ndj.kids))
    rw [List.map_reverse]
    exact hr
end


noncomputable def cntS (pc pb : Nat → Bool) (e : Nat) (acc one : Nat) : Nat := if one ≠ e ∧ pb one = true then 0 else if pc one = true then acc + 1 else acc
theorem cntS_begin {pc pb : Nat → Bool} {e acc one : Nat} (h : one ≠ e) (hb : pb one = true) : cntS pc pb e acc one = 0 := by unfold cntS; rw [if_pos ⟨h, hb⟩]
theorem cntS_pos {pc pb : Nat → Bool} {e acc one : Nat} (h : one = e ∨ pb one = false) (hc : pc one = true) : cntS pc pb e acc one = acc + 1 := by
  unfold cntS; rw [if_neg (by rintro ⟨a, b⟩; rcases h with h | h; exact a h; rw [h] at b; cases b), if_pos hc]
theorem cntS_neg {pc pb : Nat → Bool} {e acc one : Nat} (h : one = e ∨ pb one = false) (hc : pc one = false) : cntS pc pb e acc one = acc := by
  unfold cntS; rw [if_neg (by rintro ⟨a, b⟩; rcases h with h | h; exact a h; rw [h] at b; cases b), if_neg (by rw [hc]; decide)]
theorem cntS_le1 (pc pb : Nat → Bool) (e a i : Nat) : cntS pc pb e a i ≤ a + 1 := by
  unfold cntS
  split
  · omega
  · split <;> omega
theorem cntS_le (pc pb : Nat → Bool) (e : Nat) : ∀ i, (List.range i).foldl (cntS pc pb e) 0 ≤ i
  | 0 => Nat.le_refl _
  | i + 1 => by
    have := cntS_le pc pb e i
    rw [List.range_succ, List.foldl_append, List.foldl_cons, List.foldl_nil]
    exact Nat.le_trans (cntS_le1 pc pb e _ i) (by omega)
theorem range_get {n i y : Nat} (h : (List.range n)[i]? = some y) : i < n ∧ i = y := by
  obtain ⟨a, b⟩ := List.getElem?_eq_some_iff.mp h
  rw [List.length_range] at a
  exact ⟨a, by rw [List.getElem_range] at b; exact b⟩
noncomputable def endN (nds : List Nd) (k : Nat) : Nat := if atKind (kindN nds k) then (parN nds k).getD 0 else k
noncomputable def anyM (nds : List Nd) (pc pb : Nat → Bool) (k : Nat) : Nat := (List.range (endN nds k + 1)).foldl (cntS pc pb (endN nds k)) 0 + (if endN nds k ≠ k ∧ pc k = true then 1 else 0)
noncomputable def anyN (nds : List Nd) (pc pb : Nat → Bool) (k : Nat) : List Nat := if 0 < anyM nds pc pb k then [anyM nds pc pb k] else []

theorem anyM_eq {nds : List Nd} {pc pb : Nat → Bool} {k e : Nat} (h : endN nds k = e) : anyM nds pc pb k = (List.range (e + 1)).foldl (cntS pc pb e) 0 + (if e ≠ k ∧ pc k = true then 1 else 0) := by subst h; rfl
theorem anyN_some {nds : List Nd} {pc pb : Nat → Bool} {k m : Nat} (h : anyM nds pc pb k = m) (hm : 0 < m) : anyN nds pc pb k = [m] := by subst h; exact if_pos hm
theorem anyN_none {nds : List Nd} {pc pb : Nat → Bool} {k m : Nat} (h : anyM nds pc pb k = m) (hm : ¬ 0 < m) : anyN nds pc pb k = [] := by subst h; exact if_neg hm

section
variable {prog : Program} {w : World} {A : Around} {s : Shared} {E : Value → Shared → Prop} {B0 : Heap} {tr rl : Addr} {nds : List Nd} {k : Nat} {t : Tok} {nd : Nd} {fb fc : Addr} {pb pc : Nat → Bool}
theorem parent_some {p : Nat} (R : Room A 4) (O : Ok w B0) (hB : B0.StaysIn s.heap) (TA : TreeAt s.heap tr rl nds) (hk : nds[k]? = some nd) (hp : nd.par = some p) :
    wpAny (model prog w) A (call (.ref 278) [.ref tr, .int k t]) (Kept s fun v h' => ∃ t, v = .int (p : Int) t) E s :=
  wpAny_mono (parent_spec R O hB TA hk) (fun v s' x => ⟨x.k, by have := x.r; rw [hp] at this; exact this⟩) fun _ _ e => e
end
theorem word_M9_1 : True := by
  (k_with "call ref" => (k_dflt (((with_reducible show wpAny _ _ (call (Value.ref 278) _) _ _ _); refine' kept_ex ?zF ?zN (parent_some ?zR ?zO ?zB ?zT ?zk ?zp) ?_; (case zF => k_asm); (case zN => k_asm); (case zR => exact Room.less (by k_asm) (by exact Nat.le_of_ble_eq_true rfl)); (case zO => k_asm); (case zB => exact Fr.keep (by k_asm)); (case zT => exact TreeAt.keeps (by k_asm) (Fr.keep (by k_asm))); (case zk => k_asm); (case zp => k_asm); intro _ _ _ _ _ _; (try k_sweep)))))
  (k_with "call ref" => (k_dflt (((with_reducible show wpAny _ _ (call (Value.ref 306) _) _ _ _); refine' kept_ex ?zF ?zN (root_of_spec ?zR ?zO ?zB ?zT ?zWF ?zk) ?_; (case zF => k_asm); (case zN => k_asm); (case zR => exact Room.less (by k_asm) (by exact Nat.le_of_ble_eq_true rfl)); (case zO => k_asm); (case zB => exact Fr.keep (by k_asm)); (case zT => exact TreeAt.keeps (by k_asm) (Fr.keep (by k_asm))); (case zWF => k_asm); (case zk => k_asm); intro _ _ _ _ _ _; (try k_sweep)))))
  (k_with "call ref" => (k_dflt (((with_reducible show wpAny _ _ (call (Value.ref 70) _) _ _ _); refine' kept_i5 ?zF ?zN (walked_spec ?zR ?zO ?zB ?zT ?zWF ?zP ?zk ?zn) ?_; (case zF => k_asm); (case zN => k_asm); (case zR => exact Room.less (by k_asm) (by exact Nat.le_of_ble_eq_true rfl)); (case zO => k_asm); (case zB => exact Fr.keep (by k_asm)); (case zT => exact TreeAt.keeps (by k_asm) (Fr.keep (by k_asm))); (case zWF => k_asm); (case zP => k_asm); (case zk => k_asm); (case zn => k_asm); intro _ _ _ _ _ _ _ _ _ _ _ _; (try k_sweep)))))
  exact True.intro
section
variable {prog : Program} {w : World} {A : Around} {s : Shared} {E : Value → Shared → Prop} {B0 : Heap} {tr rl : Addr} {nds : List Nd} {k : Nat} {t : Tok} {nd : Nd} {fb fc : Addr} {pb pc : Nat → Bool}

theorem any_spec {n : Nat} {pend : Nat → List Nat} (R : Room A 18) (O : Ok w B0) (hB : B0.StaysIn s.heap) (TA : TreeAt s.heap tr rl nds) (WF : TreeWf nds) (PR : PreAt nds n pend) (hk : k < nds.length) (he : endN nds k < n) (hn : n ≤ nds.length)
    (hat : atKind (kindN nds k) = true → ∃ p, parN nds k = some p) (PC : PredAt prog w s.heap fc nds.length pc) (PB : PredAt prog w s.heap fb nds.length pb) :
    wpAny (model prog w) A (call (.ref 77) [.ref tr, .int k t, .ref fc, .ref fb]) (Kept s fun v h' => ∃ l its ep, v = .ref l ∧ s.heap.get? l = none ∧ h'.get? l = some (listOf its ep) ∧ IntsAre its.toList (natZ (anyN nds pc pb k))) E s := by
  refine' enterK (binds := [("tree",.ref tr),("node",.int k t),("is_counted",.ref fc),("is_begin",.ref fb)]) [] O hB ?hms R ?ho ?hcd ?hbind ?hloc ?h ?hcell ?hco ?hgen ?hk
  k_extra "m_enter"
  intro A' g L h₁ tk₁ p loose mean mg mb R' cg hBg Og Xg Tg _ F N
  k_fold
  have TA' := TA.keeps cg.nil
  obtain ⟨⟨dt, hh, tkr, ntr, e1, e2⟩, ⟨ep, e3⟩, hall, hsm⟩ := id TA'
  have PC' := PC.keeps cg.nil
  have PB' := PB.keeps cg.nil
  obtain ⟨nd, hnd⟩ : ∃ nd, nds[k]? = some nd := ⟨nds[k], by simp [hk]⟩
  have hpn : parN nds k = nd.par := by unfold parN; rw [hnd]; rfl
  have hkn : kindN nds k = nd.kind := by unfold kindN; rw [hnd]; rfl
  rw [hkn, hpn] at hat
  by_cases hatk : ([Str.ofString "attribute", Str.ofString "namespace"].any fun x => x == nd.kind) = true
  · obtain ⟨e, hpe⟩ := hat hatk
    have hen : endN nds k = e := by unfold endN; rw [hkn, hpn, hpe]; exact if_pos hatk
    rw [hen] at he
    have hek := WF.lt k nd e hnd hpe
    k_extra "m_walk"
    refine For_invV g rfl rfl ?_
    k_extra "m_walk"
    have hI0 := ‹IntsAre _ (natZ (List.range (e + 1)))›
    refine iter_list (L := L) rfl (fun i m news => m "tree" = some (.ref tr) ∧ m "is_counted" = some (.ref fc) ∧ m "is_begin" = some (.ref fb) ∧ m "node" = some (.int (k : Int) t) ∧ (∃ te, m "end" = some (.int ((e : Nat) : Int) te)) ∧
      (∃ tm, m "many" = some (.int (((List.range i).foldl (cntS pc pb e) 0 : Nat) : Int) tm)) ∧ i ≤ e + 1) R'.hd (by assumption) (by assumption) (by assumption) (by assumption)
      ⟨by k_extra "m_lk", by k_extra "m_lk", by k_extra "m_lk", by k_extra "m_lk", ⟨_, by k_extra "m_lk"⟩, ⟨_, by k_extra "m_lk"⟩, Nat.zero_le _⟩ ?_ ?_
    · intro i v m₁ news₁ h₁ tk₁ own hv hadr hoff hJJ F N
      (try k_fold)
      obtain ⟨hm1, hm2, hm3, hm4, ⟨te, hm5⟩, ⟨tm, hm6⟩, hi⟩ := hJJ
      obtain ⟨y, ty, rfl, hy⟩ := ints_at hI0 hv
      obtain ⟨hy1, rfl⟩ := range_get hy
      have hyn : i < nds.length := by omega
      have hle := cntS_le pc pb e i
      k_extra "m_walk"
      · exact invEnd_same (by assumption) (by assumption) hadr ⟨by k_extra "m_lk", by k_extra "m_lk", by k_extra "m_lk", by k_extra "m_lk", ⟨_, by k_extra "m_lk"⟩, ⟨_, by rw [List.range_succ, List.foldl_append, List.foldl_cons, List.foldl_nil, cntS_begin (by omega) (by assumption)]; k_extra "m_lk"⟩, hy1⟩
      · exact invEnd_same (by assumption) (by assumption) hadr ⟨by k_extra "m_lk", by k_extra "m_lk", by k_extra "m_lk", by k_extra "m_lk", ⟨_, by k_extra "m_lk"⟩, ⟨_, by rw [List.range_succ, List.foldl_append, List.foldl_cons, List.foldl_nil, cntS_pos (.inr (by assumption)) (by assumption), Int.natCast_add]; k_extra "m_lk"⟩, hy1⟩
      · exact invEnd_same (by assumption) (by assumption) hadr ⟨by k_extra "m_lk", by k_extra "m_lk", by k_extra "m_lk", by k_extra "m_lk", ⟨_, by k_extra "m_lk"⟩, ⟨_, by rw [List.range_succ, List.foldl_append, List.foldl_cons, List.foldl_nil, cntS_neg (.inr (by assumption)) (by assumption)]; k_extra "m_lk"⟩, hy1⟩
      · exact invEnd_same (by assumption) (by assumption) hadr ⟨by k_extra "m_lk", by k_extra "m_lk", by k_extra "m_lk", by k_extra "m_lk", ⟨_, by k_extra "m_lk"⟩, ⟨_, by rw [List.range_succ, List.foldl_append, List.foldl_cons, List.foldl_nil, cntS_pos (.inl (by omega)) (by assumption), Int.natCast_add]; k_extra "m_lk"⟩, hy1⟩
      · exact invEnd_same (by assumption) (by assumption) hadr ⟨by k_extra "m_lk", by k_extra "m_lk", by k_extra "m_lk", by k_extra "m_lk", ⟨_, by k_extra "m_lk"⟩, ⟨_, by rw [List.range_succ, List.foldl_append, List.foldl_cons, List.foldl_nil, cntS_neg (.inl (by omega)) (by assumption)]; k_extra "m_lk"⟩, hy1⟩
    · intro m₁ news₁ h₁ tk₁ hadr hJJ F N
      (try k_fold)
      obtain ⟨hm1, hm2, hm3, hm4, ⟨te, hm5⟩, ⟨tm, hm6⟩, hi⟩ := hJJ
      rw [ints_size hI0] at hm6
      simp only [List.length_map, List.length_range] at hm6
      have hle := cntS_le pc pb e (e + 1)
      k_extra "m_walk"
      · have hM := anyN_some ((anyM_eq (pc := pc) (pb := pb) hen).trans (by rw [if_pos ⟨by omega, by assumption⟩])) (Nat.succ_pos _)
        exact ⟨keeps_of cg rfl (by assumption), _, _, _, rfl, fresh_of cg rfl (News.fresh (by assumption) (by k_mem)), News.get (by assumption) (by k_mem), by rw [hM]; exact .cons _ _ .nil⟩
      · have hM := anyN_some ((anyM_eq (pc := pc) (pb := pb) hen).trans (by rw [if_neg (by rintro ⟨a, b⟩; simp_all)])) (by omega)
        exact ⟨keeps_of cg rfl (by assumption), _, _, _, rfl, fresh_of cg rfl (News.fresh (by assumption) (by k_mem)), News.get (by assumption) (by k_mem), by rw [hM]; exact .cons _ _ .nil⟩
      · have hM := anyN_none ((anyM_eq (pc := pc) (pb := pb) hen).trans (by rw [if_neg (by rintro ⟨a, b⟩; simp_all)])) (by omega)
        exact ⟨keeps_of cg rfl (by assumption), _, _, _, rfl, fresh_of cg rfl (News.fresh (by assumption) (by k_mem)), News.get (by assumption) (by k_mem), by rw [hM]; exact .nil⟩
      · exfalso; omega
  · have hatf : ([Str.ofString "attribute", Str.ofString "namespace"].any fun x => x == nd.kind) = false := by simpa using hatk
    have hen : endN nds k = k := by unfold endN; rw [hkn]; exact if_neg hatk
    rw [hen] at he
    k_extra "m_walk"
    refine For_invV g rfl rfl ?_
    k_extra "m_walk"
    have hI0 := ‹IntsAre _ (natZ (List.range (k + 1)))›
    refine iter_list (L := L) rfl (fun i m news => m "tree" = some (.ref tr) ∧ m "is_counted" = some (.ref fc) ∧ m "is_begin" = some (.ref fb) ∧ m "node" = some (.int (k : Int) t) ∧ (∃ te, m "end" = some (.int ((k : Nat) : Int) te)) ∧
      (∃ tm, m "many" = some (.int (((List.range i).foldl (cntS pc pb k) 0 : Nat) : Int) tm)) ∧ i ≤ k + 1) R'.hd (by assumption) (by assumption) (by assumption) (by assumption)
      ⟨by k_extra "m_lk", by k_extra "m_lk", by k_extra "m_lk", by k_extra "m_lk", ⟨_, by k_extra "m_lk"⟩, ⟨_, by k_extra "m_lk"⟩, Nat.zero_le _⟩ ?_ ?_
    · intro i v m₁ news₁ h₁ tk₁ own hv hadr hoff hJJ F N
      (try k_fold)
      obtain ⟨hm1, hm2, hm3, hm4, ⟨te, hm5⟩, ⟨tm, hm6⟩, hi⟩ := hJJ
      obtain ⟨y, ty, rfl, hy⟩ := ints_at hI0 hv
      obtain ⟨hy1, rfl⟩ := range_get hy
      have hyn : i < nds.length := by omega
      have hle := cntS_le pc pb k i
      k_extra "m_walk"
      · exact invEnd_same (by assumption) (by assumption) hadr ⟨by k_extra "m_lk", by k_extra "m_lk", by k_extra "m_lk", by k_extra "m_lk", ⟨_, by k_extra "m_lk"⟩, ⟨_, by rw [List.range_succ, List.foldl_append, List.foldl_cons, List.foldl_nil, cntS_begin (by omega) (by assumption)]; k_extra "m_lk"⟩, hy1⟩
      · exact invEnd_same (by assumption) (by assumption) hadr ⟨by k_extra "m_lk", by k_extra "m_lk", by k_extra "m_lk", by k_extra "m_lk", ⟨_, by k_extra "m_lk"⟩, ⟨_, by rw [List.range_succ, List.foldl_append, List.foldl_cons, List.foldl_nil, cntS_pos (.inr (by assumption)) (by assumption), Int.natCast_add]; k_extra "m_lk"⟩, hy1⟩
      · exact invEnd_same (by assumption) (by assumption) hadr ⟨by k_extra "m_lk", by k_extra "m_lk", by k_extra "m_lk", by k_extra "m_lk", ⟨_, by k_extra "m_lk"⟩, ⟨_, by rw [List.range_succ, List.foldl_append, List.foldl_cons, List.foldl_nil, cntS_neg (.inr (by assumption)) (by assumption)]; k_extra "m_lk"⟩, hy1⟩
      · exact invEnd_same (by assumption) (by assumption) hadr ⟨by k_extra "m_lk", by k_extra "m_lk", by k_extra "m_lk", by k_extra "m_lk", ⟨_, by k_extra "m_lk"⟩, ⟨_, by rw [List.range_succ, List.foldl_append, List.foldl_cons, List.foldl_nil, cntS_pos (.inl (by omega)) (by assumption), Int.natCast_add]; k_extra "m_lk"⟩, hy1⟩
      · exact invEnd_same (by assumption) (by assumption) hadr ⟨by k_extra "m_lk", by k_extra "m_lk", by k_extra "m_lk", by k_extra "m_lk", ⟨_, by k_extra "m_lk"⟩, ⟨_, by rw [List.range_succ, List.foldl_append, List.foldl_cons, List.foldl_nil, cntS_neg (.inl (by omega)) (by assumption)]; k_extra "m_lk"⟩, hy1⟩
    · intro m₁ news₁ h₁ tk₁ hadr hJJ F N
      (try k_fold)
      obtain ⟨hm1, hm2, hm3, hm4, ⟨te, hm5⟩, ⟨tm, hm6⟩, hi⟩ := hJJ
      rw [ints_size hI0] at hm6
      simp only [List.length_map, List.length_range] at hm6
      have hle := cntS_le pc pb k (k + 1)
      k_extra "m_walk"
      · have hM := anyN_some ((anyM_eq (pc := pc) (pb := pb) hen).trans (by rw [if_neg (by rintro ⟨a, b⟩; exact a rfl)])) (by omega)
        exact ⟨keeps_of cg rfl (by assumption), _, _, _, rfl, fresh_of cg rfl (News.fresh (by assumption) (by k_mem)), News.get (by assumption) (by k_mem), by rw [hM]; exact .cons _ _ .nil⟩
      · have hM := anyN_none ((anyM_eq (pc := pc) (pb := pb) hen).trans (by rw [if_neg (by rintro ⟨a, b⟩; exact a rfl)])) (by omega)
        exact ⟨keeps_of cg rfl (by assumption), _, _, _, rfl, fresh_of cg rfl (News.fresh (by assumption) (by k_mem)), News.get (by assumption) (by k_mem), by rw [hM]; exact .nil⟩
end


noncomputable def numN (lv : Str) (nds : List Nd) (pc pb : Nat → Bool) (k : Nat) : List Nat :=
  if lv = Str.ofString "multiple" then multipleN nds pc pb k else if lv = Str.ofString "any" then anyN nds pc pb k else singleN nds pc pb k
theorem word_M10_1 : True := by
  (k_with "call ref" => (k_dflt (((with_reducible show wpAny _ _ (call (Value.ref 56) _) _ _ _); refine' kept_i7 ?zF ?zN (single_spec ?zR ?zO ?zB ?zT ?zWF ?zk ?zP ?zP2) ?_; (case zF => k_asm); (case zN => k_asm); (case zR => exact Room.less (by k_asm) (by exact Nat.le_of_ble_eq_true rfl)); (case zO => k_asm); (case zB => exact Fr.keep (by k_asm)); (case zT => exact TreeAt.keeps (by k_asm) (Fr.keep (by k_asm))); (case zWF => k_asm); (case zk => k_asm); (case zP => exact PredAt.keeps (by k_asm) (Fr.keep (by k_asm))); (case zP2 => exact PredAt.keeps (by k_asm) (Fr.keep (by k_asm))); intro _ _ _ _ _ _ _ _ _ _ _ _ _; (try k_sweep)))))
  (k_with "call ref" => (k_dflt (((with_reducible show wpAny _ _ (call (Value.ref 63) _) _ _ _); refine' kept_i7 ?zF ?zN (multiple_spec ?zR ?zO ?zB ?zT ?zWF ?zk ?zP ?zP2) ?_; (case zF => k_asm); (case zN => k_asm); (case zR => exact Room.less (by k_asm) (by exact Nat.le_of_ble_eq_true rfl)); (case zO => k_asm); (case zB => exact Fr.keep (by k_asm)); (case zT => exact TreeAt.keeps (by k_asm) (Fr.keep (by k_asm))); (case zWF => k_asm); (case zk => k_asm); (case zP => exact PredAt.keeps (by k_asm) (Fr.keep (by k_asm))); (case zP2 => exact PredAt.keeps (by k_asm) (Fr.keep (by k_asm))); intro _ _ _ _ _ _ _ _ _ _ _ _ _; (try k_sweep)))))
  (k_with "call ref" => (k_dflt (((with_reducible show wpAny _ _ (call (Value.ref 77) _) _ _ _); refine' kept_i7 ?zF ?zN (any_spec ?zR ?zO ?zB ?zT ?zWF ?zPR ?zk ?ze ?zn ?za ?zP ?zP2) ?_; (case zF => k_asm); (case zN => k_asm); (case zR => exact Room.less (by k_asm) (by exact Nat.le_of_ble_eq_true rfl)); (case zO => k_asm); (case zB => exact Fr.keep (by k_asm)); (case zT => exact TreeAt.keeps (by k_asm) (Fr.keep (by k_asm))); (case zWF => k_asm); (case zPR => k_asm); (case zk => k_asm); (case ze => k_asm); (case zn => k_asm); (case za => k_asm); (case zP => exact PredAt.keeps (by k_asm) (Fr.keep (by k_asm))); (case zP2 => exact PredAt.keeps (by k_asm) (Fr.keep (by k_asm))); intro _ _ _ _ _ _ _ _ _ _ _ _ _; (try k_sweep)))))
  exact True.intro
section
variable {prog : Program} {w : World} {A : Around} {s : Shared} {E : Value → Shared → Prop} {B0 : Heap} {tr rl : Addr} {nds : List Nd} {k : Nat} {t : Tok} {nd : Nd} {fb fc : Addr} {pb pc : Nat → Bool}

theorem counted_spec {n : Nat} {pend : Nat → List Nat} {lv : Str} {tl : Tok} (hlv : lv = Str.ofString "single" ∨ lv = Str.ofString "multiple" ∨ lv = Str.ofString "any")
    (R : Room A 19) (O : Ok w B0) (hB : B0.StaysIn s.heap) (TA : TreeAt s.heap tr rl nds) (WF : TreeWf nds) (PR : PreAt nds n pend) (hk : k < nds.length) (he : endN nds k < n) (hn : n ≤ nds.length)
    (hat : atKind (kindN nds k) = true → ∃ p, parN nds k = some p) (PC : PredAt prog w s.heap fc nds.length pc) (PB : PredAt prog w s.heap fb nds.length pb) :
    wpAny (model prog w) A (call (.ref 84) [.ref tr, .int k t, .str lv tl, .ref fc, .ref fb]) (Kept s fun v h' => ∃ l its ep, v = .ref l ∧ s.heap.get? l = none ∧ h'.get? l = some (listOf its ep) ∧ IntsAre its.toList (natZ (numN lv nds pc pb k))) E s := by
  refine' enterK (binds := [("tree",.ref tr),("node",.int k t),("level",.str lv tl),("is_counted",.ref fc),("is_begin",.ref fb)]) [] O hB ?hms R ?ho ?hcd ?hbind ?hloc ?h ?hcell ?hco ?hgen ?hk
  k_extra "m_enter"
  intro A' g L h₁ tk₁ p loose mean mg mb R' cg hBg Og Xg Tg _ F N
  k_fold
  have TA' := TA.keeps cg.nil
  obtain ⟨⟨dt, hh, tkr, ntr, e1, e2⟩, ⟨ep, e3⟩, hall, hsm⟩ := id TA'
  have PC' := PC.keeps cg.nil
  have PB' := PB.keeps cg.nil
  rcases hlv with rfl | rfl | rfl
  all_goals k_extra "m_walk"
  · exact ⟨keeps_of cg rfl (by assumption), _, _, _, rfl, fresh_of cg rfl (by assumption), by assumption, by assumption⟩
  · exact ⟨keeps_of cg rfl (by assumption), _, _, _, rfl, fresh_of cg rfl (by assumption), by assumption, by assumption⟩
  · exact ⟨keeps_of cg rfl (by assumption), _, _, _, rfl, fresh_of cg rfl (by assumption), by assumption, by assumption⟩
end


/-- the source of numbers -/
def SrcAt (h : Heap) (src : Addr) : Prop := ∃ (b x : Int) (t1 t2 : Tok) (n : Nat), h.get? src = some (listOf #[.int b t1, .int x t2] n) ∧ 0 ≤ b ∧ 0 ≤ x ∧ x < 2147483647

/-- what a step does that turns the objects at ms alone -/
inductive Turned (ms : List Addr) (s : Shared) (R : Value → Heap → Prop) (v : Value) (s' : Shared) : Prop where
  | mk (h' : Heap) (tk : Nat) (zc0 : s' = { s with heap := h', toks := tk }) (zc1 : Chg ms s.heap h') (zc2 : R v h') : Turned ms s R v s'

theorem fmod_lo {a m : Int} (h : 0 < m) : 0 ≤ a.fmod m ∧ a.fmod m < m := by
  rw [Int.fmod_eq_emod_of_nonneg _ (by omega)]
  exact ⟨Int.emod_nonneg _ (by omega), Int.emod_lt_of_pos _ (by omega)⟩
theorem fmod_nat {a : Int} {m : Nat} (h : 0 < m) : ∃ r : Nat, a.fmod (m : Int) = r ∧ r < m := by
  have := fmod_lo (a := a) (m := (m : Int)) (by omega)
  exact ⟨(a.fmod (m : Int)).toNat, by omega, by omega⟩
theorem mulOk_mod {a b : Int} : IntMulOk (a.fmod 2147483647) b := by
  have := fmod_lo (a := a) (m := 2147483647) (by decide)
  exact IntMulOk.of_left (intBits_le_64 (by omega) (by omega))
local macro_rules | `(tactic| mul_fits) => `(tactic| exact mulOk_mod)
section
variable {prog : Program} {w : World} {A : Around} {s : Shared} {E : Value → Shared → Prop} {B0 : Heap}

theorem take_spec {src : Addr} {top : Nat} {tt : Tok} (R : Room A 3) (O : Ok w B0) (hB : B0.StaysIn s.heap) (hf : B0.get? src = none) (hs : SrcAt s.heap src) (h1 : 1 ≤ top) (h2 : top ≤ 100) :
    wpAny (model prog w) A (call (.ref 341) [.ref src, .int (top : Int) tt]) (Turned [src] s fun v h' => (∃ (r : Nat) (t : Tok), v = .int (r : Int) t ∧ r < top) ∧ SrcAt h' src) E s := by
  obtain ⟨b, x, t1, t2, n, hsrc, hb, hx0, hx1⟩ := hs
  refine' enterK (binds := [("source", .ref src), ("top", .int (top : Int) tt)]) [(src, listOf #[.int b t1, .int x t2] n)] O hB ?hms R ?ho ?hcd ?hbind ?hloc ?h ?hcell ?hco ?hgen ?hk
  case hms => intro p hp; rw [List.mem_singleton.mp hp]; exact ⟨hsrc, hf⟩
  (case ho => k_is); (case hcd => k_is); (case hbind => exact rfl); (case hloc => exact locs rfl); (case hco => exact rfl); (case hgen => exact rfl); (case hk => exact rfl); (case hcell => decide)
  intro A' g L h₁ tk₁ p loose mean mg mb R' cg hBg Og Xg Tg _ F N
  (try k_fold)
  k_extra "m_walk"
  · obtain ⟨r, hr, hlt⟩ := fmod_nat (a := b) (m := top) (by omega)
    rw [hr]
    exact ⟨_, _, rfl, fun b o n e => Fr.keep (by assumption) _ _ (cg b o n e), ⟨r, _, rfl, hlt⟩, _, x, _, _, _, News.get (by assumption) (.head _), Int.fdiv_nonneg hb (by omega), hx0, hx1⟩
  · obtain ⟨r, hr, hlt⟩ := fmod_nat (a := (((x * 39373 + 7).fmod 2147483647 * (x * 39373 + 7).fmod 2147483647).fmod 2147483629).fdiv 32) (m := top) (by omega)
    rw [hr]
    have hm := fmod_lo (a := x * 39373 + 7) (m := 2147483647) (by decide)
    exact ⟨_, _, rfl, fun b o n e => Fr.keep (by assumption) _ _ (cg b o n e), ⟨r, _, rfl, hlt⟩, b, _, _, _, _, News.get (by assumption) (.head _), hb, hm.1, hm.2⟩

theorem turned_step {α : Type} {M : Model} {A : Around} {t : Sem Value} {ms : List Addr} {R : Value → Heap → Prop} {E : Value → Shared → Prop} {s : Shared} {Q : Value → Shared → Prop}
    (h : wpAny M A t (Turned ms s R) E s) (k : ∀ v h' tk, Chg ms s.heap h' → R v h' → Q v { s with heap := h', toks := tk }) : wpAny M A t Q E s :=
  wpAny_mono h (fun v s' ⟨h', tk, e, c, r⟩ => by subst e; exact k v h' tk c r) fun _ _ e => e
/-- a frame over a step that turns ms alone -/
theorem fr_turnedL {g h h' : Heap} {L : Addr} {m : Str → Option Value} {ms : List Addr} (F : Fr g L h m) (c : Chg ms h h') (hL : L ∉ ms) (hg : ∀ a ∈ ms, g.get? a = none) : Fr g L h' m := by
  obtain ⟨oL, es, ep, e, r⟩ := F.ns
  exact ⟨⟨oL, es, ep, c _ _ hL e, r⟩, fun b o q => c b o (fun z => by rw [hg b z] at q; cases q) (F.keep b o q), F.above⟩

theorem news_turned {g h h' : Heap} {L d : Addr} {o o' : Obj} {news : List (Addr × Obj)} {gf : Obj → List (Addr × Obj)} (N : News g L h news) (U : UpdF d o news gf) (c : Chg [d] h h') (e : h'.get? d = some o') : News g L h' (gf o') := by
  obtain ⟨pre, post, rfl, hg, h1, h2⟩ := U.split
  rw [hg]
  intro p hp
  rcases List.mem_append.mp hp with q | q
  · have P := N p (List.mem_append_left _ q); exact ⟨c _ _ (by simpa using h1 p q) P.1, P.2⟩
  · rcases List.mem_cons.mp q with rfl | q
    · have P := N (d, o) (List.mem_append_right _ (.head _)); exact ⟨e, P.2⟩
    · have P := N p (List.mem_append_right _ (.tail _ q)); exact ⟨c _ _ (by simpa using h2 p q) P.1, P.2⟩
theorem fr_turned {g h h' : Heap} {L d : Addr} {o : Obj} {m : Str → Option Value} {news : List (Addr × Obj)} (F : Fr g L h m) (N : News g L h news) (hm : (d, o) ∈ news) (c : Chg [d] h h') : Fr g L h' m :=
  fr_turnedL F c (by have := (N _ hm).2.1; simpa using Ne.symm this) (by intro a ha; rw [List.mem_singleton.mp ha]; exact (N _ hm).2.2)
theorem UpdF.mem {d : Addr} {o : Obj} {news : List (Addr × Obj)} {gf : Obj → List (Addr × Obj)} (U : UpdF d o news gf) : (d, o) ∈ news := by
  obtain ⟨pre, post, rfl, _⟩ := U.split
  exact List.mem_append_right _ (.head _)
def SrcOk (b x : Int) : Prop := 0 ≤ b ∧ 0 ≤ x ∧ x < 2147483647
noncomputable abbrev srcObj (b x : Int) (t1 t2 : Tok) (n : Nat) : Obj := listOf #[.int b t1, .int x t2] n

theorem take_step {src : Addr} {top : Nat} {tt t1 t2 : Tok} {b x : Int} {n L : Nat} {g : Heap} {m : Str → Option Value} {news : List (Addr × Obj)} {gf : Obj → List (Addr × Obj)} {Q : Value → Shared → Prop}
    (R : Room A 3) (O : Ok w g) (F : Fr g L s.heap m) (N : News g L s.heap news) (U : UpdF src (srcObj b x t1 t2 n) news gf) (hs : SrcOk b x) (h1 : 1 ≤ top) (h2 : top ≤ 100)
    (k : ∀ (r : Nat) (t : Tok) (h' : Heap) (tk : Nat) (b' x' : Int) (t1' t2' : Tok) (n' : Nat), r < top → SrcOk b' x' → Fr g L h' m → News g L h' (gf (srcObj b' x' t1' t2' n')) → Q (.int (r : Int) t) { s with heap := h', toks := tk }) :
    wpAny (model prog w) A (call (.ref 341) [.ref src, .int (top : Int) tt]) Q E s := by
  have hm := UpdF.mem U
  refine turned_step (α := Value) (take_spec R O F.keep (N _ hm).2.2 ⟨b, x, t1, t2, n, (N _ hm).1, hs.1, hs.2.1, hs.2.2⟩ h1 h2) fun v h' tk c r => ?_
  obtain ⟨⟨r, t, rfl, hr⟩, b', x', t1', t2', n', e, hb⟩ := r
  exact k r t h' tk b' x' t1' t2' n' hr hb (fr_turned F N hm c) (news_turned N U c e)

/-- a pick out of a list -/
theorem one_spec {src l : Addr} {vs : List Value} {ep : Nat} (R : Room A 5) (O : Ok w B0) (hB : B0.StaysIn s.heap) (hf : B0.get? src = none) (hs : SrcAt s.heap src) (hl : s.heap.get? l = some (listOf vs.toArray ep)) (hne : l ≠ src) (h1 : 1 ≤ vs.length) (h2 : vs.length ≤ 100) :
    wpAny (model prog w) A (call (.ref 348) [.ref src, .ref l]) (Turned [src] s fun v h' => (∃ r : Nat, vs[r]? = some v) ∧ SrcAt h' src) E s := by
  obtain ⟨b, x, t1, t2, n, hsrc, hs⟩ := hs
  refine' enterK (binds := [("source", .ref src), ("things", .ref l)]) [(src, listOf #[.int b t1, .int x t2] n)] O hB ?hms R ?ho ?hcd ?hbind ?hloc ?h ?hcell ?hco ?hgen ?hk
  case hms => intro p hp; rw [List.mem_singleton.mp hp]; exact ⟨hsrc, hf⟩
  (case ho => k_is); (case hcd => k_is); (case hbind => exact rfl); (case hloc => exact locs rfl); (case hco => exact rfl); (case hgen => exact rfl); (case hk => exact rfl); (case hcell => decide)
  intro A' g L h₁ tk₁ p loose mean mg mb R' cg hBg Og Xg Tg gm F N
  (try k_fold)
  have hlg := cg l _ (by simpa using hne) hl
  k_extra "m_walk"
  refine take_step (top := vs.length) (R'.less (by omega)) Og F N (.head fun _ h => nomatch h) hs h1 h2 fun r t h' tk b' x' t1' t2' n' hr hs' F N => ?_
  have hrk : vs[((r : Nat) : Int).toNat]? = some (vs[r]'hr) := by simp [hr]
  k_extra "m_walk"
  exact ⟨_, _, rfl, fun b o n e => F.keep _ _ (cg b o n e), ⟨r, by simp [hr]⟩, b', x', t1', t2', n', News.get N (.head _), hs'⟩

theorem one_step {src l : Addr} {vs : List Value} {ep : Nat} {t1 t2 : Tok} {b x : Int} {n L : Nat} {g : Heap} {m : Str → Option Value} {news : List (Addr × Obj)} {gf : Obj → List (Addr × Obj)} {Q : Value → Shared → Prop}
    (R : Room A 5) (O : Ok w g) (F : Fr g L s.heap m) (N : News g L s.heap news) (U : UpdF src (srcObj b x t1 t2 n) news gf) (hs : SrcOk b x) (hl : s.heap.get? l = some (listOf vs.toArray ep)) (hne : l ≠ src) (h1 : 1 ≤ vs.length) (h2 : vs.length ≤ 100)
    (k : ∀ (v : Value) (r : Nat) (h' : Heap) (tk : Nat) (b' x' : Int) (t1' t2' : Tok) (n' : Nat), vs[r]? = some v → SrcOk b' x' → Fr g L h' m → News g L h' (gf (srcObj b' x' t1' t2' n')) → Q v { s with heap := h', toks := tk }) :
    wpAny (model prog w) A (call (.ref 348) [.ref src, .ref l]) Q E s := by
  have hm := UpdF.mem U
  refine turned_step (α := Value) (one_spec R O F.keep (N _ hm).2.2 ⟨b, x, t1, t2, n, (N _ hm).1, hs.1, hs.2.1, hs.2.2⟩ hl hne h1 h2) fun v h' tk c r => ?_
  obtain ⟨⟨r, hr⟩, b', x', t1', t2', n', e, hb⟩ := r
  exact k v r h' tk b' x' t1' t2' n' hr hb (fr_turned F N hm c) (news_turned N U c e)
end


noncomputable abbrev rangeObj (a b : Int) (t u v : Tok) : Obj := { cls := .type "range", data := .fields #[.int a t, .int b u, .int 1 v] }
section
variable {prog : Program} {w : World} {A : Around} {s : Shared} {E : Value → Shared → Prop} {Q : Value → Shared → Prop} {g : Heap} {L : Addr} {m : Str → Option Value} {news : List (Addr × Obj)}
theorem range1 {n : Int} {t : Tok} (F : Fr g L s.heap m) (N : News g L s.heap news) (h : ∀ r h' tk t1 t2, Fr g L h' m → News g L h' ((r, rangeObj 0 n t1 t t2) :: news) → (∀ p ∈ news, p.1 < r) → Q (.ref r) { s with heap := h', toks := tk }) :
    wpAny (model prog w) A (call (.type "range") [.int n t]) Q E s :=
  call_range_1 (h _ _ _ _ _ (F.push _) (N.push F _) fun p hp => Heap.lt_size (N p hp).1)
theorem range2 {a b : Int} {t u : Tok} (F : Fr g L s.heap m) (N : News g L s.heap news) (h : ∀ r h' tk t2, Fr g L h' m → News g L h' ((r, rangeObj a b t u t2) :: news) → (∀ p ∈ news, p.1 < r) → Q (.ref r) { s with heap := h', toks := tk }) :
    wpAny (model prog w) A (call (.type "range") [.int a t, .int b u]) Q E s :=
  call_range_2 (h _ _ _ _ (F.push _) (N.push F _) fun p hp => Heap.lt_size (N p hp).1)
end
theorem word_M12_1 : True := by
  (k_with "call type:range" => (k_dflt (first | (refine' range1 ?zF ?zN ?_; (case zF => k_asm); (case zN => k_asm); intro _ _ _ _ _ _ _ l1; (try k_lt l1); (try k_sweep); (try (revert l1; intro _))) | (refine' range2 ?zF ?zN ?_; (case zF => k_asm); (case zN => k_asm); intro _ _ _ _ _ _ l1; (try k_lt l1); (try k_sweep); (try (revert l1; intro _))))))
  (k_with "call builtin:max" => (k_dflt (((with_reducible show wpAny _ _ (call (Value.builtin _) [Value.int _ _, Value.int _ _]) _ _ _); (refine' max_two_N ?zh ?zF ?zN ?_; (case zh => exact Room.hd (by k_asm)); (case zF => k_asm); (case zN => k_asm)); intro _ _ _ _; (try k_sweep)))))
  exact True.intro
section
variable {prog : Program} {w : World} {A : Around} {s : Shared} {E : Value → Shared → Prop} {B0 : Heap}

theorem pool_spec {scr : Addr} {vs : List Value} {ns : List Int} {k : Nat} {t : Tok} (R : Room A 4) (O : Ok w B0) (hB : B0.StaysIn s.heap) (hl : s.heap.IsList scr vs.toArray) (hI : IntsAre vs ns) (hn : ns.length ≤ 100) (hk : k ≤ 10) :
    wpAny (model prog w) A (call (.ref 334) [.ref scr, .int (k : Int) t]) (Kept s fun v h' => ∃ (l : Addr) (b x : Int) (t1 t2 : Tok) (n : Nat), v = .ref l ∧ s.heap.get? l = none ∧ h'.get? l = some (srcObj b x t1 t2 n) ∧ SrcOk b x) E s := by
  refine' enterK (binds := [("script",.ref scr),("k",.int (k : Int) t)]) [] O hB ?hms R ?ho ?hcd ?hbind ?hloc ?h ?hcell ?hco ?hgen ?hk
  k_extra "m_enter"
  intro A' g L h₁ tk₁ p loose mean mg mb R' cg hBg Og Xg Tg _ F N
  k_fold
  have hlg := stays_list cg.nil hl
  k_extra "m_walk"
  all_goals refine ⟨keeps_of cg rfl (by assumption), _, _, _, _, _, _, rfl, fresh_of cg rfl (News.fresh (by assumption) (.head _)), News.get (by assumption) (.head _), ?_, (fmod_lo (by decide)).1, (fmod_lo (by decide)).2⟩
  all_goals refine Int.mul_nonneg ?_ ?_
  all_goals split <;> first | omega | decide
end


noncomputable abbrev tupObj (l : List Value) (n : Nat) : Obj := { cls := .type "tuple", data := .seq l.toArray n }
/-- a row of the law's own list: its number, its parent's, its word -/
def RowAt (h : Heap) (a : Addr) (k : Nat) (x : Option Nat × Str) : Prop := ∃ (t : Tok) (v : Value) (tl : Tok) (n : Nat), h.get? a = some (tupObj [.int (k : Int) t, v, .str x.2 tl] n) ∧ parV x.1 v
structure RowsAt (h : Heap) (rw : Addr) (T : List (Option Nat × Str)) : Prop where
  list : ∃ (as : List Addr) (ep : Nat), h.get? rw = some (listOf (as.map Value.ref).toArray ep) ∧ as.length = T.length ∧ ∀ (k : Nat) (a : Addr) (x : Option Nat × Str), as[k]? = some a → T[k]? = some x → RowAt h a k x
  small : T.length ≤ 20
theorem RowAt.keeps {h h' : Heap} {a : Addr} {k : Nat} {x : Option Nat × Str} (r : RowAt h a k x) (c : h.StaysIn h') : RowAt h' a k x := let ⟨t, v, tl, n, e, p⟩ := r; ⟨t, v, tl, n, c _ _ e, p⟩
theorem RowsAt.keeps {h h' : Heap} {rw : Addr} {T : List (Option Nat × Str)} (r : RowsAt h rw T) (c : h.StaysIn h') : RowsAt h' rw T where
  list := let ⟨as, ep, e, l, f⟩ := r.list; ⟨as, ep, c _ _ e, l, fun k a x ha hx => (f k a x ha hx).keeps c⟩
  small := r.small
noncomputable def parT (T : List (Option Nat × Str)) (k : Nat) : Option Nat := (T[k]?).bind (·.1)
noncomputable def labT (T : List (Option Nat × Str)) (k : Nat) : Str := ((T[k]?).map (·.2)).getD Str.empty

section
variable {prog : Program} {w : World} {A : Around} {s : Shared} {E : Value → Shared → Prop} {B0 : Heap}
theorem tup_item {value slice : PySem.Expr} {tp : Addr} {l : List Value} {n : Nat} {k : Int} {u : Tok} {v : Value} {Q : Value → Shared → Prop} (e : s.heap.get? tp = some (tupObj l n)) (h0 : 0 ≤ k) (h1 : k < 2 ^ 63) (hv : l[k.toNat]? = some v) (h : Q v s)
    (hs : subscripted slice false (.ref tp) (.int k u) = operate [.ref tp, .int k u] (getItem (.ref tp) (.int k u))) : wpAny (model prog w) A (subscriptTail value slice (.ref tp) (.int k u)) Q E s :=
  item_tupleT (j := k.toNat) ⟨_, e, rfl, n, rfl⟩ (by omega) h1 (by
    have hl := (List.getElem?_eq_some_iff.mp hv).1
    have hk : ¬ k < 0 := by omega
    have hl' : k < (l.length : Int) := by omega
    simp [seqIndex?, hk, h0, hl']) hv h hs
theorem list_last {value slice : PySem.Expr} {lp : Addr} {vi : List Value} {n : Nat} {u : Tok} {v : Value} {Q : Value → Shared → Prop} (e : s.heap.get? lp = some (listOf (vi ++ [v]).toArray n)) (h : Q v s)
    (hs : subscripted slice false (.ref lp) (.int (-1) u) = operate [.ref lp, .int (-1) u] (getItem (.ref lp) (.int (-1) u))) (hg : ∀ r, letTemporaryGo value (.ref lp) r = pure ()) : wpAny (model prog w) A (subscriptTail value slice (.ref lp) (.int (-1) u)) Q E s :=
  item_last (isList_of e) h hs hg
end
theorem word_M13_1 : True := by
  (k_with "subscriptTail" => (k_dflt (((with_reducible show wpAny _ _ (subscriptTail _ _ (Value.ref _) (Value.int _ _)) _ _ _); (with_unfolding_all refine' tup_item ?zk1 ?zk2 ?zk3 ?zk4 ?_ ?zk6; (case zk1 => k_extra "m_get"); (case zk2 => first | exact Int.natCast_nonneg _ | decide | omega); (case zk3 => first | with_reducible assumption | decide | omega); (case zk4 => first | assumption | exact rfl); (case zk6 => with_unfolding_all rfl))))))
  (k_with "subscriptTail Name UnaryOp ref int" => (k_dflt (((with_reducible show wpAny _ _ (subscriptTail _ _ (Value.ref _) (Value.int _ _)) _ _ _); (with_unfolding_all refine' list_last ?zk1 ?_ ?zk6 ?zk7; (case zk1 => k_extra "m_get"); (case zk6 => with_unfolding_all rfl); (case zk7 => kmk_pure))))))
  exact True.intro
theorem upO_le {par : Nat → Option Nat} (h : ParLt par) {k x : Nat} (hx : x ∈ upO par (par k)) : x < k := by
  cases hp : par k with
  | none => rw [hp] at hx; cases hx
  | some p => rw [hp] at hx; exact Nat.lt_of_le_of_lt (up_le h p x hx) (h k p hp)
theorem takeWhile_congr' {α : Type} {p q : α → Bool} : ∀ {l : List α}, (∀ x ∈ l, p x = q x) → l.takeWhile p = l.takeWhile q
  | [], _ => rfl
  | a :: l, h => by rw [List.takeWhile_cons, List.takeWhile_cons, h a (.head _), takeWhile_congr' fun x hx => h x (.tail _ hx)]
noncomputable def restU (par : Nat → Option Nat) (pb : Nat → Bool) (k : Nat) : List Nat := (upO par (par k)).takeWhile fun x => !pb x
theorem upTo_eq {par : Nat → Option Nat} (h : ParLt par) (pb : Nat → Bool) (k : Nat) : upTo par pb k = k :: restU par pb k := by
  unfold upTo restU
  rw [up_eq h, List.takeWhile_cons, if_pos (by simp [passes])]
  congr 1
  exact takeWhile_congr' fun x hx => by have := upO_le h hx; simp [passes]; omega
theorem restU_none {par : Nat → Option Nat} {pb : Nat → Bool} {k : Nat} (hp : par k = none) : restU par pb k = [] := by unfold restU; rw [hp]; rfl
theorem restU_stop {par : Nat → Option Nat} (h : ParLt par) {pb : Nat → Bool} {k p : Nat} (hp : par k = some p) (hb : pb p = true) : restU par pb k = [] := by
  unfold restU; rw [hp]; simp only [upO]; rw [up_eq h, List.takeWhile_cons, if_neg (by simp [hb])]
theorem restU_go {par : Nat → Option Nat} (h : ParLt par) {pb : Nat → Bool} {k p : Nat} (hp : par k = some p) (hb : pb p = false) : restU par pb k = p :: restU par pb p := by
  conv => lhs; unfold restU; rw [hp]; simp only [upO]; rw [up_eq h, List.takeWhile_cons, if_pos (by simp [hb])]
  rfl
theorem rows_get {T : List (Option Nat × Str)} {as : List Addr} {g : Heap} {k : Nat} (hal : as.length = T.length) (hrow : ∀ (k : Nat) (a : Addr) (x : Option Nat × Str), as[k]? = some a → T[k]? = some x → RowAt g a k x) (hk : k < T.length) :
    ∃ (a : Addr) (t : Tok) (v : Value) (tl : Tok) (n : Nat), (as.map Value.ref)[((k : Nat) : Int).toNat]? = some (.ref a) ∧ g.get? a = some (tupObj [.int (k : Int) t, v, .str (labT T k) tl] n) ∧ parV (parT T k) v := by
  have h1 : as[k]? = some as[k] := by simp [hal, hk]
  have h2 : T[k]? = some T[k] := by simp [hk]
  obtain ⟨t, v, tl, n, e, p⟩ := hrow k _ _ h1 h2
  exact ⟨as[k], t, v, tl, n, by simp [hal, hk], by unfold labT; rw [h2]; exact e, by unfold parT; rw [h2]; exact p⟩

section
variable {prog : Program} {w : World} {A : Around} {s : Shared} {E : Value → Shared → Prop} {B0 : Heap}
theorem upwards_spec {rw : Addr} {T : List (Option Nat × Str)} {k : Nat} {t tb : Tok} {bg : Str} (R : Room A 4) (O : Ok w B0) (hB : B0.StaysIn s.heap) (RA : RowsAt s.heap rw T) (PL : ParLt (parT T)) (hk : k < T.length) :
    wpAny (model prog w) A (call (.ref 362) [.ref rw, .int (k : Int) t, .str bg tb]) (Kept s fun v h' => ∃ l its ep, v = .ref l ∧ s.heap.get? l = none ∧ h'.get? l = some (listOf its ep) ∧ IntsAre its.toList (natZ (upTo (parT T) (fun x => labT T x == bg) k))) E s := by
  refine' enterK (binds := [("rows",.ref rw),("at",.int (k : Int) t),("begin",.str bg tb)]) [] O hB ?hms R ?ho ?hcd ?hbind ?hloc ?h ?hcell ?hco ?hgen ?hk
  k_extra "m_enter"
  intro A' g L h₁ tk₁ p loose mean mg mb R' cg hBg Og Xg Tg _ F N
  k_fold
  obtain ⟨⟨as, epr, e1, hal, hrow⟩, hsm⟩ := RA.keeps cg.nil
  k_extra "m_walk"
  have hlen : (upTo (parT T) (fun x => labT T x == bg) k).length ≤ 101 := Nat.le_trans (upTo_length PL) (by omega)
  refine while_rule (fun n m news => ∃ (fl : Addr) (vi : List Value) (cur : Nat) (tc : Tok) (ep : Nat) (dn : List Nat), news = [(fl, listOf (vi ++ [Value.int (cur : Int) tc]).toArray ep)] ∧ m "rows" = some (.ref rw) ∧ m "begin" = some (.str bg tb) ∧ m "found" = some (.ref fl) ∧
    IntsAre vi (natZ dn) ∧ cur < T.length ∧ dn ++ cur :: restU (parT T) (fun x => labT T x == bg) cur = upTo (parT T) (fun x => labT T x == bg) k ∧ n = cur) (by assumption) (by assumption)
    ⟨_, [], k, t, 0, [], rfl, rfl, rfl, rfl, .nil, hk, (upTo_eq PL _ _).symm, rfl⟩ ?_
  intro cur m₁ news₁ h₁ tk₁ F N hJJ
  (try k_fold)
  obtain ⟨fl, vi, _, tc, ep, dn, rfl, hm1, hm2, hm3, hI, hc, hd, rfl⟩ := hJJ
  obtain ⟨a1, u1, v1, ul1, n1, hk1, e4, hv1⟩ := rows_get hal hrow hc
  have hle : dn.length ≤ 101 := by rw [← hd] at hlen; simp only [List.length_append] at hlen; omega
  have hvl := hI.length
  simp only [List.length_map] at hvl
  have hret : (upTo (parT T) (fun x => labT T x == bg) k) = dn ++ [cur] → IntsAre (vi ++ [Value.int (cur : Int) tc]).toArray.toList (natZ (upTo (parT T) (fun x => labT T x == bg) k)) := fun e => by
    rw [e, natZ, List.map_append]; exact IntsAre.append hI (.cons _ _ .nil)
  cases hp : parT T cur with
  | none =>
    rw [hp] at hv1
    have hq : v1 = Value.none := hv1
    subst hq
    k_extra "m_walk"
    exact ⟨keeps_of cg rfl (by assumption), fl, _, _, rfl, fresh_of cg rfl (News.fresh (by assumption) (by k_mem)), News.get (by assumption) (by k_mem), hret (by rw [← hd, restU_none hp])⟩
  | some q =>
    rw [hp] at hv1
    obtain ⟨tq, hq⟩ := hv1
    subst hq
    have hqc := PL cur q hp
    obtain ⟨a2, u2, v2, ul2, n2, hk2, e5, hv2⟩ := rows_get hal hrow (Nat.lt_trans hqc hc)
    k_extra "m_walk"
    · have hb : (labT T q == bg) = false := by simp_all
      refine ⟨_, _, _, [(fl, listOf ((vi ++ [Value.int (cur : Int) tc]) ++ [Value.int (q : Int) tq]).toArray (ep + 1))], q, rfl, by assumption, ?_, hqc, fl, vi ++ [Value.int (cur : Int) tc], q, tq, ep + 1, dn ++ [cur], rfl, by k_extra "m_lk", by k_extra "m_lk", by k_extra "m_lk",
        by rw [natZ, List.map_append]; exact IntsAre.append hI (.cons _ _ .nil), Nat.lt_trans hqc hc, by rw [← hd, restU_go PL hp hb]; simp, rfl⟩
      rw [← List.push_toArray]
      assumption
    · have hb : (labT T q == bg) = true := by simp_all
      exact ⟨keeps_of cg rfl (by assumption), fl, _, _, rfl, fresh_of cg rfl (News.fresh (by assumption) (by k_mem)), News.get (by assumption) (by k_mem), hret (by rw [← hd, restU_stop PL hp hb])⟩
end


section
variable {prog : Program} {w : World} {A : Around} {s : Shared} {E : Value → Shared → Prop} {name qual : Str} {params : Arguments} {body : List Stmt} {scope : Scope} {cl : List (Str × Addr)} {dV kV doc pm cdv ct : Value} {an : Option Addr}
  {fo : Obj} {f : Addr} {args : List Value} {binds : List (Str × Value)} {Q : Value → Shared → Prop} {B0 : Heap} {oc : Value} {od : Option Addr} {osl : Array (Option Value)}

/-- a call of a def of the text's own that has cells -/
theorem enterC {k : Nat} (ms : List (Addr × Obj)) (O : Ok w B0) (hB : B0.StaysIn s.heap) (hms : ∀ p ∈ ms, s.heap.get? p.1 = some p.2 ∧ B0.get? p.1 = none) (hroom : Room A (k + 1))
    (ho : (hd.heap_39 w.params).lookup f = some ⟨oc, od, .func (fnX name qual params body scope [] dV kV doc pm an cdv ct), osl⟩) (hcd : codeIn (hd.heap_39 w.params) cdv qual = true)
    (hbind : bindArgs (fnX name qual params body scope [] dV kV doc pm an cdv ct) ⟨args, []⟩ = pure binds) (hkind : (binds.all fun y => scope.names.lookup y.1 == some .local || scope.names.lookup y.1 == some .cell) = true)
    (hnd : ((cellsFrom 0 scope.names []).map (·.1)).Nodup)
    (h : ∀ A' g L' h₁ tk₁ cells p loose mean mg mb, Room A' k → Chg (ms.map (·.1)) s.heap g → B0.StaysIn g → Ok w g → (hd.heap_39 w.params).In g → Top p loose mean mg mb g → (∀ p ∈ ms, g.get? p.1 = none) → Fr g L' h₁ (bindL (envOfC qual scope L' f cdv).kindOf binds fun _ => none) → News g L' h₁ (cells ++ ms) →
      CellsAre (bindC (envOfC qual scope L' f cdv).kindOf binds fun _ => none) (cellsFrom (L' + 1) scope.names []) cells → (∀ p ∈ ms, p.1 < L') →
      wpAny (model prog w) A' (execs body (envOfC qual scope L' f cdv))
        (fun fl s' => Q (match fl with | .ret v => v | _ => .none) s') (fun _ _ => False) { s with heap := h₁, toks := tk₁ })
    (hco : scope.isCoroutine = false) (hgen : scope.isGenerator = false) (hk : scope.kind = .function) :
    wpAny (model prog w) A (call (.ref f) args) Q E s := by
  obtain ⟨X, p, loose, mean, mg, mb, T⟩ := id O
  refine wpAny_call ?_
  refine codeAny_call_function hroom.frames (hB _ _ (X _ _ ho)) rfl hco hgen rfl (codeRec_of (X.keeps hB) hcd) (BindsTo.of_eq hbind _ _ _ _ ?_)
  refine wpAny_newFunctionEnv_cells hk (kindsX hkind _) fun env' he s' x => ?_
  subst he
  refine ⟨(T.nolimit.keeps hB).keeps x.toInCall.keep, codeAny_func ?_⟩
  obtain ⟨h₁, tk, rfl, _⟩ := x.done
  have hk₁ := x.toInCall.keep
  obtain ⟨cells, NC, Y⟩ := Cl.news (h₀ := s.heap) (Nat.le_refl _) fun n c hm => ⟨x.cell n c (lookup_of_mem_nodup (cellsFrom_names scope.names 0 (s.heap.objs.size + 1) [] [] rfl ▸ hnd) hm), x.above n c hm⟩
  have cg : Chg (ms.map (·.1)) s.heap (hideAll s.heap (ms.map (·.1))) := fun b o n e => hideAll_get _ e n
  have st : B0.StaysIn (hideAll s.heap (ms.map (·.1))) := fun b o e => cg b o (fun q => by
    obtain ⟨p, hp, rfl⟩ := List.mem_map.mp q
    rw [(hms p hp).2] at e; cases e) (hB b o e)
  refine wpAny_mono (h _ (hideAll s.heap (ms.map (·.1))) s.heap.objs.size h₁ tk cells p loose mean mg mb hroom.deeper cg st (O.keeps st) (X.keeps fun b o e => st b o e) (T.keeps fun b o e => st b o e) (fun p hp => hideAll_none _ (List.mem_map_of_mem hp))
    ⟨x.toInCall.ns, fun b o e => hk₁ b o (of_hideAll _ e), Nat.le_of_eq (hideAll_size _ _)⟩ (fun p hp => ?_) Y fun p hp => Heap.lt_size (hms p hp).1) (fun fl s' hl => hl) fun _ _ y => y.elim
  rcases List.mem_append.mp hp with hp | hp
  · refine ⟨(NC p hp).1, (NC p hp).2.1, ?_⟩
    cases q : (hideAll s.heap (ms.map (·.1))).get? p.1 with
    | none => rfl
    | some o => have := of_hideAll _ q; rw [(NC p hp).2.2] at this; cases this
  · exact ⟨hk₁ _ _ (hms p hp).1, Nat.ne_of_lt (Heap.lt_size (hms p hp).1), hideAll_none _ (List.mem_map_of_mem hp)⟩
end

section
variable {M : Model} {A : Around} {E : Value → Shared → Prop} {s : Shared} {cenv : Env} {Q : Bool → Shared → Prop}
theorem tests_one {c : PySem.Expr} (h : wpAny M A (isTrue c cenv (eval c cenv)) Q E s) :
    wpAny M A (forIn [c] true fun c r => if r = true then do let ok ← isTrue c cenv (eval c cenv); pure (ForInStep.yield ok) else pure (ForInStep.yield r)) Q E s := by
  rw [List.forIn_cons]
  simp only [if_true, bind_assoc, pure_bind, List.forIn_nil]
  exact wpAny_bind (wpAny_mono h (fun b s' hb => wpAny_pure hb) fun _ _ e => e)
theorem tests_none (h : Q true s) :
    wpAny M A (forIn ([] : List PySem.Expr) true fun c r => if r = true then do let ok ← isTrue c cenv (eval c cenv); pure (ForInStep.yield ok) else pure (ForInStep.yield r)) Q E s := wpAny_pure h
theorem comp_cell {x : Str} {pos : Pos} {v : Value} {c : Addr} {o : Obj} {scope : Scope} {cl : List (Str × Addr)} {C : Addr} {env : Env} {Q : Value → Shared → Prop} (hc : cl.lookup x = some c) (e : s.heap.get? c = some o) (hd : o.data = .cell (some v)) (h : Q v s)
    (hk : (compEnvC scope cl C env).scope.kind = .function) (hx : (compEnvC scope cl C env).kindOf x = some .cell) (hb : (x == ("__debug__" : Str)) = false) : wpAny M A (eval (.Name x pos) (compEnvC scope cl C env)) Q E s :=
  wpAny_Name (wpAny_loadName_cell hk hx hc ⟨o, e, hd⟩ h) hb
theorem comp_local {x : Str} {pos : Pos} {v : Value} {g : Heap} {m : Str → Option Value} {scope : Scope} {cl : List (Str × Addr)} {C : Addr} {env : Env} {Q : Value → Shared → Prop} (F : Fr g C s.heap m) (hv : m x = some v) (h : Q v s)
    (hk : (compEnvC scope cl C env).scope.kind = .function) (hx : (compEnvC scope cl C env).kindOf x = some .local) (hb : (x == ("__debug__" : Str)) = false) : wpAny M A (eval (.Name x pos) (compEnvC scope cl C env)) Q E s :=
  wpAny_Name (wpAny_loadName_local hk hx F.ns hv h) hb
end
section
variable {prog : Program} {w : World} {A : Around} {s : Shared} {E : Value → Shared → Prop} {B0 : Heap}
/-- what a block asks: its tests and its element over one value -/
structure BlockOk (prog : Program) (w : World) (A : Around) (s₁ : Shared) (env : Env) (scope : Scope) (cl : List (Str × Addr)) (x : Str) (ifs : List PySem.Expr) (elt : PySem.Expr) (P : Value → Prop) (p : Value → Bool) (Fv : Value → Value → Prop) : Prop where
  tests : ∀ g' C v s₃ m₃, s₁.heap.StaysIn g' → P v → Fr g' C s₃.heap m₃ → m₃ x = some v → wpAny (model prog w) A (forIn ifs true fun c r => if r = true then do let ok ← isTrue c (compEnvC scope cl C env) (eval c (compEnvC scope cl C env)); pure (ForInStep.yield ok) else pure (ForInStep.yield r))
      (fun ok s₄ => ok = p v ∧ Keeps s₃ s₄) (fun _ _ => False) s₃
  elt : ∀ g' C v s₃ m₃, s₁.heap.StaysIn g' → P v → p v = true → Fr g' C s₃.heap m₃ → m₃ x = some v → wpAny (model prog w) A (eval elt (compEnvC scope cl C env)) (fun y s₄ => Fv v y ∧ Keeps s₃ s₄) (fun _ _ => False) s₃

theorem block_quiet {s₁ s₂ : Shared} {env : Env} {scope : Scope} {cl : List (Str × Addr)} {x : Str} {ifs : List PySem.Expr} {elt : PySem.Expr} {P : Value → Prop} {P' : Nat → Value → Prop} {p : Value → Bool} {Fv : Value → Value → Prop} {I : Addr} {o : Obj}
    (B : BlockOk prog w A s₁ env scope cl x ifs elt P p Fv) (hP : ∀ i v, P' i v → P v) (e : s₂.heap = s₁.heap.push o) (hI : I = s₁.heap.objs.size) : QuietOnC prog w A env scope cl x ifs elt [I] P' p Fv s₂ where
  tests := fun C i v s₃ m₃ E' hC hv hn hm hk _ => wpAny_noRaise (B.tests (hideAll s₂.heap [I]) C v s₃ m₃ (fun b ob hb => hideAll_get _ (by rw [e]; exact Heap.get?_push_of_some _ hb) (by rw [hI]; intro q; exact absurd (Heap.lt_size hb) ((List.mem_singleton.mp q) ▸ Nat.lt_irrefl _))) (hP i v hv)
    ⟨hn, fun b ob hb => hk b ob (fun q => by rw [hideAll_none _ q] at hb; cases hb) (of_hideAll _ hb), by rw [hideAll_size]; exact hC⟩ hm)
  elt := fun C i v s₃ m₃ E' hC hv hp hn hm hk _ => wpAny_noRaise (B.elt (hideAll s₂.heap [I]) C v s₃ m₃ (fun b ob hb => hideAll_get _ (by rw [e]; exact Heap.get?_push_of_some _ hb) (by rw [hI]; intro q; exact absurd (Heap.lt_size hb) ((List.mem_singleton.mp q) ▸ Nat.lt_irrefl _))) (hP i v hv) hp
    ⟨hn, fun b ob hb => hk b ob (fun q => by rw [hideAll_none _ q] at hb; cases hb) (of_hideAll _ hb), by rw [hideAll_size]; exact hC⟩ hm)
end
section
variable {prog : Program} {w : World} {A : Around} {s₁ : Shared} {E : Value → Shared → Prop} {env : Env} {scope : Scope} {cl : List (Str × Addr)} {x : Str} {ifs : List PySem.Expr} {elt : PySem.Expr} {p : Value → Bool} {Fv : Value → Value → Prop} {Q : Value → Shared → Prop} {QF : Flow → Shared → Prop}

theorem plain_get {h : Heap} {D : Addr} {ys : Array Value} (x : h.PlainList D ys) : ∃ ep, h.get? D = some (listOf ys ep) := x
theorem list_ext {its : Array Value} {vs : List Value} (h : vs.length = its.size) (hv : ∀ (j : Nat) (v : Value), vs[j]? = some v → its[j]? = some v) : vs = its.toList := by
  apply List.ext_getElem?
  intro j
  cases e : vs[j]? with
  | none =>
    have := List.getElem?_eq_none_iff.mp e
    rw [List.getElem?_eq_none (by rw [Array.length_toList]; omega)]
  | some v => rw [Array.getElem?_toList]; exact (hv j v e).symm

def CompGo (prog : Program) (w : World) (A : Around) (env : Env) (scope : Scope) (cl : List (Str × Addr)) (x : Str) (ifs : List PySem.Expr) (elt : PySem.Expr) (p : Value → Bool) (Fv : Value → Value → Prop) (Q : Value → Shared → Prop) (it : Value) (s₂ : Shared) : Prop :=
  ∃ I fp wr n P St, it = .ref I ∧ Walks prog w A I fp wr n P St ∧ n ≤ sizeLine ∧ St 0 s₂.heap ∧ (∀ b ∈ fp, b < s₂.heap.objs.size) ∧
      QuietOnC prog w A env scope cl x ifs elt wr P p Fv s₂ ∧
      (∀ D h' tk ys (vs : List Value), s₂.heap.get? D = none → h'.IsList D ys → h'.PlainList D ys → vs.length = n → (∀ j v, vs[j]? = some v → P j v) → Paired Fv (vs.filter p) ys.toList →
        (∀ b o, b ∉ wr → s₂.heap.get? b = some o → h'.get? b = some o) → Q (.ref D) { s₂ with heap := h', toks := tk })
theorem list_comp {s : Shared} {iter : PySem.Expr} {px pos : Pos} (p : Value → Bool) (Fv : Value → Value → Prop)
    (hclos : closureFor scope env = pure cl) (hcell : ∀ y ∈ scope.names, y.2 ≠ .cell) (hkind : scope.kind = .function)
    (hnames : ∀ y ∈ scope.names, y.2 = .local → scope.names.lookup y.1 = some .local) (hx : scope.names.lookup x = some .local)
    (h : wpAny (model prog w) A (eval iter env) (fun xv s₁ => wpAny (model prog w) A (pyIter xv) (CompGo prog w A env scope cl x ifs elt p Fv Q) E s₁) E s)
    (hs : ∀ x, foldedSetIterable iter env x = pure x := by intro _; rfl) :
    wpAny (model prog w) A (eval (.ListComp elt [⟨.Name x px, iter, ifs, 0⟩] scope pos) env) Q E s :=
  wpAny_ListComp_free p Fv hclos hcell hkind hnames hx h hs

theorem comp_from_list {ax : Addr} {its : Array Value} {ep : Nat} (hh : A.handled = none) (hl : s₁.heap.get? ax = some (listOf its ep)) (hsz : its.size ≤ 1000) (B : BlockOk prog w A s₁ env scope cl x ifs elt (fun v => v ∈ its.toList) p Fv)
    (k : ∀ D h' tk ys ep', s₁.heap.StaysIn h' → s₁.heap.get? D = none → h'.get? D = some (listOf ys ep') → Paired Fv (its.toList.filter p) ys.toList → Q (.ref D) { s₁ with heap := h', toks := tk }) :
    wpAny (model prog w) A (pyIter (.ref ax)) (CompGo prog w A env scope cl x ifs elt p Fv Q) E s₁ := by
  have hls : s₁.heap.IsList ax its := isList_of hl
  have hlt : ax < s₁.heap.objs.size := Heap.lt_size hl
  refine wpAny_pyIter_list hls ⟨_, _, _, _, _, _, rfl, Walks.list hh s₁.heap.objs.size ax (Nat.ne_of_lt hlt) its, line_small hsz, ⟨⟨_, Heap.get?_push_size _ rfl, rfl, rfl⟩, hls.at fun o e => Heap.get?_push_of_some _ e⟩, ?_, block_quiet B (fun i v hv => ?_) rfl rfl, ?_⟩
  · intro b hb
    show b < (s₁.heap.push _).objs.size
    rw [Heap.size_push]
    rcases List.mem_cons.mp hb with rfl | hb
    · exact Nat.lt_succ_self _
    · rw [List.mem_singleton.mp hb]; exact Nat.lt_succ_of_lt hlt
  · exact List.mem_of_getElem? (i := i) (by rw [Array.getElem?_toList]; exact hv)
  · intro D h' tk ys vs hD _ hp hlen hv hF hk
    obtain ⟨ep', e⟩ := plain_get hp
    rw [list_ext hlen hv] at hF
    exact k D h' tk ys ep' (fun b o hb => hk b o (by intro q; exact absurd (Heap.lt_size hb) ((List.mem_singleton.mp q) ▸ Nat.lt_irrefl _)) (Heap.get?_push_of_some _ hb)) (fresh_back (fun b o hb => Heap.get?_push_of_some _ hb) hD) e hF

/-- the ints of a range -/
noncomputable abbrev rangeZ (a : Int) (n : Nat) : List Int := (List.range n).map fun (i : Nat) => a + (i : Int)
theorem ints_range0 : ∀ {vs : List Value} {a : Int}, (∀ (j : Nat) (v : Value), vs[j]? = some v → ∃ t, v = .int (a + (j : Int)) t) → IntsAre vs (rangeZ a vs.length)
  | [], _, _ => .nil
  | v :: r, a, hv => by
    obtain ⟨t, rfl⟩ := hv 0 v rfl
    rw [rangeZ, List.length_cons, List.range_succ_eq_map, List.map_cons, List.map_map]
    refine .cons _ t ?_
    have := ints_range0 (vs := r) (a := a + 1) fun j w hj => by
      obtain ⟨t, e⟩ := hv (j + 1) w (by rw [List.getElem?_cons_succ]; exact hj)
      exact ⟨t, by rw [e]; congr 1; push_cast; omega⟩
    have e : rangeZ (a + 1) r.length = List.map ((fun (i : Nat) => a + (i : Int)) ∘ Nat.succ) (List.range r.length) := by
      apply List.map_congr_left
      intro i _
      simp only [Function.comp]
      push_cast
      omega
    rw [← e]
    exact this
theorem ints_range {a : Int} {n : Nat} {vs : List Value} (hlen : vs.length = n) (hv : ∀ (j : Nat) (v : Value), vs[j]? = some v → j < n ∧ ∃ t, v = .int (a + (j : Int)) t) : IntsAre vs (rangeZ a n) := by
  subst hlen
  exact ints_range0 fun j v h => (hv j v h).2

theorem comp_from_range {r : Addr} {a b : Int} {n : Nat} {t u v : Tok} (hh : A.handled = none) (hr : IsRange s₁.heap r a b 1 t u v) (hsm : Builtin.Range.small a b 1 = true) (hrs : Builtin.Range.rangeSize a b 1 = ((n : Nat) : Int)) (hsz : n ≤ 1000)
    (B : BlockOk prog w A s₁ env scope cl x ifs elt (fun v => ∃ (i : Nat) (t : Tok), i < n ∧ v = .int (a + (i : Int)) t) p Fv)
    (k : ∀ D h' tk ys ep' vs, s₁.heap.StaysIn h' → s₁.heap.get? D = none → h'.get? D = some (listOf ys ep') → IntsAre vs (rangeZ a n) → Paired Fv (vs.filter p) ys.toList → Q (.ref D) { s₁ with heap := h', toks := tk }) :
    wpAny (model prog w) A (pyIter (.ref r)) (CompGo prog w A env scope cl x ifs elt p Fv Q) E s₁ := by
  refine wpAny_pyIter_range hr hsm ?_
  rw [hrs]
  refine ⟨_, _, _, n, _, _, rfl, (LCg.range_walks (prog := prog) (w := w) (I := s₁.heap.objs.size) hh a n).bound, line_small hsz, ?_, ?_, block_quiet B (fun i v hv => ?_) rfl rfl, ?_⟩
  · show Heap.get? _ _ = some _
    rw [Heap.get?_push_size _ rfl]
    simp
  · intro b hb
    show b < (s₁.heap.push _).objs.size
    rw [Heap.size_push, List.mem_singleton.mp hb]
    exact Nat.lt_succ_self _
  · obtain ⟨hi, t, e⟩ := hv
    exact ⟨i, t, hi, e⟩
  · intro D h' tk ys vs hD _ hp hlen hv hF hk
    obtain ⟨ep', e⟩ := plain_get hp
    exact k D h' tk ys ep' vs (fun b o hb => hk b o (by intro q; exact absurd (Heap.lt_size hb) ((List.mem_singleton.mp q) ▸ Nat.lt_irrefl _)) (Heap.get?_push_of_some _ hb)) (fresh_back (fun b o hb => Heap.get?_push_of_some _ hb) hD) e (ints_range hlen hv) hF
end
/-- a list of words -/
def WordsAt (h : Heap) (l : Addr) (ws : List Str) : Prop := ∃ (vs : List Value) (ep : Nat), h.get? l = some (listOf vs.toArray ep) ∧ StrsAre vs ws
theorem WordsAt.keeps {h h' : Heap} {l : Addr} {ws : List Str} (x : WordsAt h l ws) (c : h.StaysIn h') : WordsAt h' l ws := let ⟨vs, ep, e, r⟩ := x; ⟨vs, ep, c _ _ e, r⟩
noncomputable def inW (ws : List Str) (l : Str) : Bool := ws.any fun x => x == l
theorem paired_ints {p : Value → Bool} {q : Int → Bool} (hp : ∀ z t, p (.int z t) = q z) {Fv : Value → Value → Prop} {f : Int → Int} (hF : ∀ z t y, Fv (.int z t) y → ∃ t', y = .int (f z) t') : ∀ {vs : List Value} {zs : List Int} {ys : List Value}, IntsAre vs zs → Paired Fv (vs.filter p) ys → IntsAre ys ((zs.filter q).map f)
  | _, _, _, .nil, h => by cases h; exact .nil
  | _, _, ys, .cons z t r, h => by
    rw [List.filter_cons, hp] at h
    rw [List.filter_cons]
    cases hq : q z with
    | false => rw [hq] at h; simp only [Bool.false_eq_true, if_false] at h ⊢; exact paired_ints hp hF r h
    | true =>
      rw [hq] at h
      simp only [if_true] at h ⊢
      cases h with
      | cons a b =>
        obtain ⟨t', rfl⟩ := hF _ _ _ a
        exact .cons _ t' (paired_ints hp hF r b)

theorem word_M14_1 : True := by
  (k_with "m_get" => first | with_reducible assumption | exact Fr.keep (by with_reducible assumption) _ _ (by with_reducible assumption))
  (k_with "eval Name" => (k_dflt (((with_reducible show wpAny _ _ (eval (Expr.Name _ _) (compEnvC _ _ _ _)) _ _ _); (refine' comp_cell ?zhc ?ze ?zhd ?_ ?zhk ?zhx ?zhb; (case zhk => with_unfolding_all exact rfl); (case zhx => with_unfolding_all exact rfl); (case zhb => with_unfolding_all decide); (case zhc => with_unfolding_all exact rfl); (case ze => k_extra "m_get"); (case zhd => k_asm))))))
  (k_with "eval Name" => (k_dflt (((with_reducible show wpAny _ _ (eval (Expr.Name (Str.ofString "k") _) (compEnvC _ _ _ _)) _ _ _); (refine' comp_local ?zF ?zhv ?_ ?zhk ?zhx ?zhb; (case zhk => with_unfolding_all exact rfl); (case zhx => with_unfolding_all exact rfl); (case zhb => with_unfolding_all decide); (case zF => k_asm); (case zhv => k_extra "m_lk"))))))
  (k_with "compareOp In str ref" => (k_dflt ((refine' in_list_strs ?zl ?zs ?_; (case zl => is_list); (case zs => k_asm)))))
  exact True.intro
theorem fr_keeps {g h h' : Heap} {L : Addr} {m : Str → Option Value} (F : Fr g L h m) (st : h.StaysIn h') : Fr g L h' m := ⟨F.ns.keeps st, fun b o e => st b o (F.keep b o e), F.above⟩
theorem news_keeps {g h h' : Heap} {L : Addr} {news : List (Addr × Obj)} (N : News g L h news) (st : h.StaysIn h') : News g L h' news := fun p hp => ⟨st _ _ (N p hp).1, (N p hp).2⟩
/-- a list made by a block joins the ledger -/
theorem news_made {g h h' : Heap} {L D : Addr} {o : Obj} {m : Str → Option Value} {news : List (Addr × Obj)} (F : Fr g L h m) (N : News g L h news) (st : h.StaysIn h') (hD : h.get? D = none) (e : h'.get? D = some o) : News g L h' ((D, o) :: news) := fun p hp => by
  rcases List.mem_cons.mp hp with rfl | hp
  · refine ⟨e, fun q => ?_, ?_⟩
    · obtain ⟨oL, es, ep, eL, _⟩ := F.ns
      have q' : D = L := q
      rw [q', eL] at hD; cases hD
    · cases q : g.get? D with
      | none => rfl
      | some o' => rw [F.keep _ _ q] at hD; cases hD
  · exact news_keeps N st p hp
theorem kept_i8 {M : Model} {A : Around} {t : Sem Value} {E : Value → Shared → Prop} {s : Shared} {g : Heap} {L : Addr} {m : Str → Option Value} {news : List (Addr × Obj)} {Q : Value → Shared → Prop} {zs : List Nat} (F : Fr g L s.heap m) (N : News g L s.heap news) (h : wpAny M A t (Kept s fun v h' => ∃ l its ep, v = .ref l ∧ s.heap.get? l = none ∧ h'.get? l = some (listOf its ep) ∧ IntsAre its.toList (natZ zs)) E s) (k : ∀ h' tk, Fr g L h' m → News g L h' news → s.heap.StaysIn h' → ∀ (l : Addr) (its : Array Value) (ep : Nat), s.heap.get? l = none → h'.get? l = some (listOf its ep) → IntsAre its.toList (natZ zs) → (∀ p ∈ news, p.1 ≠ l) → its.size = zs.length → News g L h' ((l, listOf its ep) :: news) → Q (.ref l) { s with heap := h', toks := tk }) : wpAny M A t Q E s :=
  kept_i5 F N h fun h' tk F' N' st l its ep r2 r3 r4 r5 => k h' tk F' N' st l its ep r2 r3 r4 r5 (nat_size r4) (news_made F N st r2 r3)
theorem kept_i9 {M : Model} {A : Around} {t : Sem Value} {E : Value → Shared → Prop} {s : Shared} {g : Heap} {L : Addr} {m : Str → Option Value} {news : List (Addr × Obj)} {Q : Value → Shared → Prop} {zs : List Nat} (F : Fr g L s.heap m) (N : News g L s.heap news) (h : wpAny M A t (Kept s fun v h' => ∃ l its ep, v = .ref l ∧ s.heap.get? l = none ∧ h'.get? l = some (listOf its ep) ∧ IntsAre its.toList (natZ zs)) E s) (k : ∀ h' tk, Fr g L h' m → News g L h' news → s.heap.StaysIn h' → ∀ (l : Addr) (its : Array Value) (ep : Nat), s.heap.get? l = none → h'.get? l = some (listOf its ep) → IntsAre its.toList (natZ zs) → its.size = zs.length → News g L h' ((l, listOf its ep) :: news) → Q (.ref l) { s with heap := h', toks := tk }) : wpAny M A t Q E s :=
  kept_i5 F N h fun h' tk F' N' st l its ep r2 r3 r4 _ => k h' tk F' N' st l its ep r2 r3 r4 (nat_size r4) (news_made F N st r2 r3)
theorem same_keeps {s : Shared} {tk : Nat} : Keeps s { s with toks := tk } := ⟨s.heap, tk, rfl, fun _ _ e => e⟩
theorem range_size (n : Nat) : Builtin.Range.rangeSize 0 n 1 = ((n : Nat) : Int) := by simp [Builtin.Range.rangeSize]; omega
theorem range_small {n : Nat} (hn : n ≤ 1000) : Builtin.Range.small 0 n 1 = true := by simp [Builtin.Range.small, range_size n, Builtin.Range.rangeFitsLong]; omega

section
variable {prog : Program} {w : World} {A : Around} {s : Shared} {E : Value → Shared → Prop} {Q : Value → Shared → Prop}
theorem eq_par {p q : Option Nat} {a b : Value} (ha : parV p a) (hb : parV q b) (h : Q (.bool (decide (p = q))) s) : wpAny (model prog w) A (compareOp .Eq a b) Q E s := by
  cases p with
  | none =>
    cases q with
    | none => rw [show a = .none from ha, show b = .none from hb]; exact EqNone.eq_none_none h
    | some q => obtain ⟨t, rfl⟩ := hb; rw [show a = .none from ha]; exact EqNone.eq_none_int h
  | some p =>
    obtain ⟨t, rfl⟩ := ha
    cases q with
    | none => rw [show b = .none from hb]; exact EqNone.eq_int_none h
    | some q =>
      obtain ⟨u, rfl⟩ := hb
      refine PyProof.Rows.eq_int ?_
      have e : (((p : Nat) : Int) == ((q : Nat) : Int)) = decide (some p = some q) := by
        rw [Bool.eq_iff_iff]; simp; omega
      rw [e]; exact h
end
theorem word_M14_2 : True := by
  (k_with "compareOp Eq" => (refine' eq_par ?za ?zb ?_; (case za => k_asm); (case zb => k_asm)))
  exact True.intro
noncomputable def amongN (T : List (Option Nat × Str)) (ws : List Str) (k : Nat) : Nat := 1 + ((List.range k).filter fun j => decide (parT T j = parT T k) && inW ws (labT T j)).length
section
variable {prog : Program} {w : World} {A : Around} {s : Shared} {E : Value → Shared → Prop} {B0 : Heap}
theorem among_spec {rw nm : Addr} {T : List (Option Nat × Str)} {ws : List Str} {k : Nat} {t : Tok} (R : Room A 4) (O : Ok w B0) (hB : B0.StaysIn s.heap) (RA : RowsAt s.heap rw T) (WA : WordsAt s.heap nm ws) (PL : ParLt (parT T)) (hk : k < T.length) :
    wpAny (model prog w) A (call (.ref 367) [.ref rw, .int (k : Int) t, .ref nm]) (Kept s fun v h' => ∃ t, v = .int ((amongN T ws k : Nat) : Int) t) E s := by
  refine' enterC (binds := [("rows", .ref rw), ("at", .int (k : Int) t), ("names", .ref nm)]) [] O hB ?hms R ?ho ?hcd ?hbind ?hkind ?hnd ?h ?hco ?hgen ?hk
  (case hms => exact fun _ h => nomatch h); (case ho => k_is); (case hcd => k_is); (case hbind => exact rfl); (case hkind => exact rfl); (case hnd => decide +kernel); (case hco => exact rfl); (case hgen => exact rfl); (case hk => exact rfl)
  intro A' g L h₁ tk₁ cells p loose mean mg mb R' cg hBg Og Xg Tg _ F N Y _
  (try k_fold)
  k_cells Y
  rename_i o1 o2 o3 d1 d2 d3
  have c1 : o1.data = .cell (some (.ref nm)) := d1
  have c2 : o2.data = .cell (some (.int (k : Int) t)) := d2
  have c3 : o3.data = .cell (some (.ref rw)) := d3
  clear d1 d2 d3
  obtain ⟨⟨as, epr, e1, hal, hrow⟩, hsm⟩ := RA.keeps cg.nil
  obtain ⟨wvs, wep, e2, hws⟩ := WA.keeps cg.nil
  k_extra "m_walk"
  refine list_comp (p := fun v => match v with | .int z _ => decide (parT T z.toNat = parT T k) && inW ws (labT T z.toNat) | _ => false) (Fv := fun v y => match v with | .int z _ => ∃ t', y = .int z t' | _ => False)
    (by with_unfolding_all rfl) (by decide) (by rfl) (by decide) (by rfl) ?_
  k_extra "m_walk"
  refine' comp_from_range (a := 0) (b := (k : Int)) (n := k) R'.hd ?hr (range_small (by omega)) (range_size k) (by omega) ⟨?tests, ?elt⟩ ?fin
  case hr => exact News.get (by assumption) (.head _)
  case tests =>
    intro g' C v s₃ m₃ st hP F3 hm
    obtain ⟨j, tj, hj, rfl⟩ := hP
    rw [Int.zero_add] at hm ⊢
    have hst := st
    have hgg : g.StaysIn g' := Stays.trans (Fr.keep (by assumption)) hst
    have X3 := Xg.keeps hgg
    have T3 := Tg.keeps hgg
    have O3 := Og.keeps hgg
    have N3 : News g' C s₃.heap [] := News.nil
    have f1 := hst _ _ (News.get (by assumption) (.tail _ (.head _)))
    have f2 := hst _ _ (News.get (by assumption) (.tail _ (.tail _ (.head _))))
    have f3 := hst _ _ (News.get (by assumption) (.tail _ (.tail _ (.tail _ (.head _)))))
    have e1' := hgg _ _ e1
    have e2' := hgg _ _ e2
    obtain ⟨a1, u1, v1, ul1, n1, hk1, e4, hv1⟩ := rows_get hal hrow (Nat.lt_trans hj hk)
    obtain ⟨a2, u2, v2, ul2, n2, hk2, e5, hv2⟩ := rows_get hal hrow hk
    have e4' := hgg _ _ e4
    have e5' := hgg _ _ e5
    refine tests_one ?_
    k_extra "m_walk"
    all_goals first | exact ⟨_, _, rfl, fun _ _ e => e⟩ | (simp only [Int.toNat_natCast, inW]; simp_all)
  case elt =>
    intro g' C v s₃ m₃ st hP hp F3 hm
    (try k_fold)
    obtain ⟨j, tj, hj, rfl⟩ := hP
    refine comp_local F3 hm ⟨⟨tj, rfl⟩, s₃.heap, s₃.toks, rfl, fun _ _ e => e⟩ rfl rfl (by decide)
  case fin =>
    intro D h' tk ys ep' vs st hD hDg hI hPr
    have F' := fr_keeps (by assumption) st
    have N' := news_made (by assumption) (by assumption) st hD hDg
    have hIy := paired_ints (q := fun z => decide (parT T z.toNat = parT T k) && inW ws (labT T z.toNat)) (f := id) (fun z t => rfl) (fun z t y h => h) hI hPr
    have hys : ys.size = ((List.range k).filter fun j => decide (parT T j = parT T k) && inW ws (labT T j)).length := by
      rw [ints_size hIy, List.length_map, rangeZ, List.filter_map, List.length_map]
      congr 1
      apply List.filter_congr
      intro x _
      simp
    have hle : ys.size ≤ 20 := by rw [hys]; exact Nat.le_trans (List.length_filter_le _ _) (by rw [List.length_range]; omega)
    k_extra "m_walk"
    exact ⟨keeps_of cg rfl F', _, by rw [hys]; unfold amongN; rw [Int.natCast_add]; rfl⟩
end


theorem word_M16_1 : True := by
  (k_with "call ref" => (k_dflt (((with_reducible show wpAny _ _ (call (Value.ref 362) _) _ _ _); refine' kept_i8 ?zF ?zN (upwards_spec ?zR ?zO ?zB ?zT ?zP ?zk) ?_; (case zF => k_asm); (case zN => k_asm); (case zR => exact Room.less (by k_asm) (by exact Nat.le_of_ble_eq_true rfl)); (case zO => k_asm); (case zB => exact Fr.keep (by k_asm)); (case zT => exact RowsAt.keeps (by k_asm) (Fr.keep (by k_asm))); (case zP => k_asm); (case zk => k_asm); intro _ _ _ _ _ _ _ _ _ _ _ _ _ _; (try k_sweep)))))
  (k_with "call ref" => (k_dflt (((with_reducible show wpAny _ _ (call (Value.ref 367) _) _ _ _); refine' kept_ex ?zF ?zN (among_spec ?zR ?zO ?zB ?zT ?zW ?zP ?zk) ?_; (case zF => k_asm); (case zN => k_asm); (case zR => exact Room.less (by k_asm) (by exact Nat.le_of_ble_eq_true rfl)); (case zO => k_asm); (case zB => exact Fr.keep (by k_asm)); (case zT => exact RowsAt.keeps (by k_asm) (Fr.keep (by k_asm))); (case zW => exact WordsAt.keeps (by k_asm) (Fr.keep (by k_asm))); (case zP => k_asm); (case zk => first | assumption | omega); intro _ _ _ _ _ _; (try k_sweep)))))
  (k_with "m_hold" => ((fail_if_success (with_reducible show wpAny _ _ (exec (Stmt.While _ _ _ _) _) _ _ _)); (fail_if_success (with_reducible show wpAny _ _ (exec (Stmt.For _ _ _ _ _) _) _ _ _)); (fail_if_success (with_reducible show wpAny _ _ (eval (Expr.ListComp _ _ _ _) _) _ _ _)); (fail_if_success (with_reducible show wpAny _ _ (exec (Stmt.Assign _ (Expr.ListComp _ _ _ _) _) _) _ _ _)); (fail_if_success (with_reducible show wpAny _ _ (pyIter _) _ _ _))))
  exact True.intro
section
variable {prog : Program} {w : World} {A : Around} {s₁ : Shared} {E : Value → Shared → Prop} {env : Env} {scope : Scope} {cl : List (Str × Addr)} {x y : Str} {ifs : List PySem.Expr} {elt : PySem.Expr} {p : Value → Bool} {Fv : Value → Value → Prop} {QF : Flow → Shared → Prop}
  {g : Heap} {L : Addr} {m : Str → Option Value} {news : List (Addr × Obj)}

def CompGoA (prog : Program) (w : World) (A : Around) (env : Env) (scope : Scope) (cl : List (Str × Addr)) (x y : Str) (ifs : List PySem.Expr) (elt : PySem.Expr) (p : Value → Bool) (Fv : Value → Value → Prop) (Q : Flow → Shared → Prop) (it : Value) (s₂ : Shared) : Prop :=
  ∃ I fp wr n P St m, it = .ref I ∧ Walks prog w A I fp wr n P St ∧ n ≤ sizeLine ∧ St 0 s₂.heap ∧ (∀ b ∈ fp, b < s₂.heap.objs.size) ∧
      env.locals ∉ wr ∧ s₂.heap.Ns env.locals m ∧ QuietOnC prog w A env scope cl x ifs elt wr P p Fv s₂ ∧
      (∀ D h' tk ys (vs : List Value), s₂.heap.get? D = none → h'.IsList D ys → h'.PlainList D ys → vs.length = n → (∀ j v, vs[j]? = some v → P j v) → Paired Fv (vs.filter p) ys.toList →
        h'.Ns env.locals (fun z => if z = y then some (.ref D) else m z) → (∀ b o, b ≠ env.locals → b ∉ wr → s₂.heap.get? b = some o → h'.get? b = some o) → Q .next { s₂ with heap := h', toks := tk })
theorem list_compA {s : Shared} {iter : PySem.Expr} {px py pos spos : Pos} (p : Value → Bool) (Fv : Value → Value → Prop)
    (hsw : swapsWith (.ListComp elt [⟨.Name x px, iter, ifs, 0⟩] scope pos) (some (.Name y py)) spos.line env = pure true)
    (hclos : closureFor scope env = pure cl) (hcell : ∀ y ∈ scope.names, y.2 ≠ .cell) (hkind : scope.kind = .function)
    (hnames : ∀ y ∈ scope.names, y.2 = .local → scope.names.lookup y.1 = some .local) (hx : scope.names.lookup x = some .local)
    (hy : env.kindOf y = some .local) (hp : (env.scope.kind == .class || (env.scope.kind == .module && env.locals != env.globals)) = false)
    (h : wpAny (model prog w) A (eval iter env) (fun xv s₁ => wpAny (model prog w) A (pyIter xv) (CompGoA prog w A env scope cl x y ifs elt p Fv QF) E s₁) E s)
    (hs : ∀ x, foldedSetIterable iter env x = pure x := by intro _; rfl) :
    wpAny (model prog w) A (exec (.Assign [.Name y py] (.ListComp elt [⟨.Name x px, iter, ifs, 0⟩] scope pos) spos) env) QF E s :=
  wpAny_Assign_ListComp_free p Fv hsw hclos hcell hkind hnames hx hy hp h hs

theorem madeA {g h₂ h' : Heap} {L D : Addr} {ys : Array Value} {ep : Nat} {wr : List Addr} (F : Fr g L h₂ m) (N : News g L h₂ news) (hD : h₂.get? D = none) (e : h'.get? D = some (listOf ys ep))
    (hns : h'.Ns L (fun z => if z = y then some (.ref D) else m z)) (hwr : ∀ b ∈ wr, ∀ o, g.get? b = some o → False) (hwn : ∀ p ∈ news, p.1 ∉ wr)
    (hk : ∀ b o, b ≠ L → b ∉ wr → h₂.get? b = some o → h'.get? b = some o) : Fr g L h' (fun z => if z = y then some (.ref D) else m z) ∧ News g L h' ((D, listOf ys ep) :: news) := by
  have hDL : D ≠ L := by
    rintro rfl
    obtain ⟨oL, es, epL, eL, _⟩ := F.ns
    rw [eL] at hD; cases hD
  refine ⟨⟨hns, fun b o hb => hk b o ?_ (fun q => hwr b q o hb) (F.keep b o hb), F.above⟩, fun p hp => ?_⟩
  · intro q
    have h1 := Heap.lt_size hb
    have h2 := F.above
    rw [q] at h1
    exact absurd h1 (Nat.not_lt.mpr h2)
  · rcases List.mem_cons.mp hp with rfl | hp
    · refine ⟨e, hDL, ?_⟩
      cases q : g.get? D with
      | none => rfl
      | some o' => rw [F.keep _ _ q] at hD; cases hD
    · exact ⟨hk _ _ (N p hp).2.1 (hwn p hp) (N p hp).1, (N p hp).2⟩

theorem compA_from_list {ax : Addr} {its : Array Value} {ep : Nat} (hL : env.locals = L) (F : Fr g L s₁.heap m) (N : News g L s₁.heap news) (hh : A.handled = none) (hl : s₁.heap.get? ax = some (listOf its ep)) (hsz : its.size ≤ 1000)
    (B : BlockOk prog w A s₁ env scope cl x ifs elt (fun v => v ∈ its.toList) p Fv)
    (k : ∀ D h' tk ys ep', Fr g L h' (fun z => if z = y then some (.ref D) else m z) → News g L h' ((D, listOf ys ep') :: news) → Paired Fv (its.toList.filter p) ys.toList → QF .next { s₁ with heap := h', toks := tk }) :
    wpAny (model prog w) A (pyIter (.ref ax)) (CompGoA prog w A env scope cl x y ifs elt p Fv QF) E s₁ := by
  subst hL
  have hls : s₁.heap.IsList ax its := isList_of hl
  have hlt : ax < s₁.heap.objs.size := Heap.lt_size hl
  refine wpAny_pyIter_list hls ⟨_, _, _, _, _, _, m, rfl, Walks.list hh s₁.heap.objs.size ax (Nat.ne_of_lt hlt) its, line_small hsz, ⟨⟨_, Heap.get?_push_size _ rfl, rfl, rfl⟩, hls.at fun o e => Heap.get?_push_of_some _ e⟩, ?_, ?_, (F.push _).ns, block_quiet B (fun i v hv => ?_) rfl rfl, ?_⟩
  · intro b hb
    show b < (s₁.heap.push _).objs.size
    rw [Heap.size_push]
    rcases List.mem_cons.mp hb with rfl | hb
    · exact Nat.lt_succ_self _
    · rw [List.mem_singleton.mp hb]; exact Nat.lt_succ_of_lt hlt
  · intro hm; exact absurd F.ns.lt ((List.mem_singleton.mp hm) ▸ Nat.lt_irrefl _)
  · exact List.mem_of_getElem? (i := i) (by rw [Array.getElem?_toList]; exact hv)
  · intro D h' tk ys vs hD _ hp hlen hv hF hns hk
    obtain ⟨ep', e⟩ := plain_get hp
    rw [list_ext hlen hv] at hF
    obtain ⟨F', N'⟩ := madeA (F.push _) (news_keeps N fun b o hb => Heap.get?_push_of_some _ hb) hD e hns (fun b hb o ho => absurd (Heap.lt_size (F.keep _ _ ho)) ((List.mem_singleton.mp hb) ▸ Nat.lt_irrefl _)) (fun p hp q => absurd (Heap.lt_size (N p hp).1) ((List.mem_singleton.mp q) ▸ Nat.lt_irrefl _)) hk
    exact k D h' tk ys ep' F' N' hF

theorem compA_from_range {r : Addr} {a b : Int} {n : Nat} {t u v : Tok} (hL : env.locals = L) (F : Fr g L s₁.heap m) (N : News g L s₁.heap news) (hh : A.handled = none) (hr : IsRange s₁.heap r a b 1 t u v) (hsm : Builtin.Range.small a b 1 = true) (hrs : Builtin.Range.rangeSize a b 1 = ((n : Nat) : Int)) (hsz : n ≤ 1000)
    (B : BlockOk prog w A s₁ env scope cl x ifs elt (fun v => ∃ (i : Nat) (t : Tok), i < n ∧ v = .int (a + (i : Int)) t) p Fv)
    (k : ∀ D h' tk ys ep' vs, Fr g L h' (fun z => if z = y then some (.ref D) else m z) → News g L h' ((D, listOf ys ep') :: news) → IntsAre vs (rangeZ a n) → Paired Fv (vs.filter p) ys.toList → QF .next { s₁ with heap := h', toks := tk }) :
    wpAny (model prog w) A (pyIter (.ref r)) (CompGoA prog w A env scope cl x y ifs elt p Fv QF) E s₁ := by
  subst hL
  refine wpAny_pyIter_range hr hsm ?_
  rw [hrs]
  refine ⟨_, _, _, n, _, _, m, rfl, (LCg.range_walks (prog := prog) (w := w) (I := s₁.heap.objs.size) hh a n).bound, line_small hsz, ?_, ?_, ?_, (F.push _).ns, block_quiet B (fun i v hv => ?_) rfl rfl, ?_⟩
  · show Heap.get? _ _ = some _
    rw [Heap.get?_push_size _ rfl]
    simp
  · intro b hb
    show b < (s₁.heap.push _).objs.size
    rw [Heap.size_push, List.mem_singleton.mp hb]
    exact Nat.lt_succ_self _
  · intro hm; exact absurd F.ns.lt ((List.mem_singleton.mp hm) ▸ Nat.lt_irrefl _)
  · obtain ⟨hi, t, e⟩ := hv
    exact ⟨i, t, hi, e⟩
  · intro D h' tk ys vs hD _ hp hlen hv hF hns hk
    obtain ⟨ep', e⟩ := plain_get hp
    obtain ⟨F', N'⟩ := madeA (F.push _) (news_keeps N fun b o hb => Heap.get?_push_of_some _ hb) hD e hns (fun b hb o ho => absurd (Heap.lt_size (F.keep _ _ ho)) ((List.mem_singleton.mp hb) ▸ Nat.lt_irrefl _)) (fun p hp q => absurd (Heap.lt_size (N p hp).1) ((List.mem_singleton.mp q) ▸ Nat.lt_irrefl _)) hk
    exact k D h' tk ys ep' vs F' N' (ints_range hlen hv) hF
end

theorem range_size2 {a b : Int} {n : Nat} (h : b = a + n) : Builtin.Range.rangeSize a b 1 = ((n : Nat) : Int) := by subst h; simp [Builtin.Range.rangeSize]; omega
theorem range_small2 {a b : Int} {n : Nat} (h : b = a + n) (h0 : 0 ≤ a) (h1 : a ≤ 1000) (hn : n ≤ 1000) : Builtin.Range.small a b 1 = true := by simp [Builtin.Range.small, range_size2 h, Builtin.Range.rangeFitsLong]; omega
noncomputable def upW (T : List (Option Nat × Str)) (bg : Str) (k : Nat) : List Nat := upTo (parT T) (fun x => labT T x == bg) k
noncomputable def hasW (T : List (Option Nat × Str)) (ws : List Str) (x : Nat) : Bool := inW ws (labT T x)
/-- the first row behind the last begin -/
noncomputable def firstN (pb : Nat → Bool) : Nat → Nat
  | 0 => 0
  | k + 1 => if pb k = true then k + 1 else firstN pb k
theorem firstN_le (pb : Nat → Bool) : ∀ k, firstN pb k ≤ k
  | 0 => Nat.le_refl _
  | k + 1 => by
    have := firstN_le pb k
    unfold firstN; split <;> omega
noncomputable def manyN (pc pb : Nat → Bool) (k : Nat) : Nat := ((List.range (k + 1)).filter fun j => decide (firstN pb k ≤ j) && pc j).length
noncomputable def dueN (T : List (Option Nat × Str)) (lv : Str) (ws : List Str) (bg : Str) (k : Nat) : List Nat :=
  if lv = Str.ofString "single" then (((upW T bg k).filter (hasW T ws)).take 1).map (amongN T ws) else if lv = Str.ofString "multiple" then (((upW T bg k).filter (hasW T ws)).reverse).map (amongN T ws)
  else if 0 < manyN (hasW T ws) (fun x => labT T x == bg) k then [manyN (hasW T ws) (fun x => labT T x == bg) k] else []
theorem firstN_max {pb : Nat → Bool} : ∀ {k : Nat} {M : Int}, M ∈ [(0 : Int)] ++ (((rangeZ 0 k).filter fun z => pb z.toNat).map (· + 1)) → (∀ a ∈ [(0 : Int)] ++ (((rangeZ 0 k).filter fun z => pb z.toNat).map (· + 1)), a ≤ M) → M = (firstN pb k : Int)
  | 0, M, h, _ => by
    have h' : M = 0 := by simpa [rangeZ] using h
    rw [h']; rfl
  | k + 1, M, h, hm => by
    have e : rangeZ 0 (k + 1) = rangeZ 0 k ++ [(k : Int)] := by simp [rangeZ, List.range_succ]
    rw [e, List.filter_append, List.map_append] at h hm
    unfold firstN
    cases hb : pb k with
    | true =>
      rw [if_pos rfl]
      have h1 : (k : Int) + 1 ≤ M := hm _ (by simp [hb])
      rcases List.mem_append.mp h with h | h
      · simp at h; omega
      · rcases List.mem_append.mp h with h | h
        · obtain ⟨z, hz, rfl⟩ := List.mem_map.mp h
          obtain ⟨i, hi, rfl⟩ := List.mem_map.mp (List.mem_filter.mp hz).1
          have := List.mem_range.mp hi
          omega
        · simp [hb] at h; omega
    | false =>
      rw [if_neg (by decide)]
      simp only [List.filter_cons, Int.toNat_natCast, hb, Bool.false_eq_true, if_false, List.filter_nil, List.map_nil, List.append_nil] at h hm
      exact firstN_max h hm
theorem natZ_filter {p : Nat → Bool} {q : Int → Bool} (h : ∀ n : Nat, q (n : Int) = p n) : ∀ l : List Nat, (natZ l).filter q = natZ (l.filter p)
  | [] => rfl
  | a :: l => by
    rw [natZ, List.map_cons, List.filter_cons, List.filter_cons, h a]
    cases p a with
    | true => simp only [if_true]; rw [natZ, List.map_cons]; exact congrArg _ (natZ_filter h l)
    | false => simp only [Bool.false_eq_true, if_false]; exact natZ_filter h l
theorem ints_mem {vs : List Value} {l : List Nat} {v : Value} (hI : IntsAre vs (natZ l)) (h : v ∈ vs) : ∃ (y : Nat) (t : Tok), v = .int (y : Int) t ∧ y ∈ l := by
  obtain ⟨i, hi⟩ := List.mem_iff_getElem?.mp h
  obtain ⟨y, t, a, b⟩ := ints_at (its := vs.toArray) (i := i) (v := v) (by simpa using hI) (by simpa using hi)
  exact ⟨y, t, a, List.mem_of_getElem? b⟩
theorem paired_map {Fv : Value → Value → Prop} {f : Nat → Nat} (hF : ∀ (z : Nat) t y, Fv (.int (z : Int) t) y → ∃ t', y = .int ((f z : Nat) : Int) t') : ∀ {vs : List Value} {l : List Nat} {ys : List Value}, IntsAre vs (natZ l) → Paired Fv (vs.filter fun _ => true) ys → IntsAre ys (natZ (l.map f)) := by
  intro vs l ys hI hP
  have e : vs.filter (fun _ => true) = vs := List.filter_eq_self.mpr fun _ _ => rfl
  rw [e] at hP
  clear e
  induction l generalizing vs ys with
  | nil => cases hI; cases hP; exact .nil
  | cons a l ih =>
    cases hI with
    | cons n t r =>
      cases hP with
      | cons x y =>
        obtain ⟨t', rfl⟩ := hF _ _ _ x
        exact .cons _ t' (ih r y)
theorem range_filter {q : Nat → Bool} {f k : Nat} (h : f ≤ k) : ((rangeZ (f : Int) (k - f)).filter fun z => q z.toNat).length = ((List.range k).filter fun j => decide (f ≤ j) && q j).length := by
  obtain ⟨n, rfl⟩ : ∃ n, k = f + n := ⟨k - f, by omega⟩
  clear h
  rw [Nat.add_sub_cancel_left]
  induction n with
  | zero =>
    have e : (List.range (f + 0)).filter (fun j => decide (f ≤ j) && q j) = [] := by
      rw [List.filter_eq_nil_iff]
      intro a ha; have := List.mem_range.mp ha; simp; omega
    rw [e]; rfl
  | succ n ih =>
    have e : rangeZ (f : Int) (n + 1) = rangeZ f n ++ [(f : Int) + n] := by simp [rangeZ, List.range_succ]
    rw [e, show f + (n + 1) = (f + n) + 1 from rfl, List.range_succ, List.filter_append, List.filter_append, List.length_append, List.length_append, ih]
    congr 1
    have e2 : ((f : Int) + n).toNat = f + n := by omega
    have e3 : f ≤ f + n := by omega
    simp only [List.filter_cons, e2, e3, decide_true, Bool.true_and, List.filter_nil]
    split <;> rfl

section
variable {prog : Program} {w : World} {A : Around} {E : Value → Shared → Prop} {s : Shared} {h₀ : Heap} {L l a b : Addr} {m : Str → Option Value} {news : List (Addr × Obj)} {value slice : PySem.Expr} {its its2 : Array Value} {ns ms : List Int} {ln : List Nat} {vu : Value} {y : Int} {Q : Value → Shared → Prop} {ep ep2 : Nat}
theorem slice_upto (F : Fr h₀ L s.heap m) (N : News h₀ L s.heap news) (hl : s.heap.get? l = some (listOf its ep)) (hi : IntsAre its.toList (natZ ln)) (pu : IsPart vu (some y)) (h0 : 0 ≤ y)
    (h : ∀ D ws h', Fr h₀ L h' m → News h₀ L h' ((D, listOf ws 0) :: news) → (∀ p ∈ news, p.1 < D) → IntsAre ws.toList (natZ (ln.take y.toNat)) → Q (.ref D) { s with heap := h' })
    (hs : subscripted slice false (.ref l) (.ref s.heap.objs.size) = operate [.ref s.heap.objs.size, .ref l] (getItem (.ref l) (.ref s.heap.objs.size))) (ht : ∀ r, letTemporaryGo value (.ref l) r = pure ()) (hz : its.size ≤ 1000) :
    wpAny (model prog w) A (subscriptTail value slice (.ref l) (.ref s.heap.objs.size)) Q E { s with heap := s.heap.push { cls := .type "slice", data := .fields #[.none, vu, .none] } } := by
  refine kmk_slice F N (isList_of hl) .none pu (fun D h' F' N' l1 => h D _ h' F' N' l1 ?_) hs ht (line_small hz)
  have := kmk_upto (y := y) hi h0
  rw [Array.toArray_toList] at this
  rw [natZ, List.map_take]; exact this
theorem slice_rev {vk : Value} {ops : List Value} (F : Fr h₀ L s.heap m) (N : News h₀ L s.heap news) (hl : s.heap.get? l = some (listOf its ep)) (hi : IntsAre its.toList (natZ ln)) (pk : IsPart vk (some (-1)))
    (h : ∀ D ws h', Fr h₀ L h' m → News h₀ L h' ((D, listOf ws 0) :: news) → (∀ p ∈ news, p.1 < D) → IntsAre ws.toList (natZ ln.reverse) → Q (.ref D) { s with heap := h' })
    (hs : subscripted slice false (.ref l) (.ref s.heap.objs.size) = operate ops (getItem (.ref l) (.ref s.heap.objs.size))) (ht : ∀ r, letTemporaryGo value (.ref l) r = pure ()) (hz : its.size ≤ 1000) :
    wpAny (model prog w) A (subscriptTail value slice (.ref l) (.ref s.heap.objs.size)) Q E { s with heap := s.heap.push { cls := .type "slice", data := .fields #[.none, .none, vk] } } :=
  krv_lit F N (isList_of hl) pk rfl (fun D h' F' N' l1 => h D _ h' F' N' l1 (by rw [natZ, List.map_reverse]; exact IntsAre.reverse hi)) hs ht (line_small hz)
theorem add_own (F : Fr h₀ L s.heap m) (N : News h₀ L s.heap news) (ha : s.heap.get? a = some (listOf its ep)) (hb : s.heap.get? b = some (listOf its2 ep2)) (hi : IntsAre its.toList ns) (hj : IntsAre its2.toList ms)
    (h : ∀ D us h', Fr h₀ L h' m → News h₀ L h' ((D, listOf (List.toArray us) 0) :: news) → (∀ p ∈ news, p.1 < D) → IntsAre us (ns ++ ms) → Q (.ref D) { s with heap := h' })
    (hz : ns.length + ms.length ≤ 1000) : wpAny (model prog w) A (binaryOp .Add (.ref a) (.ref b)) Q E s :=
  kmk_add_ints F N (vs := its.toList) (ws := its2.toList) (by rw [Array.toArray_toList]; exact isList_of ha) (by rw [Array.toArray_toList]; exact isList_of hb) hi hj h (line_small hz)
end
theorem word_M16_2 : True := by
  (k_with "subscriptTail Name Slice ref ref" => (k_dflt (((with_reducible show wpAny _ _ (subscriptTail _ (PySem.Expr.Slice none (some _) none _) (Value.ref _) (Value.ref _)) _ _ _); (refine' slice_upto (s := ⟨_, _, _, _, _⟩) ?zF ?zN ?zl ?zi ?zk ?ze ?_ ?zs ?zt ?z; (case zF => k_asm); (case zN => k_asm); (case zl => k_extra "m_get"); (case zi => k_asm); (case zk => with_unfolding_all exact IsPart.int _ _); (case ze => omega); (case zs => with_unfolding_all rfl); (case zt => kmk_pure); (case z => k_extra "m_size")); intro _ _ _ _ _ l1 _; (try k_lt l1); (try k_sweep); (try (revert l1; intro _))))))
  (k_with "subscriptTail Name Slice ref ref" => (k_dflt (((with_reducible show wpAny _ _ (subscriptTail _ (PySem.Expr.Slice none none (some _) _) (Value.ref _) (Value.ref _)) _ _ _); (refine' slice_rev (s := ⟨_, _, _, _, _⟩) ?zF ?zN ?zl ?zi ?zk ?_ ?zs ?zt ?z; (case zF => k_asm); (case zN => k_asm); (case zl => k_extra "m_get"); (case zi => k_asm); (case zk => with_unfolding_all exact IsPart.int _ _); (case zs => with_unfolding_all rfl); (case zt => kmk_pure); (case z => k_extra "m_size")); intro _ _ _ _ _ l1 _; (try k_lt l1); (try k_sweep); (try (revert l1; intro _))))))
  (k_with "binaryOp Add ref ref" => (k_dflt (((with_reducible show wpAny _ _ (binaryOp _ (Value.ref _) (Value.ref _)) _ _ _); (refine' add_own ?zF ?zN ?za ?zb ?zi ?zj ?_ ?z; (case zF => k_asm); (case zN => k_asm); (case za => k_extra "m_get"); (case zb => k_extra "m_get"); (case zi => first | assumption | with_unfolding_all exact IntsAre.cons _ _ IntsAre.nil); (case zj => first | assumption | with_unfolding_all exact IntsAre.cons _ _ IntsAre.nil); (case z => k_extra "m_size")); intro _ _ _ _ _ l1 _; (try k_lt l1); (try k_sweep); (try (revert l1; intro _))))))
  (k_with "call builtin:max" => (k_dflt (((with_reducible show wpAny _ _ (call (Value.builtin _) [Value.ref _]) _ _ _); (refine' kso_max ?zk1 ?zk2 ?zk3 ?zk4 ?zk5 ?zk6 ?_; (case zk1 => k_asm); (case zk2 => k_asm); (case zk3 => is_list); (case zk4 => k_asm); (case zk5 => k_extra "m_size"); (case zk6 => exact Room.hd (by k_asm))); intro _ _ _ _ _ _ _ _; (try k_sweep)))))
  (k_with "m_fin" => all_goals first | exact ⟨_, _, rfl, fun _ _ e => e⟩ | exact ⟨_, _, rfl, by assumption⟩ | exact ⟨_, rfl⟩ | exact rfl)
  exact True.intro
section
variable {prog : Program} {w : World} {A : Around} {s : Shared} {E : Value → Shared → Prop} {B0 : Heap}
theorem due_spec {rw nm : Addr} {T : List (Option Nat × Str)} {ws : List Str} {k : Nat} {t tl tb : Tok} {lv bg : Str} (hlv : lv = Str.ofString "single" ∨ lv = Str.ofString "multiple" ∨ lv = Str.ofString "any") (R : Room A 6) (O : Ok w B0) (hB : B0.StaysIn s.heap) (RA : RowsAt s.heap rw T) (WA : WordsAt s.heap nm ws) (PL : ParLt (parT T)) (hk : k < T.length) :
    wpAny (model prog w) A (call (.ref 372) [.ref rw, .int (k : Int) t, .str lv tl, .ref nm, .str bg tb]) (Kept s fun v h' => ∃ l its ep, v = .ref l ∧ s.heap.get? l = none ∧ h'.get? l = some (listOf its ep) ∧ IntsAre its.toList (natZ (dueN T lv ws bg k))) E s := by
  refine' enterC (binds := [("rows",.ref rw),("at",.int (k : Int) t),("level",.str lv tl),("names",.ref nm),("begin",.str bg tb)]) [] O hB ?hms R ?ho ?hcd ?hbind ?hkind ?hnd ?h ?hco ?hgen ?hk
  (case hms => exact fun _ h => nomatch h); (case ho => k_is); (case hcd => k_is); (case hbind => exact rfl); (case hkind => exact rfl); (case hnd => decide +kernel); (case hco => exact rfl); (case hgen => exact rfl); (case hk => exact rfl)
  intro A' g L h₁ tk₁ cells p loose mean mg mb R' cg hBg Og Xg Tg _ F N Y _
  (try k_fold)
  k_cells Y
  rename_i o1 o2 o3 d1 d2 d3
  have c1 : o1.data = .cell (some (.str bg tb)) := d1
  have c2 : o2.data = .cell (some (.ref nm)) := d2
  have c3 : o3.data = .cell (some (.ref rw)) := d3
  clear d1 d2 d3
  have RA' := RA.keeps cg.nil
  obtain ⟨⟨as, epr, e1, hal, hrow⟩, hsm⟩ := id RA'
  have WA' := WA.keeps cg.nil
  obtain ⟨wvs, wep, e2, hws⟩ := id WA'
  k_extra "m_walk"
  refine list_compA (p := fun v => match v with | .int z _ => inW ws (labT T z.toNat) | _ => false) (Fv := fun v y => match v with | .int z _ => ∃ t', y = .int z t' | _ => False)
    (by with_unfolding_all rfl) (by with_unfolding_all rfl) (by decide) (by rfl) (by decide) (by rfl) (by rfl) (by rfl) ?_
  k_extra "m_walk"
  have hI0 := ‹IntsAre _ (natZ (upTo (parT T) (fun x => labT T x == bg) k))›
  have hlen : (upTo (parT T) (fun x => labT T x == bg) k).length ≤ 21 := Nat.le_trans (upTo_length PL) (by omega)
  have hsz0 := ints_size hI0
  simp only [List.length_map] at hsz0
  refine' compA_from_list (L := L) rfl (by assumption) (by assumption) R'.hd (by k_extra "m_get") (by omega) ⟨?tests, ?elt⟩ ?fin
  case tests =>
    intro g' C v s₃ m₃ st hP F3 hm
    obtain ⟨j, tj, rfl, hj⟩ := ints_mem hI0 hP
    have hjk := upTo_le PL hj
    have hst := st
    have hgg : g.StaysIn g' := Stays.trans (Fr.keep (by assumption)) hst
    have X3 := Xg.keeps hgg
    have T3 := Tg.keeps hgg
    have O3 := Og.keeps hgg
    have N3 : News g' C s₃.heap [] := News.nil
    have RA3 := RA'.keeps hgg
    have WA3 := WA'.keeps hgg
    have e1' := hgg _ _ e1
    have e2' := hgg _ _ e2
    have f1 := hst _ _ (News.get (by assumption) (by k_mem) : Heap.get? _ (L+1+1+1) = some o1)
    have f2 := hst _ _ (News.get (by assumption) (by k_mem) : Heap.get? _ (L+1+1) = some o2)
    have f3 := hst _ _ (News.get (by assumption) (by k_mem) : Heap.get? _ (L+1) = some o3)
    obtain ⟨a1, u1, v1, ul1, n1, hk1, e4, hv1⟩ := rows_get hal hrow (show j < T.length by omega)
    have e4' := hgg _ _ e4
    refine tests_one ?_
    k_extra "m_walk"
    exact ⟨_, _, rfl, fun _ _ e => e⟩
  case elt =>
    intro g' C v s₃ m₃ st hP hp F3 hm
    (try k_fold)
    obtain ⟨j, tj, rfl, hj⟩ := ints_mem hI0 hP
    refine comp_local F3 hm ⟨⟨tj, rfl⟩, s₃.heap, s₃.toks, rfl, fun _ _ e => e⟩ rfl rfl (by decide)
  case fin =>
    intro D h' tk ys ep' F' N' hPr
    have hIy := paired_ints (q := fun z => inW ws (labT T z.toNat)) (f := id) (fun z t => rfl) (fun z t y h => h) hI0 hPr
    rw [List.map_id, natZ_filter (p := hasW T ws) (fun n => by rw [Int.toNat_natCast]; rfl)] at hIy
    have hlen2 : ((upW T bg k).filter (hasW T ws)).length ≤ 21 := Nat.le_trans (List.length_filter_le _ _) hlen
    have hIy : IntsAre ys.toList (natZ ((upW T bg k).filter (hasW T ws))) := hIy
    have hys := ints_size hIy
    simp only [List.length_map] at hys
    rcases hlv with rfl | rfl | rfl
    · k_extra "m_walk"
      refine list_comp (p := fun _ => true) (Fv := fun v y => match v with | .int z _ => ∃ t', y = .int ((amongN T ws z.toNat : Nat) : Int) t' | _ => False)
        (by with_unfolding_all rfl) (by decide) (by rfl) (by decide) (by rfl) ?_
      k_extra "m_walk"
      have hI1 := ‹IntsAre _ (natZ (((upW T bg k).filter (hasW T ws)).take 1))›
      have hsz1 := ints_size hI1
      simp only [List.length_map, List.length_reverse, List.length_take] at hsz1
      refine' comp_from_list R'.hd (News.get (by assumption) (.head _)) (by omega) ⟨?tests, ?elt⟩ ?fin
      case tests =>
        intro g' C v s₃ m₃ st hP F3 hm
        exact tests_none ⟨rfl, s₃.heap, s₃.toks, rfl, fun _ _ e => e⟩
      case elt =>
        intro g' C v s₃ m₃ st hP hp F3 hm
        (try k_fold)
        obtain ⟨j, tj, rfl, hj⟩ := ints_mem hI1 hP
        have hjk : j ≤ k := upTo_le PL (List.mem_filter.mp ((List.mem_of_mem_take) hj)).1
        have hst := st
        have hgg : g.StaysIn g' := Stays.trans (Fr.keep (by assumption)) hst
        have X3 := Xg.keeps hgg
        have T3 := Tg.keeps hgg
        have O3 := Og.keeps hgg
        have N3 : News g' C s₃.heap [] := News.nil
        have RA3 := RA'.keeps hgg
        have WA3 := WA'.keeps hgg
        have e1' := hgg _ _ e1
        have e2' := hgg _ _ e2
        have f1 := hst _ _ (News.get (by assumption) (by k_mem) : Heap.get? _ (L+1+1+1) = some o1)
        have f2 := hst _ _ (News.get (by assumption) (by k_mem) : Heap.get? _ (L+1+1) = some o2)
        have f3 := hst _ _ (News.get (by assumption) (by k_mem) : Heap.get? _ (L+1) = some o3)
        k_extra "m_walk"
        k_extra "m_fin"
      case fin =>
        intro D h' tk ys ep' st hD hDg hPr
        have F' := fr_keeps (by assumption) st
        have N' := news_made (by assumption) (by assumption) st hD hDg
        have hIz := paired_map (f := amongN T ws) (fun z t y h => h) hI1 hPr
        k_extra "m_walk"
        exact ⟨keeps_of cg rfl F', _, _, _, rfl, fresh_of cg rfl (News.fresh N' (.head _)), News.get N' (.head _), hIz⟩
    · k_extra "m_walk"
      refine list_comp (p := fun _ => true) (Fv := fun v y => match v with | .int z _ => ∃ t', y = .int ((amongN T ws z.toNat : Nat) : Int) t' | _ => False)
        (by with_unfolding_all rfl) (by decide) (by rfl) (by decide) (by rfl) ?_
      k_extra "m_walk"
      have hI1 := ‹IntsAre _ (natZ (((upW T bg k).filter (hasW T ws)).reverse))›
      have hsz1 := ints_size hI1
      simp only [List.length_map, List.length_reverse, List.length_take] at hsz1
      refine' comp_from_list R'.hd (News.get (by assumption) (.head _)) (by omega) ⟨?tests, ?elt⟩ ?fin
      case tests =>
        intro g' C v s₃ m₃ st hP F3 hm
        exact tests_none ⟨rfl, s₃.heap, s₃.toks, rfl, fun _ _ e => e⟩
      case elt =>
        intro g' C v s₃ m₃ st hP hp F3 hm
        (try k_fold)
        obtain ⟨j, tj, rfl, hj⟩ := ints_mem hI1 hP
        have hjk : j ≤ k := upTo_le PL (List.mem_filter.mp ((List.mem_reverse.mp) hj)).1
        have hst := st
        have hgg : g.StaysIn g' := Stays.trans (Fr.keep (by assumption)) hst
        have X3 := Xg.keeps hgg
        have T3 := Tg.keeps hgg
        have O3 := Og.keeps hgg
        have N3 : News g' C s₃.heap [] := News.nil
        have RA3 := RA'.keeps hgg
        have WA3 := WA'.keeps hgg
        have e1' := hgg _ _ e1
        have e2' := hgg _ _ e2
        have f1 := hst _ _ (News.get (by assumption) (by k_mem) : Heap.get? _ (L+1+1+1) = some o1)
        have f2 := hst _ _ (News.get (by assumption) (by k_mem) : Heap.get? _ (L+1+1) = some o2)
        have f3 := hst _ _ (News.get (by assumption) (by k_mem) : Heap.get? _ (L+1) = some o3)
        k_extra "m_walk"
        k_extra "m_fin"
      case fin =>
        intro D h' tk ys ep' st hD hDg hPr
        have F' := fr_keeps (by assumption) st
        have N' := news_made (by assumption) (by assumption) st hD hDg
        have hIz := paired_map (f := amongN T ws) (fun z t y h => h) hI1 hPr
        k_extra "m_walk"
        exact ⟨keeps_of cg rfl F', _, _, _, rfl, fresh_of cg rfl (News.fresh N' (.head _)), News.get N' (.head _), hIz⟩
    · k_extra "m_walk"
      refine list_comp (p := fun v => match v with | .int z _ => labT T z.toNat == bg | _ => false) (Fv := fun v y => match v with | .int z _ => ∃ t', y = .int (z + 1) t' | _ => False)
        (by with_unfolding_all rfl) (by decide) (by rfl) (by decide) (by rfl) ?_
      k_extra "m_walk"
      refine' comp_from_range (a := 0) (b := (k : Int)) (n := k) R'.hd ?hr (range_small (by omega)) (range_size k) (by omega) ⟨?tests, ?elt⟩ ?fin
      case hr => exact News.get (by assumption) (.head _)
      case tests =>
        intro g' C v s₃ m₃ st hP F3 hm
        obtain ⟨j, tj, hj, rfl⟩ := hP
        rw [Int.zero_add] at hm ⊢
        have hst := st
        have hgg : g.StaysIn g' := Stays.trans (Fr.keep (by assumption)) hst
        have X3 := Xg.keeps hgg
        have T3 := Tg.keeps hgg
        have O3 := Og.keeps hgg
        have N3 : News g' C s₃.heap [] := News.nil
        have RA3 := RA'.keeps hgg
        have WA3 := WA'.keeps hgg
        have e1' := hgg _ _ e1
        have e2' := hgg _ _ e2
        have f1 := hst _ _ (News.get (by assumption) (by k_mem) : Heap.get? _ (L+1+1+1) = some o1)
        have f2 := hst _ _ (News.get (by assumption) (by k_mem) : Heap.get? _ (L+1+1) = some o2)
        have f3 := hst _ _ (News.get (by assumption) (by k_mem) : Heap.get? _ (L+1) = some o3)
        obtain ⟨a1, u1, v1, ul1, n1, hk1, e4, hv1⟩ := rows_get hal hrow (show j < T.length by omega)
        have e4' := hgg _ _ e4
        refine tests_one ?_
        k_extra "m_walk"
        k_extra "m_fin"
      case elt =>
        intro g' C v s₃ m₃ st hP hp F3 hm
        obtain ⟨j, tj, hj, rfl⟩ := hP
        rw [Int.zero_add] at hm ⊢
        (try k_fold)
        k_extra "m_walk"
        k_extra "m_fin"
      case fin =>
        intro D h' tk ys ep' vs st hD hDg hI hPr
        have F' := fr_keeps (by assumption) st
        have N' := news_made (by assumption) (by assumption) st hD hDg
        have hIm := paired_ints (q := fun z => labT T z.toNat == bg) (f := (· + 1)) (fun z t => rfl) (fun z t y h => h) hI hPr
        have hlm : (((rangeZ 0 k).filter fun z => labT T z.toNat == bg).map (· + 1)).length ≤ 21 := by
          rw [List.length_map]
          exact Nat.le_trans (List.length_filter_le _ _) (by simp; omega)
        k_extra "m_walk"
        have hM := firstN_max (pb := fun x => labT T x == bg) (by assumption) (by assumption)
        subst hM
        have hfl := firstN_le (fun x => labT T x == bg) k
        generalize hf : firstN (fun x => labT T x == bg) k = f at *
        refine list_comp (p := fun v => match v with | .int z _ => hasW T ws z.toNat | _ => false) (Fv := fun v y => match v with | .int z _ => ∃ t', y = .int z t' | _ => False)
          (by with_unfolding_all rfl) (by decide) (by rfl) (by decide) (by rfl) ?_
        k_extra "m_walk"
        refine' comp_from_range (a := (f : Int)) (b := (k : Int) + 1) (n := k + 1 - f) R'.hd ?hr (range_small2 (n := k + 1 - f) (by omega) (by omega) (by omega) (by omega)) (range_size2 (by omega)) (by omega) ⟨?tests, ?elt⟩ ?fin
        case hr => exact News.get (by assumption) (.head _)
        case tests =>
          intro g' C v s₃ m₃ st hP F3 hm
          obtain ⟨j0, tj, hj, rfl⟩ := hP
          obtain ⟨j, hj1⟩ : ∃ j, j = f + j0 := ⟨_, rfl⟩
          have hj2 : (f : Int) + (j0 : Int) = (j : Int) := by omega
          rw [hj2] at hm ⊢
          have hst := st
          have hgg : g.StaysIn g' := Stays.trans (Fr.keep (by assumption)) hst
          have X3 := Xg.keeps hgg
          have T3 := Tg.keeps hgg
          have O3 := Og.keeps hgg
          have N3 : News g' C s₃.heap [] := News.nil
          have RA3 := RA'.keeps hgg
          have WA3 := WA'.keeps hgg
          have e1' := hgg _ _ e1
          have e2' := hgg _ _ e2
          have f1 := hst _ _ (News.get (by assumption) (by k_mem) : Heap.get? _ (L+1+1+1) = some o1)
          have f2 := hst _ _ (News.get (by assumption) (by k_mem) : Heap.get? _ (L+1+1) = some o2)
          have f3 := hst _ _ (News.get (by assumption) (by k_mem) : Heap.get? _ (L+1) = some o3)
          obtain ⟨a1, u1, v1, ul1, n1, hk1, e4, hv1⟩ := rows_get hal hrow (show j < T.length by omega)
          have e4' := hgg _ _ e4
          refine tests_one ?_
          k_extra "m_walk"
          k_extra "m_fin"
        case elt =>
          intro g' C v s₃ m₃ st hP hp F3 hm
          obtain ⟨j, tj, hj, rfl⟩ := hP
          refine comp_local F3 hm ⟨⟨tj, rfl⟩, s₃.heap, s₃.toks, rfl, fun _ _ e => e⟩ rfl rfl (by decide)
        case fin =>
          intro D h' tk ys ep' vs st hD hDg hI hPr
          have F' := fr_keeps (by assumption) st
          have N' := news_made (by assumption) (by assumption) st hD hDg
          have hIm := paired_ints (q := fun z => hasW T ws z.toNat) (f := id) (fun z t => rfl) (fun z t y h => h) hI hPr
          have hlm := ints_size hIm
          rw [List.length_map, range_filter (by omega)] at hlm
          have hmn : manyN (hasW T ws) (fun x => labT T x == bg) k = ys.size := by unfold manyN; rw [hf]; exact hlm.symm
          have hle : ys.size ≤ 21 := by rw [hlm]; exact Nat.le_trans (List.length_filter_le _ _) (by simp; omega)
          k_extra "m_walk"
          · have hdu : dueN T (Str.ofString "any") ws bg k = [ys.size] := by unfold dueN; rw [if_neg (by decide), if_neg (by decide), hmn, if_pos (by omega)]
            exact ⟨keeps_of cg rfl (by assumption), _, _, _, rfl, fresh_of cg rfl (News.fresh (by assumption) (.head _)), News.get (by assumption) (.head _), by rw [hdu]; exact .cons _ _ .nil⟩
          · have hdu : dueN T (Str.ofString "any") ws bg k = [] := by unfold dueN; rw [if_neg (by decide), if_neg (by decide), hmn, if_neg (by omega)]
            exact ⟨keeps_of cg rfl (by assumption), _, _, _, rfl, fresh_of cg rfl (News.fresh (by assumption) (.head _)), News.get (by assumption) (.head _), by rw [hdu]; exact .nil⟩
end


theorem Room.under {A : Around} {k : Nat} {c : Addr} {r : List Value} {kw : List (Str × Value)} (r0 : Room A (k + 1)) : Room (A.under (.builtin "type.__call__" ⟨.ref c :: r, kw⟩)) k := by
  refine ⟨r0.hd, ?_, ?_⟩
  · have h1 := r0.d
    have e : (Code.builtin "type.__call__" ⟨.ref c :: r, kw⟩).weight = 1 := by with_unfolding_all rfl
    show A.depth + (Code.builtin "type.__call__" ⟨.ref c :: r, kw⟩).weight + k ≤ 900
    rw [e]; omega
  · have h1 := r0.u
    have e : (Code.builtin "type.__call__" ⟨.ref c :: r, kw⟩).cUnits ≤ 10 := by with_unfolding_all exact Nat.le_of_ble_eq_true rfl
    show A.units + (Code.builtin "type.__call__" ⟨.ref c :: r, kw⟩).cUnits + 10 * k ≤ 9000
    omega
section
variable {prog : Program} {w : World} {A : Around} {s : Shared} {name qual : Str} {params : Arguments} {body : List Stmt} {scope : Scope} {cl : List (Str × Addr)} {dV kV doc pm cdv ct : Value} {an : Option Addr}
  {f : Addr} {args : List Value} {binds : List (Str × Value)} {RR : Result → Shared → Prop} {B0 : Heap} {oc : Value} {od : Option Addr} {osl : Array (Option Value)}
theorem enterKc {k : Nat} (ms : List (Addr × Obj)) (O : Ok w B0) (hB : B0.StaysIn s.heap) (hms : ∀ p ∈ ms, s.heap.get? p.1 = some p.2 ∧ B0.get? p.1 = none) (hroom : Room A (k + 1))
    (ho : (hd.heap_39 w.params).lookup f = some ⟨oc, od, .func (fnX name qual params body scope [] dV kV doc pm an cdv ct), osl⟩) (hcd : codeIn (hd.heap_39 w.params) cdv qual = true)
    (hbind : bindArgs (fnX name qual params body scope [] dV kV doc pm an cdv ct) ⟨args, []⟩ = pure binds) (hloc : ∀ y ∈ binds, scope.names.lookup y.1 = some .local)
    (h : ∀ A' g L' h₁ tk₁ p loose mean mg mb, Room A' k → Chg (ms.map (·.1)) s.heap g → B0.StaysIn g → Ok w g → (hd.heap_39 w.params).In g → Top p loose mean mg mb g → (∀ p ∈ ms, g.get? p.1 = none) → Fr g L' h₁ (fun y => binds.reverse.lookup y) → News g L' h₁ ms →
      wpAny (model prog w) A' (execs body (envX qual scope L' f cdv []))
        (fun fl s' => RR (.ok (.ret (match fl with | .ret v => v | _ => .none))) s') (fun _ _ => False) { s with heap := h₁, toks := tk₁ })
    (hcell : ∀ x ∈ scope.names, x.2 ≠ .cell) (hco : scope.isCoroutine = false) (hgen : scope.isGenerator = false) (hk : scope.kind = .function) :
    codeAny (model prog w) A (.call (.ref f) ⟨args, []⟩) RR s := by
  obtain ⟨X, p, loose, mean, mg, mb, T⟩ := id O
  have hlim := T.nolimit.keeps hB
  refine codeAny_call_def (fd := fnX name qual params body scope [] dV kV doc pm an cdv ct) (body := body) (binds := binds) hroom.frames (hB _ _ (X _ _ ho)) rfl hlim (codeRec_of (X.keeps hB) hcd) rfl (BindsTo.of_eq hbind) hcell hloc (fun h₁ hns hk₁ => ?_) hco hgen hk
  have cg : Chg (ms.map (·.1)) s.heap (hideAll s.heap (ms.map (·.1))) := fun b o n e => hideAll_get _ e n
  have st : B0.StaysIn (hideAll s.heap (ms.map (·.1))) := fun b o e => cg b o (fun q => by
    obtain ⟨p, hp, rfl⟩ := List.mem_map.mp q
    rw [(hms p hp).2] at e; cases e) (hB b o e)
  refine wpAny_mono (h _ (hideAll s.heap (ms.map (·.1))) s.heap.objs.size h₁ _ p loose mean mg mb hroom.deeper cg st (O.keeps st) (X.keeps fun b o e => st b o e) (T.keeps fun b o e => st b o e) (fun p hp => hideAll_none _ (List.mem_map_of_mem hp))
    ⟨hns, fun b o e => hk₁ b o (of_hideAll _ e), Nat.le_of_eq (hideAll_size _ _)⟩
    (fun p hp => ⟨hk₁ _ _ (hms p hp).1, Nat.ne_of_lt (Heap.lt_size (hms p hp).1), hideAll_none _ (List.mem_map_of_mem hp)⟩)) (fun fl s' hl => hl) fun _ _ y => y.elim
end

structure NewNd (h h' : Heap) (nd : Nd) (kd ur lc : Str) (par : Option Nat) : Prop where
  at_ : NdAt h' nd
  kind : nd.kind = kd
  uri : nd.uri = ur
  lname : nd.lname = lc
  par : nd.par = par
  kids : nd.kids = []
  attrs : nd.attrs = []
  fa : h.get? nd.a = none
  fd : h.get? nd.d = none
  fc : h.get? nd.c = none
  ft : h.get? nd.t = none
  ne : nd.c ≠ nd.t

theorem NewNd.from {h h1 h' : Heap} {nd : Nd} {kd ur lc : Str} {par : Option Nat} (n : NewNd h1 h' nd kd ur lc par) (f : ∀ a, h1.get? a = none → h.get? a = none) : NewNd h h' nd kd ur lc par := { n with fa := f _ n.fa, fd := f _ n.fd, fc := f _ n.fc, ft := f _ n.ft }
theorem NewNd.to {h h1 h' : Heap} {nd : Nd} {kd ur lc : Str} {par : Option Nat} (n : NewNd h h1 nd kd ur lc par) (a : NdAt h' nd) : NewNd h h' nd kd ur lc par := { n with at_ := a }

/-- the objects of a node -/
structure NdObjs (nd : Nd) (objs : List (Addr × Obj)) : Prop where
  adr : objs.map (·.1) = [nd.a, nd.d, nd.c, nd.t]
  at_ : ∀ h : Heap, (∀ p ∈ objs, h.get? p.1 = some p.2) → NdAt h nd
theorem NdAt.objs {h : Heap} {nd : Nd} (x : NdAt h nd) : ∃ o1 o2 o3 o4, NdObjs nd [(nd.a, o1), (nd.d, o2), (nd.c, o3), (nd.t, o4)] ∧ h.get? nd.a = some o1 ∧ h.get? nd.d = some o2 ∧ h.get? nd.c = some o3 ∧ h.get? nd.t = some o4 := by
  obtain ⟨n1, ⟨es, nn, n2, n3⟩, ⟨kvs, kep, n9, n9'⟩, ⟨avs, aep, n10, n10'⟩, n11⟩ := x
  exact ⟨_, _, _, _, ⟨rfl, fun h hp => ⟨hp _ (.head _), ⟨es, nn, hp _ (.tail _ (.head _)), n3⟩, ⟨kvs, kep, hp _ (.tail _ (.tail _ (.head _))), n9'⟩, ⟨avs, aep, hp _ (.tail _ (.tail _ (.tail _ (.head _)))), n10'⟩, n11⟩⟩, n1, n2, n9, n10⟩
/-- a new node joins the ledger -/
theorem news_node {g h h' : Heap} {L : Addr} {m : Str → Option Value} {news : List (Addr × Obj)} {nd : Nd} {kd ur lc : Str} {par : Option Nat} (F : Fr g L h m) (N : News g L h' news) (n : NewNd h h' nd kd ur lc par) :
    ∃ o1 o2 o3 o4, NdObjs nd [(nd.a, o1), (nd.d, o2), (nd.c, o3), (nd.t, o4)] ∧ News g L h' ((nd.a, o1) :: (nd.d, o2) :: (nd.c, o3) :: (nd.t, o4) :: news) := by
  obtain ⟨o1, o2, o3, o4, X, e1, e2, e3, e4⟩ := n.at_.objs
  have f : ∀ a, h.get? a = none → a ≠ L ∧ g.get? a = none := fun a ha => by
    refine ⟨?_, fr_fresh F ha⟩
    rintro rfl
    obtain ⟨oL, es, ep, eL, _⟩ := F.ns
    rw [eL] at ha; cases ha
  refine ⟨o1, o2, o3, o4, X, fun p hp => ?_⟩
  rcases List.mem_cons.mp hp with rfl | hp
  · exact ⟨e1, f _ n.fa⟩
  rcases List.mem_cons.mp hp with rfl | hp
  · exact ⟨e2, f _ n.fd⟩
  rcases List.mem_cons.mp hp with rfl | hp
  · exact ⟨e3, f _ n.fc⟩
  rcases List.mem_cons.mp hp with rfl | hp
  · exact ⟨e4, f _ n.ft⟩
  exact N p hp
/-- what is new stands apart from what stood -/
theorem NewNd.apart {h h' : Heap} {nd : Nd} {kd ur lc : Str} {par : Option Nat} (n : NewNd h h' nd kd ur lc par) {b : Addr} {o : Obj} (e : h.get? b = some o) : nd.a ≠ b ∧ nd.d ≠ b ∧ nd.c ≠ b ∧ nd.t ≠ b := by
  refine ⟨?_, ?_, ?_, ?_⟩ <;> rintro rfl
  · rw [n.fa] at e; cases e
  · rw [n.fd] at e; cases e
  · rw [n.fc] at e; cases e
  · rw [n.ft] at e; cases e
theorem news_apart4 {g h h' : Heap} {L : Addr} {news : List (Addr × Obj)} {nd : Nd} {kd ur lc : Str} {par : Option Nat} (N : News g L h news) (n : NewNd h h' nd kd ur lc par) : ∀ p ∈ news, @Ne Nat nd.a p.1 ∧ @Ne Nat nd.d p.1 ∧ @Ne Nat nd.c p.1 ∧ @Ne Nat nd.t p.1 := fun p hp => n.apart (N p hp).1
theorem fresh_to {ms : List Addr} {s1 g h1 : Heap} {L a : Addr} {m : Str → Option Value} {news : List (Addr × Obj)} (c : Chg ms s1 g) (F : Fr g L h1 m) (N : News g L h1 news) (hm : ∀ x ∈ ms, ∃ o, (x, o) ∈ news) (e : h1.get? a = none) : s1.get? a = none := by
  cases q : s1.get? a with
  | none => rfl
  | some o =>
    by_cases hx : a ∈ ms
    · obtain ⟨o', ho⟩ := hm a hx
      have := (N _ ho).1
      rw [show (a, o').1 = a from rfl, e] at this; cases this
    · rw [F.keep _ _ (c a o hx q)] at e; cases e

section
variable {prog : Program} {w : World} {A : Around} {s : Shared} {E : Value → Shared → Prop} {B0 : Heap}
theorem make_node {kd nm ur lc vl : Str} {t1 t2 t3 t4 t5 : Tok} {pv : Value} {par : Option Nat} (R : Room A 4) (O : Ok w B0) (hB : B0.StaysIn s.heap) (hp : parV par pv) :
    wpAny (model prog w) A (call (.ref 134) [.str kd t1, .str nm t2, .str ur t3, .str lc t4, .str vl t5, pv]) (Kept s fun v h' => ∃ nd : Nd, v = .ref nd.a ∧ NewNd s.heap h' nd kd ur lc par) E s := by
  obtain ⟨X, _⟩ := id O
  have X1 := X.keeps hB
  obtain ⟨hh, gs, dr, tk, os⟩ := s
  refine wpAny_call (make_core (makes_of X1 (by k_is)) (looks_findIn X1 (show findIn (hd.heap_39 w.params) (.ref 134) "__init__" = some (some (.ref 131)) by k_is)) (fun self => bind_fn X1 self (by k_is)) (.inl rfl) ?_)
  have hB2 : B0.StaysIn ((hh.push emptyDict).push (instObj 134 hh.objs.size)) := fun b o e => Heap.get?_push_of_some _ (Heap.get?_push_of_some _ (hB b o e))
  have hx : ((hh.push emptyDict).push (instObj 134 hh.objs.size)).get? (hh.objs.size + 1) = some (instObj 134 hh.objs.size) := by heap_get
  have hdx : ((hh.push emptyDict).push (instObj 134 hh.objs.size)).get? hh.objs.size = some (dictOf [] 0) := by heap_get
  have hB0 : B0.get? hh.objs.size = none := by
    cases q : B0.get? hh.objs.size with
    | none => rfl
    | some o => exact absurd (Heap.lt_size (hB _ _ q)) (Nat.lt_irrefl _)
  refine' enterKc (binds := [("self", .ref (hh.objs.size + 1)), ("kind", .str kd t1), ("name", .str nm t2), ("uri", .str ur t3), ("local", .str lc t4), ("value", .str vl t5), ("parent", pv)]) [(hh.objs.size, dictOf [] 0)] O hB2 ?hms (Room.under R) ?ho ?hcd ?hbind ?hloc ?hbody ?hcell ?hco ?hgen ?hk
  case hms => intro p hp; rw [List.mem_singleton.mp hp]; exact ⟨hdx, hB0⟩
  (case ho => k_is); (case hcd => k_is); (case hbind => exact rfl); (case hloc => exact locs rfl); (case hco => exact rfl); (case hgen => exact rfl); (case hk => exact rfl); (case hcell => decide)
  intro A' g L h₁ tk₁ p loose mean mg mb R' cg hBg Og Xg Tg gm F N
  (try k_fold)
  have hxg := cg _ _ (by simp) hx
  have hpv := hp.handed
  k_extra "m_walk"
  rename Fr g L _ _ => F9
  rename News g L _ _ => N9
  have i1 := News.get N9 (.tail _ (.tail _ (.tail _ (.head _))))
  have i2 := News.get N9 (.tail _ (.tail _ (.head _)))
  have i3 := News.get N9 (.tail _ (.head _))
  have old : hh.StaysIn _ := fun b o e => F9.keep b o (cg b o (by simpa using Nat.ne_of_lt (Heap.lt_size e)) (Heap.get?_push_of_some _ (Heap.get?_push_of_some _ e)))
  have fr : ∀ b, hh.objs.size ≤ b → hh.get? b = none := fun b hb => Heap.get?_none_of_le hb
  refine ⟨rfl, ⟨_, _, rfl, old⟩, ⟨hh.objs.size + 1, hh.objs.size, _, _, kd, ur, lc, par, [], []⟩, rfl, ⟨F9.keep _ _ hxg, ⟨_, _, i1, ⟨t1, ?_⟩, ⟨t3, ?_⟩, ⟨t4, ?_⟩, ⟨pv, ?_, hp⟩, ?_, ?_⟩, ⟨[], _, i2, .nil⟩, ⟨[], _, i3, .nil⟩, by simp⟩, rfl, rfl, rfl, rfl, rfl, rfl, fr _ (Nat.le_succ _), fr _ (Nat.le_refl _), fr _ (by dsimp only; exact Nat.le_of_lt (ltA_mem (by with_reducible assumption) (by k_mem))), fr _ (by dsimp only; exact Nat.le_of_lt (ltA_mem (by with_reducible assumption) (by k_mem))), Nat.ne_of_lt (by dsimp only; exact ltA_mem (by with_reducible assumption) (by k_mem))⟩
  all_goals with_unfolding_all rfl
end


theorem word_M19_1 : True := by
  (k_with "call ref" => (k_dflt (((with_reducible show wpAny _ _ (call (Value.ref 134) _) _ _ _); refine' kept_step ?zF ?zN (make_node ?zR ?zO ?zB ?zP) ?_; (case zF => k_asm); (case zN => k_asm); (case zR => exact Room.less (by k_asm) (by exact Nat.le_of_ble_eq_true rfl)); (case zO => k_asm); (case zB => exact Fr.keep (by k_asm)); (case zP => k_asm); intro _ _ _ _ N' _ r'; obtain ⟨_, r', r2'⟩ := r'; (have r5' := news_apart4 (by k_asm) r2'); obtain ⟨_, _, _, _, _, _⟩ := news_node (by k_asm) N' r2'; clear N'; (try simp only [List.forall_mem_cons, List.not_mem_nil, false_implies, implies_true, and_true] at r5'); subst r'; (try k_sweep); (try (revert r2'; intro _)); (try (revert r5'; intro _))))))
  (k_with "m_fact" => first | decide | k_extra "m_om" | (simp; done))
  exact True.intro
noncomputable def foot (rl : Addr) (nds : List Nd) : List Addr := rl :: nds.flatMap fun nd => [nd.c, nd.t]
structure TreeM (h : Heap) (tr rl : Addr) (nds : List Nd) : Prop where
  at_ : TreeAt h tr rl nds
  nodup : (foot rl nds).Nodup

theorem Chg.list {ms : List Addr} {h h' : Heap} {a : Addr} {o : Obj} (c : Chg ms h h') (hl : ∀ x ∈ ms, ∃ its ep, h.get? x = some (listOf its ep)) (e : h.get? a = some o) (ho : ∀ its ep, o ≠ listOf its ep) : h'.get? a = some o :=
  c a o (fun q => by obtain ⟨its, ep, e2⟩ := hl a q; rw [e] at e2; exact ho _ _ (Option.some.inj e2)) e
theorem inst_ne {C d : Addr} {its : Array Value} {ep : Nat} : instObj C d ≠ listOf its ep := fun h => by cases h
theorem dict_ne {es : List DictEntry} {n : Nat} {its : Array Value} {ep : Nat} : dictOf es n ≠ listOf its ep := fun h => by
  have := congrArg Obj.data h
  cases this
theorem NdAt.chg {ms : List Addr} {h h' : Heap} {nd : Nd} (x : NdAt h nd) (c : Chg ms h h') (hl : ∀ x ∈ ms, ∃ its ep, h.get? x = some (listOf its ep)) (hc : nd.c ∉ ms) (ht : nd.t ∉ ms) : NdAt h' nd where
  inst := c.list hl x.inst fun _ _ => inst_ne
  dict := let ⟨es, n, a, b⟩ := x.dict; ⟨es, n, c.list hl a fun _ _ => dict_ne, b⟩
  kids := let ⟨vs, ep, a, b⟩ := x.kids; ⟨vs, ep, c _ _ hc a, b⟩
  attrs := let ⟨vs, ep, a, b⟩ := x.attrs; ⟨vs, ep, c _ _ ht a, b⟩
  small := x.small
theorem foot_c {rl : Addr} {nds : List Nd} {nd : Nd} (h : nd ∈ nds) : nd.c ∈ foot rl nds := .tail _ (List.mem_flatMap.mpr ⟨nd, h, .head _⟩)
theorem foot_t {rl : Addr} {nds : List Nd} {nd : Nd} (h : nd ∈ nds) : nd.t ∈ foot rl nds := .tail _ (List.mem_flatMap.mpr ⟨nd, h, .tail _ (.head _)⟩)
theorem foot_list {h : Heap} {tr rl : Addr} {nds : List Nd} (T : TreeAt h tr rl nds) : ∀ x ∈ foot rl nds, ∃ its ep, h.get? x = some (listOf its ep) := fun x hx => by
  rcases List.mem_cons.mp hx with rfl | hx
  · obtain ⟨ep, e⟩ := T.rows; exact ⟨_, _, e⟩
  · obtain ⟨nd, hn, hx⟩ := List.mem_flatMap.mp hx
    rcases List.mem_cons.mp hx with rfl | hx
    · obtain ⟨vs, ep, e, _⟩ := (T.nodes nd hn).kids; exact ⟨_, _, e⟩
    · rw [List.mem_singleton.mp hx]; obtain ⟨vs, ep, e, _⟩ := (T.nodes nd hn).attrs; exact ⟨_, _, e⟩
theorem rl_ne_c {h : Heap} {tr rl : Addr} {nds : List Nd} (T : TreeM h tr rl nds) {nd : Nd} (hn : nd ∈ nds) : nd.c ≠ rl := fun q => by
  have := (List.nodup_cons.mp T.nodup).1
  exact this (q ▸ List.mem_flatMap.mpr ⟨nd, hn, .head _⟩)
theorem rl_ne_t {h : Heap} {tr rl : Addr} {nds : List Nd} (T : TreeM h tr rl nds) {nd : Nd} (hn : nd ∈ nds) : nd.t ≠ rl := fun q => by
  have := (List.nodup_cons.mp T.nodup).1
  exact this (q ▸ List.mem_flatMap.mpr ⟨nd, hn, .tail _ (.head _)⟩)

/-- a row more -/
theorem TreeM.more {h h' : Heap} {tr rl : Addr} {nds : List Nd} {nd : Nd} {kd ur lc : Str} {par : Option Nat} {ep : Nat} (T : TreeM h tr rl nds) (c : Chg [rl] h h') (n : NewNd h h' nd kd ur lc par) (e : h'.get? rl = some (listOf ((nds ++ [nd]).map fun nd => Value.ref nd.a).toArray ep)) (hs : nds.length < 100) : TreeM h' tr rl (nds ++ [nd]) := by
  have hl : ∀ x ∈ [rl], ∃ its ep, h.get? x = some (listOf its ep) := fun x hx => foot_list T.at_ x (by rw [List.mem_singleton.mp hx]; exact .head _)
  refine ⟨⟨?_, ⟨ep, e⟩, ?_, ?_⟩, ?_⟩
  · obtain ⟨dt, hh, tk, m, a, b⟩ := T.at_.inst
    exact ⟨dt, hh, tk, m, c.list hl a fun _ _ => inst_ne, c.list hl b fun _ _ => dict_ne⟩
  · intro x hx
    rcases List.mem_append.mp hx with hx | hx
    · exact (T.at_.nodes x hx).chg c hl (by simpa using rl_ne_c T hx) (by simpa using rl_ne_t T hx)
    · rw [List.mem_singleton.mp hx]; exact n.at_
  · rw [List.length_append, List.length_singleton]; omega
  · have fresh : ∀ x ∈ foot rl nds, x ≠ nd.c ∧ x ≠ nd.t := fun x hx => by
      obtain ⟨its, ep, e⟩ := foot_list T.at_ x hx
      refine ⟨fun q => ?_, fun q => ?_⟩
      · rw [q, n.fc] at e; cases e
      · rw [q, n.ft] at e; cases e
    show (foot rl (nds ++ [nd])).Nodup
    have e2 : foot rl (nds ++ [nd]) = foot rl nds ++ [nd.c, nd.t] := by simp [foot]
    rw [e2]
    refine List.nodup_append.mpr ⟨T.nodup, by simp [n.ne], fun x hx y hy => ?_⟩
    have := fresh x hx
    rcases List.mem_cons.mp hy with rfl | hy
    · exact this.1
    · rw [List.mem_singleton.mp hy]; exact this.2

section
variable {prog : Program} {w : World} {A : Around} {s : Shared} {E : Value → Shared → Prop} {B0 : Heap} {tr rl : Addr} {nds : List Nd}
theorem new_row_spec {kd nm ur lc vl : Str} {t1 t2 t3 t4 t5 : Tok} {pv : Value} {par : Option Nat} (R : Room A 6) (O : Ok w B0) (hB : B0.StaysIn s.heap) (T : TreeM s.heap tr rl nds) (hf : B0.get? rl = none) (hp : parV par pv) (hs : nds.length < 100) :
    wpAny (model prog w) A (call (.ref 159) [.ref tr, .str kd t1, .str nm t2, .str ur t3, .str lc t4, .str vl t5, pv])
      (Turned [rl] s fun v h' => ∃ nd, (∃ t, v = .int (nds.length : Int) t) ∧ NewNd s.heap h' nd kd ur lc par ∧ ∃ ep, h'.get? rl = some (listOf ((nds ++ [nd]).map fun nd => Value.ref nd.a).toArray ep)) E s := by
  obtain ⟨ep, er⟩ := T.at_.rows
  refine' enterK (binds := [("self", .ref tr), ("kind", .str kd t1), ("name", .str nm t2), ("uri", .str ur t3), ("local", .str lc t4), ("value", .str vl t5), ("parent", pv)]) [(rl, listOf (nds.map fun nd => Value.ref nd.a).toArray ep)] O hB ?hms R ?ho ?hcd ?hbind ?hloc ?hbody ?hcell ?hco ?hgen ?hk
  case hms => intro p hp; rw [List.mem_singleton.mp hp]; exact ⟨er, hf⟩
  (case ho => k_is); (case hcd => k_is); (case hbind => exact rfl); (case hloc => exact locs rfl); (case hco => exact rfl); (case hgen => exact rfl); (case hk => exact rfl); (case hcell => decide)
  intro A' g L h₁ tk₁ p loose mean mg mb R' cg hBg Og Xg Tg gm F N
  (try k_fold)
  have hl : ∀ x ∈ [rl], ∃ its ep, s.heap.get? x = some (listOf its ep) := fun x hx => by rw [List.mem_singleton.mp hx]; exact ⟨_, _, er⟩
  obtain ⟨dt, hh, tk, n, e1, e2⟩ := T.at_.inst
  have e1' := cg.list hl e1 fun _ _ => inst_ne
  have e2' := cg.list hl e2 fun _ _ => dict_ne
  have hpv := hp.handed
  have fz : ∀ a, h₁.get? a = none → s.heap.get? a = none := fun a ha => fresh_to cg F N (fun x hx => ⟨listOf (nds.map fun nd => Value.ref nd.a).toArray ep, by rw [List.mem_singleton.mp hx]; exact .head _⟩) ha
  k_extra "m_walk"
  rename NewNd _ _ _ _ _ _ _ => hn
  rename NdObjs _ _ => ho
  rename Fr g L _ _ => F9
  rename News g L _ _ => N9
  have h5 := News.get N9 (.tail _ (.tail _ (.tail _ (.tail _ (.head _)))))
  refine ⟨_, _, rfl, fun b o e1 e2 => F9.keep b o (cg b o e1 e2), _, ⟨_, by rw [Array.length_toList, Array.size_push, List.size_toArray, List.length_map, Int.natCast_add, Int.natCast_one, Int.add_sub_cancel]; exact rfl⟩, (hn.from fz).to (ho.at_ _ fun p hp => ?_), _, by rw [List.map_append, List.map_singleton, ← List.push_toArray]; exact h5⟩
  exact (N9 p (List.mem_append_left _ hp)).1
end


/-- a frame's base leaves out the objects ms, that stand as they stood -/
structure Off (h g : Heap) (ms : List (Addr × Obj)) : Prop where
  c : Chg (ms.map (·.1)) h g
  e : ∀ p ∈ ms, h.get? p.1 = some p.2
theorem Off.stays {h g h1 : Heap} {L : Addr} {m : Str → Option Value} {ms news : List (Addr × Obj)} (x : Off h g ms) (F : Fr g L h1 m) (N : News g L h1 news) (hm : ∀ p ∈ ms, p ∈ news) : h.StaysIn h1 := fun b o e => by
  by_cases q : b ∈ ms.map (·.1)
  · obtain ⟨p, hp, rfl⟩ := List.mem_map.mp q
    rw [x.e p hp] at e; cases e
    exact (N p (hm p hp)).1
  · exact F.keep b o (x.c b o q e)
theorem TreeM.keeps {h h' : Heap} {tr rl : Addr} {nds : List Nd} (x : TreeM h tr rl nds) (k : h.StaysIn h') : TreeM h' tr rl nds := ⟨x.at_.keeps k, x.nodup⟩
theorem parV_none : parV none .none := rfl
theorem parV_int {p : Nat} {t : Tok} : parV (some p) (.int (p : Int) t) := ⟨t, rfl⟩
noncomputable abbrev rowsObj (nds : List Nd) (ep : Nat) : Obj := listOf (nds.map fun nd => Value.ref nd.a).toArray ep

section
variable {prog : Program} {w : World} {A : Around} {s : Shared} {E : Value → Shared → Prop} {tr rl : Addr} {nds : List Nd}
theorem new_row_step {g : Heap} {L : Addr} {m : Str → Option Value} {news : List (Addr × Obj)} {gf : Obj → List (Addr × Obj)} {ep : Nat} {kd nm ur lc vl : Str} {t1 t2 t3 t4 t5 : Tok} {pv : Value} {par : Option Nat} {Q : Value → Shared → Prop}
    (R : Room A 6) (O : Ok w g) (F : Fr g L s.heap m) (N : News g L s.heap news) (U : UpdF rl (rowsObj nds ep) news gf) (T : TreeM s.heap tr rl nds) (hp : parV par pv) (hs : nds.length < 100)
    (k : ∀ nd o1 o2 o3 o4 t h' tk ep', NewNd s.heap h' nd kd ur lc par → NdObjs nd [(nd.a, o1), (nd.d, o2), (nd.c, o3), (nd.t, o4)] → (∀ p ∈ news, @Ne Nat nd.a p.1 ∧ @Ne Nat nd.d p.1 ∧ @Ne Nat nd.c p.1 ∧ @Ne Nat nd.t p.1) → Fr g L h' m →
      News g L h' ((nd.a, o1) :: (nd.d, o2) :: (nd.c, o3) :: (nd.t, o4) :: gf (rowsObj (nds ++ [nd]) ep')) → Q (.int (nds.length : Int) t) { s with heap := h', toks := tk }) :
    wpAny (model prog w) A (call (.ref 159) [.ref tr, .str kd t1, .str nm t2, .str ur t3, .str lc t4, .str vl t5, pv]) Q E s := by
  have hm := UpdF.mem U
  refine turned_step (α := Value) (new_row_spec R O F.keep T (N _ hm).2.2 hp hs) fun v h' tk c r => ?_
  obtain ⟨nd, ⟨t, rfl⟩, hn, ep', e⟩ := r
  have F' := fr_turned F N hm c
  obtain ⟨o1, o2, o3, o4, X, N'⟩ := news_node F (news_turned N U c e) hn
  exact k nd o1 o2 o3 o4 t h' tk ep' hn X (news_apart4 N hn) F' N'
end
theorem word_M20_1 : True := by
  (k_with "call ref" => (k_dflt (((with_reducible show wpAny _ _ (call (Value.ref 166) _) _ _ _); refine' kept_val ?zF ?zN (row_spec ?zR ?zO ?zB ?zT ?zk) ?_; (case zF => k_asm); (case zN => k_asm); (case zR => exact Room.less (by k_asm) (by exact Nat.le_of_ble_eq_true rfl)); (case zO => k_asm); (case zB => exact Fr.keep (by k_asm)); (case zT => first | exact TreeAt.keeps (by k_asm) (Fr.keep (by k_asm)) | exact TreeAt.keeps (by k_asm) (Off.stays (by k_asm) (by k_asm) (by k_asm) (by first | exact sub_two (by k_mem) (by k_mem) | exact List.forall_mem_singleton.mpr (by k_mem)))); (case zk => k_asm); intro _ _ _ _ _; (try k_sweep)))))
  (k_with "call ref" => (k_dflt (((with_reducible show wpAny _ _ (call (Value.ref 159) _) _ _ _); refine' new_row_step ?zR ?zO ?zF ?zN ?zU ?zT ?zp ?zs ?_; (case zF => k_asm); (case zN => k_asm); (case zR => exact Room.less (by k_asm) (by exact Nat.le_of_ble_eq_true rfl)); (case zO => k_asm); (case zU => k_updF); (case zT => exact TreeM.keeps (by k_asm) (Off.stays (by k_asm) (by k_asm) (by k_asm) (by first | exact sub_two (by k_mem) (by k_mem) | exact List.forall_mem_singleton.mpr (by k_mem)))); (case zp => first | assumption | exact parV_none | exact parV_int); (case zs => omega); intro _ _ _ _ _ _ _ _ _ _ _ r5' _ _; (try simp only [List.forall_mem_cons, List.not_mem_nil, false_implies, implies_true, and_true] at r5'); (try k_sweep); (try (revert r5'; intro _))))))
  (k_with "m_fact" => first | assumption | (simp only [*]; done))
  exact True.intro
theorem tup_K {K : Frag} {g h : Heap} {a : Addr} {items : Array Value} {n : Nat} {od : Option Addr} {sl : Array (Option Value)} (X : K.In g) (k : g.StaysIn h) (e : K.lookup a = some ⟨.type "tuple", od, .seq items n, sl⟩) : IsTup h a items := ⟨_, k _ _ (X _ _ e), rfl, n, rfl⟩
theorem word_M20_2 : True := by
  (k_with "compareOp NotIn str ref" => (k_dflt ((refine' notin_tuple_strs ?za ?zb ?_; (case za => exact tup_K (by k_asm) (Fr.keep (by k_asm)) (by k_is)); (case zb => with_unfolding_all exact StrsAre.cons _ _ (StrsAre.cons _ _ StrsAre.nil))))))
  exact True.intro
noncomputable def addKid (n : Nat) (nd : Nd) : Nd := { nd with kids := nd.kids ++ [n] }
noncomputable def kidAt (p n : Nat) (nds : List Nd) : List Nd := nds.modify p (addKid n)
theorem kidAt_get {p n j : Nat} {nds : List Nd} : (kidAt p n nds)[j]? = (nds[j]?).map fun nd => if p = j then addKid n nd else nd := by
  unfold kidAt; rw [List.getElem?_modify]
  split
  · rfl
  · cases nds[j]? <;> rfl
theorem kidAt_length {p n : Nat} {nds : List Nd} : (kidAt p n nds).length = nds.length := by unfold kidAt; rw [List.length_modify]
theorem kidAt_map {α : Type} {f : Nd → α} {p n : Nat} {nds : List Nd} (h : ∀ nd, f (addKid n nd) = f nd) : (kidAt p n nds).map f = nds.map f := by
  apply List.ext_getElem?
  intro j
  rw [List.getElem?_map, List.getElem?_map, kidAt_get]
  cases nds[j]? with
  | none => rfl
  | some x =>
    simp only [Option.map_some]
    split
    · rw [h]
    · rfl
theorem foot_eq {rl : Addr} {nds nds' : List Nd} (h : nds'.map (fun nd => (nd.c, nd.t)) = nds.map fun nd => (nd.c, nd.t)) : foot rl nds' = foot rl nds := by
  have e : ∀ l : List Nd, (l.flatMap fun nd => [nd.c, nd.t]) = (l.map fun nd => (nd.c, nd.t)).flatMap fun q => [q.1, q.2] := fun l => by rw [List.flatMap_map]
  unfold foot
  rw [e, e, h]
theorem flat_apart : ∀ {nds : List Nd} {i j : Nat} {x y : Nd}, (nds.flatMap fun nd => [nd.c, nd.t]).Nodup → nds[i]? = some x → nds[j]? = some y → i ≠ j → x.c ≠ y.c ∧ x.t ≠ y.c ∧ x.c ≠ y.t ∧ x.t ≠ y.t
  | [], _, _, _, _, _, e, _, _ => by simp at e
  | a :: r, 0, 0, _, _, _, _, _, h => absurd rfl h
  | a :: r, 0, j + 1, x, y, hn, e1, e2, _ => by
    simp only [List.getElem?_cons_zero, Option.some.injEq] at e1
    subst e1
    simp only [List.getElem?_cons_succ] at e2
    have hy := List.mem_of_getElem? e2
    have h2 := (List.nodup_append.mp (show ([a.c, a.t] ++ r.flatMap fun nd => [nd.c, nd.t]).Nodup from hn)).2.2
    have m1 : y.c ∈ r.flatMap fun nd => [nd.c, nd.t] := List.mem_flatMap.mpr ⟨y, hy, .head _⟩
    have m2 : y.t ∈ r.flatMap fun nd => [nd.c, nd.t] := List.mem_flatMap.mpr ⟨y, hy, .tail _ (.head _)⟩
    exact ⟨h2 _ (.head _) _ m1, h2 _ (.tail _ (.head _)) _ m1, h2 _ (.head _) _ m2, h2 _ (.tail _ (.head _)) _ m2⟩
  | a :: r, i + 1, 0, x, y, hn, e1, e2, _ => by
    simp only [List.getElem?_cons_zero, Option.some.injEq] at e2
    subst e2
    simp only [List.getElem?_cons_succ] at e1
    have hx := List.mem_of_getElem? e1
    have h2 := (List.nodup_append.mp (show ([a.c, a.t] ++ r.flatMap fun nd => [nd.c, nd.t]).Nodup from hn)).2.2
    have m1 : x.c ∈ r.flatMap fun nd => [nd.c, nd.t] := List.mem_flatMap.mpr ⟨x, hx, .head _⟩
    have m2 : x.t ∈ r.flatMap fun nd => [nd.c, nd.t] := List.mem_flatMap.mpr ⟨x, hx, .tail _ (.head _)⟩
    exact ⟨(h2 _ (.head _) _ m1).symm, (h2 _ (.head _) _ m2).symm, (h2 _ (.tail _ (.head _)) _ m1).symm, (h2 _ (.tail _ (.head _)) _ m2).symm⟩
  | a :: r, i + 1, j + 1, x, y, hn, e1, e2, h => by
    simp only [List.getElem?_cons_succ] at e1 e2
    exact flat_apart (List.nodup_append.mp (show ([a.c, a.t] ++ r.flatMap fun nd => [nd.c, nd.t]).Nodup from hn)).2.1 e1 e2 fun q => h (by rw [q])
theorem flat_self : ∀ {nds : List Nd} {i : Nat} {x : Nd}, (nds.flatMap fun nd => [nd.c, nd.t]).Nodup → nds[i]? = some x → x.c ≠ x.t
  | [], _, _, _, e => by simp at e
  | a :: r, 0, x, hn, e1 => by
    simp only [List.getElem?_cons_zero, Option.some.injEq] at e1
    subst e1
    have h2 := (List.nodup_append.mp (show ([a.c, a.t] ++ r.flatMap fun nd => [nd.c, nd.t]).Nodup from hn)).1
    simpa using h2
  | a :: r, i + 1, x, hn, e1 => by
    simp only [List.getElem?_cons_succ] at e1
    exact flat_self (List.nodup_append.mp (show ([a.c, a.t] ++ r.flatMap fun nd => [nd.c, nd.t]).Nodup from hn)).2.1 e1

theorem treeM_kid {h h' : Heap} {tr rl : Addr} {nds : List Nd} {nd ndp : Nd} {kd ur lc : Str} {par : Option Nat} {p ep : Nat} (T : TreeM h tr rl nds) (hp : nds[p]? = some ndp) (c : Chg [rl, ndp.c] h h') (n : NewNd h h' nd kd ur lc par)
    (e : h'.get? rl = some (rowsObj (nds ++ [nd]) ep)) (hk : ∃ vs ep, h'.get? ndp.c = some (listOf vs.toArray ep) ∧ IntsAre vs (natZ (ndp.kids ++ [nds.length]))) (hs : nds.length < 100) (hks : ndp.kids.length < 100) : TreeM h' tr rl (kidAt p nds.length nds ++ [nd]) := by
  have hmem := List.mem_of_getElem? hp
  have nd0 := (List.nodup_cons.mp T.nodup).2
  have hl : ∀ x ∈ [rl, ndp.c], ∃ its ep, h.get? x = some (listOf its ep) := fun x hx => by
    rcases List.mem_cons.mp hx with rfl | hx
    · exact foot_list T.at_ _ (.head _)
    · rw [List.mem_singleton.mp hx]; exact foot_list T.at_ _ (foot_c hmem)
  have tcp : ndp.t ∉ [rl, ndp.c] := fun q => by
    rcases List.mem_cons.mp q with q | q
    · exact rl_ne_t T hmem q
    · exact flat_self nd0 hp (List.mem_singleton.mp q).symm
  refine ⟨⟨?_, ⟨ep, ?_⟩, ?_, ?_⟩, ?_⟩
  · obtain ⟨dt, hh, tk, m, a, b⟩ := T.at_.inst
    exact ⟨dt, hh, tk, m, c.list hl a fun _ _ => inst_ne, c.list hl b fun _ _ => dict_ne⟩
  · rw [e, List.map_append, kidAt_map (f := fun nd => Value.ref nd.a) (fun _ => rfl)]; rw [rowsObj, List.map_append]
  · intro x hx
    rcases List.mem_append.mp hx with hx | hx
    · obtain ⟨j, hj⟩ := List.mem_iff_getElem?.mp hx
      rw [kidAt_get] at hj
      obtain ⟨y, hy, rfl⟩ := Option.map_eq_some_iff.mp hj
      by_cases hpj : p = j
      · subst hpj
        rw [hp] at hy; cases hy
        rw [if_pos rfl]
        have N0 := T.at_.nodes ndp hmem
        exact ⟨c.list hl N0.inst fun _ _ => inst_ne, let ⟨es, m, a, b⟩ := N0.dict; ⟨es, m, c.list hl a fun _ _ => dict_ne, b⟩, hk, let ⟨vs, ep, a, b⟩ := N0.attrs; ⟨vs, ep, c _ _ tcp a, b⟩, by
          show (ndp.kids ++ [nds.length]).length ≤ 100; rw [List.length_append, List.length_singleton]; omega, N0.small.2⟩
      · rw [if_neg hpj]
        have hym := List.mem_of_getElem? hy
        have ap := flat_apart nd0 hy hp (Ne.symm hpj)
        exact (T.at_.nodes y hym).chg c hl (fun q => by rcases List.mem_cons.mp q with q | q; exact rl_ne_c T hym q; exact ap.1 (List.mem_singleton.mp q)) (fun q => by rcases List.mem_cons.mp q with q | q; exact rl_ne_t T hym q; exact ap.2.1 (List.mem_singleton.mp q))
    · rw [List.mem_singleton.mp hx]; exact n.at_
  · rw [List.length_append, List.length_singleton, kidAt_length]; omega
  · have fresh : ∀ x ∈ foot rl nds, x ≠ nd.c ∧ x ≠ nd.t := fun x hx => by
      obtain ⟨its, ep, e⟩ := foot_list T.at_ x hx
      refine ⟨fun q => ?_, fun q => ?_⟩
      · rw [q, n.fc] at e; cases e
      · rw [q, n.ft] at e; cases e
    show (foot rl (kidAt p nds.length nds ++ [nd])).Nodup
    have e2 : foot rl (kidAt p nds.length nds ++ [nd]) = foot rl nds ++ [nd.c, nd.t] := by
      rw [← foot_eq (rl := rl) (nds := nds) (nds' := kidAt p nds.length nds) (kidAt_map (fun _ => rfl))]; simp [foot]
    rw [e2]
    refine List.nodup_append.mpr ⟨T.nodup, by simp [n.ne], fun x hx y hy => ?_⟩
    have := fresh x hx
    rcases List.mem_cons.mp hy with rfl | hy
    · exact this.1
    · rw [List.mem_singleton.mp hy]; exact this.2

section
variable {prog : Program} {w : World} {A : Around} {s : Shared} {E : Value → Shared → Prop} {B0 : Heap} {tr rl : Addr} {nds : List Nd}
theorem add_child_spec {kd nm ur lc vl : Str} {t0 t1 t2 t3 t4 t5 : Tok} {p : Nat} {ndp : Nd} (R : Room A 8) (O : Ok w B0) (hB : B0.StaysIn s.heap) (T : TreeM s.heap tr rl nds) (hs : nds.length < 100)
    (hp : nds[p]? = some ndp) (hf1 : B0.get? rl = none) (hf2 : B0.get? ndp.c = none) (hk : ndp.kids.length < 100) (hpk : ([Str.ofString "root", Str.ofString "element"].any fun x => x == ndp.kind) = true) :
    wpAny (model prog w) A (call (.ref 180) [.ref tr, .int (p : Int) t0, .str kd t1, .str nm t2, .str ur t3, .str lc t4, .str vl t5])
      (Turned [rl, ndp.c] s fun v h' => ∃ nd, (∃ t, v = .int (nds.length : Int) t) ∧ NewNd s.heap h' nd kd ur lc (some p) ∧ TreeM h' tr rl (kidAt p nds.length nds ++ [nd])) E s := by
  have hmem := List.mem_of_getElem? hp
  have TA := T.at_
  obtain ⟨ep, er⟩ := TA.rows
  obtain ⟨n1, ⟨es, nn, n2, ⟨u1, n3⟩, ⟨u2, n4⟩, ⟨u3, n5⟩, ⟨pv, n6, n6'⟩, n7, n8⟩, ⟨kvs, kep, n9, n9'⟩, ⟨avs, aep, n10, n10'⟩, n11, n12⟩ := id (TA.nodes ndp hmem)
  have hrc : @Ne Nat ndp.c rl := rl_ne_c T hmem
  refine' enterK (binds := [("self", .ref tr), ("parent", .int (p : Int) t0), ("kind", .str kd t1), ("name", .str nm t2), ("uri", .str ur t3), ("local", .str lc t4), ("value", .str vl t5)]) [(rl, rowsObj nds ep), (ndp.c, listOf kvs.toArray kep)] O hB ?hms R ?ho ?hcd ?hbind ?hloc ?hbody ?hcell ?hco ?hgen ?hk
  case hms =>
    intro p hp
    rcases List.mem_cons.mp hp with rfl | hp
    · exact ⟨er, hf1⟩
    · rw [List.mem_singleton.mp hp]; exact ⟨n9, hf2⟩
  (case ho => k_is); (case hcd => k_is); (case hbind => exact rfl); (case hloc => exact locs rfl); (case hco => exact rfl); (case hgen => exact rfl); (case hk => exact rfl); (case hcell => decide)
  intro A' g L h₁ tk₁ pr loose mean mg mb R' cg hBg Og Xg Tg gm F N
  (try k_fold)
  have hl : ∀ x ∈ [rl, ndp.c], ∃ its ep, s.heap.get? x = some (listOf its ep) := fun x hx => by
    rcases List.mem_cons.mp hx with rfl | hx
    · exact ⟨_, _, er⟩
    · rw [List.mem_singleton.mp hx]; exact ⟨_, _, n9⟩
  have X1 : Off s.heap g [(rl, rowsObj nds ep), (ndp.c, listOf kvs.toArray kep)] := ⟨cg, fun p hp => by
    rcases List.mem_cons.mp hp with rfl | hp
    · exact er
    · rw [List.mem_singleton.mp hp]; exact n9⟩
  have fz : ∀ a, h₁.get? a = none → s.heap.get? a = none := fun a ha => fresh_to cg F N (fun x hx => by
    obtain ⟨p, hp, rfl⟩ := List.mem_map.mp hx
    exact ⟨p.2, hp⟩) ha
  obtain ⟨dt, hh, tk, n, e1, e2⟩ := TA.inst
  have e1' := cg.list hl e1 fun _ _ => inst_ne
  have e2' := cg.list hl e2 fun _ _ => dict_ne
  have n1' := cg.list hl n1 fun _ _ => inst_ne
  have n2' := cg.list hl n2 fun _ _ => dict_ne
  have hrow : ∀ {h h' : Heap} {nd : Nd} {k u l : Str} {q : Option Nat}, NewNd h h' nd k u l q → ((nds ++ [nd]).map fun (nd : Nd) => Value.ref nd.a)[((p : Nat) : Int).toNat]? = some (.ref ndp.a) := fun _ => by
    rw [Int.toNat_natCast, List.getElem?_map, List.getElem?_append_left (List.getElem?_eq_some_iff.mp hp).1, hp]; rfl
  have hkl := n9'.length
  simp only [List.length_map] at hkl
  k_extra "m_walk"
  rename NewNd _ _ _ _ _ _ _ => hn
  have h2 := hrow hn
  have hlt := (List.getElem?_eq_some_iff.mp hp).1
  k_extra "m_walk"
  rename NdObjs _ _ => ho
  rename Fr g L _ _ => F9
  rename News g L _ _ => N9
  have h5 := News.get N9 (.tail _ (.tail _ (.tail _ (.tail _ (.head _)))))
  have h6 := News.get N9 (.tail _ (.tail _ (.tail _ (.tail _ (.tail _ (.head _))))))
  have cf : Chg [rl, ndp.c] s.heap _ := fun b o e1 e2 => F9.keep b o (cg b o e1 e2)
  have hn2 := (hn.from fun a ha => fz a (fresh_back (h := h₁) (by assumption) ha)).to (ho.at_ _ fun p hp => (N9 p (List.mem_append_left _ hp)).1)
  rw [List.push_toArray] at h6
  exact ⟨_, _, rfl, cf, _, ⟨_, rfl⟩, hn2, treeM_kid T hp cf hn2 h5 ⟨_, _, h6, by rw [natZ, List.map_append]; exact IntsAre.append n9' (.cons _ _ .nil)⟩ hs hk⟩
end


section
variable {prog : Program} {w : World} {A : Around} {s : Shared} {E : Value → Shared → Prop} {B0 : Heap} {tr rl : Addr} {nds : List Nd}
theorem add_element_spec {nm ur lc : Str} {t0 t2 t3 t4 : Tok} {p : Nat} {ndp : Nd} (R : Room A 10) (O : Ok w B0) (hB : B0.StaysIn s.heap) (T : TreeM s.heap tr rl nds) (hs : nds.length < 100)
    (hp : nds[p]? = some ndp) (hf1 : B0.get? rl = none) (hf2 : B0.get? ndp.c = none) (hk : ndp.kids.length < 100) (hpk : ([Str.ofString "root", Str.ofString "element"].any fun x => x == ndp.kind) = true) :
    wpAny (model prog w) A (call (.ref 187) [.ref tr, .int (p : Int) t0, .str nm t2, .str ur t3, .str lc t4])
      (Turned [rl, ndp.c] s fun v h' => ∃ nd, (∃ t, v = .int (nds.length : Int) t) ∧ NewNd s.heap h' nd (Str.ofString "element") ur lc (some p) ∧ TreeM h' tr rl (kidAt p nds.length nds ++ [nd])) E s := by
  have hmem := List.mem_of_getElem? hp
  have TA := T.at_
  obtain ⟨ep, er⟩ := TA.rows
  obtain ⟨kvs, kep, n9, n9'⟩ := (TA.nodes ndp hmem).kids
  refine' enterK (binds := [("self",.ref tr),("parent",.int (p : Int) t0),("name",.str nm t2),("uri",.str ur t3),("local",.str lc t4)]) [(rl, rowsObj nds ep), (ndp.c, listOf kvs.toArray kep)] O hB ?hms R ?ho ?hcd ?hbind ?hloc ?hbody ?hcell ?hco ?hgen ?hk
  case hms =>
    intro p hp
    rcases List.mem_cons.mp hp with rfl | hp
    · exact ⟨er, hf1⟩
    · rw [List.mem_singleton.mp hp]; exact ⟨n9, hf2⟩
  (case ho => k_is); (case hcd => k_is); (case hbind => exact rfl); (case hloc => exact locs rfl); (case hco => exact rfl); (case hgen => exact rfl); (case hk => exact rfl); (case hcell => decide)
  intro A' g L h₁ tk₁ pr loose mean mg mb R' cg hBg Og Xg Tg gm F N
  (try k_fold)
  have hl : ∀ x ∈ [rl, ndp.c], ∃ its ep, s.heap.get? x = some (listOf its ep) := fun x hx => by
    rcases List.mem_cons.mp hx with rfl | hx
    · exact ⟨_, _, er⟩
    · rw [List.mem_singleton.mp hx]; exact ⟨_, _, n9⟩
  have X1 : Off s.heap g [(rl, rowsObj nds ep), (ndp.c, listOf kvs.toArray kep)] := ⟨cg, fun p hp => by
    rcases List.mem_cons.mp hp with rfl | hp
    · exact er
    · rw [List.mem_singleton.mp hp]; exact n9⟩
  obtain ⟨dt, hh, tk, n, e1, e2⟩ := TA.inst
  have e1' := cg.list hl e1 fun _ _ => inst_ne
  have e2' := cg.list hl e2 fun _ _ => dict_ne
  have fz : ∀ a, h₁.get? a = none → s.heap.get? a = none := fun a ha => fresh_to cg F N (fun x hx => by
    obtain ⟨p, hp, rfl⟩ := List.mem_map.mp hx
    exact ⟨p.2, hp⟩) ha
  have T1 : TreeM h₁ tr rl nds := T.keeps (X1.stays F N fun p hp => hp)
  have g1 := gm _ (.head _)
  have g2 := gm _ (.tail _ (.head _))
  k_extra "m_walk"
  refine turned_step (α := Value) (add_child_spec (Room.less R' (by omega)) Og (Fr.keep (by assumption)) T1 hs hp g1 g2 hk hpk) fun v h' tk' c r => ?_
  obtain ⟨nd, hv, hn, hT⟩ := r
  exact ⟨_, _, rfl, fun b o e1 e2 => c b o e1 (Fr.keep (by assumption) b o (cg b o e1 e2)), nd, hv, hn.from fz, hT⟩
theorem add_text_spec {vl : Str} {t0 t5 : Tok} {p : Nat} {ndp : Nd} (R : Room A 10) (O : Ok w B0) (hB : B0.StaysIn s.heap) (T : TreeM s.heap tr rl nds) (hs : nds.length < 100)
    (hp : nds[p]? = some ndp) (hf1 : B0.get? rl = none) (hf2 : B0.get? ndp.c = none) (hk : ndp.kids.length < 100) (hpk : ([Str.ofString "root", Str.ofString "element"].any fun x => x == ndp.kind) = true) :
    wpAny (model prog w) A (call (.ref 194) [.ref tr, .int (p : Int) t0, .str vl t5])
      (Turned [rl, ndp.c] s fun v h' => ∃ nd, (∃ t, v = .int (nds.length : Int) t) ∧ NewNd s.heap h' nd (Str.ofString "text") (Str.ofString "") (Str.ofString "") (some p) ∧ TreeM h' tr rl (kidAt p nds.length nds ++ [nd])) E s := by
  have hmem := List.mem_of_getElem? hp
  have TA := T.at_
  obtain ⟨ep, er⟩ := TA.rows
  obtain ⟨kvs, kep, n9, n9'⟩ := (TA.nodes ndp hmem).kids
  refine' enterK (binds := [("self",.ref tr),("parent",.int (p : Int) t0),("value",.str vl t5)]) [(rl, rowsObj nds ep), (ndp.c, listOf kvs.toArray kep)] O hB ?hms R ?ho ?hcd ?hbind ?hloc ?hbody ?hcell ?hco ?hgen ?hk
  case hms =>
    intro p hp
    rcases List.mem_cons.mp hp with rfl | hp
    · exact ⟨er, hf1⟩
    · rw [List.mem_singleton.mp hp]; exact ⟨n9, hf2⟩
  (case ho => k_is); (case hcd => k_is); (case hbind => exact rfl); (case hloc => exact locs rfl); (case hco => exact rfl); (case hgen => exact rfl); (case hk => exact rfl); (case hcell => decide)
  intro A' g L h₁ tk₁ pr loose mean mg mb R' cg hBg Og Xg Tg gm F N
  (try k_fold)
  have hl : ∀ x ∈ [rl, ndp.c], ∃ its ep, s.heap.get? x = some (listOf its ep) := fun x hx => by
    rcases List.mem_cons.mp hx with rfl | hx
    · exact ⟨_, _, er⟩
    · rw [List.mem_singleton.mp hx]; exact ⟨_, _, n9⟩
  have X1 : Off s.heap g [(rl, rowsObj nds ep), (ndp.c, listOf kvs.toArray kep)] := ⟨cg, fun p hp => by
    rcases List.mem_cons.mp hp with rfl | hp
    · exact er
    · rw [List.mem_singleton.mp hp]; exact n9⟩
  obtain ⟨dt, hh, tk, n, e1, e2⟩ := TA.inst
  have e1' := cg.list hl e1 fun _ _ => inst_ne
  have e2' := cg.list hl e2 fun _ _ => dict_ne
  have fz : ∀ a, h₁.get? a = none → s.heap.get? a = none := fun a ha => fresh_to cg F N (fun x hx => by
    obtain ⟨p, hp, rfl⟩ := List.mem_map.mp hx
    exact ⟨p.2, hp⟩) ha
  have T1 : TreeM h₁ tr rl nds := T.keeps (X1.stays F N fun p hp => hp)
  have g1 := gm _ (.head _)
  have g2 := gm _ (.tail _ (.head _))
  k_extra "m_walk"
  refine turned_step (α := Value) (add_child_spec (Room.less R' (by omega)) Og (Fr.keep (by assumption)) T1 hs hp g1 g2 hk hpk) fun v h' tk' c r => ?_
  obtain ⟨nd, hv, hn, hT⟩ := r
  exact ⟨_, _, rfl, fun b o e1 e2 => c b o e1 (Fr.keep (by assumption) b o (cg b o e1 e2)), nd, hv, hn.from fz, hT⟩
theorem new_root_spec (R : Room A 10) (O : Ok w B0) (hB : B0.StaysIn s.heap) (T : TreeM s.heap tr rl nds) (hs : nds.length < 100) (hf1 : B0.get? rl = none) :
    wpAny (model prog w) A (call (.ref 173) [.ref tr])
      (Turned [rl] s fun v h' => ∃ nd, (∃ t, v = .int (nds.length : Int) t) ∧ NewNd s.heap h' nd (Str.ofString "root") (Str.ofString "") (Str.ofString "") none ∧ TreeM h' tr rl (nds ++ [nd])) E s := by
  have TA := T.at_
  obtain ⟨ep, er⟩ := TA.rows
  refine' enterK (binds := [("self", .ref tr)]) [(rl, rowsObj nds ep)] O hB ?hms R ?ho ?hcd ?hbind ?hloc ?hbody ?hcell ?hco ?hgen ?hk
  case hms => intro p hp; rw [List.mem_singleton.mp hp]; exact ⟨er, hf1⟩
  (case ho => k_is); (case hcd => k_is); (case hbind => exact rfl); (case hloc => exact locs rfl); (case hco => exact rfl); (case hgen => exact rfl); (case hk => exact rfl); (case hcell => decide)
  intro A' g L h₁ tk₁ pr loose mean mg mb R' cg hBg Og Xg Tg gm F N
  (try k_fold)
  have hl : ∀ x ∈ [rl], ∃ its ep, s.heap.get? x = some (listOf its ep) := fun x hx => by
    rw [List.mem_singleton.mp hx]; exact ⟨_, _, er⟩
  have X1 : Off s.heap g [(rl, rowsObj nds ep)] := ⟨cg, fun p hp => by rw [List.mem_singleton.mp hp]; exact er⟩
  obtain ⟨dt, hh, tk, n, e1, e2⟩ := TA.inst
  have e1' := cg.list hl e1 fun _ _ => inst_ne
  have e2' := cg.list hl e2 fun _ _ => dict_ne
  have fz : ∀ a, h₁.get? a = none → s.heap.get? a = none := fun a ha => fresh_to cg F N (fun x hx => by
    obtain ⟨p, hp, rfl⟩ := List.mem_map.mp hx
    exact ⟨p.2, hp⟩) ha
  have T1 : TreeM h₁ tr rl nds := T.keeps (X1.stays F N fun p hp => hp)
  have g1 := gm _ (.head _)
  k_extra "m_walk"
  refine turned_step (α := Value) (new_row_spec (Room.less R' (by omega)) Og (Fr.keep (by assumption)) T1 g1 parV_none hs) fun v h' tk' c r => ?_
  obtain ⟨nd, hv, hn, ep', e⟩ := r
  have hn2 := hn.from fz
  have cf : Chg [rl] s.heap h' := fun b o e1 e2 => c b o e1 (Fr.keep (by assumption) b o (cg b o e1 e2))
  exact ⟨_, _, rfl, cf, nd, hv, hn2, T.more cf hn2 e hs⟩
end


noncomputable def addAtt (n : Nat) (nd : Nd) : Nd := { nd with attrs := nd.attrs ++ [n] }
noncomputable def attAt (p n : Nat) (nds : List Nd) : List Nd := nds.modify p (addAtt n)
theorem attAt_get {p n j : Nat} {nds : List Nd} : (attAt p n nds)[j]? = (nds[j]?).map fun nd => if p = j then addAtt n nd else nd := by
  unfold attAt; rw [List.getElem?_modify]
  split
  · rfl
  · cases nds[j]? <;> rfl
theorem attAt_length {p n : Nat} {nds : List Nd} : (attAt p n nds).length = nds.length := by unfold attAt; rw [List.length_modify]
theorem attAt_map {α : Type} {f : Nd → α} {p n : Nat} {nds : List Nd} (h : ∀ nd, f (addAtt n nd) = f nd) : (attAt p n nds).map f = nds.map f := by
  apply List.ext_getElem?
  intro j
  rw [List.getElem?_map, List.getElem?_map, attAt_get]
  cases nds[j]? with
  | none => rfl
  | some x =>
    simp only [Option.map_some]
    split
    · rw [h]
    · rfl
theorem treeM_att {h h' : Heap} {tr rl : Addr} {nds : List Nd} {nd ndp : Nd} {kd ur lc : Str} {par : Option Nat} {p ep : Nat} (T : TreeM h tr rl nds) (hp : nds[p]? = some ndp) (c : Chg [rl, ndp.t] h h') (n : NewNd h h' nd kd ur lc par)
    (e : h'.get? rl = some (rowsObj (nds ++ [nd]) ep)) (hk : ∃ vs ep, h'.get? ndp.t = some (listOf vs.toArray ep) ∧ IntsAre vs (natZ (ndp.attrs ++ [nds.length]))) (hs : nds.length < 100) (hks : ndp.attrs.length < 100) : TreeM h' tr rl (attAt p nds.length nds ++ [nd]) := by
  have hmem := List.mem_of_getElem? hp
  have nd0 := (List.nodup_cons.mp T.nodup).2
  have hl : ∀ x ∈ [rl, ndp.t], ∃ its ep, h.get? x = some (listOf its ep) := fun x hx => by
    rcases List.mem_cons.mp hx with rfl | hx
    · exact foot_list T.at_ _ (.head _)
    · rw [List.mem_singleton.mp hx]; exact foot_list T.at_ _ (foot_t hmem)
  have tcp : ndp.c ∉ [rl, ndp.t] := fun q => by
    rcases List.mem_cons.mp q with q | q
    · exact rl_ne_c T hmem q
    · exact flat_self nd0 hp (List.mem_singleton.mp q)
  refine ⟨⟨?_, ⟨ep, ?_⟩, ?_, ?_⟩, ?_⟩
  · obtain ⟨dt, hh, tk, m, a, b⟩ := T.at_.inst
    exact ⟨dt, hh, tk, m, c.list hl a fun _ _ => inst_ne, c.list hl b fun _ _ => dict_ne⟩
  · rw [e, List.map_append, attAt_map (f := fun nd => Value.ref nd.a) (fun _ => rfl)]; rw [rowsObj, List.map_append]
  · intro x hx
    rcases List.mem_append.mp hx with hx | hx
    · obtain ⟨j, hj⟩ := List.mem_iff_getElem?.mp hx
      rw [attAt_get] at hj
      obtain ⟨y, hy, rfl⟩ := Option.map_eq_some_iff.mp hj
      by_cases hpj : p = j
      · subst hpj
        rw [hp] at hy; cases hy
        rw [if_pos rfl]
        have N0 := T.at_.nodes ndp hmem
        exact ⟨c.list hl N0.inst fun _ _ => inst_ne, let ⟨es, m, a, b⟩ := N0.dict; ⟨es, m, c.list hl a fun _ _ => dict_ne, b⟩, let ⟨vs, ep, a, b⟩ := N0.kids; ⟨vs, ep, c _ _ tcp a, b⟩, hk, N0.small.1, by
          show (ndp.attrs ++ [nds.length]).length ≤ 100; rw [List.length_append, List.length_singleton]; omega⟩
      · rw [if_neg hpj]
        have hym := List.mem_of_getElem? hy
        have ap := flat_apart nd0 hy hp (Ne.symm hpj)
        exact (T.at_.nodes y hym).chg c hl (fun q => by rcases List.mem_cons.mp q with q | q; exact rl_ne_c T hym q; exact ap.2.2.1 (List.mem_singleton.mp q)) (fun q => by rcases List.mem_cons.mp q with q | q; exact rl_ne_t T hym q; exact ap.2.2.2 (List.mem_singleton.mp q))
    · rw [List.mem_singleton.mp hx]; exact n.at_
  · rw [List.length_append, List.length_singleton, attAt_length]; omega
  · have fresh : ∀ x ∈ foot rl nds, x ≠ nd.c ∧ x ≠ nd.t := fun x hx => by
      obtain ⟨its, ep, e⟩ := foot_list T.at_ x hx
      refine ⟨fun q => ?_, fun q => ?_⟩
      · rw [q, n.fc] at e; cases e
      · rw [q, n.ft] at e; cases e
    show (foot rl (attAt p nds.length nds ++ [nd])).Nodup
    have e2 : foot rl (attAt p nds.length nds ++ [nd]) = foot rl nds ++ [nd.c, nd.t] := by
      rw [← foot_eq (rl := rl) (nds := nds) (nds' := attAt p nds.length nds) (attAt_map (fun _ => rfl))]; simp [foot]
    rw [e2]
    refine List.nodup_append.mpr ⟨T.nodup, by simp [n.ne], fun x hx y hy => ?_⟩
    have := fresh x hx
    rcases List.mem_cons.mp hy with rfl | hy
    · exact this.1
    · rw [List.mem_singleton.mp hy]; exact this.2

section
variable {prog : Program} {w : World} {A : Around} {s : Shared} {E : Value → Shared → Prop} {B0 : Heap} {tr rl : Addr} {nds : List Nd} {k : Nat} {t : Tok} {nd : Nd}
theorem element_row_spec (R : Room A 4) (O : Ok w B0) (hB : B0.StaysIn s.heap) (TA : TreeAt s.heap tr rl nds) (hk : nds[k]? = some nd) (hke : nd.kind = Str.ofString "element") :
    wpAny (model prog w) A (call (.ref 215) [.ref tr, .int k t]) (Kept s fun v h' => v = .ref nd.a) E s := by
  refine' enterK (binds := [("self",.ref tr),("element",.int k t)]) [] O hB ?hms R ?ho ?hcd ?hbind ?hloc ?h ?hcell ?hco ?hgen ?hk
  k_extra "m_enter"
  intro A' g L h₁ tk₁ p loose mean mg mb R' cg hBg Og Xg Tg _ F N
  k_fold
  have TA' := TA.keeps cg.nil
  obtain ⟨⟨dt, hh, tk, n, e1, e2⟩, ⟨ep, e3⟩, hnd, hsm⟩ := id TA'
  obtain ⟨n1, ⟨es, nn, n2, ⟨t1, n3⟩, ⟨t2, n4⟩, ⟨t3, n5⟩, ⟨pv, n6, n6'⟩, n7, n8⟩, ⟨kvs, kep, n9, n9'⟩, ⟨avs, aep, n10, n10'⟩, n11, n12⟩ := hnd nd (List.mem_of_getElem? hk)
  have hpv := n6'.handed
  have hkl := n9'.length
  simp only [List.length_map] at hkl
  rw [hke] at n3
  k_extra "m_walk"
  exact ⟨keeps_of cg rfl (by assumption), rfl⟩
end
theorem word_M22_1 : True := by
  (k_with "call ref" => (k_dflt (((with_reducible show wpAny _ _ (call (Value.ref 215) _) _ _ _); refine' kept_val ?zF ?zN (element_row_spec ?zR ?zO ?zB ?zT ?zk ?zk2) ?_; (case zF => k_asm); (case zN => k_asm); (case zR => exact Room.less (by k_asm) (by exact Nat.le_of_ble_eq_true rfl)); (case zO => k_asm); (case zB => exact Fr.keep (by k_asm)); (case zT => exact TreeAt.keeps (by k_asm) (Off.stays (by k_asm) (by k_asm) (by k_asm) (by first | exact sub_two (by k_mem) (by k_mem) | exact List.forall_mem_singleton.mpr (by k_mem)))); (case zk => k_asm); (case zk2 => k_asm); intro _ _ _ _ _; (try k_sweep)))))
  exact True.intro
section
variable {prog : Program} {w : World} {A : Around} {s : Shared} {E : Value → Shared → Prop} {B0 : Heap} {tr rl : Addr} {nds : List Nd}
theorem set_attribute_spec {nm ur lc vl : Str} {t0 t2 t3 t4 t5 : Tok} {p : Nat} {ndp : Nd} (R : Room A 8) (O : Ok w B0) (hB : B0.StaysIn s.heap) (T : TreeM s.heap tr rl nds) (hs : nds.length < 100)
    (hp : nds[p]? = some ndp) (hf1 : B0.get? rl = none) (hf2 : B0.get? ndp.t = none) (hpk : ndp.kind = Str.ofString "element") (hat : ndp.attrs = []) :
    wpAny (model prog w) A (call (.ref 222) [.ref tr, .int (p : Int) t0, .str nm t2, .str ur t3, .str lc t4, .str vl t5])
      (Turned [rl, ndp.t] s fun v h' => ∃ nd, (∃ t, v = .int (nds.length : Int) t) ∧ NewNd s.heap h' nd (Str.ofString "attribute") ur lc (some p) ∧ TreeM h' tr rl (attAt p nds.length nds ++ [nd])) E s := by
  have hmem := List.mem_of_getElem? hp
  have TA := T.at_
  obtain ⟨ep, er⟩ := TA.rows
  obtain ⟨n1, ⟨es, nn, n2, ⟨u1, n3⟩, ⟨u2, n4⟩, ⟨u3, n5⟩, ⟨pv, n6, n6'⟩, n7, n8⟩, ⟨kvs, kep, n9, n9'⟩, ⟨avs, aep, n10, n10'⟩, n11, n12⟩ := id (TA.nodes ndp hmem)
  rw [hat] at n10'
  cases n10'
  have hrc : @Ne Nat ndp.t rl := rl_ne_t T hmem
  refine' enterK (binds := [("self", .ref tr), ("element", .int (p : Int) t0), ("name", .str nm t2), ("uri", .str ur t3), ("local", .str lc t4), ("value", .str vl t5)]) [(rl, rowsObj nds ep), (ndp.t, listOf #[] aep)] O hB ?hms R ?ho ?hcd ?hbind ?hloc ?hbody ?hcell ?hco ?hgen ?hk
  case hms =>
    intro p hp
    rcases List.mem_cons.mp hp with rfl | hp
    · exact ⟨er, hf1⟩
    · rw [List.mem_singleton.mp hp]; exact ⟨n10, hf2⟩
  (case ho => k_is); (case hcd => k_is); (case hbind => exact rfl); (case hloc => exact locs rfl); (case hco => exact rfl); (case hgen => exact rfl); (case hk => exact rfl); (case hcell => decide)
  intro A' g L h₁ tk₁ pr loose mean mg mb R' cg hBg Og Xg Tg gm F N
  (try k_fold)
  have hl : ∀ x ∈ [rl, ndp.t], ∃ its ep, s.heap.get? x = some (listOf its ep) := fun x hx => by
    rcases List.mem_cons.mp hx with rfl | hx
    · exact ⟨_, _, er⟩
    · rw [List.mem_singleton.mp hx]; exact ⟨_, _, n10⟩
  have X1 : Off s.heap g [(rl, rowsObj nds ep), (ndp.t, listOf #[] aep)] := ⟨cg, fun p hp => by
    rcases List.mem_cons.mp hp with rfl | hp
    · exact er
    · rw [List.mem_singleton.mp hp]; exact n10⟩
  have fz : ∀ a, h₁.get? a = none → s.heap.get? a = none := fun a ha => fresh_to cg F N (fun x hx => by
    obtain ⟨p, hp, rfl⟩ := List.mem_map.mp hx
    exact ⟨p.2, hp⟩) ha
  obtain ⟨dt, hh, tk, n, e1, e2⟩ := TA.inst
  have e1' := cg.list hl e1 fun _ _ => inst_ne
  have e2' := cg.list hl e2 fun _ _ => dict_ne
  have n1' := cg.list hl n1 fun _ _ => inst_ne
  have n2' := cg.list hl n2 fun _ _ => dict_ne
  k_extra "m_walk"
  refine For_invV g rfl rfl ?_
  k_extra "m_walk"
  refine iter_listUnr (lo := listOf #[] aep) (vs := []) R'.hd (by assumption) (by assumption) (by k_mem) rfl rfl (fun I _ h9 tk9 F N => ?_)
  replace F : Fr g L h9 _ := F
  replace N : News g L h9 _ := N
  have fz2 : ∀ a, h9.get? a = none → s.heap.get? a = none := fun a ha => fresh_to cg F N (fun x hx => by
    rcases List.mem_cons.mp hx with rfl | hx
    · exact ⟨_, .head _⟩
    · rw [List.mem_singleton.mp hx]; exact ⟨_, .tail _ (.head _)⟩) ha
  k_extra "m_walk"
  rename NewNd _ _ _ _ _ _ _ => hn
  rename NdObjs _ _ => ho
  rename Fr g L _ _ => F9
  rename News g L _ _ => N9
  have h5 := News.get N9 (.tail _ (.tail _ (.tail _ (.tail _ (.head _)))))
  have h6 := News.get N9 (.tail _ (.tail _ (.tail _ (.tail _ (.tail _ (.head _))))))
  have cf : Chg [rl, ndp.t] s.heap _ := fun b o e1 e2 => F9.keep b o (cg b o e1 e2)
  have hn2 := (hn.from fz2).to (ho.at_ _ fun p hp => (N9 p (List.mem_append_left _ hp)).1)
  rw [List.push_toArray] at h6
  exact ⟨_, _, rfl, cf, _, ⟨_, rfl⟩, hn2, treeM_att T hp cf hn2 h5 ⟨_, _, h6, by rw [hat]; exact .cons _ _ .nil⟩ hs (by rw [hat]; exact Nat.succ_pos _)⟩
end


inductive InvEndG (g : Heap) (L : Addr) (J : (Str → Option Value) → List (Addr × Obj) → Prop) (I : Addr) (it : Obj) (s s₂ : Shared) : Prop where
  | mk (h' : Heap) (tk : Nat) (m' : Str → Option Value) (news' nx : List (Addr × Obj)) (zc0 : s₂ = { s with heap := h', toks := tk }) (zc1 : Fr g L h' m') (zc2 : News g L h' news') (zc3 : (∀ p ∈ nx, p ∈ news')) (zc4 : (I, it) ∈ news') (zc5 : (∀ p ∈ nx, p.2.cls ≠ it.cls)) (zc6 : J m' nx) : InvEndG g L J I it s s₂
def InvPostG (g : Heap) (L : Addr) (J : (Str → Option Value) → List (Addr × Obj) → Prop) (I : Addr) (it : Obj) (s : Shared) (Q : Flow → Shared → Prop) (f : Flow) (s₂ : Shared) : Prop := match f with
  | .ret v => Q (.ret v) s₂
  | .brk => Q .next s₂
  | _ => InvEndG g L J I it s s₂
section
variable {prog : Program} {w : World} {A : Around} {E : Value → Shared → Prop} {s : Shared} {env : Env} {g : Heap} {x : Str} {body : List Stmt} {Q : Flow → Shared → Prop}

/-- a loop over a range; the ledger may grow -/
theorem iter_rangeG {r : Addr} {n : Nat} {t u v : Tok} {m₀ : Str → Option Value} {news : List (Addr × Obj)} {L : Addr} (hL : env.locals = L) (J : Nat → (Str → Option Value) → List (Addr × Obj) → Prop)
    (hh : A.handled = none) (hr : IsRange s.heap r 0 n 1 t u v) (hn : n ≤ 1000) (F : Fr g L s.heap m₀) (N : News g L s.heap news) (hj : J 0 m₀ news)
    (turn : ∀ i t m₁ news₁ h tk I it, i < n → it.cls = .type "range_iterator" → (∀ p ∈ news₁, @Ne Nat p.1 I) → J i m₁ news₁ → Fr g L h (fun y => if y = x then some (.int (i : Int) t) else m₁ y) → News g L h ((I, it) :: news₁) →
      wpAny (model prog w) A (execs body env) (InvPostG g L (J (i + 1)) I it { s with heap := h, toks := tk } Q) E { s with heap := h, toks := tk })
    (done : ∀ m₁ news₁ h tk, J n m₁ news₁ → Fr g L h m₁ → News g L h news₁ → Q .next { s with heap := h, toks := tk }) :
    wpAny (model prog w) A (pyIter (.ref r)) (fun it s₂ => LoopAtV prog w A g env x body Q E it s₂) E s := by
  subst hL
  have hsz : Builtin.Range.rangeSize 0 n 1 = ((n : Nat) : Int) := by simp [Builtin.Range.rangeSize]; omega
  refine wpAny_pyIter_range hr (by simp [Builtin.Range.small, hsz, Builtin.Range.rangeFitsLong]; omega) ?_
  rw [hsz]
  have W := LCg.range_walks (prog := prog) (w := w) (I := s.heap.objs.size) hh 0 n
  refine ⟨_, _, _, n, _, _, m₀, news, J, rfl, W, ?_, ?_, ?_, ?_, F.push _, (fun p hp => ⟨Heap.get?_push_of_some _ (N p hp).1, (N p hp).2⟩), hj, ?_, ?_⟩
  · intro hm
    exact absurd F.ns.lt ((List.mem_singleton.mp hm) ▸ Nat.lt_irrefl _)
  · intro b hb
    rw [List.mem_singleton.mp hb]
    exact next_is_new F
  · intro p hp hI
    exact absurd (Heap.lt_size (N p hp).1) ((List.mem_singleton.mp hI) ▸ Nat.lt_irrefl _)
  · show Heap.get? _ _ = some _
    rw [Heap.get?_push_size _ rfl]
    simp
  · rintro i v m₁ news₁ s₁ own ⟨hh', tk', rfl⟩ hin ⟨t, hP⟩ hJ hoff hown hget hall hst F₁ N₁
    obtain ⟨it0, hst', hcls⟩ : ∃ it0 : Obj, hh'.get? s.heap.objs.size = some it0 ∧ it0.cls = .type "range_iterator" := ⟨_, hst, rfl⟩
    have hmemI := hall s.heap.objs.size (List.mem_cons_self ..) (next_is_new F) _ hst'
    rw [Int.zero_add] at hP
    subst hP
    have hne : ∀ p ∈ news₁, @Ne Nat p.1 s.heap.objs.size := fun p hp q => hoff p hp (List.mem_singleton.mpr q)
    have N₂ : News g env.locals hh' ((s.heap.objs.size, it0) :: news₁) := fun p hp => by
      rcases List.mem_cons.mp hp with rfl | hp
      · exact N₁ _ (List.mem_append_left _ hmemI)
      · exact N₁ p (List.mem_append_right _ hp)
    refine wpAny_mono (turn i t m₁ news₁ hh' tk' _ _ hin hcls hne hJ F₁ N₂) (fun f s₂ p => ?_) fun _ _ e => e
    have fin : InvEndG g env.locals (J (i + 1)) s.heap.objs.size it0 { s with heap := hh', toks := tk' } s₂ → LoopStepU g env.locals [s.heap.objs.size] own (J (i + 1)) { s with heap := hh', toks := tk' } .next s₂ := by
      rintro ⟨h', tk, m', news', nx, e, F', N', hn, ho, ha, hm⟩
      have hI := (N' _ ho).1
      refine ⟨rfl, h', tk, m', nx, e, F', fun p hp => ?_, fun p hp hq => ?_, hm⟩
      · rcases List.mem_append.mp hp with hp | hp
        · have h1 := List.mem_singleton.mp (hown p hp)
          have h2 := hget p hp
          rw [h1, hst'] at h2
          have h3 : p = (s.heap.objs.size, it0) := Prod.ext h1 (Option.some.inj h2).symm
          rw [h3]; exact N' _ ho
        · exact N' p (hn p hp)
      · have h1 := (N' p (hn p hp)).1
        rw [List.mem_singleton.mp hq] at h1
        have hI' : h'.get? s.heap.objs.size = some it0 := hI
        rw [hI'] at h1
        exact ha p hp (by rw [← Option.some.inj h1])
    cases f with
    | ret v => exact .ret p
    | brk => exact .brk p
    | next => exact .next (fin p)
    | cont => exact .cont (fin p)
  · rintro h' tk m' news' F' N' _ hJ
    exact done m' news' h' tk hJ F' N'
end

/-- the objects at some addresses -/
noncomputable def led (h : Heap) (S : List Addr) : List (Addr × Obj) := S.filterMap fun a => (h.get? a).map fun o => (a, o)
theorem led_mem {h : Heap} {S : List Addr} {p : Addr × Obj} : p ∈ led h S ↔ p.1 ∈ S ∧ h.get? p.1 = some p.2 := by
  unfold led
  rw [List.mem_filterMap]
  constructor
  · rintro ⟨a, ha, e⟩
    obtain ⟨o, ho, rfl⟩ := Option.map_eq_some_iff.mp e
    exact ⟨ha, ho⟩
  · rintro ⟨a, e⟩
    exact ⟨p.1, a, by rw [e]; rfl⟩
theorem led_agree {h0 h : Heap} {S : List Addr} (x : ∀ p ∈ led h0 S, h.get? p.1 = some p.2) : ∀ a ∈ S, ∀ o, h0.get? a = some o → h.get? a = some o := fun a ha o e => x (a, o) (led_mem.mpr ⟨ha, e⟩)
theorem led_news {g h h0 : Heap} {L : Addr} {S : List Addr} {news : List (Addr × Obj)} (N : News g L h news) (hs : ∀ p ∈ led h0 S, p ∈ news) : ∀ a ∈ S, ∀ o, h0.get? a = some o → h.get? a = some o := led_agree fun p hp => (N p (hs p hp)).1


/-- a tree whose rows stand in the order of the walk -/
structure Pre (par : Nat → Option Nat) (n : Nat) : Prop where
  pos : 0 < n
  root : par 0 = none
  up : ∀ k, 0 < k → k < n → ∃ p, par k = some p ∧ p < k
  nest : ∀ k j j' p, k < j → j < j' → j' < n → par j = some p → p < k → par j' ≠ some k

/-- the path down to the last element -/
structure Stk (par : Nat → Option Nat) (n : Nat) (st : List Nat) : Prop where
  inc : st.Pairwise (· < ·)
  lt : ∀ k ∈ st, k < n
  sub : ∀ k ∈ st, ∀ j, k < j → j < n → ∃ p, par j = some p ∧ k ≤ p

theorem pre_one {par : Nat → Option Nat} (h : par 0 = none) : Pre par 1 := ⟨Nat.one_pos, h, fun k a b => by omega, fun k j j' p a b c => by omega⟩
theorem stk_one {par : Nat → Option Nat} : Stk par 1 [0] := ⟨by simp, fun k hk => by rw [List.mem_singleton.mp hk]; exact Nat.one_pos, fun k _ j a b => by omega⟩

theorem pre_more {par par' : Nat → Option Nat} {n p : Nat} {st : List Nat} (P : Pre par n) (S : Stk par n st) (hp : p ∈ st) (e : ∀ k, k < n → par' k = par k) (en : par' n = some p) : Pre par' (n + 1) where
  pos := Nat.succ_pos _
  root := by rw [e 0 P.pos]; exact P.root
  up := fun k a b => by
    rcases Nat.lt_succ_iff_lt_or_eq.mp b with h | h
    · rw [e k h]; exact P.up k a h
    · rw [h]; exact ⟨p, en, S.lt p hp⟩
  nest := fun k j j' q a b c hj hq hk => by
    rcases Nat.lt_succ_iff_lt_or_eq.mp c with h | h
    · rw [e j (by omega)] at hj; rw [e j' h] at hk
      exact P.nest k j j' q a b h hj hq hk
    · rw [h, en] at hk
      cases hk
      rw [e j (by omega)] at hj
      obtain ⟨q', h1, h2⟩ := S.sub p hp j a (by omega)
      rw [hj] at h1; cases h1; omega

theorem stk_take {par par' : Nat → Option Nat} {n p : Nat} {st pre : List Nat} (S : Stk par n (st ++ [p])) (e : ∀ k, k < n → par' k = par k) (en : par' n = some p) : Stk par' (n + 1) (st ++ [p]) where
  inc := S.inc
  lt := fun k hk => Nat.lt_succ_of_lt (S.lt k hk)
  sub := fun k hk j a b => by
    rcases Nat.lt_succ_iff_lt_or_eq.mp b with h | h
    · rw [e j h]; exact S.sub k hk j a h
    · rw [h, en]
      refine ⟨p, rfl, ?_⟩
      rcases List.mem_append.mp hk with h1 | h1
      · exact Nat.le_of_lt ((List.pairwise_append.mp S.inc).2.2 k h1 p (.head _))
      · rw [List.mem_singleton.mp h1]; exact Nat.le_refl _
theorem stk_push {par : Nat → Option Nat} {n : Nat} {st : List Nat} (S : Stk par (n + 1) st) (hl : ∀ k ∈ st, k < n) : Stk par (n + 1) (st ++ [n]) where
  inc := List.pairwise_append.mpr ⟨S.inc, by simp, fun a ha b hb => by rw [List.mem_singleton.mp hb]; exact hl a ha⟩
  lt := fun k hk => by
    rcases List.mem_append.mp hk with h1 | h1
    · exact S.lt k h1
    · rw [List.mem_singleton.mp h1]; exact Nat.lt_succ_self _
  sub := fun k hk j a b => by
    rcases List.mem_append.mp hk with h1 | h1
    · exact S.sub k h1 j a b
    · rw [List.mem_singleton.mp h1] at a; omega
theorem stk_prefix {par : Nat → Option Nat} {n : Nat} {st : List Nat} (S : Stk par n st) (d : Nat) : Stk par n (st.take d) where
  inc := List.Pairwise.sublist (List.take_sublist _ _) S.inc
  lt := fun k hk => S.lt k (List.mem_of_mem_take hk)
  sub := fun k hk => S.sub k (List.mem_of_mem_take hk)

theorem Pre.lt {par : Nat → Option Nat} {n : Nat} (P : Pre par n) {k p : Nat} (hk : k < n) (e : par k = some p) : p < k := by
  rcases Nat.eq_zero_or_pos k with h | h
  · rw [h, P.root] at e; cases e
  · obtain ⟨q, a, b⟩ := P.up k h hk
    rw [e] at a; cases a; exact b

theorem filter_or {α : Type} {r : α → α → Prop} (hr : ∀ x, ¬ r x x) (hr2 : ∀ x y, r x y → ¬ r y x) {a b : α → Bool} : ∀ {l : List α}, l.Pairwise r → (∀ x ∈ l, ∀ y ∈ l, a x = true → b y = true → r x y) → l.filter (fun x => a x || b x) = l.filter a ++ l.filter b
  | [], _, _ => rfl
  | x :: l, hp, h => by
    have hp' := List.pairwise_cons.mp hp
    have ih := filter_or hr hr2 hp'.2 (a := a) (b := b) fun x hx y hy => h x (.tail _ hx) y (.tail _ hy)
    cases ha : a x with
    | true =>
      have hb : b x = false := by
        cases hb : b x with
        | false => rfl
        | true => exact absurd (h x (.head _) x (.head _) ha hb) (hr x)
      rw [List.filter_cons_of_pos (by simp [ha]), List.filter_cons_of_pos ha, List.filter_cons_of_neg (by simp [hb]), ih]; rfl
    | false =>
      cases hb : b x with
      | false => rw [List.filter_cons_of_neg (by simp [ha, hb]), List.filter_cons_of_neg (by simp [ha]), List.filter_cons_of_neg (by simp [hb]), ih]
      | true =>
        have hn : ∀ y ∈ l, a y = false := fun y hy => by
          cases hy' : a y with
          | false => rfl
          | true => exact absurd (h y (.tail _ hy) x (.head _) hy' hb) (hr2 _ _ (hp'.1 y hy))
        rw [List.filter_cons_of_pos (by simp [hb]), List.filter_cons_of_neg (by simp [ha]), List.filter_cons_of_pos hb, ih]
        rw [List.filter_eq_nil_iff.mpr fun y hy => by rw [hn y hy]; decide]
        rfl

noncomputable def waits (par : Nat → Option Nat) (k j : Nat) : Bool := decide (k ≤ j) && match par j with
  | none => true
  | some p => decide (p < k)
noncomputable def pendN (par : Nat → Option Nat) (n k : Nat) : List Nat := (List.range n).filter (waits par k)
noncomputable def kidsP (par : Nat → Option Nat) (n k : Nat) : List Nat := (List.range n).filter fun j => decide (par j = some k)

theorem filter_at {n k : Nat} (h : k < n) : (List.range n).filter (fun j => decide (j = k)) = [k] := by
  induction n with
  | zero => omega
  | succ n ih =>
    rw [List.range_succ, List.filter_append]
    rcases Nat.lt_succ_iff_lt_or_eq.mp h with h1 | h1
    · rw [ih h1, List.filter_cons_of_neg (by simp; omega)]; rfl
    · subst h1
      rw [List.filter_cons_of_pos (by simp), List.filter_eq_nil_iff.mpr]
      · rfl
      · intro a ha; have := List.mem_range.mp ha; simp; omega
theorem range_pw (n : Nat) : (List.range n).Pairwise (· < ·) := List.pairwise_lt_range
theorem nlt (x : Nat) : ¬ x < x := Nat.lt_irrefl x
theorem nlt2 (x y : Nat) (h : x < y) : ¬ y < x := by omega

theorem pend_zero {par : Nat → Option Nat} {n : Nat} (P : Pre par n) : pendN par n 0 = [0] := by
  unfold pendN
  rw [← filter_at P.pos]
  apply List.filter_congr
  intro j hj
  have hj := List.mem_range.mp hj
  unfold waits
  rcases Nat.eq_zero_or_pos j with h | h
  · subst h; rw [P.root]; rfl
  · obtain ⟨p, a, b⟩ := P.up j h hj
    rw [a]; simp; omega
theorem pend_next {par : Nat → Option Nat} {n : Nat} (P : Pre par n) {k : Nat} (hk : k < n) : ∃ rest, pendN par n k = k :: rest ∧ pendN par n (k + 1) = kidsP par n k ++ rest := by
  refine ⟨(List.range n).filter fun j => decide (k < j) && waits par k j, ?_, ?_⟩
  · rw [← List.singleton_append, ← filter_at hk, ← filter_or nlt nlt2 (range_pw n)]
    · apply List.filter_congr
      intro j hj
      have hj := List.mem_range.mp hj
      by_cases h : j = k
      · subst h
        unfold waits
        rcases Nat.eq_zero_or_pos j with h | h
        · subst h; rw [P.root]; rfl
        · obtain ⟨p, a, b⟩ := P.up j h hj
          rw [a]; simp [b]
      · by_cases h2 : k < j
        · simp [h, h2]
        · unfold waits
          have : ¬ k ≤ j := by omega
          simp [h, h2, this]
    · intro x hx y hy hx' hy'
      simp at hx' hy'
      omega
  · unfold kidsP pendN
    rw [← filter_or nlt nlt2 (range_pw n)]
    · apply List.filter_congr
      intro j hj
      have hj := List.mem_range.mp hj
      unfold waits
      cases hp : par j with
      | none =>
        rw [Bool.eq_iff_iff]; simp; omega
      | some p =>
        have := P.lt hj hp
        rw [Bool.eq_iff_iff]; simp; omega
    · intro x hx y hy hx' hy'
      have hx := List.mem_range.mp hx
      have hy := List.mem_range.mp hy
      simp at hx'
      have h1 := P.lt hx hx'
      unfold waits at hy'
      simp only [Bool.and_eq_true, decide_eq_true_eq] at hy'
      obtain ⟨a, b, c⟩ := hy'
      cases hp : par y with
      | none =>
        rcases Nat.eq_zero_or_pos y with h | h
        · omega
        · obtain ⟨p, a, _⟩ := P.up y h hy
          rw [hp] at a; cases a
      | some p =>
        rw [hp] at c
        simp at c
        rcases Nat.lt_trichotomy x y with h | h | h
        · exact h
        · subst h; rw [hx'] at hp; cases hp; omega
        · exact absurd hx' (P.nest k y x p a h hx hp c)
theorem pend_small {par : Nat → Option Nat} {n k : Nat} : (pendN par n k).length ≤ n := by
  have := List.length_filter_le (waits par k) (List.range n)
  rw [List.length_range] at this; exact this

theorem preAt {nds : List Nd} {par : Nat → Option Nat} {n : Nat} (P : Pre par n) (hn : n ≤ 200) (hk : ∀ k, k < n → kidsN nds k = kidsP par n k) : PreAt nds n (pendN par n) where
  zero := pend_zero P
  next := fun k h => by obtain ⟨r, a, b⟩ := pend_next P h; exact ⟨r, a, by rw [hk k h]; exact b⟩
  small := fun k _ => Nat.le_trans pend_small hn

theorem cnt_fold {pc pb : Nat → Bool} {e : Nat} : ∀ k, k ≤ e → (List.range k).foldl (cntS pc pb e) 0 = ((List.range k).filter fun j => decide (firstN pb k ≤ j) && pc j).length
  | 0, _ => rfl
  | k + 1, h => by
    have ih := cnt_fold (pc := pc) (pb := pb) (e := e) k (by omega)
    rw [List.range_succ, List.foldl_append, List.foldl_cons, List.foldl_nil, ih, List.filter_append, List.length_append]
    cases hb : pb k with
    | true =>
      rw [cntS_begin (by omega) hb]
      have e1 : firstN pb (k + 1) = k + 1 := by unfold firstN; rw [if_pos hb]
      rw [e1, List.filter_eq_nil_iff.mpr, List.filter_eq_nil_iff.mpr]
      · rfl
      · intro a ha; rw [List.mem_singleton.mp ha]; simp; omega
      · intro a ha; have := List.mem_range.mp ha; simp; omega
    | false =>
      have e1 : firstN pb (k + 1) = firstN pb k := by conv => lhs; unfold firstN; rw [if_neg (by simp [hb])]
      have := firstN_le pb k
      rw [e1]
      cases hc : pc k with
      | true => rw [cntS_pos (.inr hb) hc, List.filter_cons_of_pos (by simp [hc, this])]; rfl
      | false => rw [cntS_neg (.inr hb) hc, List.filter_cons_of_neg (by simp [hc])]; rfl
theorem cnt_all {pc pb : Nat → Bool} (k : Nat) : (List.range (k + 1)).foldl (cntS pc pb k) 0 = ((List.range (k + 1)).filter fun j => decide (firstN pb k ≤ j) && pc j).length := by
  have := firstN_le pb k
  rw [List.range_succ, List.foldl_append, List.foldl_cons, List.foldl_nil, cnt_fold k (Nat.le_refl _), List.filter_append, List.length_append]
  cases hc : pc k with
  | true => rw [cntS_pos (.inl rfl) hc, List.filter_cons_of_pos (by simp [hc, this])]; rfl
  | false => rw [cntS_neg (.inl rfl) hc, List.filter_cons_of_neg (by simp [hc])]; rfl


/-- what the law's word for a row says of the tree's node -/
inductive LabOk (nd : Nd) (l : Str) : Prop
  | root (h1 : nd.kind = Str.ofString "root") (h2 : l = Str.ofString "") (h3 : nd.lname = Str.ofString "")
  | text (h1 : nd.kind = Str.ofString "text") (h2 : l = Str.ofString "text") (h3 : nd.lname = Str.ofString "")
  | element (h1 : nd.kind = Str.ofString "element") (h2 : l = nd.lname) (h3 : l = Str.ofString "a" ∨ l = Str.ofString "b" ∨ l = Str.ofString "c")

/-- the tree stands as the law's own list tells it -/
structure Match (nds : List Nd) (T : List (Option Nat × Str)) (n : Nat) : Prop where
  len : T.length = n
  le : n ≤ nds.length
  pre : Pre (parT T) n
  par : ∀ k, k < n → parN nds k = parT T k
  kids : ∀ k, k < n → kidsN nds k = kidsP (parT T) n k
  lab : ∀ (k : Nat) (nd : Nd), k < n → nds[k]? = some nd → LabOk nd (labT T k) ∧ nd.uri = Str.ofString ""

structure Grow (nds : List Nd) (T : List (Option Nat × Str)) (st : List Nat) : Prop where
  m : Match nds T nds.length
  stk : Stk (parT T) nds.length st
  ne : st ≠ []
  stel : ∀ (k : Nat) (nd : Nd), k ∈ st → nds[k]? = some nd → ([Str.ofString "root", Str.ofString "element"].any fun x => x == nd.kind) = true
  attrs : ∀ nd ∈ nds, nd.attrs = []
  kidl : ∀ nd ∈ nds, nd.kids.length ≤ nds.length

theorem parT_append {T : List (Option Nat × Str)} {x : Option Nat × Str} {k : Nat} (h : k < T.length) : parT (T ++ [x]) k = parT T k := by unfold parT; rw [List.getElem?_append_left h]
theorem labT_append {T : List (Option Nat × Str)} {x : Option Nat × Str} {k : Nat} (h : k < T.length) : labT (T ++ [x]) k = labT T k := by unfold labT; rw [List.getElem?_append_left h]
theorem parT_last {T : List (Option Nat × Str)} {x : Option Nat × Str} : parT (T ++ [x]) T.length = x.1 := by unfold parT; rw [List.getElem?_append_right (Nat.le_refl _)]; simp
theorem labT_last {T : List (Option Nat × Str)} {x : Option Nat × Str} : labT (T ++ [x]) T.length = x.2 := by unfold labT; rw [List.getElem?_append_right (Nat.le_refl _)]; simp

theorem stk_mono {par par' : Nat → Option Nat} {n : Nat} {st : List Nat} (S : Stk par n st) (e : ∀ k, k < n → par' k = par k) : Stk par' n st := ⟨S.inc, S.lt, fun k hk j a b => by rw [e j b]; exact S.sub k hk j a b⟩

theorem kidsP_more {par par' : Nat → Option Nat} {n p k : Nat} (e : ∀ k, k < n → par' k = par k) (en : par' n = some p) : kidsP par' (n + 1) k = if p = k then kidsP par n k ++ [n] else kidsP par n k := by
  unfold kidsP
  rw [List.range_succ, List.filter_append]
  have h1 : (List.range n).filter (fun j => decide (par' j = some k)) = (List.range n).filter fun j => decide (par j = some k) := by
    apply List.filter_congr
    intro j hj
    rw [e j (List.mem_range.mp hj)]
  rw [h1]
  by_cases h : p = k
  · subst h; rw [if_pos rfl, List.filter_cons_of_pos (by simp [en])]; rfl
  · rw [if_neg h, List.filter_cons_of_neg (by simp [en]; exact h)]; simp

theorem grow_first {nd : Nd} (h1 : nd.kind = Str.ofString "root") (h2 : nd.uri = Str.ofString "") (h3 : nd.lname = Str.ofString "") (h4 : nd.par = none) (h5 : nd.kids = []) (h6 : nd.attrs = []) : Grow [nd] [(none, Str.ofString "")] [0] where
  m := {
    len := rfl
    le := Nat.le_refl _
    pre := pre_one rfl
    par := fun k hk => by
      obtain rfl : k = 0 := by simpa using hk
      exact h4
    kids := fun k hk => by
      obtain rfl : k = 0 := by simpa using hk
      unfold kidsN; simp [h5, kidsP, parT]
    lab := fun k nd' hk e => by
      obtain rfl : k = 0 := by simpa using hk
      simp only [List.getElem?_cons_zero, Option.some.injEq] at e
      subst e
      exact ⟨.root h1 rfl h3, h2⟩ }
  stk := stk_one
  ne := by simp
  stel := fun k nd' hk e => by
    obtain rfl : k = 0 := by simpa using hk
    simp only [List.getElem?_cons_zero, Option.some.injEq] at e
    subst e
    rw [h1]; rfl
  attrs := fun nd' h => by rw [List.mem_singleton.mp h]; exact h6
  kidl := fun nd' h => by rw [List.mem_singleton.mp h, h5]; simp

/-- a row more, beneath the last of the path -/
theorem grow_more {nds : List Nd} {T : List (Option Nat × Str)} {st pre : List Nat} {p : Nat} {nd : Nd} {l : Str} {el : Bool} (G : Grow nds T st) (hst : st.take (pre.length + 1) = pre ++ [p]) (hpar : nd.par = some p) (hkids : nd.kids = []) (hatt : nd.attrs = [])
    (hl : LabOk nd l) (hu : nd.uri = Str.ofString "") (hel : el = true → ([Str.ofString "root", Str.ofString "element"].any fun x => x == nd.kind) = true) :
    Grow (kidAt p nds.length nds ++ [nd]) (T ++ [(some p, l)]) (pre ++ [p] ++ if el = true then [nds.length] else []) := by
  have hT : T.length = nds.length := G.m.len
  have hlen : (kidAt p nds.length nds ++ [nd]).length = nds.length + 1 := by rw [List.length_append, kidAt_length]; rfl
  have e : ∀ k, k < nds.length → parT (T ++ [(some p, l)]) k = parT T k := fun k hk => parT_append (by omega)
  have en : parT (T ++ [(some p, l)]) nds.length = some p := by rw [← hT]; exact parT_last
  have S1 : Stk (parT T) nds.length (pre ++ [p]) := hst ▸ stk_prefix G.stk _
  have hpm : p ∈ st := List.mem_of_mem_take (i := pre.length + 1) (by rw [hst]; exact List.mem_append_right _ (.head _))
  have hpn : p < nds.length := G.stk.lt p hpm
  have S2 := stk_take (pre := []) S1 e en
  have P2 := pre_more G.m.pre G.stk hpm e en
  have get : ∀ k, k < nds.length → (kidAt p nds.length nds ++ [nd])[k]? = (nds[k]?).map fun nd => if p = k then addKid nds.length nd else nd := fun k hk => by
    rw [List.getElem?_append_left (by rw [kidAt_length]; exact hk), kidAt_get]
  have getl : (kidAt p nds.length nds ++ [nd])[nds.length]? = some nd := by
    rw [List.getElem?_append_right (by rw [kidAt_length]; exact Nat.le_refl _), kidAt_length]; simp
  refine ⟨⟨?_, Nat.le_refl _, ?_, ?_, ?_, ?_⟩, ?_, ?_, ?_, ?_, ?_⟩
  · rw [hlen, List.length_append, hT]; rfl
  · rw [hlen]; exact P2
  · intro k hk
    rw [hlen] at hk
    rcases Nat.lt_succ_iff_lt_or_eq.mp hk with h | h
    · rw [e k h, ← G.m.par k h]
      unfold parN
      rw [get k h]
      cases nds[k]? with
      | none => rfl
      | some x =>
        simp only [Option.map_some, Option.bind_some]
        split <;> rfl
    · subst h
      unfold parN
      rw [getl, en]; exact hpar
  · intro k hk
    rw [hlen] at hk ⊢
    rw [kidsP_more e en]
    rcases Nat.lt_succ_iff_lt_or_eq.mp hk with h | h
    · rw [← G.m.kids k h]
      unfold kidsN
      rw [get k h]
      cases hx : nds[k]? with
      | none => exact absurd (List.getElem?_eq_none_iff.mp hx) (by omega)
      | some x =>
        simp only [Option.map_some, Option.getD_some]
        by_cases hpk : p = k
        · rw [if_pos hpk, if_pos hpk]; rfl
        · rw [if_neg hpk, if_neg hpk]
    · subst h
      rw [if_neg (by omega)]
      unfold kidsN
      rw [getl]
      simp only [Option.map_some, Option.getD_some, hkids]
      unfold kidsP
      symm
      rw [List.filter_eq_nil_iff]
      intro a ha hc
      have ha := List.mem_range.mp ha
      simp only [decide_eq_true_eq] at hc
      have := G.m.pre.lt ha hc
      omega
  · intro k nd' hk ek
    rw [hlen] at hk
    rcases Nat.lt_succ_iff_lt_or_eq.mp hk with h | h
    · rw [get k h] at ek
      obtain ⟨x, hx, rfl⟩ := Option.map_eq_some_iff.mp ek
      rw [labT_append (by omega)]
      obtain ⟨a, b⟩ := G.m.lab k x h hx
      split
      · exact ⟨by cases a with
          | root h1 h2 h3 => exact .root h1 h2 h3
          | text h1 h2 h3 => exact .text h1 h2 h3
          | element h1 h2 h3 => exact .element h1 h2 h3, b⟩
      · exact ⟨a, b⟩
    · subst h
      rw [getl] at ek
      cases ek
      rw [show nds.length = T.length from hT.symm, labT_last]
      exact ⟨hl, hu⟩
  · rw [hlen]
    cases el with
    | true => simp only [if_true]; exact stk_push S2 S1.lt
    | false => simp only [Bool.false_eq_true, if_false, List.append_nil]; exact S2
  · cases el <;> simp
  · intro k nd' hk ek
    rcases List.mem_append.mp hk with hk | hk
    · have hk' : k ∈ st := List.mem_of_mem_take (i := pre.length + 1) (by rw [hst]; exact hk)
      rw [get k (G.stk.lt k hk')] at ek
      obtain ⟨x, hx, rfl⟩ := Option.map_eq_some_iff.mp ek
      have := G.stel k x hk' hx
      split
      · exact this
      · exact this
    · cases el with
      | true =>
        simp only [if_true] at hk
        rw [List.mem_singleton.mp hk, getl] at ek
        cases ek
        exact hel rfl
      | false => simp at hk
  · intro x hx
    rcases List.mem_append.mp hx with hx | hx
    · obtain ⟨j, hj⟩ := List.mem_iff_getElem?.mp hx
      rw [kidAt_get] at hj
      obtain ⟨y, hy, rfl⟩ := Option.map_eq_some_iff.mp hj
      have := G.attrs y (List.mem_of_getElem? hy)
      split <;> exact this
    · rw [List.mem_singleton.mp hx]; exact hatt
  · intro x hx
    rw [hlen]
    rcases List.mem_append.mp hx with hx | hx
    · obtain ⟨j, hj⟩ := List.mem_iff_getElem?.mp hx
      rw [kidAt_get] at hj
      obtain ⟨y, hy, rfl⟩ := Option.map_eq_some_iff.mp hj
      have := G.kidl y (List.mem_of_getElem? hy)
      split
      · show (y.kids ++ [nds.length]).length ≤ _
        rw [List.length_append]
        exact Nat.succ_le_succ this
      · omega
    · rw [List.mem_singleton.mp hx, hkids]; simp


/-- what a walk asks of the tree and the law's own list -/
theorem par_lt {nds : List Nd} {T : List (Option Nat × Str)} {n : Nat} (M : Match nds T n) : ∀ k p, k < n → parT T k = some p → p < k := fun k p hk e => M.pre.lt hk e
theorem parT_lt {nds : List Nd} {T : List (Option Nat × Str)} {n : Nat} (M : Match nds T n) : ParLt (parT T) := fun k p e => by
  have hk : k < n := by
    rw [← M.len]
    unfold parT at e
    obtain ⟨x, hx, _⟩ := Option.bind_eq_some_iff.mp e
    exact (List.getElem?_eq_some_iff.mp hx).1
  exact M.pre.lt hk e
theorem up_congr {par par' : Nat → Option Nat} {n : Nat} (h : ParLt par) (h' : ParLt par') (e : ∀ k, k < n → par k = par' k) : ∀ k, k < n → up par k = up par' k := by
  intro k
  induction k using Nat.strongRecOn with
  | _ k ih =>
    intro hk
    rw [up_eq h, up_eq h', e k hk]
    cases hp : par' k with
    | none => rfl
    | some p =>
      have := h' _ _ hp
      simp only [upO]
      rw [ih p this (by omega)]
theorem upTo_congr {par par' : Nat → Option Nat} {pb pb' : Nat → Bool} {n : Nat} (h : ParLt par) (h' : ParLt par') (e : ∀ k, k < n → par k = par' k) (eb : ∀ k, k < n → pb k = pb' k) {k : Nat} (hk : k < n) : upTo par pb k = upTo par' pb' k := by
  unfold upTo
  rw [up_congr h h' e k hk]
  exact takeWhile_congr' fun x hx => by
    have := up_le h' k x hx
    unfold passes
    rw [eb x (by omega)]
theorem labOk_kind {nd : Nd} {l : Str} (h : LabOk nd l) : atKind nd.kind = false := by
  cases h with
  | root h1 => rw [h1]; rfl
  | text h1 => rw [h1]; rfl
  | element h1 => rw [h1]; rfl
theorem match_kind {nds : List Nd} {T : List (Option Nat × Str)} {n k : Nat} (M : Match nds T n) (hk : k < n) : atKind (kindN nds k) = false := by
  have hl := M.le
  have h1 : nds[k]? = some nds[k] := List.getElem?_eq_getElem (by omega)
  unfold kindN
  rw [h1]
  exact labOk_kind (M.lab k _ hk h1).1
theorem takeWhile_range {q : Nat → Bool} {n x : Nat} (hx : x < n) (hq : q x = true) : ((List.range n).filter q).takeWhile (fun c => decide (c ≠ x)) = (List.range x).filter q := by
  obtain ⟨m, rfl⟩ : ∃ m, n = x + (m + 1) := ⟨n - x - 1, by omega⟩
  rw [List.range_add, List.filter_append, List.range_succ_eq_map, List.map_cons, List.filter_cons_of_pos (by simpa using hq)]
  rw [List.takeWhile_append_of_pos]
  · rw [List.takeWhile_cons, if_neg (by simp), List.append_nil]
  · intro a ha
    have := List.mem_range.mp ((List.mem_filter.mp ha).1)
    exact decide_eq_true (by omega)
theorem place_among_eq {nds : List Nd} {T : List (Option Nat × Str)} {n x : Nat} {ws : List Str} {pc : Nat → Bool} (M : Match nds T n) (hx : x < n) (hc : ∀ j, j < n → pc j = hasW T ws j) : placeN nds pc x = amongN T ws x := by
  unfold placeN amongN
  rw [M.par x hx]
  cases hp : parT T x with
  | none =>
    have h0 : x = 0 := by
      rcases Nat.eq_zero_or_pos x with h | h
      · exact h
      · obtain ⟨p, a, _⟩ := M.pre.up x h hx
        rw [hp] at a; cases a
    subst h0
    rfl
  | some p =>
    have hpx := M.pre.lt hx hp
    simp only
    rw [match_kind M hx, if_neg Bool.false_ne_true, M.kids p (by omega)]
    unfold kidsP
    rw [takeWhile_range hx (by simpa using hp), List.countP_eq_length_filter, List.filter_filter]
    congr 2
    apply List.filter_congr
    intro j hj
    have hj := List.mem_range.mp hj
    rw [hc j (by omega), Bool.and_comm]
    rfl
theorem upTo_lt {par : Nat → Option Nat} (h : ParLt par) {pb : Nat → Bool} {k n x : Nat} (hk : k < n) (hx : x ∈ upTo par pb k) : x < n := Nat.lt_of_le_of_lt (upTo_le h hx) hk
theorem filter_congr_lt {n : Nat} {l : List Nat} {p q : Nat → Bool} (h : ∀ j, j < n → p j = q j) (hl : ∀ x ∈ l, x < n) : l.filter p = l.filter q := List.filter_congr fun x hx => h x (hl x hx)
theorem singleN_eq {nds : List Nd} {pc pb : Nat → Bool} {k : Nat} : singleN nds pc pb k = (((upTo (parN nds) pb k).filter pc).take 1).map (placeN nds pc) := by
  unfold singleN
  generalize upTo (parN nds) pb k = l
  induction l with
  | nil => rfl
  | cons a l ih =>
    rw [List.find?_cons, List.filter_cons]
    cases pc a with
    | true => rfl
    | false => simp only [Bool.false_eq_true, if_false]; exact ih

/-- the numbers are those that are due -/
theorem num_due {nds : List Nd} {T : List (Option Nat × Str)} {n k : Nat} {ws : List Str} {bg lv : Str} {pc pb : Nat → Bool} (WF : ParLt (parN nds)) (M : Match nds T n) (hk : k < n) (hc : ∀ j, j < n → pc j = hasW T ws j) (hb : ∀ j, j < n → pb j = (labT T j == bg)) (hlv : lv = Str.ofString "single" ∨ lv = Str.ofString "multiple" ∨ lv = Str.ofString "any") :
    numN lv nds pc pb k = dueN T lv ws bg k := by
  have hu : upTo (parN nds) pb k = upW T bg k := upTo_congr WF (parT_lt M) M.par hb hk
  have hlt : ∀ x ∈ upW T bg k, x < n := fun x hx => upTo_lt (parT_lt M) hk hx
  have hf : (upW T bg k).filter pc = (upW T bg k).filter (hasW T ws) := filter_congr_lt hc hlt
  have hm : ∀ l : List Nat, (∀ x ∈ l, x < n) → l.map (placeN nds pc) = l.map (amongN T ws) := fun l hl => List.map_congr_left fun x hx => place_among_eq M (hl x hx) hc
  have hfl : ∀ x ∈ (upW T bg k).filter (hasW T ws), x < n := fun x hx => hlt x ((List.mem_filter.mp hx).1)
  rcases hlv with rfl | rfl | rfl
  · unfold numN dueN
    rw [if_neg (by decide), if_neg (by decide), if_pos rfl]
    rw [singleN_eq, hu, hf]
    exact hm _ fun x hx => hfl x (List.mem_of_mem_take hx)
  · unfold numN dueN
    rw [if_pos rfl, if_neg (by decide), if_pos rfl]
    unfold multipleN
    rw [hu, hf, hm _ hfl, List.map_reverse]
  · unfold numN dueN
    rw [if_neg (by decide), if_pos rfl, if_neg (by decide), if_neg (by decide)]
    have he : endN nds k = k := by unfold endN; rw [match_kind M hk]; rfl
    have ha : anyM nds pc pb k = manyN (hasW T ws) (fun x => labT T x == bg) k := by
      rw [anyM_eq he, if_neg (by rintro ⟨a, _⟩; exact a rfl), Nat.add_zero, cnt_all]
      unfold manyN
      have hfn : ∀ j, j ≤ n → firstN pb j = firstN (fun x => labT T x == bg) j := by
        intro j
        induction j with
        | zero => intro _; rfl
        | succ j ih =>
          intro hj
          unfold firstN
          rw [hb j (by omega), ih (by omega)]
      rw [hfn k (by omega)]
      congr 1
      apply List.filter_congr
      intro j hj
      have hj := List.mem_range.mp hj
      rw [hc j (by omega)]
    unfold anyN
    rw [ha]

/-- the tree's shape holds -/
theorem wf_of {nds : List Nd} {T : List (Option Nat × Str)} {n : Nat} (M : Match nds T n) (hx : ∀ (k : Nat) (nd : Nd), n ≤ k → nds[k]? = some nd → (∃ p, nd.par = some p ∧ p < n) ∧ nd.kids = []) : TreeWf nds where
  lt := fun k nd p e hp => by
    by_cases hk : k < n
    · have := M.par k hk
      unfold parN at this
      rw [e] at this
      exact M.pre.lt hk (by rw [← this]; exact hp)
    · obtain ⟨⟨q, a, b⟩, _⟩ := hx k nd (by omega) e
      rw [hp] at a; cases a; omega
  root := fun k nd e hp => by
    by_cases hk : k < n
    · rcases Nat.eq_zero_or_pos k with h | h
      · exact h
      · obtain ⟨q, a, _⟩ := M.pre.up k h hk
        have := M.par k hk
        unfold parN at this
        rw [e] at this
        have h2 : nd.par = parT T k := this
        rw [hp, a] at h2; cases h2
    · obtain ⟨⟨q, a, b⟩, _⟩ := hx k nd (by omega) e
      rw [hp] at a; cases a
  kids := fun nd hm c hc => by
    obtain ⟨k, e⟩ := List.mem_iff_getElem?.mp hm
    by_cases hk : k < n
    · have := M.kids k hk
      unfold kidsN at this
      rw [e] at this
      have h2 : nd.kids = kidsP (parT T) n k := this
      rw [h2] at hc
      have := List.mem_range.mp ((List.mem_filter.mp hc).1)
      have := M.le
      omega
    · rw [(hx k nd (by omega) e).2] at hc; cases hc
theorem pre_of {nds : List Nd} {T : List (Option Nat × Str)} {n : Nat} (M : Match nds T n) (hn : n ≤ 200) : PreAt nds n (pendN (parT T) n) := preAt M.pre hn M.kids
theorem Grow.wf {nds : List Nd} {T : List (Option Nat × Str)} {st : List Nat} (G : Grow nds T st) : TreeWf nds := wf_of G.m fun k nd hk e => absurd (List.getElem?_eq_some_iff.mp e).1 (by omega)

noncomputable def unameN (f : Nd → Str) (nds : List Nd) (k : Nat) : Str := ((nds[k]?).map f).getD Str.empty
noncomputable def named (x : Str) : Bool := [Str.ofString "element", Str.ofString "attribute", Str.ofString "instruction"].any fun y => y == x
/-- a node of this one's kind and name -/
noncomputable def likeN (nds : List Nd) (k j : Nat) : Bool := (kindN nds j == kindN nds k) && (!named (kindN nds k) || (unameN Nd.lname nds j == unameN Nd.lname nds k) && (unameN Nd.uri nds j == unameN Nd.uri nds k))

theorem like_self {nds : List Nd} {k : Nat} : likeN nds k k = true := by
  unfold likeN
  simp
theorem like_eq {nds : List Nd} {T : List (Option Nat × Str)} {n k j : Nat} (M : Match nds T n) (hk : k < n) (hj : j < n) : likeN nds k j = hasW T [labT T k] j := by
  have hl := M.le
  have h1 : nds[k]? = some nds[k] := List.getElem?_eq_getElem (by omega)
  have h2 : nds[j]? = some nds[j] := List.getElem?_eq_getElem (by omega)
  obtain ⟨a1, u1⟩ := M.lab k _ hk h1
  obtain ⟨a2, u2⟩ := M.lab j _ hj h2
  unfold likeN kindN unameN hasW inW
  rw [h1, h2]
  simp only [Option.map_some, Option.getD_some, List.any_cons, List.any_nil, Bool.or_false]
  rw [u1, u2]
  generalize nds[k] = x at a1
  generalize nds[j] = y at a2
  generalize labT T k = l1 at a1 ⊢
  generalize labT T j = l2 at a2 ⊢
  cases a1 with
  | root p1 p2 p3 =>
    cases a2 with
    | root q1 q2 q3 => rw [p1, q1, p2, q2, p3, q3]; decide
    | text q1 q2 q3 => rw [p1, q1, p2, q2, p3, q3]; decide
    | element q1 q2 q3 => rw [p1, q1, p2, p3, ← q2]; rcases q3 with rfl | rfl | rfl <;> decide
  | text p1 p2 p3 =>
    cases a2 with
    | root q1 q2 q3 => rw [p1, q1, p2, q2, p3, q3]; decide
    | text q1 q2 q3 => rw [p1, q1, p2, q2, p3, q3]; decide
    | element q1 q2 q3 => rw [p1, q1, p2, p3, ← q2]; rcases q3 with rfl | rfl | rfl <;> decide
  | element p1 p2 p3 =>
    cases a2 with
    | root q1 q2 q3 => rw [p1, q1, q2, q3, ← p2]; rcases p3 with rfl | rfl | rfl <;> decide
    | text q1 q2 q3 => rw [p1, q1, q2, q3, ← p2]; rcases p3 with rfl | rfl | rfl <;> decide
    | element q1 q2 q3 =>
      rw [p1, q1, ← p2, ← q2]
      rcases p3 with rfl | rfl | rfl <;> rcases q3 with rfl | rfl | rfl <;> decide
theorem none_eq {nds : List Nd} {T : List (Option Nat × Str)} {n j : Nat} (M : Match nds T n) (hj : j < n) : (labT T j == Str.ofString "none") = false := by
  have hl := M.le
  have h2 : nds[j]? = some nds[j] := List.getElem?_eq_getElem (by omega)
  obtain ⟨a2, u2⟩ := M.lab j _ hj h2
  generalize nds[j] = y at a2
  generalize labT T j = l2 at a2 ⊢
  cases a2 with
  | root q1 q2 q3 => rw [q2]; decide
  | text q1 q2 q3 => rw [q2]; decide
  | element q1 q2 q3 => rcases q3 with rfl | rfl | rfl <;> decide

/-- the law's numbers for an attribute -/
noncomputable def ownN (ws : List Str) : List Nat := if inW ws (Str.ofString "z") = true then [1] else []
noncomputable def aboveN (T : List (Option Nat × Str)) (ws : List Str) (bg : Str) (k : Nat) : List Nat := if (labT T k == bg) = true then [] else (upW T bg k).filter (hasW T ws)
noncomputable def manyA (T : List (Option Nat × Str)) (ws : List Str) (bg : Str) (k : Nat) : Nat := (dueN T (Str.ofString "any") ws bg k ++ ownN ws).sum
noncomputable def attDue (T : List (Option Nat × Str)) (lv : Str) (ws : List Str) (bg : Str) (k : Nat) : List Nat :=
  if lv = Str.ofString "single" then (ownN ws ++ (aboveN T ws bg k).map (amongN T ws)).take 1 else if lv = Str.ofString "multiple" then ((aboveN T ws bg k).map (amongN T ws)).reverse ++ ownN ws
  else if 0 < manyA T ws bg k then [manyA T ws bg k] else []

theorem upTo_att {nds : List Nd} {T : List (Option Nat × Str)} {n k : Nat} {bg : Str} {pb : Nat → Bool} (WF : ParLt (parN nds)) (M : Match nds T n) (hk : k < n) (hp : parN nds n = some k) (hb : ∀ j, j < n → pb j = (labT T j == bg)) :
    upTo (parN nds) pb n = n :: if (labT T k == bg) = true then [] else upW T bg k := by
  rw [upTo_eq WF]
  congr 1
  rw [← hb k hk]
  cases h : pb k with
  | true => rw [if_pos rfl]; exact restU_stop WF hp h
  | false =>
    rw [if_neg Bool.false_ne_true, restU_go WF hp h, ← upTo_eq WF]
    exact upTo_congr WF (parT_lt M) M.par hb hk
theorem manyA_eq {T : List (Option Nat × Str)} {ws : List Str} {bg : Str} {k : Nat} : manyA T ws bg k = manyN (hasW T ws) (fun x => labT T x == bg) k + if inW ws (Str.ofString "z") = true then 1 else 0 := by
  unfold manyA dueN ownN
  rw [if_neg (by decide), if_neg (by decide), List.sum_append]
  congr 1
  · split
    · simp
    · simp; omega
  · split <;> simp

/-- the attribute's numbers are those that are due -/
theorem num_att {nds : List Nd} {T : List (Option Nat × Str)} {n k : Nat} {ws : List Str} {bg lv : Str} {pc pb : Nat → Bool} (WF : ParLt (parN nds)) (M : Match nds T n) (hk : k < n) (hp : parN nds n = some k) (hkd : kindN nds n = Str.ofString "attribute")
    (hc : ∀ j, j < n → pc j = hasW T ws j) (hcn : pc n = inW ws (Str.ofString "z")) (hb : ∀ j, j < n → pb j = (labT T j == bg)) (hlv : lv = Str.ofString "single" ∨ lv = Str.ofString "multiple" ∨ lv = Str.ofString "any") :
    numN lv nds pc pb n = attDue T lv ws bg k := by
  have hu := upTo_att WF M hk hp hb
  have hat : atKind (kindN nds n) = true := by rw [hkd]; rfl
  have hpl : placeN nds pc n = 1 := by unfold placeN; rw [hp]; simp only; rw [if_pos hat]
  have hlt : ∀ x ∈ (if (labT T k == bg) = true then [] else upW T bg k), x < n := fun x hx => by
    split at hx
    · cases hx
    · exact upTo_lt (parT_lt M) hk hx
  have hab : (if (labT T k == bg) = true then [] else upW T bg k).filter pc = aboveN T ws bg k := by
    rw [filter_congr_lt hc hlt]
    unfold aboveN
    split <;> rfl
  have hm : ((if (labT T k == bg) = true then [] else upW T bg k).filter pc).map (placeN nds pc) = (aboveN T ws bg k).map (amongN T ws) := by
    rw [List.map_congr_left (g := amongN T ws) fun x hx => place_among_eq M (hlt x ((List.mem_filter.mp hx).1)) hc, hab]
  have hall : ((upTo (parN nds) pb n).filter pc).map (placeN nds pc) = ownN ws ++ (aboveN T ws bg k).map (amongN T ws) := by
    rw [hu, List.filter_cons]
    unfold ownN
    rw [← hcn]
    cases pc n with
    | true => simp only [if_true, List.map_cons, hpl, hm]; rfl
    | false => simp only [Bool.false_eq_true, if_false, hm]; rfl
  have hrev : (ownN ws).reverse = ownN ws := by unfold ownN; split <;> rfl
  rcases hlv with rfl | rfl | rfl
  · unfold numN attDue
    rw [if_neg (by decide), if_neg (by decide), if_pos rfl]
    rw [singleN_eq, List.map_take, hall]
  · unfold numN attDue
    rw [if_pos rfl, if_neg (by decide), if_pos rfl]
    unfold multipleN
    rw [hall, List.reverse_append, hrev]
  · unfold numN attDue
    rw [if_neg (by decide), if_pos rfl, if_neg (by decide), if_neg (by decide)]
    have he : endN nds n = k := by unfold endN; rw [if_pos hat, hp]; rfl
    have ha : anyM nds pc pb n = manyA T ws bg k := by
      rw [anyM_eq he, cnt_all, manyA_eq, hcn]
      congr 1
      · unfold manyN
        have hfn : ∀ j, j ≤ n → firstN pb j = firstN (fun x => labT T x == bg) j := by
          intro j
          induction j with
          | zero => intro _; rfl
          | succ j ih =>
            intro hj
            unfold firstN
            rw [hb j (by omega), ih (by omega)]
        rw [hfn k (by omega)]
        congr 1
        apply List.filter_congr
        intro j hj
        have hj := List.mem_range.mp hj
        rw [hc j (by omega)]
      · have : k ≠ n := by omega
        simp [this]
    unfold anyN
    rw [ha]
theorem num_like {nds : List Nd} {T : List (Option Nat × Str)} {n k : Nat} {pc : Nat → Bool} (WF : ParLt (parN nds)) (hp : parN nds n = some k) (hkd : kindN nds n = Str.ofString "attribute") (hc : pc n = true) : numN (Str.ofString "single") nds pc (fun _ => false) n = [1] := by
  have hat : atKind (kindN nds n) = true := by rw [hkd]; rfl
  have hpl : placeN nds pc n = 1 := by unfold placeN; rw [hp]; simp only; rw [if_pos hat]
  unfold numN
  rw [if_neg (by decide), if_neg (by decide)]
  unfold singleN
  rw [upTo_eq WF, List.find?_cons, hc]
  simp only [hpl]

/-- the attribute's row stands behind the tree's -/
theorem match_att {nds : List Nd} {T : List (Option Nat × Str)} {st : List Nat} {p : Nat} {nd : Nd} (G : Grow nds T st) : Match (attAt p nds.length nds ++ [nd]) T nds.length := by
  have get : ∀ k, k < nds.length → (attAt p nds.length nds ++ [nd])[k]? = (nds[k]?).map fun nd => if p = k then addAtt nds.length nd else nd := fun k hk => by
    rw [List.getElem?_append_left (by rw [attAt_length]; exact hk), attAt_get]
  refine ⟨G.m.len, by rw [List.length_append, attAt_length]; omega, G.m.pre, ?_, ?_, ?_⟩
  · intro k hk
    rw [← G.m.par k hk]
    unfold parN
    rw [get k hk]
    cases nds[k]? with
    | none => rfl
    | some x =>
      simp only [Option.map_some, Option.bind_some]
      split <;> rfl
  · intro k hk
    rw [← G.m.kids k hk]
    unfold kidsN
    rw [get k hk]
    cases nds[k]? with
    | none => rfl
    | some x =>
      simp only [Option.map_some, Option.getD_some]
      split <;> rfl
  · intro k nd' hk ek
    rw [get k hk] at ek
    obtain ⟨x, hx, rfl⟩ := Option.map_eq_some_iff.mp ek
    obtain ⟨a, b⟩ := G.m.lab k x hk hx
    split
    · exact ⟨by cases a with
        | root h1 h2 h3 => exact .root h1 h2 h3
        | text h1 h2 h3 => exact .text h1 h2 h3
        | element h1 h2 h3 => exact .element h1 h2 h3, b⟩
    · exact ⟨a, b⟩
theorem att_get {nds : List Nd} {p : Nat} {nd : Nd} : (attAt p nds.length nds ++ [nd])[nds.length]? = some nd := by
  rw [List.getElem?_append_right (by rw [attAt_length]; exact Nat.le_refl _), attAt_length]; simp
theorem wf_att {nds : List Nd} {T : List (Option Nat × Str)} {st : List Nat} {p q : Nat} {nd : Nd} (G : Grow nds T st) (hq : nd.par = some q) (hqn : q < nds.length) (hk : nd.kids = []) : TreeWf (attAt p nds.length nds ++ [nd]) :=
  wf_of (match_att G) fun k x h e => by
    have hlt := (List.getElem?_eq_some_iff.mp e).1
    rw [List.length_append, attAt_length, List.length_singleton] at hlt
    obtain rfl : k = nds.length := by omega
    rw [att_get] at e
    cases e
    exact ⟨⟨q, hq, hqn⟩, hk⟩


theorem type_ne {a b : String} (h : a ≠ b) : Value.type a ≠ Value.type b := fun q => h (Value.type.inj q)
noncomputable def addrsT (rl : Addr) (nds : List Nd) : List Addr := rl :: nds.flatMap fun nd => [nd.a, nd.d, nd.c, nd.t]
noncomputable def sup (rl : Addr) (nds : List Nd) (as : List Addr) : List Addr := addrsT rl nds ++ as
/-- the tree's rows and the law's own rows, as the heap bears them -/
structure GB (h : Heap) (rl : Addr) (nds : List Nd) (as : List Addr) (T : List (Option Nat × Str)) : Prop where
  rows : ∃ ep, h.get? rl = some (rowsObj nds ep)
  nodes : ∀ nd ∈ nds, NdAt h nd
  small : nds.length ≤ 100
  nodup : (foot rl nds).Nodup
  alen : as.length = T.length
  tups : ∀ (k : Nat) (a : Addr) (x : Option Nat × Str), as[k]? = some a → T[k]? = some x → RowAt h a k x
theorem sup_mem {rl : Addr} {nds : List Nd} {as : List Addr} {nd : Nd} (h : nd ∈ nds) : nd.a ∈ sup rl nds as ∧ nd.d ∈ sup rl nds as ∧ nd.c ∈ sup rl nds as ∧ nd.t ∈ sup rl nds as := by
  refine ⟨?_, ?_, ?_, ?_⟩ <;> refine List.mem_append_left _ (.tail _ (List.mem_flatMap.mpr ⟨nd, h, ?_⟩)) <;> simp
theorem sup_rl {rl : Addr} {nds : List Nd} {as : List Addr} : rl ∈ sup rl nds as := List.mem_append_left _ (.head _)
theorem sup_as {rl : Addr} {nds : List Nd} {as : List Addr} {a : Addr} (h : a ∈ as) : a ∈ sup rl nds as := List.mem_append_right _ h
theorem sup_inv {rl : Addr} {nds : List Nd} {as : List Addr} {x : Addr} (h : x ∈ sup rl nds as) : x = rl ∨ (∃ nd ∈ nds, x = nd.a ∨ x = nd.d ∨ x = nd.c ∨ x = nd.t) ∨ x ∈ as := by
  rcases List.mem_append.mp h with h | h
  · rcases List.mem_cons.mp h with h | h
    · exact .inl h
    · obtain ⟨nd, hn, hx⟩ := List.mem_flatMap.mp h
      exact .inr (.inl ⟨nd, hn, by simpa using hx⟩)
  · exact .inr (.inr h)
theorem foot_sup {rl : Addr} {nds : List Nd} {as : List Addr} {x : Addr} (h : x ∈ foot rl nds) : x ∈ sup rl nds as := by
  rcases List.mem_cons.mp h with rfl | h
  · exact sup_rl
  · obtain ⟨nd, hn, hx⟩ := List.mem_flatMap.mp h
    rcases List.mem_cons.mp hx with rfl | hx
    · exact (sup_mem hn).2.2.1
    · rw [List.mem_singleton.mp hx]; exact (sup_mem hn).2.2.2
theorem GB.agree {h0 h : Heap} {rl : Addr} {nds : List Nd} {as : List Addr} {T : List (Option Nat × Str)} (x : GB h0 rl nds as T) (k : ∀ a ∈ sup rl nds as, ∀ o, h0.get? a = some o → h.get? a = some o) : GB h rl nds as T where
  rows := let ⟨ep, e⟩ := x.rows; ⟨ep, k _ sup_rl _ e⟩
  nodes := fun nd hn => by
    obtain ⟨n1, ⟨es, nn, n2, n3⟩, ⟨kvs, kep, n9, n9'⟩, ⟨avs, aep, n10, n10'⟩, n11⟩ := x.nodes nd hn
    obtain ⟨s1, s2, s3, s4⟩ := sup_mem (rl := rl) (as := as) hn
    exact ⟨k _ s1 _ n1, ⟨es, nn, k _ s2 _ n2, n3⟩, ⟨kvs, kep, k _ s3 _ n9, n9'⟩, ⟨avs, aep, k _ s4 _ n10, n10'⟩, n11⟩
  small := x.small
  nodup := x.nodup
  alen := x.alen
  tups := fun i a y ha hy => by
    obtain ⟨t, v, tl, n, e, p⟩ := x.tups i a y ha hy
    exact ⟨t, v, tl, n, k _ (sup_as (List.mem_of_getElem? ha)) _ e, p⟩
theorem GB.exist {h : Heap} {rl : Addr} {nds : List Nd} {as : List Addr} {T : List (Option Nat × Str)} (x : GB h rl nds as T) : ∀ a ∈ sup rl nds as, ∃ o, h.get? a = some o ∧ o.cls ≠ .type "range_iterator" := fun a ha => by
  rcases sup_inv ha with rfl | ⟨nd, hn, h1⟩ | h1
  · obtain ⟨ep, e⟩ := x.rows; exact ⟨_, e, type_ne (by decide)⟩
  · obtain ⟨n1, ⟨es, nn, n2, n3⟩, ⟨kvs, kep, n9, n9'⟩, ⟨avs, aep, n10, n10'⟩, n11⟩ := x.nodes nd hn
    rcases h1 with rfl | rfl | rfl | rfl
    · exact ⟨_, n1, by intro q; cases q⟩
    · exact ⟨_, n2, type_ne (by decide)⟩
    · exact ⟨_, n9, type_ne (by decide)⟩
    · exact ⟨_, n10, type_ne (by decide)⟩
  · obtain ⟨i, hi⟩ := List.mem_iff_getElem?.mp h1
    obtain ⟨y, hy⟩ : ∃ y, T[i]? = some y := by
      have := (List.getElem?_eq_some_iff.mp hi).1
      rw [x.alen] at this
      exact ⟨T[i], by simp [this]⟩
    obtain ⟨t, v, tl, n, e, p⟩ := x.tups i a y hi hy
    exact ⟨_, e, type_ne (by decide)⟩
theorem GB.tree {h : Heap} {tr rl dt : Addr} {nds : List Nd} {as : List Addr} {T : List (Option Nat × Str)} {hh : Int} {tk : Tok} {n : Nat} (x : GB h rl nds as T) (e1 : h.get? tr = some (instObj 323 dt)) (e2 : h.get? dt = some (dictOf [⟨hh, .str "rows" tk, .ref rl⟩] n)) : TreeM h tr rl nds :=
  ⟨⟨⟨dt, hh, tk, n, e1, e2⟩, x.rows, x.nodes, x.small⟩, x.nodup⟩
theorem GB.of {h : Heap} {tr rl : Addr} {nds : List Nd} {as : List Addr} {T : List (Option Nat × Str)} (x : TreeM h tr rl nds) (l : as.length = T.length) (t : ∀ (k : Nat) (a : Addr) (x : Option Nat × Str), as[k]? = some a → T[k]? = some x → RowAt h a k x) : GB h rl nds as T :=
  ⟨x.at_.rows, x.at_.nodes, x.at_.small, x.nodup, l, t⟩
theorem tup_ne {l : List Value} {n : Nat} {its : Array Value} {ep : Nat} : tupObj l n ≠ listOf its ep := fun h => by
  exact absurd (congrArg Obj.cls h) (type_ne (by decide))
theorem RowAt.chg {ms : List Addr} {h h' : Heap} {a : Addr} {k : Nat} {x : Option Nat × Str} (r : RowAt h a k x) (c : Chg ms h h') (hl : ∀ x ∈ ms, ∃ its ep, h.get? x = some (listOf its ep)) : RowAt h' a k x :=
  let ⟨t, v, tl, n, e, p⟩ := r; ⟨t, v, tl, n, c.list hl e fun _ _ => tup_ne, p⟩
theorem tupTail {tl : List (Addr × Obj)} {h0 h : Heap} {S : List Addr} (e : tl = led h0 S) (x : ∀ p ∈ tl, h.get? p.1 = some p.2) : ∀ a ∈ S, ∀ o, h0.get? a = some o → h.get? a = some o := led_agree fun p hp => x p (e ▸ hp)

/-- a step that turns the tree, seen from a frame whose ledger ends with the tree's objects -/
theorem tree_turned {g h h' h0 : Heap} {L rl : Addr} {m : Str → Option Value} {front tl : List (Addr × Obj)} {nds nds' : List Nd} {as : List Addr} {T T' : List (Option Nat × Str)} {ms : List Addr}
    (F : Fr g L h m) (N : News g L h (front ++ tl)) (e : tl = led h0 (sup rl nds as)) (B : GB h0 rl nds as T) (hms : ∀ x ∈ ms, x ∈ sup rl nds as) (ap : ∀ p ∈ front, p.1 ∉ ms) (c : Chg ms h h')
    (hnew : ∀ x ∈ sup rl nds' as, x ∈ sup rl nds as ∨ h.get? x = none) : Fr g L h' m ∧ News g L h' (front ++ led h' (sup rl nds' as)) ∧ (∀ d : Addr, (∃ o, h.get? d = some o) → d ∉ sup rl nds as → d ∉ sup rl nds' as) := by
  have inl : ∀ x ∈ sup rl nds as, ∃ o, (x, o) ∈ tl := fun x hx => by
    obtain ⟨o, ho, _⟩ := B.exist x hx
    exact ⟨o, by rw [e]; exact led_mem.mpr ⟨hx, ho⟩⟩
  have F' : Fr g L h' m := fr_turnedL F c (fun q => by
    obtain ⟨o, ho⟩ := inl _ (hms _ q)
    exact (N _ (List.mem_append_right _ ho)).2.1 rfl) (fun a ha => by
    obtain ⟨o, ho⟩ := inl _ (hms _ ha)
    exact (N _ (List.mem_append_right _ ho)).2.2)
  refine ⟨F', fun p hp => ?_, fun d ⟨o, hd⟩ hn q => ?_⟩
  · rcases List.mem_append.mp hp with hp | hp
    · have P := N p (List.mem_append_left _ hp)
      exact ⟨c _ _ (ap p hp) P.1, P.2⟩
    · obtain ⟨h1, h2⟩ := led_mem.mp hp
      refine ⟨h2, ?_⟩
      rcases hnew _ h1 with h3 | h3
      · obtain ⟨o, ho⟩ := inl _ h3
        exact (N _ (List.mem_append_right _ ho)).2
      · refine ⟨?_, fr_fresh F h3⟩
        intro q
        obtain ⟨oL, es, ep, eL, _⟩ := F.ns
        rw [q, eL] at h3; cases h3
  · rcases hnew _ q with h3 | h3
    · exact hn h3
    · rw [hd] at h3; cases h3
theorem sup_more {rl : Addr} {nds : List Nd} {as : List Addr} {p : Nat} {nd : Nd} {h h' : Heap} {kd ur lc : Str} {par : Option Nat} (n : NewNd h h' nd kd ur lc par) : ∀ x ∈ sup rl (kidAt p nds.length nds ++ [nd]) as, x ∈ sup rl nds as ∨ h.get? x = none := fun x hx => by
  rcases sup_inv hx with rfl | ⟨y, hy, h1⟩ | h1
  · exact .inl sup_rl
  · rcases List.mem_append.mp hy with hy | hy
    · obtain ⟨j, hj⟩ := List.mem_iff_getElem?.mp hy
      rw [kidAt_get] at hj
      obtain ⟨z, hz, rfl⟩ := Option.map_eq_some_iff.mp hj
      have hm := sup_mem (rl := rl) (as := as) (List.mem_of_getElem? hz)
      left
      split at h1 <;> rcases h1 with rfl | rfl | rfl | rfl <;> first | exact hm.1 | exact hm.2.1 | exact hm.2.2.1 | exact hm.2.2.2
    · rw [List.mem_singleton.mp hy] at h1
      right
      rcases h1 with rfl | rfl | rfl | rfl
      · exact n.fa
      · exact n.fd
      · exact n.fc
      · exact n.ft
  · exact .inl (sup_as h1)

theorem led_sub {g h h0 : Heap} {L : Addr} {news tl : List (Addr × Obj)} {S S' : List Addr} (N : News g L h news) (ht : ∀ p ∈ tl, p ∈ news) (e : tl = led h0 S) (ex : ∀ a ∈ S, ∃ o, h0.get? a = some o ∧ o.cls ≠ .type "range_iterator") (hS : ∀ a ∈ S', a ∈ S ∨ ∃ o, (a, o) ∈ news) : ∀ p ∈ led h S', p ∈ news := fun p hp => by
  obtain ⟨h1, h2⟩ := led_mem.mp hp
  obtain ⟨o, ho⟩ : ∃ o, (p.1, o) ∈ news := by
    rcases hS _ h1 with h3 | h3
    · obtain ⟨o, ho, _⟩ := ex _ h3
      exact ⟨o, ht _ (by rw [e]; exact led_mem.mpr ⟨h3, ho⟩)⟩
    · exact h3
  have h4 := (N _ ho).1
  rw [show (p.1, o).1 = p.1 from rfl, h2] at h4
  have : p = (p.1, o) := Prod.ext rfl (Option.some.inj h4)
  rw [this]; exact ho
theorem GB.snoc {h : Heap} {rl a : Addr} {nds : List Nd} {as : List Addr} {T : List (Option Nat × Str)} {x : Option Nat × Str} (B : GB h rl nds as T) (r : RowAt h a as.length x) : GB h rl nds (as ++ [a]) (T ++ [x]) :=
  { B with
    alen := by rw [List.length_append, List.length_append, B.alen]; rfl
    tups := fun k b y ha hy => by
      by_cases hk : k < as.length
      · rw [List.getElem?_append_left hk] at ha
        rw [List.getElem?_append_left (by rw [← B.alen]; exact hk)] at hy
        exact B.tups k b y ha hy
      · have hk' := (List.getElem?_eq_some_iff.mp ha).1
        rw [List.length_append, List.length_singleton] at hk'
        obtain rfl : k = as.length := by omega
        rw [List.getElem?_append_right (Nat.le_refl _)] at ha
        rw [B.alen, List.getElem?_append_right (Nat.le_refl _)] at hy
        simp at ha hy
        rw [← ha, ← hy]; exact r }
theorem sup_snoc {rl a x : Addr} {nds : List Nd} {as : List Addr} (h : x ∈ sup rl nds (as ++ [a])) : x ∈ sup rl nds as ∨ x = a := by
  unfold sup at h ⊢
  rw [← List.append_assoc] at h
  rcases List.mem_append.mp h with h | h
  · exact .inl h
  · exact .inr (List.mem_singleton.mp h)
theorem allLt_get {d : Nat} (l : List (Addr × Obj)) : AllLt d l → ∀ p ∈ l, @LT.lt Nat _ p.1 d := by
  induction l with
  | nil => exact fun _ p hp => absurd hp List.not_mem_nil
  | cons a l ih =>
    intro h p hp
    rcases List.mem_cons.mp hp with e | hp
    · rw [e]; exact h.1
    · exact ih h.2 p hp
theorem notin_of_lt {d : Addr} {tl : List (Addr × Obj)} {h0 : Heap} {S : List Addr} (e : tl = led h0 S) (ex : ∀ a ∈ S, ∃ o, h0.get? a = some o ∧ o.cls ≠ .type "range_iterator") (l : ∀ p ∈ tl, @LT.lt Nat _ p.1 d) : d ∉ S := fun q => by
  obtain ⟨o, ho, _⟩ := ex _ q
  have := l (d, o) (by rw [e]; exact led_mem.mpr ⟨q, ho⟩)
  exact absurd this (Nat.lt_irrefl _)
theorem led_off {d : Addr} {tl : List (Addr × Obj)} {h0 : Heap} {S : List Addr} (e : tl = led h0 S) (h : d ∉ S) : ∀ p ∈ tl, @Ne Nat p.1 d := fun p hp q => h (by rw [e] at hp; have := (led_mem.mp hp).1; rwa [q] at this)
theorem led_cls {h h0 : Heap} {S : List Addr} {c : Value} (ex : ∀ a ∈ S, ∃ o, h.get? a = some o ∧ o.cls ≠ .type "range_iterator") (hc : c = .type "range_iterator") : ∀ p ∈ led h S, p.2.cls ≠ c := fun p hp => by
  obtain ⟨h1, h2⟩ := led_mem.mp hp
  obtain ⟨o, ho, hn⟩ := ex _ h1
  rw [h2] at ho; cases ho
  rw [hc]; exact hn
noncomputable def strsOf (vs : List Value) : List Str := vs.filterMap fun v => match v with | .str x _ => some x | _ => none
noncomputable def allStrs (vs : List Value) : Bool := vs.all fun v => match v with | .str _ _ => true | _ => false
theorem pick_str {vs : List Value} {r : Nat} {v : Value} (hS : allStrs vs = true) (h : vs[r]? = some v) : ∃ nm t, v = .str nm t ∧ nm ∈ strsOf vs := by
  have hm := List.mem_of_getElem? h
  have h1 := List.all_eq_true.mp hS v hm
  cases v with
  | str x t => exact ⟨x, t, rfl, List.mem_filterMap.mpr ⟨_, hm, rfl⟩⟩
  | _ => exact absurd h1 Bool.false_ne_true

theorem grow_at {nds : List Nd} {TT : List (Option Nat × Str)} {st pre : List Nat} {p d : Nat} (G : Grow nds TT st) (e : st.take d = pre ++ [p]) : p ∈ st ∧ p < nds.length ∧ st.take (pre.length + 1) = pre ++ [p] := by
  have hm : p ∈ st := List.mem_of_mem_take (i := d) (by rw [e]; exact List.mem_append_right _ (.head _))
  refine ⟨hm, G.stk.lt p hm, ?_⟩
  have hl := congrArg List.length e
  rw [List.length_take, List.length_append, List.length_singleton] at hl
  have e2 : (st.take d).take (pre.length + 1) = pre ++ [p] := by rw [e]; exact List.take_of_length_le (by simp)
  rw [List.take_take] at e2
  rw [← e2]
  congr 1
  omega
/-- what stands at the row beneath which the next one hangs -/
theorem grow_facts {h : Heap} {rl : Addr} {nds : List Nd} {as : List Addr} {TT : List (Option Nat × Str)} {st pre : List Nat} {p d : Nat} (G : Grow nds TT st) (B : GB h rl nds as TT) (e : st.take d = pre ++ [p]) :
    ∃ (ndp : Nd) (a : Addr) (t : Tok) (v : Value) (tl : Tok) (n : Nat), p < nds.length ∧ st.take (pre.length + 1) = pre ++ [p] ∧ nds[p]? = some ndp ∧ ndp.kids.length ≤ nds.length ∧ ([Str.ofString "root", Str.ofString "element"].any fun x => x == ndp.kind) = true ∧
      (as.map Value.ref)[((p : Nat) : Int).toNat]? = some (.ref a) ∧ h.get? a = some (tupObj [.int (p : Int) t, v, .str (labT TT p) tl] n) ∧ pre.length < st.length ∧ ndp ∈ nds := by
  obtain ⟨hm, hlt, e2⟩ := grow_at G e
  have hnd : nds[p]? = some nds[p] := List.getElem?_eq_getElem hlt
  obtain ⟨a, t, v, tl, n, f1, f2, f3⟩ := rows_get (T := TT) (as := as) (g := h) B.alen B.tups (by rw [G.m.len]; exact hlt)
  have hl := congrArg List.length e2
  rw [List.length_take, List.length_append, List.length_singleton] at hl
  exact ⟨_, a, t, v, tl, n, hlt, e2, hnd, G.kidl _ (List.mem_of_getElem? hnd), G.stel p _ hm hnd, f1, f2, by omega, List.mem_of_getElem? hnd⟩
theorem led_fresh {g h h0 : Heap} {L rl x : Addr} {news tl : List (Addr × Obj)} {nds : List Nd} {as : List Addr} {TT : List (Option Nat × Str)} (N : News g L h news) (e : tl = led h0 (sup rl nds as)) (B : GB h0 rl nds as TT) (hs : ∀ p ∈ tl, p ∈ news) (hx : x ∈ sup rl nds as) : g.get? x = none := by
  obtain ⟨o, ho, _⟩ := B.exist x hx
  exact (N (x, o) (hs _ (by rw [e]; exact led_mem.mpr ⟨hx, ho⟩))).2.2
theorem off2 {rl x : Addr} {nds : List Nd} {as : List Addr} {ndp : Nd} (h : x ∉ sup rl nds as) (hm : ndp ∈ nds) : x ∉ [rl, ndp.c] := fun q => by
  rcases List.mem_cons.mp q with rfl | q
  · exact h sup_rl
  · rw [List.mem_singleton.mp q] at h; exact h (sup_mem hm).2.2.1
theorem off_notin {rl I : Addr} {tl : List (Addr × Obj)} {nds : List Nd} {as : List Addr} {TT : List (Option Nat × Str)} {h0 : Heap} (e : tl = led h0 (sup rl nds as)) (B : GB h0 rl nds as TT) (h : ∀ x ∈ tl, @Ne Nat x.1 I) : I ∉ sup rl nds as := fun q => by
  obtain ⟨o, ho, _⟩ := B.exist I q
  exact h (I, o) (by rw [e]; exact led_mem.mpr ⟨q, ho⟩) rfl
theorem news_skip3 {g h : Heap} {L : Addr} {a b c d : Addr × Obj} {l : List (Addr × Obj)} (N : News g L h (a :: b :: c :: d :: l)) : News g L h (a :: b :: c :: l) := fun p hp => by
  rcases List.mem_cons.mp hp with h | hp
  · exact N p (by rw [h]; exact .head _)
  rcases List.mem_cons.mp hp with h | hp
  · exact N p (by rw [h]; exact .tail _ (.head _))
  rcases List.mem_cons.mp hp with h | hp
  · exact N p (by rw [h]; exact .tail _ (.tail _ (.head _)))
  exact N p (.tail _ (.tail _ (.tail _ (.tail _ hp))))
section
variable {prog : Program} {w : World} {A : Around} {E : Value → Shared → Prop} {s : Shared} {h₀ : Heap} {L l : Addr} {m : Str → Option Value} {news : List (Addr × Obj)} {value slice : PySem.Expr} {its : Array Value} {ln : List Nat} {vu : Value} {y : Int} {Q : Value → Shared → Prop} {ep : Nat}
theorem slice_upto_ne (F : Fr h₀ L s.heap m) (N : News h₀ L s.heap news) (hl : s.heap.get? l = some (listOf its ep)) (hi : IntsAre its.toList (natZ ln)) (pu : IsPart vu (some y)) (h0 : 0 < y) (hne : ln ≠ [])
    (h : ∀ D vi (p : Nat) t pre h', Fr h₀ L h' m → News h₀ L h' ((D, listOf (vi ++ [.int (p : Int) t]).toArray 0) :: news) → (∀ p ∈ news, p.1 < D) → IntsAre vi (natZ pre) → ln.take y.toNat = pre ++ [p] → Q (.ref D) { s with heap := h' })
    (hs : subscripted slice false (.ref l) (.ref s.heap.objs.size) = operate [.ref s.heap.objs.size, .ref l] (getItem (.ref l) (.ref s.heap.objs.size))) (ht : ∀ r, letTemporaryGo value (.ref l) r = pure ()) (hz : its.size ≤ 1000) :
    wpAny (model prog w) A (subscriptTail value slice (.ref l) (.ref s.heap.objs.size)) Q E { s with heap := s.heap.push { cls := .type "slice", data := .fields #[.none, vu, .none] } } := by
  refine slice_upto F N hl hi pu (Int.le_of_lt h0) (fun D ws h' F' N' l1 hI => ?_) hs ht hz
  have hx : ln.take y.toNat ≠ [] := by
    intro q
    have := congrArg List.length q
    rw [List.length_take, List.length_nil] at this
    have h2 : 0 < ln.length := List.length_pos_iff.mpr hne
    omega
  obtain ⟨pre, p, e⟩ : ∃ pre p, ln.take y.toNat = pre ++ [p] := ⟨_, _, (List.dropLast_concat_getLast hx).symm⟩
  rw [e, natZ, List.map_append] at hI
  obtain ⟨vi, t, e2, hI2⟩ := ints_snoc_inv hI
  obtain ⟨wl⟩ := ws
  change wl = _ at e2
  subst e2
  exact h D vi p t pre h' F' N' l1 hI2 e
end


local macro_rules | `(tactic| k_all) => `(tactic| assumption)
theorem word_M25_1 : True := by
  (k_with "call ref" => (k_dflt (((with_reducible show wpAny _ _ (call (Value.ref 341) [_, Value.int _ _]) _ _ _); (refine' take_step ?zR ?zO ?zF ?zN ?zU ?zhs ?zh1 ?zh2 ?_; (case zF => k_asm); (case zN => k_asm); (case zR => exact Room.less (by k_asm) (by exact Nat.le_of_ble_eq_true rfl)); (case zO => k_asm); (case zU => k_updF); (case zhs => k_asm); (case zh1 => k_extra "m_size"); (case zh2 => k_extra "m_size")); intro _ _ _ _ _ _ _ _ _ _ _ _ _; (try k_sweep)))))
  (k_with "m_strs" => first | exact StrsAre.nil | (refine StrsAre.cons _ _ ?_; k_extra "m_strs"))
  (k_with "call ref" => (k_dflt (((with_reducible show wpAny _ _ (call (Value.ref 348) [_, _]) _ _ _); (refine' one_step ?zR ?zO ?zF ?zN ?zU ?zhs ?zhl ?zhne ?zh1 ?zh2 ?_; (case zF => k_asm); (case zN => k_asm); (case zR => exact Room.less (by k_asm) (by exact Nat.le_of_ble_eq_true rfl)); (case zO => k_asm); (case zU => k_updF); (case zhs => k_asm); (case zhl => k_extra "m_get"); (case zhne => k_ne); (case zh1 => k_extra "m_size"); (case zh2 => k_extra "m_size")); intro _ _ _ _ _ _ _ _ _ hv' _ _ _; obtain ⟨_, _, hv', _⟩ := pick_str rfl hv'; subst hv'; (try clear hv'); (try k_sweep)))))
  (k_with "subscriptTail Name Slice ref ref" => (k_dflt (((with_reducible show wpAny _ _ (subscriptTail _ (PySem.Expr.Slice none (some _) none _) (Value.ref _) (Value.ref _)) _ _ _); (refine' slice_upto_ne (s := ⟨_, _, _, _, _⟩) ?zF ?zN ?zl ?zi ?zk ?ze ?zne ?_ ?zs ?zt ?z; (case zF => k_asm); (case zN => k_asm); (case zl => k_extra "m_get"); (case zi => k_asm); (case zk => with_unfolding_all exact IsPart.int _ _); (case ze => omega); (case zne => k_asm); (case zs => with_unfolding_all rfl); (case zt => kmk_pure); (case z => k_extra "m_size")); intro _ _ _ _ _ _ _ _ l1 _ _; (try k_lt l1); (try k_sweep); (try (revert l1; intro _))))))
  (k_with "binaryOp Add ref ref" => (k_dflt (((with_reducible show wpAny _ _ (binaryOp _ (Value.ref _) (Value.ref _)) _ _ _); (refine' add_own ?zF ?zN ?za ?zb ?zi ?zj ?_ ?z; (case zF => k_asm); (case zN => k_asm); (case za => k_extra "m_get"); (case zb => k_extra "m_get"); (case zi => exact IntsAre.append (by k_asm) (IntsAre.cons _ _ IntsAre.nil)); (case zj => first | assumption | with_unfolding_all exact IntsAre.cons _ _ IntsAre.nil); (case z => k_extra "m_size")); intro _ _ _ _ _ l1 _; (try k_lt l1); (try k_sweep); (try (revert l1; intro _))))))
  (k_with "m_sub" => repeat (first | assumption | refine List.Mem.tail _ ?_))
  exact True.intro
theorem sup_moreT {rl tr : Addr} {nds : List Nd} {as : List Addr} {p : Nat} {nd : Nd} {h h' : Heap} {kd ur lc : Str} {par : Option Nat} (_T : TreeM h' tr rl (kidAt p nds.length nds ++ [nd])) (n : NewNd h h' nd kd ur lc par) : ∀ x ∈ sup rl (kidAt p nds.length nds ++ [nd]) as, x ∈ sup rl nds as ∨ h.get? x = none := sup_more n
inductive JGrow (src tr rl rw : Addr) (i : Nat) (m : Str → Option Value) (news : List (Addr × Obj)) : Prop where
  | mk (la : Addr) (its : Array Value) (epl : Nat) (b x : Int) (t1 t2 : Tok) (n : Nat) (as : List Addr) (epr : Nat) (nds : List Nd) (TT : List (Option Nat × Str)) (st : List Nat) (h0 : Heap) (zc0 : news = (la, listOf its epl) :: (src, srcObj b x t1 t2 n) :: (rw, listOf (as.map Value.ref).toArray epr) :: led h0 (sup rl nds as)) (zc1 : m "source" = some (.ref src)) (zc2 : m "tree" = some (.ref tr)) (zc3 : m "rows" = some (.ref rw)) (zc4 : m "last" = some (.ref la)) (zc5 : IntsAre its.toList (natZ st)) (zc6 : SrcOk b x) (zc7 : GB h0 rl nds as TT) (zc8 : Grow nds TT st) (zc9 : nds.length = i + 1) (zc10 : st.length ≤ i + 1) (zc11 : @Ne Nat la src) (zc12 : @Ne Nat la rw) (zc13 : @Ne Nat rw src) (zc14 : src ∉ sup rl nds as) (zc15 : rw ∉ sup rl nds as) : JGrow src tr rl rw i m news
theorem g_fresh {ms : List Addr} {h g : Heap} {a : Addr} (c : Chg ms h g) (hm : a ∉ ms) (e : g.get? a = none) : h.get? a = none := by
  cases q : h.get? a with
  | none => rfl
  | some o => rw [c a o hm q] at e; cases e
theorem or4 {a b c : Prop} (h : a ∨ b ∨ c ∨ a) : a ∨ b ∨ c := by
  rcases h with h | h | h | h
  · exact .inl h
  · exact .inr (.inl h)
  · exact .inr (.inr h)
  · exact .inl h
theorem ints_last {ws : List Value} {pre : List Nat} {p n : Nat} {z : Int} (h : IntsAre ws (natZ pre ++ [(p : Int)] ++ [z])) (e : z = (n : Int)) : IntsAre ws.toArray.toList (natZ (pre ++ [p] ++ [n])) := by
  subst e
  rw [natZ, List.map_append, List.map_append]
  exact h
theorem grow_end {g h' h5 : Heap} {L src tr rl rw D la I : Addr} {it : Obj} {m : Str → Option Value} {news tl : List (Addr × Obj)} {nds : List Nd} {as : List Addr} {TT : List (Option Nat × Str)} {st : List Nat} {its orw : Array Value} {epl epr i k p n : Nat} {b x : Int} {t1 t2 t5 t6 t7 : Tok} {l : Str} {s : Shared} {tk : Nat}
    (F : Fr g L h' m) (N : News g L h' news) (hD : (D, tupObj [.int (k : Int) t5, .int (p : Int) t6, .str l t7] 0) ∈ news) (hla : (la, listOf its epl) ∈ news) (hI : (I, it) ∈ news) (hsrc : (src, srcObj b x t1 t2 n) ∈ news)
    (hrw : (rw, listOf orw epr) ∈ news) (horw : orw = ((as ++ [D]).map Value.ref).toArray) (ht : ∀ p ∈ tl, p ∈ news) (htl : tl = led h5 (sup rl nds as)) (B : GB h5 rl nds as TT) (G : Grow nds (TT ++ [(some p, l)]) st) (hk : as.length = k)
    (hlen : nds.length = i + 1 + 1) (hst : st.length ≤ i + 1 + 1) (m1 : m "source" = some (.ref src)) (m2 : m "tree" = some (.ref tr)) (m3 : m "rows" = some (.ref rw)) (m4 : m "last" = some (.ref la)) (hIs : IntsAre its.toList (natZ st)) (hsk : SrcOk b x)
    (z1 : src ∉ sup rl nds as) (z2 : rw ∉ sup rl nds as) (e1 : @Ne Nat src D) (e2 : @Ne Nat rw D) (d1 : @Ne Nat la src) (d2 : @Ne Nat la rw) (d3 : @Ne Nat rw src) (hit : it.cls = .type "range_iterator") :
    InvEndG g L (JGrow src tr rl rw (i + 1)) I it s { s with heap := h', toks := tk } := by
  subst hk
  have r6 : RowAt h' D as.length (some p, l) := ⟨t5, .int p t6, t7, 0, (N _ hD).1, ⟨t6, rfl⟩⟩
  have B6 := (B.agree (tupTail htl fun p hp => (N p (ht p hp)).1)).snoc r6
  have hs6 := led_sub N ht htl B.exist (S' := sup rl nds (as ++ [D])) fun a ha => by
    rcases sup_snoc ha with h | h
    · exact .inl h
    · exact .inr ⟨_, by rw [h]; exact hD⟩
  rw [horw] at hrw
  have y1 : src ∉ sup rl nds (as ++ [D]) := fun q => by
    rcases sup_snoc q with h | h
    · exact z1 h
    · exact e1 h
  have y2 : rw ∉ sup rl nds (as ++ [D]) := fun q => by
    rcases sup_snoc q with h | h
    · exact z2 h
    · exact e2 h
  refine ⟨h', tk, m, news, _, rfl, F, N, ?_, hI, ?_, la, its, epl, b, x, t1, t2, n, as ++ [D], epr, nds, _, st, h', rfl, m1, m2, m3, m4, hIs, hsk, B6, G, hlen, hst, d1, d2, d3, y1, y2⟩
  · intro p hp
    rcases List.mem_cons.mp hp with rfl | hp
    · exact hla
    rcases List.mem_cons.mp hp with rfl | hp
    · exact hsrc
    rcases List.mem_cons.mp hp with rfl | hp
    · exact hrw
    exact hs6 p hp
  · intro p hp
    rcases List.mem_cons.mp hp with rfl | hp
    · rw [hit]; exact type_ne (by decide)
    rcases List.mem_cons.mp hp with rfl | hp
    · rw [hit]; exact type_ne (by decide)
    rcases List.mem_cons.mp hp with rfl | hp
    · rw [hit]; exact type_ne (by decide)
    exact led_cls (h0 := h') B6.exist hit p hp
theorem hI_tail {I : Addr} {a b c : Addr × Obj} {l : List (Addr × Obj)} (h : ∀ q ∈ a :: b :: c :: l, @Ne Nat q.1 I) : @Ne Nat a.1 I ∧ @Ne Nat b.1 I ∧ @Ne Nat c.1 I ∧ ∀ q ∈ l, @Ne Nat q.1 I := ⟨h _ (.head _), h _ (.tail _ (.head _)), h _ (.tail _ (.tail _ (.head _))), fun q hq => h q (.tail _ (.tail _ (.tail _ hq)))⟩
/-- what «deep» is reckoned to: a number from 1 to n, the source turned -/
inductive DeepPost (s : Shared) (g : Heap) (L : Addr) (m : Str → Option Value) (src : Addr) (front rest : List (Addr × Obj)) (n : Nat) (v : Value) (s' : Shared) : Prop where
  | mk (d : Nat) (td : Tok) (h' : Heap) (tk' : Nat) (b x : Int) (t1 t2 : Tok) (k : Nat) (zc0 : v = .int (d : Int) td) (zc1 : s' = { s with heap := h', toks := tk' }) (zc2 : 1 ≤ d) (zc3 : d ≤ n) (zc4 : SrcOk b x) (zc5 : Fr g L h' m) (zc6 : News g L h' (front ++ (src, srcObj b x t1 t2 k) :: rest)) : DeepPost s g L m src front rest n v s'
theorem deep_step {M : Model} {A : Around} {t : Sem Value} {E : Value → Shared → Prop} {s s₁ : Shared} {g : Heap} {L src : Addr} {m : Str → Option Value} {front rest : List (Addr × Obj)} {n : Nat} {Q : Value → Shared → Prop} (_ : Fr g L s₁.heap m)
    (h : wpAny M A t (DeepPost s g L m src front rest n) E s₁)
    (k : ∀ (d : Nat) (td : Tok) (h' : Heap) (tk' : Nat) (b x : Int) (t1 t2 : Tok) (j : Nat), 1 ≤ d → d ≤ n → SrcOk b x → Fr g L h' m → News g L h' (front ++ (src, srcObj b x t1 t2 j) :: rest) → Q (.int (d : Int) td) { s with heap := h', toks := tk' }) : wpAny M A t Q E s₁ :=
  wpAny_mono h (fun v s' r => by
    obtain ⟨d, td, h', tk', b, x, t1, t2, j, rfl, rfl, r1, r2, r3, r4, r5⟩ := r
    exact k d td h' tk' b x t1 t2 j r1 r2 r3 r4 r5) fun _ _ e => e
/-- what _law_grown gives back -/
inductive GrownR (s : Shared) (src rl : Addr) (v : Value) (h' : Heap) : Prop where
  | mk (rw : Addr) (as : List Addr) (epr : Nat) (nds : List Nd) (TT : List (Option Nat × Str)) (st : List Nat) (zc0 : v = .ref rw) (zc1 : s.heap.get? rw = none) (zc2 : h'.get? rw = some (listOf (as.map Value.ref).toArray epr)) (zc3 : GB h' rl nds as TT) (zc4 : Grow nds TT st) (zc5 : nds.length ≤ 10) (zc6 : SrcAt h' src) (zc7 : ∀ x ∈ sup rl nds as, x = rl ∨ s.heap.get? x = none) (zc8 : rw ∉ sup rl nds as) : GrownR s src rl v h'
theorem headTail {α : Type} {a : α} {l : List α} : a :: l = [a] ++ l := rfl
section
variable {prog : Program} {w : World} {A : Around} {s : Shared} {E : Value → Shared → Prop} {B0 : Heap}
theorem grown_spec {src tr rl : Addr} (R : Room A 14) (O : Ok w B0) (hB : B0.StaysIn s.heap) (hs : SrcAt s.heap src) (hf : B0.get? src = none) (T : TreeM s.heap tr rl []) (hfr : B0.get? rl = none) (hne : @Ne Nat src rl) :
    wpAny (model prog w) A (call (.ref 355) [.ref src, .ref tr]) (Turned [src, rl] s (GrownR s src rl)) E s := by
  obtain ⟨b, x, t1, t2, n, hsrc, hsk⟩ := hs
  replace hsk : SrcOk b x := hsk
  obtain ⟨ep, er⟩ := T.at_.rows
  obtain ⟨dt, hh, tk, n2, e1, e2⟩ := T.at_.inst
  refine' enterK (binds := [("source", .ref src), ("tree", .ref tr)]) [(src, srcObj b x t1 t2 n), (rl, rowsObj [] ep)] O hB ?hms R ?ho ?hcd ?hbind ?hloc ?hbody ?hcell ?hco ?hgen ?hk
  case hms =>
    intro p hp
    rcases List.mem_cons.mp hp with rfl | hp
    · exact ⟨hsrc, hf⟩
    · rw [List.mem_singleton.mp hp]; exact ⟨er, hfr⟩
  (case ho => k_is); (case hcd => k_is); (case hbind => exact rfl); (case hloc => exact locs rfl); (case hco => exact rfl); (case hgen => exact rfl); (case hk => exact rfl); (case hcell => decide)
  intro A' g L h₁ tk₁ pr loose mean mg mb R' cg hBg Og Xg Tg gm F N
  (try k_fold)
  have hl : ∀ x ∈ [src, rl], ∃ its ep, s.heap.get? x = some (listOf its ep) := fun x hx => by
    rcases List.mem_cons.mp hx with rfl | hx
    · exact ⟨_, _, hsrc⟩
    · rw [List.mem_singleton.mp hx]; exact ⟨_, _, er⟩
  have e1' := cg.list hl e1 fun _ _ => inst_ne
  have e2' := cg.list hl e2 fun _ _ => dict_ne
  have fz : ∀ a, h₁.get? a = none → s.heap.get? a = none := fun a ha => fresh_to cg F N (fun x hx => by
    obtain ⟨p, hp, rfl⟩ := List.mem_map.mp hx
    exact ⟨p.2, hp⟩) ha
  have X1 : Off s.heap g [(src, srcObj b x t1 t2 n), (rl, rowsObj [] ep)] := ⟨cg, fun p hp => by
    rcases List.mem_cons.mp hp with rfl | hp
    · exact hsrc
    · rw [List.mem_singleton.mp hp]; exact er⟩
  have T1 : TreeM h₁ tr rl [] := T.keeps (X1.stays F N fun p hp => hp)
  have B1 : GB h₁ rl [] [] [] := GB.of T1 rfl (fun k a x ha => by simp at ha)
  have hrl : h₁.get? rl = some (rowsObj [] ep) := (N _ (.tail _ (.head _))).1
  have hld : led h₁ (sup rl [] []) = [(rl, rowsObj [] ep)] := by simp [led, sup, addrsT, hrl]
  k_extra "m_walk"
  refine turned_step (α := Value) (new_root_spec (Room.less R' (by exact Nat.le_of_ble_eq_true rfl)) Og (Fr.keep (by assumption)) T1 (Nat.succ_pos _) (gm _ (.tail _ (.head _)))) fun v h2 tk2 c r => ?_
  obtain ⟨nd, ⟨t0, rfl⟩, hn, hT⟩ := r
  have sm : ∀ x ∈ sup rl [nd] [], x ∈ sup rl [] [] ∨ h₁.get? x = none := sup_more (p := 0) (nds := []) (as := []) hn
  obtain ⟨F2, N2, ap2⟩ := tree_turned (front := [(src, srcObj b x t1 t2 n)]) (nds' := [nd]) (T' := []) F N hld.symm B1 (ms := [rl]) (fun x hx => by rw [List.mem_singleton.mp hx]; exact sup_rl) (fun p hp => by rw [List.mem_singleton.mp hp]; simpa using hne) c sm
  have G2 := grow_first hn.kind hn.uri hn.lname hn.par hn.kids hn.attrs
  have hsr := ap2 src ⟨_, (N _ (.head _)).1⟩ (by simpa [sup, addrsT] using hne)
  have fz2 : ∀ x ∈ sup rl [nd] [], x = rl ∨ s.heap.get? x = none := fun x hx => by
    rcases sm x hx with h | h
    · left; simpa [sup, addrsT] using h
    · right; exact fz x h
  have hrows2 := hT.at_.nodes
  obtain ⟨tl, htl⟩ : ∃ tl, tl = led h2 (sup rl [nd] []) := ⟨_, rfl⟩
  rw [← htl] at N2
  have hts : ∀ p ∈ tl, @Ne Nat p.1 src := fun p hp q => hsr (by rw [htl] at hp; have := (led_mem.mp hp).1; rwa [q] at this)
  replace N2 : News g L h2 ((src, srcObj b x t1 t2 n) :: tl) := N2
  have B2 : GB h2 rl [nd] [] [] := GB.of hT rfl (fun k a x ha => by simp at ha)
  clear F N c
  k_extra "m_walk"
  refine For_invV g rfl rfl ?_
  k_extra "m_walk"
  rename_i D' h3 l1 la h4 l2 h5 tk5 lb h6 l3 tk6 r7 t7 h7 tk7 b7 x7 t17 t27 n7 hr7 hs7 ra h8 tk8 t18 t28 F8 N8 l8
  replace hr7 : r7 < 8 := hr7
  have N8t : ∀ p ∈ tl, p ∈ (ra, rangeObj 0 (2 + (r7 : Int)) t18 tk7 t28) :: (lb, listOf #[Value.int 0 tk5] 0) :: (la, listOf #[Value.ref D'] 0) :: (D', tupObj [Value.int ((0 : Nat) : Int) t0, Value.none, Value.str (Str.ofString "") tk2] 0) :: (src, srcObj b7 x7 t17 t27 n7) :: tl := fun p hp => .tail _ (.tail _ (.tail _ (.tail _ (.tail _ hp))))
  have B8 : GB h8 rl [nd] [D'] [(none, Str.ofString "")] := (B2.agree (tupTail htl fun p hp => (N8 p (N8t p hp)).1)).snoc ⟨t0, .none, tk2, 0, (N8 _ (.tail _ (.tail _ (.tail _ (.head _))))).1, rfl⟩
  have s8 : ∀ p ∈ led h8 (sup rl [nd] [D']), p ∈ (ra, rangeObj 0 (2 + (r7 : Int)) t18 tk7 t28) :: (lb, listOf #[Value.int 0 tk5] 0) :: (la, listOf #[Value.ref D'] 0) :: (D', tupObj [Value.int ((0 : Nat) : Int) t0, Value.none, Value.str (Str.ofString "") tk2] 0) :: (src, srcObj b7 x7 t17 t27 n7) :: tl :=
    led_sub N8 N8t htl B2.exist fun a ha => by
      rcases sup_snoc (as := []) ha with h | h
      · exact .inl h
      · exact .inr ⟨_, by rw [h]; exact .tail _ (.tail _ (.tail _ (.head _)))⟩
  have N9 : News g L h8 ((lb, listOf #[Value.int 0 tk5] 0) :: (src, srcObj b7 x7 t17 t27 n7) :: (la, listOf ([D'].map Value.ref).toArray 0) :: led h8 (sup rl [nd] [D'])) := fun p hp => by
    rcases List.mem_cons.mp hp with rfl | hp
    · exact N8 _ (.tail _ (.head _))
    rcases List.mem_cons.mp hp with rfl | hp
    · exact N8 _ (.tail _ (.tail _ (.tail _ (.tail _ (.head _)))))
    rcases List.mem_cons.mp hp with rfl | hp
    · exact N8 _ (.tail _ (.tail _ (.head _)))
    · exact N8 _ (s8 p hp)
  have sn1 : src ∉ sup rl [nd] [D'] := fun q => by
    rcases sup_snoc (as := []) q with h | h
    · exact hsr h
    · exact neA l1 (.head _) h
  have sn2 : la ∉ sup rl [nd] [D'] := fun q => by
    rcases sup_snoc (as := []) q with h | h
    · exact notin_of_lt htl B2.exist (ltA_tl 2 l2 rfl) h
    · exact neA' l2 (.head _) h
  refine iter_rangeG (L := L) (n := 2 + r7) rfl (JGrow src tr rl la) R'.hd (News.get N8 (.head _)) (by omega) F8 N9 ⟨lb, _, 0, b7, x7, _, _, _, [D'], 0, [nd], _, [0], h8, rfl, rfl, rfl, rfl, rfl, .cons _ _ .nil, hs7, B8, G2, rfl, Nat.le_refl _, by k_ne, by k_ne, by k_ne, sn1, sn2⟩ ?turn ?done
  case done =>
    intro m₁ news₁ h tk hJJ F N
    (try k_fold)
    obtain ⟨la', its, epl, b, x, t1, t2, n, as, epr, nds, TT, st, h0, rfl, hm1, hm2, hm3, hm4, hIs, hsk, B, G, hlen, hstl, d1, d2, d3, d4, d5⟩ := hJJ
    clear N8 N9 F8 B8 s8 N8t l8 hs7 hn hT B2 sn1 sn2 G2 fz2 hrows2 sm ap2 hsr
    k_extra "m_walk"
    have hnr : @Ne Nat la rl := fun q => d5 (by rw [show la = rl from q]; exact sup_rl)
    refine ⟨_, _, rfl, fun b o e1 e2 => F.keep b o (cg b o e1 e2), la, as, epr, nds, TT, st, rfl, ?_, (N _ (.tail _ (.tail _ (.head _)))).1, B.agree (led_news N fun p hp => List.Mem.tail _ (List.Mem.tail _ (List.Mem.tail _ hp))), G, by omega, ⟨b, x, t1, t2, n, (N _ (.tail _ (.head _))).1, hsk⟩, ?_, d5⟩
    · refine g_fresh cg ?_ (N _ (.tail _ (.tail _ (.head _)))).2.2
      intro q
      rcases List.mem_cons.mp q with q | q
      · exact d3 q
      · exact hnr (List.mem_singleton.mp q)
    · intro y hy
      by_cases hyr : y = rl
      · exact .inl hyr
      · refine .inr (g_fresh cg ?_ (led_fresh N rfl B (fun p hp => List.Mem.tail _ (List.Mem.tail _ (List.Mem.tail _ hp))) hy))
        intro q
        rcases List.mem_cons.mp q with q | q
        · exact d4 (by rw [← show y = src from q]; exact hy)
        · exact hyr (List.mem_singleton.mp q)
  case turn =>
    intro i ti m₁ news₁ h tk I it hi hit hI hJJ F N
    (try k_fold)
    obtain ⟨la', its, epl, b, x, t1, t2, n, as, epr, nds, TT, st, h0, rfl, hm1, hm2, hm3, hm4, hIs, hsk, B, G, hlen, hstl, d1, d2, d3, d4, d5⟩ := hJJ
    obtain ⟨tl, htl⟩ : ∃ tl, tl = led h0 (sup rl nds as) := ⟨_, rfl⟩
    rw [← htl] at N hI
    have i1 := (hI_tail hI).1
    have i2 := (hI_tail hI).2.1
    have i3 := (hI_tail hI).2.2.1
    (try dsimp only at i1 i2 i3)
    have hts := led_off htl d4
    have htr := led_off htl d5
    have htI := (hI_tail hI).2.2.2
    clear hI
    have hal := B.alen
    have hTl := G.m.len
    have hszs := ints_size hIs
    simp only [List.length_map] at hszs
    have hstn := G.ne
    have hst1 : 0 < st.length := List.length_pos_iff.mpr hstn
    clear N8 N9 F8 B8 s8 N8t l8 hs7 hn hT B2 sn1 sn2 G2 fz2 hrows2 sm ap2 hsr
    (try dsimp only)
    repeat' ((fail_if_success (with_reducible show wpAny _ _ (eval (Expr.IfExp _ _ _ _) _) _ _ _)); k_extra "m_hold"; (first | (k_unfold; (try clear ek qk)) | walk1); (try dsimp only); (try k_extra "m_fold"))
    refine deep_step (s := s) (src := src) (front := [(I, it), (la', listOf its epl)]) (rest := (la, listOf (as.map Value.ref).toArray epr) :: tl) (n := st.length) (by with_reducible assumption) ?zdeep ?zmore
    case zdeep =>
      k_extra "m_walk"
      · refine ⟨1 + _, _, _, _, _, _, _, _, _, (by rw [Int.natCast_add]; exact rfl), rfl, by omega, by omega, by assumption, by assumption, by assumption⟩
      · exact ⟨1, _, _, _, _, _, _, _, _, rfl, rfl, Nat.le_refl _, by omega, by assumption, by assumption, by assumption⟩
    intro d td hE tkE bE xE tE1 tE2 nE hd1 hd2 hsE FE NE
    replace NE : News g L hE ((I, it) :: (la', listOf its epl) :: (src, srcObj bE xE tE1 tE2 nE) :: (la, listOf (as.map Value.ref).toArray epr) :: tl) := NE
    clear N F hsk
    k_extra "m_walk"
    all_goals (
      rename List.take _ st = _ ++ [_] => e3
      rename IntsAre _ (natZ _) => hIp
      rename Fr g L _ _ => F3
      rename News g L _ _ => N3
      have B3 := B.agree (tupTail htl fun p hp => (N3 p (by repeat (first | exact hp | refine List.Mem.tail _ ?_))).1)
      obtain ⟨ndp, a, t9, v9, tl9, n9, f1, f2, f3, f4, f5, f6, f7, f8, f9⟩ := grow_facts G B3 e3
      clear e3
      k_extra "m_walk")
    · skip
      rename Fr g L _ _ => F4
      rename News g L _ _ => N4
      rename LtA _ (_ :: _ :: _ :: _ :: List.map _ tl) => q1
      rename LtA _ (_ :: _ :: _ :: _ :: _ :: List.map _ tl) => q2
      replace N4 := news_skip3 N4
      have B4 := B.agree (tupTail htl fun p hp => (N4 p (by k_extra "m_sub")).1)
      have T4 := B4.tree (F4.keep _ _ e1') (F4.keep _ _ e2')
      have n1 : I ∉ sup rl nds as := off_notin htl B htI
      have hms : ∀ x ∈ [rl, ndp.c], x ∈ foot rl nds := fun x hx => by
        rcases List.mem_cons.mp hx with rfl | hx
        · exact .head _
        · rw [List.mem_singleton.mp hx]; exact foot_c f9
      refine turned_step (α := Value) (add_text_spec (Room.less R' (by omega)) Og F4.keep T4 (by omega) f3 (gm _ (.tail _ (.head _))) (led_fresh N4 htl B (fun p hp => by k_extra "m_sub") (sup_mem f9).2.2.1) (by omega) f5) fun v h5 tk5 c5 r5 => ?_
      obtain ⟨nd5, ⟨t5, rfl⟩, hn5, hT5⟩ := r5
      obtain ⟨F5, N5, ap5⟩ := tree_turned (T' := []) (front := [_, _, _, _, _]) F4 N4 htl B (ms := [rl, ndp.c]) (fun x hx => foot_sup (hms x hx))
        (List.forall_mem_cons.mpr ⟨off2 (notin_of_lt htl B.exist (ltA_tl 5 q2 rfl)) f9, List.forall_mem_cons.mpr ⟨off2 (notin_of_lt htl B.exist (ltA_tl 4 q1 rfl)) f9, List.forall_mem_cons.mpr ⟨off2 n1 f9, List.forall_mem_cons.mpr ⟨off2 d4 f9, List.forall_mem_singleton.mpr (off2 d5 f9)⟩⟩⟩⟩) c5 (sup_moreT hT5 hn5)
      have B5 := GB.of (as := as) hT5 B.alen fun k a x ha hx => (B4.tups k a x ha hx).chg c5 fun x hx => foot_list T4.at_ x (hms x hx)
      have z1 := ap5 _ ⟨_, (N4 _ (.tail _ (.tail _ (.tail _ (.head _))))).1⟩ d4
      have z2 := ap5 _ ⟨_, (N4 _ (.tail _ (.tail _ (.tail _ (.tail _ (.head _)))))).1⟩ d5
      have z3 := ap5 _ ⟨_, (N4 _ (.tail _ (.head _))).1⟩ (notin_of_lt htl B.exist (ltA_tl 4 q1 rfl))
      have z4 := ap5 _ ⟨_, (N4 _ (.tail _ (.tail _ (.head _)))).1⟩ n1
      dsimp only at z1 z2 z3 z4
      generalize htl5 : led h5 (sup rl (kidAt _ nds.length nds ++ [nd5]) as) = tl5 at N5
      replace htl5 := htl5.symm
      replace N5 : News g L h5 (_ :: _ :: _ :: _ :: _ :: tl5) := N5
      have htr5 := led_off htl5 z2
      clear c5 hT5 N4 F4 ap5 T4 B4 hms htr htl hts htI n1
      k_extra "m_walk"
      rename Fr g L _ _ => F9
      rename News g L _ _ => N9
      have G5 := grow_more (el := false) G f2 hn5.par hn5.kids hn5.attrs (.text hn5.kind rfl hn5.lname) hn5.uri (fun h => absurd h Bool.false_ne_true)
      simp only [Bool.false_eq_true, if_false, List.append_nil] at G5
      refine grow_end (k := nds.length) F9 N9 (.head _) (.tail _ (.tail _ (.head _))) (.tail _ (.tail _ (.tail _ (.head _)))) (.tail _ (.tail _ (.tail _ (.tail _ (.head _))))) (.tail _ (.tail _ (.tail _ (.tail _ (.tail _ (.head _)))))) (by simp) (fun p hp => by k_extra "m_sub") htl5 B5 G5 (by omega) ?_ ?_ ?_ ?_ ?_ ?_ ?_ (by assumption) z1 z2 (by k_ne) (by k_ne) (by k_ne) (by k_ne) (by k_ne) hit
      · rw [List.length_append, kidAt_length, hlen]; rfl
      · rw [List.length_append, List.length_singleton]; omega
      · k_extra "m_lk"
      · k_extra "m_lk"
      · k_extra "m_lk"
      · k_extra "m_lk"
      · rw [natZ, List.map_append]; exact IntsAre.append hIp (.cons _ _ .nil)
    · skip
      rename _ ∈ strsOf _ => hnm
      simp only [strsOf, List.filterMap_cons, List.filterMap_nil, List.mem_cons, List.not_mem_nil, or_false] at hnm
      replace hnm := or4 hnm
      rename Fr g L _ _ => F4
      rename News g L _ _ => N4
      rename LtA _ (_ :: _ :: _ :: _ :: List.map _ tl) => q1
      rename LtA _ (_ :: _ :: _ :: _ :: _ :: List.map _ tl) => q2
      replace N4 := news_skip3 N4
      have B4 := B.agree (tupTail htl fun p hp => (N4 p (by k_extra "m_sub")).1)
      have T4 := B4.tree (F4.keep _ _ e1') (F4.keep _ _ e2')
      have n1 : I ∉ sup rl nds as := off_notin htl B htI
      have hms : ∀ x ∈ [rl, ndp.c], x ∈ foot rl nds := fun x hx => by
        rcases List.mem_cons.mp hx with rfl | hx
        · exact .head _
        · rw [List.mem_singleton.mp hx]; exact foot_c f9
      refine turned_step (α := Value) (add_element_spec (Room.less R' (by omega)) Og F4.keep T4 (by omega) f3 (gm _ (.tail _ (.head _))) (led_fresh N4 htl B (fun p hp => by k_extra "m_sub") (sup_mem f9).2.2.1) (by omega) f5) fun v h5 tk5 c5 r5 => ?_
      obtain ⟨nd5, ⟨t5, rfl⟩, hn5, hT5⟩ := r5
      obtain ⟨F5, N5, ap5⟩ := tree_turned (T' := []) (front := [_, _, _, _, _]) F4 N4 htl B (ms := [rl, ndp.c]) (fun x hx => foot_sup (hms x hx))
        (List.forall_mem_cons.mpr ⟨off2 (notin_of_lt htl B.exist (ltA_tl 5 q2 rfl)) f9, List.forall_mem_cons.mpr ⟨off2 (notin_of_lt htl B.exist (ltA_tl 4 q1 rfl)) f9, List.forall_mem_cons.mpr ⟨off2 n1 f9, List.forall_mem_cons.mpr ⟨off2 d4 f9, List.forall_mem_singleton.mpr (off2 d5 f9)⟩⟩⟩⟩) c5 (sup_moreT hT5 hn5)
      have B5 := GB.of (as := as) hT5 B.alen fun k a x ha hx => (B4.tups k a x ha hx).chg c5 fun x hx => foot_list T4.at_ x (hms x hx)
      have z1 := ap5 _ ⟨_, (N4 _ (.tail _ (.tail _ (.tail _ (.head _))))).1⟩ d4
      have z2 := ap5 _ ⟨_, (N4 _ (.tail _ (.tail _ (.tail _ (.tail _ (.head _)))))).1⟩ d5
      have z3 := ap5 _ ⟨_, (N4 _ (.tail _ (.head _))).1⟩ (notin_of_lt htl B.exist (ltA_tl 4 q1 rfl))
      have z4 := ap5 _ ⟨_, (N4 _ (.tail _ (.tail _ (.head _)))).1⟩ n1
      dsimp only at z1 z2 z3 z4
      generalize htl5 : led h5 (sup rl (kidAt _ nds.length nds ++ [nd5]) as) = tl5 at N5
      replace htl5 := htl5.symm
      replace N5 : News g L h5 (_ :: _ :: _ :: _ :: _ :: tl5) := N5
      have htr5 := led_off htl5 z2
      clear c5 hT5 N4 F4 ap5 T4 B4 hms htr htl hts htI n1
      k_extra "m_walk"
      rename Fr g L _ _ => F9
      rename News g L _ _ => N9
      rename IntsAre _ _ => hI9
      have G5 := grow_more (el := true) G f2 hn5.par hn5.kids hn5.attrs (.element hn5.kind hn5.lname.symm hnm) hn5.uri (fun _ => by rw [hn5.kind]; rfl)
      simp only [if_true] at G5
      refine grow_end (k := nds.length) F9 N9 (.tail _ (.tail _ (.head _))) (.head _) (.tail _ (.tail _ (.tail _ (.tail _ (.tail _ (.head _)))))) (.tail _ (.tail _ (.tail _ (.tail _ (.tail _ (.tail _ (.head _))))))) (.tail _ (.tail _ (.tail _ (.tail _ (.tail _ (.tail _ (.tail _ (.head _)))))))) (by simp) (fun p hp => by k_extra "m_sub") htl5 B5 G5 (by omega) ?_ ?_ ?_ ?_ ?_ ?_ ?_ (by assumption) z1 z2 (by k_ne) (by k_ne) (by k_ne) (by k_ne) (by k_ne) hit
      · rw [List.length_append, kidAt_length, hlen]; rfl
      · rw [List.length_append, List.length_append, List.length_singleton, List.length_singleton]; omega
      · k_extra "m_lk"
      · k_extra "m_lk"
      · k_extra "m_lk"
      · k_extra "m_lk"
      · refine ints_last hI9 ?_
        (try simp only [List.push_toArray, Array.length_toList, Array.size_push, List.size_toArray, List.length_append, List.length_map, List.length_singleton])
        first | omega | (simp; omega)
end


theorem am_list_keys : typeLookup (.type "list") "keys" = pure none := am_miss_of_fast (by kernel_rfl)
section
variable {prog : Program} {w : World} {A : Around} {E : Value → Shared → Prop} {s : Shared}
theorem keys_miss {a : Addr} {xs : Array Value} {k : Nat} {Q : Option Value → Shared → Prop} (hx : s.heap.get? a = some (listOf xs k)) (hA : A.handled = none)
    (h : ∀ h' tk, s.heap.StaysIn h' → Q none { s with heap := h', toks := tk }) : wpAny (model prog w) A (getAttr? (.ref a) "keys") Q E s := by
  obtain ⟨hp, g, d, tk, os⟩ := s
  have hT : ∀ tk', (⟨hp, g, d, tk', os⟩ : Shared).TypeIs (.ref a) "list" := fun _ => ⟨_, hx, rfl⟩
  have f1 := sub_AttributeError
  have f3 := F.slot_list_getattribute.lookup
  have f4 := F.slot_list_getattribute.bind (.ref a)
  have f5 := am_list_getattr_none
  unfold getAttr? getAttrBy? getAttrBy
  repeat (any_goals (first | assumption | exact hT _ | ((with_reducible show wpAny _ _ (call (Value.builtin "list.__getattribute__") _ _) _ _ _); refine call_meets F.slot_list_getattribute (hT _) am_entry_list_getattribute (F.args_list_getattribute_2 _ _) (meets_getattribute_miss_list a xs k #[] "keys" _ am_list_keys (by decide) (by decide)) ⟨hx, hA, fun h' tk' e hx' => ?_⟩) | wp_step))
  obtain ⟨t', u', he⟩ := hx'.there
  show wpAny _ _ (getattributeRaised _ _ _ _ _ _ _) _ _ _
  unfold getattributeRaised
  repeat (any_goals (first | assumption | wp_step))
  exact h _ _ hx'.keeps

theorem plain_update_loop : plainId "dict.update.loop" = true := by decide +kernel
theorem entry_update_loop : entryFor table "dict.update.loop" = some Builtin.«dict.update.loop» := entryFor_of_tree (by kernel_rfl)

/-- the pairs of a list -/
def PairsAt (h : Heap) (its : Array Value) (kvs : List (Int × Value)) (d I : Addr) : Prop :=
  ∀ (j : Nat) (kv : Int × Value), kvs[j]? = some kv → ∃ (b : Addr) (t : Tok) (n : Nat), its[j]? = some (.ref b) ∧ b ≠ d ∧ b ≠ I ∧ h.get? b = some (tupObj [.int kv.1 t, kv.2] n)

theorem stored_take {kvs : List (Int × Value)} {i : Nat} {kv : Int × Value} (hn : (kvs.map (·.1)).Nodup) (e : kvs[i]? = some kv) : stored (kvs.take i) kv.1 kv.2 = kvs.take (i + 1) := by
  have e2 : kvs.take (i + 1) = kvs.take i ++ [kv] := by rw [List.take_add_one, e]; rfl
  have hn2 : ((kvs.take (i + 1)).map (·.1)).Nodup := by rw [List.map_take]; exact hn.sublist (List.take_sublist _ _)
  rw [e2, List.map_append] at hn2
  have h3 := (List.nodup_append.mp hn2).2.2
  unfold stored
  rw [if_neg, e2]
  intro q
  obtain ⟨x, hx, hx2⟩ := List.any_eq_true.mp q
  exact h3 x.1 (List.mem_map_of_mem hx) kv.1 (by simp) (of_decide_eq_true hx2)

theorem update_loop {I ax d : Addr} {its : Array Value} {kvs : List (Int × Value)} {R : Result → Shared → Prop} (hh : A.handled = none) (hne : ax ≠ I) (hdI : d ≠ I) (hda : d ≠ ax) (hl : its.size = kvs.length) (hsz : kvs.length ≤ sizeLine) (hn : (kvs.map (·.1)).Nodup) :
    ∀ (k i : Nat) (s : Shared) (t : Tok), kvs.length - i = k → i ≤ kvs.length → (s.heap.IsListIter I ax i ∧ s.heap.IsList ax its) → s.heap.DictOf (PySem.intKind prog w) d (kvs.take i) → PairsAt s.heap its kvs d I →
      (∀ h' tk, (∀ b o, b ≠ d → b ≠ I → s.heap.get? b = some o → h'.get? b = some o) → h'.DictOf (PySem.intKind prog w) d kvs → R (.ok (.ret .none)) { s with heap := h', toks := tk }) →
      codeAny (model prog w) A (.builtin "dict.update.loop" ⟨[.ref d, .ref I, .int (i : Int) t, .none], []⟩) R s := by
  have W := Walks.list (prog := prog) (w := w) (A := A.in1) hh I ax hne its
  intro k
  induction k with
  | zero =>
    intro i s t hk hi hst hD hP hR
    obtain rfl : i = kvs.length := by omega
    refine codeAny_builtin entry_update_loop ?_
    rw [Around.under_plainId plain_update_loop _]
    show wpAny _ A.in1 (pyNext (.ref I) >>= _) _ _ s
    refine wpAny_bind (W.done s _ _ (by rw [hl]; exact hst) fun h' tk hm => ?_)
    show wpAny _ _ (Builtin.Dict.addKeywords d [] >>= _) _ _ _
    refine wpAny_bind (wpAny_pure (wpAny_pure (hR h' tk (fun b o h1 h2 e => hm b o (by simpa using h2) e) ?_)))
    rw [List.take_of_length_le (Nat.le_refl _)] at hD
    obtain ⟨o, ho, hd⟩ := Heap.dictOf_iff.mp hD
    exact Heap.dictOf_iff.mpr ⟨o, hm d o (by simpa using hdI) ho, hd⟩
  | succ k ih =>
    intro i s t hk hi hst hD hP hR
    have hlt : i < kvs.length := by omega
    have hkv : kvs[i]? = some kvs[i] := List.getElem?_eq_getElem hlt
    refine codeAny_builtin entry_update_loop ?_
    rw [Around.under_plainId plain_update_loop _]
    show wpAny _ A.in1 (pyNext (.ref I) >>= _) _ _ s
    refine wpAny_bind (W.item i s _ _ (by rw [hl]; exact hlt) hst fun v h' tk hv hst' hm => ?_)
    have hm' : ∀ b o, b ≠ I → s.heap.get? b = some o → h'.get? b = some o := fun b o h2 e => hm b o (by simpa using h2) e
    obtain ⟨b, tb, n, eb, hbd, hbI, hb⟩ := hP i _ hkv
    rw [eb] at hv
    cases hv
    have hb' := hm' b _ hbI hb
    have hD' : h'.DictOf (PySem.intKind prog w) d (kvs.take i) := by
      obtain ⟨o, ho, hd⟩ := Heap.dictOf_iff.mp hD
      exact Heap.dictOf_iff.mpr ⟨o, hm' d o hdI ho, hd⟩
    refine wpAny_bind (wpAny_holding (wpAny_bind ?_))
    refine wpAny_tryCatch ?_
    unfold Builtin.Dict.pairItems
    refine wpAny_bind (wpAny_typeOf (T := "tuple") ⟨_, hb', rfl⟩ ?_)
    rw [if_pos (by decide)]
    refine wpAny_bind (wpAny_seqItems hb' rfl (wpAny_pure ?_))
    show wpAny _ _ (holding [Value.int kvs[i].fst tb, kvs[i].snd] (dictSet d (Value.int kvs[i].fst tb) kvs[i].snd)) _ _ _
    refine wpAny_holding (wpAny_dictSet_pairs (hsz := by rw [List.length_take]; omega) (intKind_is prog w _ tb) hD' fun h2 hD2 hs2 => ?_)
    rw [stored_take hn hkv] at hD2
    have k2 : ∀ b o, b ≠ d → h'.get? b = some o → h2.get? b = some o := fun b o h e => hs2.extBut b o h e
    refine wpAny_pure ⟨plainId_quiet plain_update_loop _, ih (i + 1) _ _ (by omega) hlt ⟨hst'.1.at fun o e => k2 _ o (Ne.symm hdI) e, hst'.2.at fun o e => k2 _ o (Ne.symm hda) e⟩ hD2 ?_ fun h3 tk3 hk3 hD3 => ?_⟩
    · intro j kv ej
      obtain ⟨b', t', n', e1, e2, e3, e4⟩ := hP j kv ej
      exact ⟨b', t', n', e1, e2, e3, k2 b' _ e2 (hm' b' _ e3 e4)⟩
    · exact hR h3 tk3 (fun b o h1 h2 e => hk3 b o h1 h2 (k2 b o h1 (hm' b o h2 e))) hD3

/-- a dict made out of a list of pairs -/
theorem dict_pairs {ax : Addr} {its : Array Value} {ep : Nat} {kvs : List (Int × Value)} {Q : Value → Shared → Prop} (hh : A.handled = none) (hx : s.heap.get? ax = some (listOf its ep)) (hl : its.size = kvs.length) (hsz : kvs.length ≤ 1000) (hn : (kvs.map (·.1)).Nodup)
    (hP : ∀ (j : Nat) (kv : Int × Value), kvs[j]? = some kv → ∃ (b : Addr) (t : Tok) (n : Nat), its[j]? = some (.ref b) ∧ s.heap.get? b = some (tupObj [.int kv.1 t, kv.2] n))
    (h : ∀ d h' tk, s.heap.get? d = none → s.heap.StaysIn h' → h'.DictOf (PySem.intKind prog w) d kvs → Q (.ref d) { s with heap := h', toks := tk }) :
    wpAny (model prog w) A (call (.type "dict") [.ref ax]) Q E s := by
  refine callType_codes (Q₁ := fun obj s₁ => obj = .ref s.heap.objs.size ∧ s₁ = { s with heap := s.heap.push { cls := .type "dict", data := .dict #[] } }) F.kt_called_dict (F.kt_typeCall_dict_1 _) F.entry_dict_init (kt_code_dict_new _ ⟨rfl, rfl⟩) ?_
  rintro obj s₁ ⟨rfl, rfl⟩
  have hnew : (s.heap.push { cls := .type "dict", data := .dict #[] }).DictOf (PySem.intKind prog w) s.heap.objs.size [] := Heap.DictOf.new s.heap
  have hx1 : (s.heap.push { cls := .type "dict", data := .dict #[] }).get? ax = some (listOf its ep) := Heap.get?_push_of_some _ hx
  refine ⟨hnew.typeIs, F.args_dict_init_2 _ _, ?_⟩
  unfold Builtin.«dict.__init__»
  refine wpAny_bind ?_
  unfold Builtin.Dict.selfAndRest
  refine wpAny_bind (wpAny_notOrdered_dict hnew.typeIs ?_)
  show wpAny _ _ (pure (s.heap.objs.size, [Value.ref ax])) _ _ _
  refine wpAny_pure ?_
  show wpAny _ _ (Builtin.Dict.updateFrom "dict.__init__" s.heap.objs.size (.ref ax) [] .none) _ _ _
  unfold Builtin.Dict.updateFrom
  refine wpAny_bind (wpAny_typeOf (T := "list") ⟨_, hx1, rfl⟩ ?_)
  rw [if_pos (by decide)]
  refine wpAny_bind (keys_miss hx1 hh fun h1 tk1 st1 => ?_)
  have hx2 := st1 _ _ hx1
  simp only [Option.isNone_none, if_true]
  refine wpAny_bind (wpAny_rule (wpAny_bind ?_))
  refine wpAny_pyIter_list (isList_of hx2) ?_
  have lt1 := Heap.lt_size hx
  have hdlt : s.heap.objs.size < h1.objs.size := by
    obtain ⟨o, ho, _⟩ := Heap.dictOf_iff.mp hnew
    exact Heap.lt_size (st1 _ _ ho)
  have ltx := Heap.lt_size hx2
  refine wpAny_pure ⟨plainId_quiet plain_update_loop _, ?_⟩
  refine update_loop (prog := prog) (w := w) (A := A.in1) (kvs := kvs) (I := h1.objs.size) hh (Nat.ne_of_lt ltx) (Nat.ne_of_lt hdlt) (Nat.ne_of_gt lt1) hl (line_small hsz) hn kvs.length 0 { s with heap := h1.push { cls := .type "list_iterator", data := .fields #[.ref ax, .int 0 0] }, toks := tk1 } 0 rfl (Nat.zero_le _) ?_ ?_ ?_ ?_
  · exact ⟨⟨_, Heap.get?_push_size _ rfl, rfl, rfl⟩, (isList_of hx2).at fun o e => Heap.get?_push_of_some _ e⟩
  · obtain ⟨o, ho, hd⟩ := Heap.dictOf_iff.mp hnew
    exact Heap.dictOf_iff.mpr ⟨o, Heap.get?_push_of_some _ (st1 _ _ ho), hd⟩
  · intro j kv ej
    obtain ⟨b, t, n, e1, e2⟩ := hP j kv ej
    have ltb := Heap.lt_size e2
    have e3 := st1 _ _ (Heap.get?_push_of_some { cls := .type "dict", data := .dict #[] } e2)
    exact ⟨b, t, n, e1, Nat.ne_of_lt ltb, Nat.ne_of_lt (Heap.lt_size e3), Heap.get?_push_of_some _ e3⟩
  · intro h2 tk2 hk2 hD2
    refine ⟨rfl, h _ h2 tk2 (Heap.get?_none_of_le (Nat.le_refl _)) (fun b o e => ?_) hD2⟩
    have e3 := st1 _ _ (Heap.get?_push_of_some { cls := .type "dict", data := .dict #[] } e)
    exact hk2 b o (Nat.ne_of_lt (Heap.lt_size e)) (Nat.ne_of_lt (Heap.lt_size e3)) (Heap.get?_push_of_some _ e3)
end


/-- the dict that tells each node's word -/
def ToldAt (prog : Program) (w : World) (h : Heap) (td : Addr) (labs : List Str) : Prop :=
  ∃ kvs : List (Int × Value), h.DictOf (PySem.intKind prog w) td kvs ∧ kvs.length = labs.length ∧ ∀ (j : Nat) (l : Str), labs[j]? = some l → ∃ t, kvs[j]? = some ((j : Int), .str l t)
theorem ToldAt.keeps {prog : Program} {w : World} {h h' : Heap} {td : Addr} {labs : List Str} (x : ToldAt prog w h td labs) (c : h.StaysIn h') : ToldAt prog w h' td labs :=
  let ⟨kvs, d, r⟩ := x; ⟨kvs, d.keep c, r⟩
theorem told_value {kvs : List (Int × Value)} {labs : List Str} (hl : kvs.length = labs.length) (hk : ∀ (j : Nat) (l : Str), labs[j]? = some l → ∃ t, kvs[j]? = some ((j : Int), .str l t)) {k : Nat} {l : Str} (e : labs[k]? = some l) : ∃ t, valueAt kvs (k : Int) = some (.str l t) := by
  obtain ⟨t, ek⟩ := hk k l e
  refine ⟨t, ?_⟩
  unfold valueAt
  have hlt := (List.getElem?_eq_some_iff.mp ek).1
  have hf : kvs.find? (fun kv => kv.1 = (k : Int)) = some ((k : Int), .str l t) := by
    rw [List.find?_eq_some_iff_getElem]
    refine ⟨by simp, k, hlt, (List.getElem?_eq_some_iff.mp ek).2, fun j hj => ?_⟩
    have hjl : j < labs.length := by omega
    obtain ⟨t', ej⟩ := hk j labs[j] (List.getElem?_eq_getElem hjl)
    have ej2 := (List.getElem?_eq_some_iff.mp ej).2
    rw [ej2]
    simp; omega
  rw [hf]; rfl

section
variable {prog : Program} {w : World} {A : Around} {E : Value → Shared → Prop} {s : Shared} {Q : Value → Shared → Prop}
theorem told_item {value slice : PySem.Expr} {td : Addr} {labs : List Str} {k : Nat} {u : Tok} {l : Str} (T : ToldAt prog w s.heap td labs) (e : labs[k]? = some l) (h : ∀ t, Q (.str l t) { s with toks := s.toks + 1 })
    (hs : subscripted slice false (.ref td) (.int (k : Int) u) = operate [.ref td, .int (k : Int) u] (getItem (.ref td) (.int (k : Int) u))) (hg : ∀ r, letTemporaryGo value (.ref td) r = pure ()) : wpAny (model prog w) A (subscriptTail value slice (.ref td) (.int (k : Int) u)) Q E s := by
  obtain ⟨kvs, hD, hl, hk⟩ := T
  obtain ⟨t, ev⟩ := told_value hl hk e
  exact subscriptTail_builtin hD.typeIs slot_dict_getitem.lookup (wpAny_getItem_of (intKind_is prog w k u) hD.mapOf ev (h t)) hs hg
theorem name_free {x : Str} {pos : Pos} {v : Value} {c a L : Addr} {o : Obj} {cn : Str} {cs : Scope} {ccd : Value} {cl : List (Str × Addr)} (hc : cl.lookup x = some c) (e : s.heap.get? c = some o) (hd : o.data = .cell (some v)) (h : Q v s)
    (hk : cs.kind = .function) (hx : (envX cn cs L a ccd cl).kindOf x = some .free) (hb : (x == ("__debug__" : Str)) = false) (hn : (x == ("__classdict__" : Str)) = false) : wpAny (model prog w) A (eval (.Name x pos) (envX cn cs L a ccd cl)) Q E s :=
  wpAny_Name (wpAny_loadName_free hk hx hc ⟨o, e, hd⟩ h hn) hb

/-- a call of a lambda -/
theorem enterL {name qual : Str} {params : Arguments} {body : PySem.Expr} {scope : Scope} {cl : List (Str × Addr)} {pm ctv : Value} {c' f : Addr} {args : List Value} {binds : List (Str × Value)} (hlim : s.heap.NoLimit) (hroom : A.depth < recursionLimit)
    (ho : s.heap.get? f = some (kla_obj name qual params body scope cl pm c' ctv)) (hcd : s.heap.CodeRec (.ref c') qual) (hbind : bindArgs (kla_fn name qual params body scope cl pm (.ref c') ctv) ⟨args, []⟩ = pure binds) (hloc : ∀ y ∈ binds, scope.names.lookup y.1 = some .local)
    (h : ∀ L' h₁ tk₁, Fr s.heap L' h₁ (fun y => binds.reverse.lookup y) → wpAny (model prog w) (A.deeper (envX qual scope L' f (.ref c') cl)) (eval body (envX qual scope L' f (.ref c') cl)) Q (fun _ _ => False) { s with heap := h₁, toks := tk₁ })
    (hcell : ∀ x ∈ scope.names, x.2 ≠ .cell) (hco : scope.isCoroutine = false) (hgen : scope.isGenerator = false) (hk : scope.kind = .function) : wpAny (model prog w) A (call (.ref f) args) Q E s := by
  refine wpAny_call (kla_callFunE hroom ho rfl hco hgen rfl hcd ?_)
  rw [hbind]
  refine wpAny_pure (wpAny_newFunctionEnv hcell hloc (fun h₁ hns hsb => ⟨hlim.fresh _ hsb, ?_⟩) hk)
  show codeAny _ _ (.expr body (envX qual scope s.heap.objs.size f (.ref c') cl)) _ _
  have hk₁ : ∀ b o, s.heap.get? b = some o → h₁.get? b = some o := fun b o e => hsb.extBut b o (Nat.ne_of_lt (Heap.lt_size e)) (Heap.get?_push_of_some _ e)
  exact kla_codeExpr (wpAny_mono (h _ h₁ _ ⟨hns, hk₁, Nat.le_refl _⟩) (fun v s' hl => hl) fun _ _ y => y.elim)
end

noncomputable abbrev lamArgs (p : Pos) : Arguments := { posonlyargs := [], args := [{ arg := "one", annotation := none, pos := p }], vararg := none, kwonlyargs := [], kw_defaults := [], kwarg := none, defaults := [] }
noncomputable abbrev lamScope (xs : List Str) : Scope := { kind := .function, names := (Str.ofString "one", .local) :: xs.map fun x => (x, .free), isGenerator := false, isCoroutine := false, more := [] }
noncomputable abbrev lamIn (p1 p2 p3 p4 p5 : Pos) : PySem.Expr := .Compare (.Subscript (.Name "told" p1) (.Name "one" p2) p3) [.In] [.Name "names" p4] p5
noncomputable abbrev lamEq (p1 p2 p3 p4 p5 : Pos) : PySem.Expr := .Compare (.Subscript (.Name "told" p1) (.Name "one" p2) p3) [.Eq] [.Name "begin" p4] p5

theorem word_L1_1 : True := by
  (k_with "eval Name" => (k_dflt (((with_reducible show wpAny _ _ (eval (Expr.Name _ _) (envX _ _ _ _ _ _)) _ _ _); (refine' name_free ?zhc ?ze ?zhd ?_ ?zhk ?zhx ?zhb ?zhn; (case zhk => with_unfolding_all exact rfl); (case zhx => with_unfolding_all exact rfl); (case zhb => with_unfolding_all decide); (case zhn => with_unfolding_all decide); (case zhc => k_asm); (case ze => k_extra "m_get"); (case zhd => k_asm))))))
  (k_with "subscriptTail" => (k_dflt (((with_reducible show wpAny _ _ (subscriptTail _ _ (Value.ref _) (Value.int _ _)) _ _ _); (refine' told_item ?zT ?ze ?_ ?zhs ?zhg; (case zT => exact ToldAt.keeps (by with_reducible assumption) (Fr.keep (by with_reducible assumption))); (case ze => with_reducible assumption); (case zhs => with_unfolding_all rfl); (case zhg => kmk_pure)); intro _))))
  exact True.intro
section
variable {prog : Program} {w : World}
theorem pred_in {h : Heap} {B0 : Heap} {qual : Str} {cl : List (Str × Addr)} {pm ctv : Value} {c' f td nm cT cN : Addr} {oT oN : Obj} {labs ws : List Str} {p0 p1 p2 p3 p4 p5 : Pos} (O : Ok w B0) (hB : B0.StaysIn h)
    (ho : h.get? f = some (kla_obj "<lambda>" qual (lamArgs p0) (lamIn p1 p2 p3 p4 p5) (lamScope ["names", "told"]) cl pm c' ctv)) (hcd : h.CodeRec (.ref c') qual) (hT : cl.lookup (Str.ofString "told") = some cT) (hN : cl.lookup (Str.ofString "names") = some cN) (eT : h.get? cT = some oT) (eN : h.get? cN = some oN)
    (dT : oT.data = .cell (some (.ref td))) (dN : oN.data = .cell (some (.ref nm))) (T : ToldAt prog w h td labs) (W : WordsAt h nm ws) : PredAt prog w h f labs.length (fun k => inW ws (labs.getD k Str.empty)) where
  fn := ⟨_, _, _, _, ho⟩
  run := fun A s E k t R st hk => by
    have O1 := O.keeps (Stays.trans hB st)
    obtain ⟨X, p, loose, mean, mg, mb, Tp⟩ := id O1
    refine' enterL (binds := [("one", .int (k : Int) t)]) Tp.nolimit (Room.frames R) (st _ _ ho) (hcd.keeps st) ?hbind ?hloc ?h ?hcell ?hco ?hgen ?hk
    (case hbind => exact rfl); (case hloc => exact locs rfl); (case hco => exact rfl); (case hgen => exact rfl); (case hk => exact rfl); (case hcell => decide)
    intro L' h₁ tk₁ F
    have eT1 := st _ _ eT
    have eN1 := st _ _ eN
    have T1 := T.keeps st
    obtain ⟨wvs, wep, e2, hws⟩ := W.keeps st
    have N : News s.heap L' h₁ [] := News.nil
    have hl : labs[k]? = some (labs.getD k Str.empty) := by
      rw [List.getD_eq_getElem?_getD, List.getElem?_eq_getElem hk]; rfl
    k_extra "m_walk"
    exact ⟨⟨_, _, rfl, F.keep⟩, rfl⟩
theorem pred_eq {h : Heap} {B0 : Heap} {qual : Str} {cl : List (Str × Addr)} {pm ctv : Value} {c' f td cT cN : Addr} {oT oN : Obj} {labs : List Str} {bg : Str} {tb : Tok} {p0 p1 p2 p3 p4 p5 : Pos} (O : Ok w B0) (hB : B0.StaysIn h)
    (ho : h.get? f = some (kla_obj "<lambda>" qual (lamArgs p0) (lamEq p1 p2 p3 p4 p5) (lamScope ["begin", "told"]) cl pm c' ctv)) (hcd : h.CodeRec (.ref c') qual) (hT : cl.lookup (Str.ofString "told") = some cT) (hN : cl.lookup (Str.ofString "begin") = some cN) (eT : h.get? cT = some oT) (eN : h.get? cN = some oN)
    (dT : oT.data = .cell (some (.ref td))) (dN : oN.data = .cell (some (.str bg tb))) (T : ToldAt prog w h td labs) : PredAt prog w h f labs.length (fun k => labs.getD k Str.empty == bg) where
  fn := ⟨_, _, _, _, ho⟩
  run := fun A s E k t R st hk => by
    have O1 := O.keeps (Stays.trans hB st)
    obtain ⟨X, p, loose, mean, mg, mb, Tp⟩ := id O1
    refine' enterL (binds := [("one", .int (k : Int) t)]) Tp.nolimit (Room.frames R) (st _ _ ho) (hcd.keeps st) ?hbind ?hloc ?h ?hcell ?hco ?hgen ?hk
    (case hbind => exact rfl); (case hloc => exact locs rfl); (case hco => exact rfl); (case hgen => exact rfl); (case hk => exact rfl); (case hcell => decide)
    intro L' h₁ tk₁ F
    have eT1 := st _ _ eT
    have eN1 := st _ _ eN
    have T1 := T.keeps st
    have N : News s.heap L' h₁ [] := News.nil
    have hl : labs[k]? = some (labs.getD k Str.empty) := by
      rw [List.getD_eq_getElem?_getD, List.getElem?_eq_getElem hk]; rfl
    k_extra "m_walk"
    exact ⟨⟨_, _, rfl, F.keep⟩, rfl⟩
theorem pred_false {h : Heap} {B0 : Heap} {qual : Str} {cl : List (Str × Addr)} {pm ctv : Value} {c' f : Addr} {n : Nat} {p0 p1 : Pos} (O : Ok w B0) (hB : B0.StaysIn h)
    (ho : h.get? f = some (kla_obj "<lambda>" qual (lamArgs p0) (.Constant (.bool false) 0 p1) (lamScope []) cl pm c' ctv)) (hcd : h.CodeRec (.ref c') qual) : PredAt prog w h f n (fun _ => false) where
  fn := ⟨_, _, _, _, ho⟩
  run := fun A s E k t R st hk => by
    have O1 := O.keeps (Stays.trans hB st)
    obtain ⟨X, p, loose, mean, mg, mb, Tp⟩ := id O1
    refine' enterL (binds := [("one", .int (k : Int) t)]) Tp.nolimit (Room.frames R) (st _ _ ho) (hcd.keeps st) ?hbind ?hloc ?h ?hcell ?hco ?hgen ?hk
    (case hbind => exact rfl); (case hloc => exact locs rfl); (case hco => exact rfl); (case hgen => exact rfl); (case hk => exact rfl); (case hcell => decide)
    intro L' h₁ tk₁ F
    k_extra "m_walk"
    exact ⟨⟨_, _, rfl, F.keep⟩, rfl⟩
end


/-- a table of code objects: each def or lambda of the list is made at most once -/
def TabOk (P : Addr) (L : List (Pos × Str)) (h : Heap) : Prop := ∃ ps : Array Value, h.get? P = some (tabObj ps) ∧ TriplesOk ps.toList ∧ ∀ q ∈ L, codeAmong q.1 ps.toList = none ∨ ∃ c', codeAmong q.1 ps.toList = some (.ref c') ∧ h.CodeRec (.ref c') q.2
theorem TabOk.keeps {P : Addr} {L : List (Pos × Str)} {h h' : Heap} (x : TabOk P L h) (c : h.StaysIn h') : TabOk P L h' :=
  let ⟨ps, e, t, f⟩ := x; ⟨ps, c _ _ e, t, fun q hq => (f q hq).imp_right fun ⟨c', a, b⟩ => ⟨c', a, b.keeps c⟩⟩
theorem triples_snoc {p : Pos} {c : Value} : ∀ (l : List Value), TriplesOk l → TriplesOk (l ++ [rawInt p.line, rawInt p.col, c]) := fun l h => by
  fun_induction TriplesOk l with
  | case1 => trivial
  | case2 a b c d e rest ih => exact ih h
  | case3 l h1 h2 => exact absurd h (by simp)
theorem among_old {p q : Pos} {c : Value} : ∀ (l : List Value), TriplesOk l → (codeAmong q l).isSome = true → codeAmong q (l ++ [rawInt p.line, rawInt p.col, c]) = codeAmong q l := fun l h hs => by
  fun_induction TriplesOk l with
  | case1 => simp [codeAmong] at hs
  | case2 a b c d e rest ih =>
    simp only [List.cons_append, codeAmong] at hs ⊢
    split
    · rfl
    · rename_i hc
      rw [if_neg hc] at hs
      exact ih h hs
  | case3 l h1 h2 => exact absurd h (by simp)
theorem among_new {p q : Pos} {c : Value} (hne : (p.line == q.line && p.col == q.col) = false) : ∀ (l : List Value), TriplesOk l → codeAmong q (l ++ [rawInt p.line, rawInt p.col, c]) = codeAmong q l := fun l h => by
  fun_induction TriplesOk l with
  | case1 =>
    simp only [List.nil_append, codeAmong, rawInt]
    rw [if_neg]
    intro hc
    rw [Bool.and_eq_true, beq_iff_eq, beq_iff_eq] at hc
    have h1 : p.line = q.line := by exact_mod_cast hc.1
    have h2 : p.col = q.col := by exact_mod_cast hc.2
    rw [h1, h2] at hne
    simp at hne
  | case2 a b c d e rest ih =>
    simp only [List.cons_append, codeAmong]
    split
    · rfl
    · exact ih h
  | case3 l h1 h2 => exact absurd h (by simp)
noncomputable def apartPos (p q : Pos) : Bool := (p.line == q.line && p.col == q.col)
/-- the table behind a def that was made for the first time -/
theorem TabOk.push {P c' : Addr} {L : List (Pos × Str)} {h h' : Heap} {ps : Array Value} {p : Pos} {qn : Str} (ht : TriplesOk ps.toList) (hf : ∀ q ∈ L, codeAmong q.1 ps.toList = none ∨ ∃ c', codeAmong q.1 ps.toList = some (.ref c') ∧ h.CodeRec (.ref c') q.2) (hn : codeAmong p ps.toList = none)
    (e : h'.get? P = some (tabObj (ps ++ #[rawInt p.line, rawInt p.col, .ref c']))) (hc : h'.CodeRec (.ref c') qn) (hk : ∀ (c : Addr) (q : Str), h.CodeRec (.ref c) q → h'.CodeRec (.ref c) q) (hL : ∀ q ∈ L, apartPos p q.1 = true → q.1 = p ∧ q.2 = qn) : TabOk P L h' := by
  refine ⟨_, e, by rw [Array.toList_append]; exact triples_snoc _ ht, fun q hq => ?_⟩
  rw [Array.toList_append]
  cases ha : apartPos p q.1 with
  | true =>
    obtain ⟨h1, h2⟩ := hL q hq ha
    rw [h1, h2]
    exact .inr ⟨c', codeAmong_snoc _ ht hn, hc⟩
  | false =>
    rw [show (#[rawInt p.line, rawInt p.col, Value.ref c'] : Array Value).toList = [rawInt p.line, rawInt p.col, .ref c'] from rfl, among_new ha _ ht]
    exact (hf q hq).imp_right fun ⟨c2, a, b⟩ => ⟨c2, a, hk _ _ b⟩

theorem Chg.tab {P : Addr} {h g : Heap} {ps : Array Value} (c : Chg [P] h g) (e : h.get? P = some (tabObj ps)) : ∀ a o, o.cls ≠ .none → h.get? a = some o → g.get? a = some o := fun a o hn ea => c a o (fun q => by
  rw [List.mem_singleton.mp q, e] at ea; cases ea; exact hn rfl) ea
theorem NdAt.cls {h h' : Heap} {nd : Nd} (x : NdAt h nd) (k : ∀ a o, o.cls ≠ .none → h.get? a = some o → h'.get? a = some o) : NdAt h' nd where
  inst := k _ _ (fun q => by cases q) x.inst
  dict := let ⟨es, n, a, b⟩ := x.dict; ⟨es, n, k _ _ (fun q => by cases q) a, b⟩
  kids := let ⟨vs, ep, a, b⟩ := x.kids; ⟨vs, ep, k _ _ (fun q => by cases q) a, b⟩
  attrs := let ⟨vs, ep, a, b⟩ := x.attrs; ⟨vs, ep, k _ _ (fun q => by cases q) a, b⟩
  small := x.small
theorem TreeAt.cls {h h' : Heap} {tr rl : Addr} {nds : List Nd} (x : TreeAt h tr rl nds) (k : ∀ a o, o.cls ≠ .none → h.get? a = some o → h'.get? a = some o) : TreeAt h' tr rl nds where
  inst := let ⟨dt, hh, tk, n, a, b⟩ := x.inst; ⟨dt, hh, tk, n, k _ _ (fun q => by cases q) a, k _ _ (fun q => by cases q) b⟩
  rows := let ⟨ep, a⟩ := x.rows; ⟨ep, k _ _ (fun q => by cases q) a⟩
  nodes := fun nd hm => (x.nodes nd hm).cls k
  small := x.small
theorem Heap.CodeRec.tab {P : Addr} {h g : Heap} {ps : Array Value} {c : Addr} {q : Str} (c' : Chg [P] h g) (e : h.get? P = some (tabObj ps)) (x : h.CodeRec (.ref c) q) (hn : ∀ o, h.get? c = some o → o.cls ≠ .none) : g.CodeRec (.ref c) q := by
  obtain ⟨c2, o, vs, t, e1, e2, e3, e4⟩ := x
  cases e1
  exact ⟨c, o, vs, t, rfl, c'.tab e _ _ (hn o e2) e2, e3, e4⟩

theorem rec_ne {P c : Addr} {ps : Array Value} {h : Heap} {q : Str} (e : h.get? P = some (tabObj ps)) (ht : TriplesOk ps.toList) (x : h.CodeRec (.ref c) q) : c ≠ P := fun hc => by
  obtain ⟨c2, o, vs, t, e1, e2, e3, e4⟩ := x
  cases e1
  rw [hc, e] at e2
  cases e2
  cases e3
  obtain ⟨l⟩ := ps
  rw [← Array.getElem?_toList] at e4
  cases l with
  | nil => cases e4
  | cons a l =>
    cases l with
    | nil => cases e4
    | cons b l =>
      simp only [List.getElem?_cons_succ, List.getElem?_cons_zero, Option.some.injEq] at e4
      subst e4
      cases a <;> exact ht
theorem rec_addr {P c : Addr} {h : Heap} {q : Str} (_x : h.CodeRec (.ref c) q) (e : @Ne Nat c P) : c ≠ P := e
theorem word_L2_1 : True := by
  (k_with "eval Name" => (k_dflt (((with_reducible show wpAny _ _ (eval (Expr.Name _ _) (envX _ _ _ _ _ _)) _ _ _); (refine' name_free ?zhc ?ze ?zhd ?_ ?zhk ?zhx ?zhb ?zhn; (case zhk => with_unfolding_all exact rfl); (case zhx => with_unfolding_all exact rfl); (case zhb => with_unfolding_all decide); (case zhn => with_unfolding_all decide); (case zhc => with_unfolding_all exact rfl); (case ze => k_extra "m_get"); (case zhd => k_asm))))))
  exact True.intro
theorem room_at {α : Type} {M : Model} {A : Around} {env : Env} {k : Nat} {tr : Sem α} {Q : α → Shared → Prop} {E : Value → Shared → Prop} {s : Shared} (r : Room A (k + 1)) (h : ∀ A', A' = A.deeper env → Room A' k → wpAny M A' tr Q E s) : wpAny M (A.deeper env) tr Q E s := h _ rfl r.deeper
theorem like_at {nds : List Nd} {k j : Nat} {nd ndj : Nd} (h1 : nds[j]? = some ndj) (h2 : nds[k]? = some nd) : likeN nds k j = ((ndj.kind == nd.kind) && (!named nd.kind || (ndj.lname == nd.lname) && (ndj.uri == nd.uri))) := by
  unfold likeN kindN unameN
  rw [h1, h2]; rfl
theorem like_v1 {x y l1 l2 u1 u2 : Str} (h : (x != y) = true) : false = ((x == y) && (!named y || (l1 == l2) && (u1 == u2))) := by
  rw [bne, Bool.not_eq_true'] at h; rw [h]; rfl
theorem like_v2 {x y l1 l2 u1 u2 : Str} (h : (x != y) = false) (hn : named y = true) (hl : (l1 == l2) = true) : (u1 == u2) = ((x == y) && (!named y || (l1 == l2) && (u1 == u2))) := by
  rw [bne, Bool.not_eq_false'] at h; rw [h, hn, hl]; simp
theorem like_v3 {x y l1 l2 u1 u2 : Str} (h : (x != y) = false) (hn : named y = true) (hl : (l1 == l2) = false) : (l1 == l2) = ((x == y) && (!named y || (l1 == l2) && (u1 == u2))) := by
  rw [bne, Bool.not_eq_false'] at h; rw [h, hn, hl]; simp
theorem like_v4 {x y l1 l2 u1 u2 : Str} (h : (x != y) = false) (hn : named y = false) : true = ((x == y) && (!named y || (l1 == l2) && (u1 == u2))) := by
  rw [bne, Bool.not_eq_false'] at h; rw [h, hn]; simp
noncomputable abbrev posLike : Pos := ⟨13, 4, 18, 68⟩
noncomputable abbrev nmLike : Str := Str.ofString "like_node.<locals>.is_like"
theorem word_L2_2 : True := by
  (k_with "exec FunctionDef" => (k_dflt (((refine' nestDef_K ?zd0 ?zk0 ?za0 ?_; (case zd0 => exact rfl); (case zk0 => exact rfl); (case za0 => exact rfl)); (first | ((refine' nest_K ?zF ?zN ?zT ?zC ?zcd ?zU ?zt ?zn ?zcl ?_; (case zF => k_asm); (case zN => k_asm); (case zT => k_asm); (case zcd => exact rfl); (case zC => k_asm); (case zU => k_updF); (case zt => k_asm); (case zn => k_asm); (case zcl => with_unfolding_all exact rfl)); intro _ _ _ _ _ _ _ _ _ _ N' _ _ l1 l2; (try dsimp only at N'); (try k_lt l1); (try k_lt2 l2); (try (revert N'; intro _)); (try (revert l1; intro _)); (try (revert l2; intro _))) | ((refine' nestHit_K ?zF ?zN ?zT ?zC ?zcd ?zmem ?zt ?zn ?zcl ?_; (case zF => k_asm); (case zN => k_asm); (case zT => k_asm); (case zcd => exact rfl); (case zC => k_asm); (case zmem => k_mem); (case zt => k_asm); (case zn => k_asm); (case zcl => with_unfolding_all exact rfl)); intro _ _ _ _ _ _ N' l1; (try dsimp only at N'); (try k_lt l1))); (try (revert N'; intro _)); (try (revert l1; intro _)); (try (revert l2; intro _))))))
  exact True.intro
noncomputable abbrev pickNest {p} {oc : Value} {od : Option Addr} {name qual : Str} {params : Arguments} {s1 s2 s3 s4 s6 : Stmt} {n : Str} {a : Arguments} {b : List Stmt} {d : List PySem.Expr} {r : Option PySem.Expr} {t : List TypeParam} {sc2 : Scope} {ts : Option Scope} {bd : Str} {ps : Pos} {scope : Scope} {dV kV doc pm cdv ct : Value} {an : Option Addr} {osl : Array (Option Value)}
  (_ : (hd.heap_39 p).lookup 28 = some ⟨oc, od, .func (fnX name qual params [s1, s2, s3, s4, .FunctionDef n a b d r t sc2 ts bd ps, s6] scope [] dV kV doc pm an cdv ct), osl⟩) (L : Addr) (dc md : Value) (c' : Addr) (ctv : Value) : Obj :=
  fnMade n nmLike a b sc2 [("uri", L + 1 + 1 + 1 + 1), ("tree", L + 1), ("local", L + 1 + 1 + 1), ("kind", L + 1 + 1)] dc md c' ctv
noncomputable def likeObj (w : World) (L : Addr) (dc md : Value) (c' : Addr) (ctv : Value) : Obj := pickNest (p := w.params) (by k_is) L dc md c' ctv
section
variable {prog : Program} {w : World} {B0 : Heap} {tr rl : Addr} {nds : List Nd} {k : Nat}
/-- the inner function of like_node, once made, is a test of nodes -/
theorem like_run {Z9 : Heap} {f L c : Addr} {dc md ctv : Value} {o1 o2 o3 o4 : Obj} {u l : Str} {t1 t2 t3 : Tok} {nd : Nd} (O : Ok w B0) (hBZ : B0.StaysIn Z9) (TZ : TreeAt Z9 tr rl nds) (hnd : nds[k]? = some nd)
    (q1 : Z9.get? f = some (likeObj w L dc md c ctv)) (hrec : Z9.CodeRec (.ref c) nmLike) (q2 : Z9.get? (L + 1 + 1 + 1 + 1) = some o1) (q3 : Z9.get? (L + 1 + 1 + 1) = some o2) (q4 : Z9.get? (L + 1 + 1) = some o3) (q5 : Z9.get? (L + 1) = some o4)
    (d1 : o1.data = .cell (some (.str u t1))) (d2 : o2.data = .cell (some (.str l t2))) (d3 : o3.data = .cell (some (.str nd.kind t3))) (d4 : o4.data = .cell (some (.ref tr))) (hul : named nd.kind = true → l = nd.lname ∧ u = nd.uri) :
    PredAt prog w Z9 f nds.length (likeN nds k) := by
  unfold likeObj at q1
  dsimp only [pickNest] at q1
  refine ⟨⟨_, _, _, _, q1⟩, ?_⟩
  intro A s2 E j t2 R2 st hj
  have O1 := O.keeps (Stays.trans hBZ st)
  obtain ⟨X, p, loose, mean, mg2, mb, Tp⟩ := id O1
  refine' enter (binds := [("other", .int (j : Int) t2)]) [] ?zhms Tp.nolimit (st _ _ q1) rfl ?zhcd (Room.frames R2) (BindsTo.of_eq rfl) (locs rfl) ?_ ?zcell rfl rfl rfl
  (case zhms => exact fun _ h => nomatch h); (case zcell => decide)
  (case zhcd => exact hrec.keeps st)
  intro g2 L2 h2 cg2 gs2 gm2 F2 N2
  (try k_fold)
  have st1 := Stays.trans st cg2.nil
  have Xg2 := X.keeps cg2.nil
  have Og2 := O1.keeps cg2.nil
  have Tg2 := Tp.keeps cg2.nil
  have T2 := TZ.keeps st1
  have w2 := st1 _ _ q2
  have w3 := st1 _ _ q3
  have w4 := st1 _ _ q4
  have w5 := st1 _ _ q5
  obtain ⟨⟨dt2, hh2, tkr2, ntr2, e12, e22⟩, ⟨ep2, e32⟩, hall2, hsm2⟩ := id T2
  obtain ⟨ndj, hndj⟩ : ∃ ndj, nds[j]? = some ndj := ⟨nds[j], List.getElem?_eq_getElem hj⟩
  refine room_at R2 fun A2 _ Room2 => ?_
  clear TZ q1 q2 q3 q4 q5
  k_extra "m_walk"
  all_goals (
    refine ⟨⟨_, _, rfl, fun b o e => Fr.keep (by assumption) b o (cg2.nil b o e)⟩, ?_⟩
    rw [like_at hndj hnd]
    first
    | exact congrArg Value.bool (like_v1 (by assumption))
    | exact congrArg Value.bool (like_v4 (by assumption) (by assumption))
    | (obtain ⟨e1, e2⟩ := hul (by assumption); subst e1; subst e2; exact congrArg Value.bool (like_v2 (by assumption) (by assumption) (by assumption)))
    | (obtain ⟨e1, e2⟩ := hul (by assumption); subst e1; subst e2; exact congrArg Value.bool (like_v3 (by assumption) (by assumption) (by assumption))))
end
section
variable {prog : Program} {w : World} {A : Around} {s : Shared} {E : Value → Shared → Prop} {B0 : Heap} {tr rl : Addr} {nds : List Nd} {k : Nat} {t : Tok}
theorem like_spec (R : Room A 10) (O : Ok w B0) (hB : B0.StaysIn s.heap) (C0 : CodeHd B0 27 23) (hf : B0.get? 23 = none) (TA : TreeAt s.heap tr rl nds) (hk : k < nds.length) (TB : TabOk 23 [(posLike, nmLike)] s.heap) :
    wpAny (model prog w) A (call (.ref 28) [.ref tr, .int (k : Int) t]) (Turned [23] s fun v h' => ∃ f, v = .ref f ∧ s.heap.get? f = none ∧ (∀ Z9 : Heap, Z9.StaysIn h' → B0.StaysIn Z9 → TreeAt Z9 tr rl nds → (∀ b o, s.heap.get? b = none → h'.get? b = some o → Z9.get? b = some o) → (∀ c, h'.CodeRec (.ref c) nmLike → Z9.CodeRec (.ref c) nmLike) → PredAt prog w Z9 f nds.length (likeN nds k)) ∧ TabOk 23 [(posLike, nmLike)] h') E s := by
  obtain ⟨ps, hps, htr, hfd⟩ := TB
  refine' enterC (binds := [("tree", .ref tr), ("node", .int (k : Int) t)]) [(23, tabObj ps)] O hB ?hms R ?ho ?hcd ?hbind ?hkind ?hnd ?h ?hco ?hgen ?hk
  (case hms => intro p hp; rw [List.mem_singleton.mp hp]; exact ⟨hps, hf⟩); (case ho => k_is); (case hcd => k_is); (case hbind => exact rfl); (case hkind => exact rfl); (case hnd => decide +kernel); (case hco => exact rfl); (case hgen => exact rfl); (case hk => exact rfl)
  intro A' g L h₁ tk₁ cells p loose mean mg mb R' cg hBg Og Xg Tg gm F N Y ml
  (try k_fold)
  have l0 : @LT.lt Nat _ 23 L := ml _ (.head _)
  k_cells Y
  simp only [List.cons_append, List.nil_append] at N
  rename_i o1 o2 o3 o4 d1 d2 d3 d4
  have c4 : o4.data = .cell (some (.ref tr)) := d4
  clear d4
  have TA' := TA.cls (cg.tab hps)
  obtain ⟨⟨dt, hh, tkr, ntr, e1, e2⟩, ⟨ep, e3⟩, hall, hsm⟩ := id TA'
  have C1 := C0.keeps hBg
  obtain ⟨nd, hnd⟩ : ∃ nd, nds[k]? = some nd := ⟨nds[k], List.getElem?_eq_getElem hk⟩
  rcases hfd _ (.head _) with hno | ⟨c2, hyes, hrec⟩
  · k_extra "m_walk"
    · rename Fr g L _ _ => F9
      rename News g L _ _ => N9
      have p1 := News.get N9 (.head _)
      have p2 := News.get N9 (.tail _ (.tail _ (.tail _ (.head _))))
      have p3 := News.get N9 (.tail _ (.tail _ (.tail _ (.tail _ (.head _)))))
      have p4 := News.get N9 (.tail _ (.tail _ (.tail _ (.tail _ (.tail _ (.head _))))))
      have p5 := News.get N9 (.tail _ (.tail _ (.tail _ (.tail _ (.tail _ (.tail _ (.head _)))))))
      have p6 := News.get N9 (.tail _ (.tail _ (.tail _ (.tail _ (.tail _ (.tail _ (.tail _ (.head _))))))))
      have hrec : Heap.CodeRec _ (.ref _) nmLike := codeRec_news N9 (.tail _ (.head _)) (by assumption) (by assumption)
      have oldr : ∀ (c : Addr) (q : Str), s.heap.CodeRec (.ref c) q → Heap.CodeRec _ (.ref c) q := fun c q x => x.at fun o e => F9.keep _ _ (cg c o (by rw [List.map_cons, List.map_nil, List.mem_singleton]; exact rec_ne hps htr x) e)
      refine ⟨_, _, rfl, fun b o e1 e2 => F9.keep _ _ (cg b o e1 e2), _, rfl, (g_fresh cg (by rw [List.map_cons, List.map_nil, List.mem_singleton]; k_ne) (N9 (_, _) (.head _)).2.2), fun Z9 hZh hBZ TZ hnew hcd9 => ?_, ?_⟩
      rotate_left
      · exact TabOk.push htr hfd hno p6 hrec oldr fun q hq _ => by rw [List.mem_singleton.mp hq]; exact ⟨rfl, rfl⟩
      · skip
        have q1 := hnew _ _ (g_fresh cg (by rw [List.map_cons, List.map_nil, List.mem_singleton]; k_ne) (N9 (_, _) (by k_mem)).2.2) p1
        have q2 := hnew _ _ (g_fresh cg (by rw [List.map_cons, List.map_nil, List.mem_singleton]; k_ne) (N9 (_, _) (by k_mem)).2.2) p2
        have q3 := hnew _ _ (g_fresh cg (by rw [List.map_cons, List.map_nil, List.mem_singleton]; k_ne) (N9 (_, _) (by k_mem)).2.2) p3
        have q4 := hnew _ _ (g_fresh cg (by rw [List.map_cons, List.map_nil, List.mem_singleton]; k_ne) (N9 (_, _) (by k_mem)).2.2) p4
        have q5 := hnew _ _ (g_fresh cg (by rw [List.map_cons, List.map_nil, List.mem_singleton]; k_ne) (N9 (_, _) (by k_mem)).2.2) p5
        exact like_run O hBZ TZ hnd q1 (hcd9 _ hrec) q2 q3 q4 q5 (by assumption) (by assumption) (by assumption) c4 (fun h => by first | exact ⟨rfl, rfl⟩ | (rw [show named nd.kind = false from by assumption] at h; cases h))
    · rename Fr g L _ _ => F9
      rename News g L _ _ => N9
      have p1 := News.get N9 (.head _)
      have p2 := News.get N9 (.tail _ (.tail _ (.tail _ (.head _))))
      have p3 := News.get N9 (.tail _ (.tail _ (.tail _ (.tail _ (.head _)))))
      have p4 := News.get N9 (.tail _ (.tail _ (.tail _ (.tail _ (.tail _ (.head _))))))
      have p5 := News.get N9 (.tail _ (.tail _ (.tail _ (.tail _ (.tail _ (.tail _ (.head _)))))))
      have p6 := News.get N9 (.tail _ (.tail _ (.tail _ (.tail _ (.tail _ (.tail _ (.tail _ (.head _))))))))
      have hrec : Heap.CodeRec _ (.ref _) nmLike := codeRec_news N9 (.tail _ (.head _)) (by assumption) (by assumption)
      have oldr : ∀ (c : Addr) (q : Str), s.heap.CodeRec (.ref c) q → Heap.CodeRec _ (.ref c) q := fun c q x => x.at fun o e => F9.keep _ _ (cg c o (by rw [List.map_cons, List.map_nil, List.mem_singleton]; exact rec_ne hps htr x) e)
      refine ⟨_, _, rfl, fun b o e1 e2 => F9.keep _ _ (cg b o e1 e2), _, rfl, (g_fresh cg (by rw [List.map_cons, List.map_nil, List.mem_singleton]; k_ne) (N9 (_, _) (.head _)).2.2), fun Z9 hZh hBZ TZ hnew hcd9 => ?_, ?_⟩
      rotate_left
      · exact TabOk.push htr hfd hno p6 hrec oldr fun q hq _ => by rw [List.mem_singleton.mp hq]; exact ⟨rfl, rfl⟩
      · skip
        have q1 := hnew _ _ (g_fresh cg (by rw [List.map_cons, List.map_nil, List.mem_singleton]; k_ne) (N9 (_, _) (by k_mem)).2.2) p1
        have q2 := hnew _ _ (g_fresh cg (by rw [List.map_cons, List.map_nil, List.mem_singleton]; k_ne) (N9 (_, _) (by k_mem)).2.2) p2
        have q3 := hnew _ _ (g_fresh cg (by rw [List.map_cons, List.map_nil, List.mem_singleton]; k_ne) (N9 (_, _) (by k_mem)).2.2) p3
        have q4 := hnew _ _ (g_fresh cg (by rw [List.map_cons, List.map_nil, List.mem_singleton]; k_ne) (N9 (_, _) (by k_mem)).2.2) p4
        have q5 := hnew _ _ (g_fresh cg (by rw [List.map_cons, List.map_nil, List.mem_singleton]; k_ne) (N9 (_, _) (by k_mem)).2.2) p5
        exact like_run O hBZ TZ hnd q1 (hcd9 _ hrec) q2 q3 q4 q5 (by assumption) (by assumption) (by assumption) c4 (fun h => by first | exact ⟨rfl, rfl⟩ | (rw [show named nd.kind = false from by assumption] at h; cases h))
  · k_extra "m_walk"
    · rename Fr g L _ _ => F9
      rename News g L _ _ => N9
      have p1 := News.get N9 (.head _)
      have p2 := News.get N9 (.tail _ (.tail _ (.head _)))
      have p3 := News.get N9 (.tail _ (.tail _ (.tail _ (.head _))))
      have p4 := News.get N9 (.tail _ (.tail _ (.tail _ (.tail _ (.head _)))))
      have p5 := News.get N9 (.tail _ (.tail _ (.tail _ (.tail _ (.tail _ (.head _))))))
      have p6 := News.get N9 (.tail _ (.tail _ (.tail _ (.tail _ (.tail _ (.tail _ (.head _)))))))
      have oldr : ∀ (c : Addr) (q : Str), s.heap.CodeRec (.ref c) q → Heap.CodeRec _ (.ref c) q := fun c q x => x.at fun o e => F9.keep _ _ (cg c o (by rw [List.map_cons, List.map_nil, List.mem_singleton]; exact rec_ne hps htr x) e)
      refine ⟨_, _, rfl, fun b o e1 e2 => F9.keep _ _ (cg b o e1 e2), _, rfl, (g_fresh cg (by rw [List.map_cons, List.map_nil, List.mem_singleton]; k_ne) (N9 (_, _) (.head _)).2.2), fun Z9 hZh hBZ TZ hnew hcd9 => ?_, ?_⟩
      rotate_left
      · exact ⟨ps, p6, htr, fun q hq => (hfd q hq).imp_right fun ⟨c2, a, b⟩ => ⟨c2, a, oldr _ _ b⟩⟩
      · replace hrec := oldr _ _ hrec
        have q1 := hnew _ _ (g_fresh cg (by rw [List.map_cons, List.map_nil, List.mem_singleton]; k_ne) (N9 (_, _) (by k_mem)).2.2) p1
        have q2 := hnew _ _ (g_fresh cg (by rw [List.map_cons, List.map_nil, List.mem_singleton]; k_ne) (N9 (_, _) (by k_mem)).2.2) p2
        have q3 := hnew _ _ (g_fresh cg (by rw [List.map_cons, List.map_nil, List.mem_singleton]; k_ne) (N9 (_, _) (by k_mem)).2.2) p3
        have q4 := hnew _ _ (g_fresh cg (by rw [List.map_cons, List.map_nil, List.mem_singleton]; k_ne) (N9 (_, _) (by k_mem)).2.2) p4
        have q5 := hnew _ _ (g_fresh cg (by rw [List.map_cons, List.map_nil, List.mem_singleton]; k_ne) (N9 (_, _) (by k_mem)).2.2) p5
        exact like_run O hBZ TZ hnd q1 (hcd9 _ hrec) q2 q3 q4 q5 (by assumption) (by assumption) (by assumption) c4 (fun h => by first | exact ⟨rfl, rfl⟩ | (rw [show named nd.kind = false from by assumption] at h; cases h))
    · rename Fr g L _ _ => F9
      rename News g L _ _ => N9
      have p1 := News.get N9 (.head _)
      have p2 := News.get N9 (.tail _ (.tail _ (.head _)))
      have p3 := News.get N9 (.tail _ (.tail _ (.tail _ (.head _))))
      have p4 := News.get N9 (.tail _ (.tail _ (.tail _ (.tail _ (.head _)))))
      have p5 := News.get N9 (.tail _ (.tail _ (.tail _ (.tail _ (.tail _ (.head _))))))
      have p6 := News.get N9 (.tail _ (.tail _ (.tail _ (.tail _ (.tail _ (.tail _ (.head _)))))))
      have oldr : ∀ (c : Addr) (q : Str), s.heap.CodeRec (.ref c) q → Heap.CodeRec _ (.ref c) q := fun c q x => x.at fun o e => F9.keep _ _ (cg c o (by rw [List.map_cons, List.map_nil, List.mem_singleton]; exact rec_ne hps htr x) e)
      refine ⟨_, _, rfl, fun b o e1 e2 => F9.keep _ _ (cg b o e1 e2), _, rfl, (g_fresh cg (by rw [List.map_cons, List.map_nil, List.mem_singleton]; k_ne) (N9 (_, _) (.head _)).2.2), fun Z9 hZh hBZ TZ hnew hcd9 => ?_, ?_⟩
      rotate_left
      · exact ⟨ps, p6, htr, fun q hq => (hfd q hq).imp_right fun ⟨c2, a, b⟩ => ⟨c2, a, oldr _ _ b⟩⟩
      · replace hrec := oldr _ _ hrec
        have q1 := hnew _ _ (g_fresh cg (by rw [List.map_cons, List.map_nil, List.mem_singleton]; k_ne) (N9 (_, _) (by k_mem)).2.2) p1
        have q2 := hnew _ _ (g_fresh cg (by rw [List.map_cons, List.map_nil, List.mem_singleton]; k_ne) (N9 (_, _) (by k_mem)).2.2) p2
        have q3 := hnew _ _ (g_fresh cg (by rw [List.map_cons, List.map_nil, List.mem_singleton]; k_ne) (N9 (_, _) (by k_mem)).2.2) p3
        have q4 := hnew _ _ (g_fresh cg (by rw [List.map_cons, List.map_nil, List.mem_singleton]; k_ne) (N9 (_, _) (by k_mem)).2.2) p4
        have q5 := hnew _ _ (g_fresh cg (by rw [List.map_cons, List.map_nil, List.mem_singleton]; k_ne) (N9 (_, _) (by k_mem)).2.2) p5
        exact like_run O hBZ TZ hnd q1 (hcd9 _ hrec) q2 q3 q4 q5 (by assumption) (by assumption) (by assumption) c4 (fun h => by first | exact ⟨rfl, rfl⟩ | (rw [show named nd.kind = false from by assumption] at h; cases h))
end


/-- stands in the base or in the ledger's tail -/
def Stands (g : Heap) (tl : List (Addr × Obj)) (b : Addr) (o : Obj) : Prop := g.get? b = some o ∨ (b, o) ∈ tl
theorem Stands.mono {g : Heap} {tl tl' : List (Addr × Obj)} {b : Addr} {o : Obj} (x : Stands g tl b o) (h : ∀ p ∈ tl, p ∈ tl') : Stands g tl' b o := x.imp_right (h _)
theorem Stands.get {g h : Heap} {L : Addr} {m : Str → Option Value} {tl news : List (Addr × Obj)} {b : Addr} {o : Obj} (x : Stands g tl b o) (F : Fr g L h m) (N : News g L h news) (hs : ∀ p ∈ tl, p ∈ news) : h.get? b = some o := by
  rcases x with x | x
  · exact F.keep _ _ x
  · exact (N _ (hs _ x)).1
/-- all that stands in h, but L, ms and the base -/
noncomputable def frz (g h : Heap) (L : Addr) (ms : List Addr) : List (Addr × Obj) := led h ((List.range h.objs.size).filter fun a => decide (a ≠ L) && (!decide (a ∈ ms) && (g.get? a).isNone))
theorem frz_mem {g h : Heap} {L : Addr} {ms : List Addr} {p : Addr × Obj} : p ∈ frz g h L ms ↔ h.get? p.1 = some p.2 ∧ p.1 ≠ L ∧ p.1 ∉ ms ∧ g.get? p.1 = none := by
  unfold frz
  rw [led_mem, List.mem_filter]
  simp only [Bool.and_eq_true, decide_eq_true_eq, Bool.not_eq_true', decide_eq_false_iff_not, Option.isNone_iff_eq_none]
  constructor
  · rintro ⟨⟨_, a, b, c⟩, e⟩; exact ⟨e, a, b, c⟩
  · rintro ⟨e, a, b, c⟩; exact ⟨⟨List.mem_range.mpr (Heap.lt_size e), a, b, c⟩, e⟩
theorem frz_news {g h : Heap} {L : Addr} {ms : List Addr} : News g L h (frz g h L ms) := fun p hp => by
  obtain ⟨a, b, _, c⟩ := frz_mem.mp hp
  exact ⟨a, b, c⟩
theorem frz_off {g h : Heap} {L a : Addr} {ms : List Addr} (ha : a ∈ ms) : ∀ p ∈ frz g h L ms, @Ne Nat p.1 a := fun p hp q => (frz_mem.mp hp).2.2.1 (by rw [show p.1 = a from q]; exact ha)
theorem frz_stands {g h : Heap} {L : Addr} {m : Str → Option Value} {ms : List Addr} {b : Addr} {o : Obj} (F : Fr g L h m) (e : h.get? b = some o) (hL : b ≠ L) (hm : b ∉ ms) : Stands g (frz g h L ms) b o := by
  cases q : g.get? b with
  | none => exact .inr (frz_mem.mpr ⟨e, hL, hm, q⟩)
  | some o' => have := F.keep _ _ q; rw [e] at this; cases this; exact .inl q
def ZIn (g : Heap) (tl : List (Addr × Obj)) (Z : Heap) : Prop := ∀ b o, Z.get? b = some o → Stands g tl b o
theorem ZIn.mono {g Z : Heap} {tl tl' : List (Addr × Obj)} (x : ZIn g tl Z) (h : ∀ p ∈ tl, p ∈ tl') : ZIn g tl' Z := fun b o e => (x b o e).mono h
theorem ZIn.stays {g Z h : Heap} {L : Addr} {m : Str → Option Value} {tl news : List (Addr × Obj)} (x : ZIn g tl Z) (F : Fr g L h m) (N : News g L h news) (hs : ∀ p ∈ tl, p ∈ news) : Z.StaysIn h := fun b o e => (x b o e).get F N hs
theorem frz_Z {g h : Heap} {L : Addr} {m : Str → Option Value} {ms : List Addr} (F : Fr g L h m) : ZIn g (frz g h L ms) (hideAll h (L :: ms)) := fun b o e =>
  frz_stands F (of_hideAll _ e) (fun q => by rw [q, hideAll_none _ (.head _)] at e; cases e) (fun q => by rw [hideAll_none _ (.tail _ q)] at e; cases e)
/-- what stood in the tail before stands in the frozen one -/
theorem frz_old {g h : Heap} {L : Addr} {ms : List Addr} {tl : List (Addr × Obj)} (N : News g L h tl) (hm : ∀ p ∈ tl, p.1 ∉ ms) : ∀ p ∈ tl, p ∈ frz g h L ms := fun p hp => frz_mem.mpr ⟨(N p hp).1, (N p hp).2.1, hm p hp, (N p hp).2.2⟩
/-- the base stands in the frozen heap -/
theorem base_Z {g h : Heap} {L : Addr} {m : Str → Option Value} {ms : List Addr} (F : Fr g L h m) (hm : ∀ a ∈ ms, g.get? a = none) : g.StaysIn (hideAll h (L :: ms)) := fun b o e => hideAll_get _ (F.keep _ _ e) (fun q => by
  rcases List.mem_cons.mp q with rfl | q
  · exact absurd (Heap.lt_size e) (Nat.not_lt.mpr F.above)
  · rw [hm b q] at e; cases e)

def NoCode (h : Heap) (a : Addr) : Prop := ∀ q, ¬ h.CodeRec (.ref a) q
theorem noCode_list {h : Heap} {a : Addr} {its : Array Value} {ep : Nat} (e : h.get? a = some (listOf its ep)) : NoCode h a := fun q ⟨c, o, vs, t, e1, e2, e3, _⟩ => by cases e1; rw [e] at e2; cases e2; cases e3
theorem noCode_cell {h : Heap} {a : Addr} {o : Obj} {v : Option Value} (e : h.get? a = some o) (d : o.data = .cell v) : NoCode h a := fun q ⟨c, o', vs, t, e1, e2, e3, _⟩ => by cases e1; rw [e] at e2; cases e2; rw [d] at e3; cases e3
theorem noCode_dict {h : Heap} {a : Addr} {o : Obj} {es : Array DictEntry} {n : Nat} (e : h.get? a = some o) (d : o.data = .dict es n) : NoCode h a := fun q ⟨c, o', vs, t, e1, e2, e3, _⟩ => by cases e1; rw [e] at e2; cases e2; rw [d] at e3; cases e3
theorem noCode_tab {h : Heap} {a : Addr} {ps : Array Value} (e : h.get? a = some (tabObj ps)) (ht : TriplesOk ps.toList) : NoCode h a := fun q x => rec_ne e ht x rfl
theorem noCode_L {g h : Heap} {L : Addr} {m : Str → Option Value} (F : Fr g L h m) : NoCode h L := by
  obtain ⟨o, es, ep, e, d, _⟩ := F.ns
  exact noCode_dict e d

/-- a code table in the ledger -/
def TabL (g : Heap) (tl : List (Addr × Obj)) (LL : List (Pos × Str)) (ps : Array Value) : Prop :=
  TriplesOk ps.toList ∧ ∀ q ∈ LL, codeAmong q.1 ps.toList = none ∨ ∃ c' oc vs t, codeAmong q.1 ps.toList = some (.ref c') ∧ Stands g tl c' oc ∧ oc.data = .fields vs ∧ vs[1]? = some (.str q.2 t)
theorem TabL.mono {g : Heap} {tl tl' : List (Addr × Obj)} {LL : List (Pos × Str)} {ps : Array Value} (x : TabL g tl LL ps) (h : ∀ p ∈ tl, p ∈ tl') : TabL g tl' LL ps :=
  ⟨x.1, fun q hq => (x.2 q hq).imp_right fun ⟨c', oc, vs, t, a, b, r⟩ => ⟨c', oc, vs, t, a, b.mono h, r⟩⟩
theorem TabL.ok {g h : Heap} {L P : Addr} {m : Str → Option Value} {tl news : List (Addr × Obj)} {LL : List (Pos × Str)} {ps : Array Value} (x : TabL g tl LL ps) (F : Fr g L h m) (N : News g L h news) (hs : ∀ p ∈ tl, p ∈ news) (e : h.get? P = some (tabObj ps)) : TabOk P LL h :=
  ⟨ps, e, x.1, fun q hq => (x.2 q hq).imp_right fun ⟨c', oc, vs, t, a, b, r⟩ => ⟨c', a, c', oc, vs, t, rfl, b.get F N hs, r⟩⟩
theorem TabOk.frz {g h : Heap} {L P : Addr} {m : Str → Option Value} {ms : List Addr} {LL : List (Pos × Str)} (x : TabOk P LL h) (F : Fr g L h m) (hms : ∀ a ∈ ms, NoCode h a) : ∃ ps, h.get? P = some (tabObj ps) ∧ TabL g (frz g h L ms) LL ps := by
  obtain ⟨ps, e, t, f⟩ := x
  refine ⟨ps, e, t, fun q hq => (f q hq).imp_right fun ⟨c', a, b⟩ => ?_⟩
  obtain ⟨c, o, vs, t, e1, e2, e3, e4⟩ := id b
  cases e1
  exact ⟨c', o, vs, t, a, frz_stands F e2 (fun q => noCode_L F _ (q ▸ b)) (fun q => hms _ q _ b), e3, e4⟩
theorem TabL.nil {g : Heap} {tl : List (Addr × Obj)} {LL : List (Pos × Str)} : TabL g tl LL #[] := ⟨trivial, fun q _ => .inl rfl⟩
theorem updF_app {P : Addr} {o : Obj} {front tl : List (Addr × Obj)} {gf : Obj → List (Addr × Obj)} (U : UpdF P o front gf) (ht : ∀ p ∈ tl, @Ne Nat p.1 P) : UpdF P o (front ++ tl) (fun o => gf o ++ tl) := by
  induction U with
  | head h =>
    refine .head fun p hp => ?_
    rcases List.mem_append.mp hp with hp | hp
    · exact h p hp
    · exact ht p hp
  | tail h _ ih => exact .tail h ih

section
variable {M : Model} {A : Around} {E : Value → Shared → Prop} {s : Shared} {h₀ : Heap} {L a c P : Addr} {m mg mb : Str → Option Value} {cn : Str} {cs : Scope} {ccd : Value} {cl : List (Str × Addr)} {front tl : List (Addr × Obj)} {gf : Obj → List (Addr × Obj)}
  {p : Program} {loose : List Str} {mean : ExcName → Option Value} {name qual : Str} {params : Arguments} {body : PySem.Expr} {scope : Scope} {ps : Array Value} {pos : Pos} {firstLine : Nat} {clos : List (Str × Addr)} {LL : List (Pos × Str)}
/-- a lambda is made: for the first time or again -/
theorem lam_make {Q : Value → Shared → Prop} (F : Fr h₀ L s.heap m) (N : News h₀ L s.heap (front ++ tl)) (T : Top p loose mean mg mb h₀) (C : CodeHd h₀ c P) (hcd : ccd = .ref c) (U : UpdF P (tabObj ps) front gf) (ht : ∀ p ∈ tl, @Ne Nat p.1 P) (TL : TabL h₀ tl LL ps)
    (hm : (pos, qual) ∈ LL) (hL : ∀ q ∈ LL, apartPos pos q.1 = true → q.1 = pos ∧ q.2 = qual) (hcl : closureFor scope (envX cn cs L a ccd cl) = pure clos)
    (h : ∀ f c' ps' tl' ctv h' tk, Fr h₀ L h' m → News h₀ L h' ((f, kla_obj name qual params body scope clos ((mg "__name__").getD .none) c' ctv) :: (gf (tabObj ps') ++ tl')) → (∀ q ∈ front, q.1 < f) → (∀ q ∈ tl', q.1 < f) → (∀ q ∈ tl, q ∈ tl') → (∀ r ∈ front, (∀ q ∈ tl, @Ne Nat q.1 r.1) → ∀ q ∈ tl', @Ne Nat q.1 r.1) →
      TabL h₀ tl' LL ps' → (∃ oc vs t, Stands h₀ tl' c' oc ∧ oc.data = .fields vs ∧ vs[1]? = some (.str qual t)) → Q (.ref f) { s with heap := h', toks := tk }) :
    wpAny M A (makeFunction name qual params (.expr body) scope (envX cn cs L a ccd cl) [] [] [] pos firstLine) Q E s := by
  have U2 := updF_app U ht
  rcases TL.2 _ hm with hno | ⟨c1, oc1, vs1, t1, hyes, hst, hd1, hv1⟩
  · refine kla_nest F N T C hcd U2 TL.1 hno hcl fun f c' oc vs t ctv h' tk F' N' d1 d2 l1 l2 => ?_
    have hst : Stands h₀ ((c', oc) :: tl) c' oc := .inr (.head _)
    refine h f c' (ps ++ #[rawInt pos.line, rawInt pos.col, .ref c']) ((c', oc) :: tl) ctv h' tk F' (fun q hq => N' q ?_) (fun q hq => Nat.lt_trans (l1 q (List.mem_append_left _ hq)) l2) ?_ (fun q hq => .tail _ hq) ?_ ⟨?_, ?_⟩ ⟨oc, vs, t, hst, d1, d2⟩
    · rcases List.mem_cons.mp hq with rfl | hq
      · exact .head _
      rcases List.mem_append.mp hq with hq | hq
      · exact .tail _ (.tail _ (List.mem_append_left _ hq))
      rcases List.mem_cons.mp hq with rfl | hq
      · exact .tail _ (.head _)
      · exact .tail _ (.tail _ (List.mem_append_right _ hq))
    · intro q hq
      rcases List.mem_cons.mp hq with rfl | hq
      · exact l2
      · exact Nat.lt_trans (l1 q (List.mem_append_right _ hq)) l2
    · intro r hr hb q hq
      rcases List.mem_cons.mp hq with rfl | hq
      · exact Nat.ne_of_gt (l1 r (List.mem_append_left _ hr))
      · exact hb q hq
    · rw [Array.toList_append]; exact triples_snoc _ TL.1
    · intro q hq
      rw [Array.toList_append]
      cases ha : apartPos pos q.1 with
      | true =>
        obtain ⟨h1, h2⟩ := hL q hq ha
        rw [h1, h2]
        exact .inr ⟨c', oc, vs, t, codeAmong_snoc _ TL.1 hno, hst, d1, d2⟩
      | false =>
        rw [show (#[rawInt pos.line, rawInt pos.col, Value.ref c'] : Array Value).toList = [rawInt pos.line, rawInt pos.col, .ref c'] from rfl, among_new ha _ TL.1]
        exact (TL.2 q hq).imp_right fun ⟨c2, oc, vs, t, a, b, r⟩ => ⟨c2, oc, vs, t, a, b.mono fun q hq => .tail _ hq, r⟩
  · have hmem : (P, tabObj ps) ∈ front ++ tl := List.mem_append_left _ (UpdF.mem U)
    refine kla_hit F N T C hcd hmem TL.1 hyes hcl fun f ctv h' tk F' N' l1 => ?_
    refine h f c1 ps tl ctv h' tk F' (fun q hq => N' q ?_) (fun q hq => l1 q (List.mem_append_left _ hq)) (fun q hq => l1 q (List.mem_append_right _ hq)) (fun q hq => hq) (fun _ _ hb => hb) TL ⟨oc1, vs1, t1, hst, hd1, hv1⟩
    rcases List.mem_cons.mp hq with rfl | hq
    · exact .head _
    obtain ⟨pre, post, rfl, hg, _⟩ := U.split
    rw [hg] at hq
    exact .tail _ hq
end


inductive InvEndH (g : Heap) (L : Addr) (J : (Str → Option Value) → List (Addr × Obj) → Prop) (own : List (Addr × Obj)) (s s₂ : Shared) : Prop where
  | mk (h' : Heap) (tk : Nat) (m' : Str → Option Value) (news' nx : List (Addr × Obj)) (zc0 : s₂ = { s with heap := h', toks := tk }) (zc1 : Fr g L h' m') (zc2 : News g L h' news') (zc3 : (∀ p ∈ nx, p ∈ news')) (zc4 : (∀ q ∈ own, q ∈ news')) (zc5 : (∀ p ∈ nx, ∀ q ∈ own, @Ne Nat p.1 q.1)) (zc6 : J m' nx) : InvEndH g L J own s s₂
def InvPostH (g : Heap) (L : Addr) (J : (Str → Option Value) → List (Addr × Obj) → Prop) (own : List (Addr × Obj)) (s : Shared) (Q : Flow → Shared → Prop) (f : Flow) (s₂ : Shared) : Prop := match f with
  | .ret v => Q (.ret v) s₂
  | .brk => Q .next s₂
  | _ => InvEndH g L J own s s₂
section
variable {prog : Program} {w : World} {A : Around} {E : Value → Shared → Prop} {s : Shared} {env : Env} {g : Heap} {x : Str} {body : List Stmt} {Q : Flow → Shared → Prop}

/-- a loop over a range; the ledger may grow -/
theorem iter_rangeH {r : Addr} {n : Nat} {t u v : Tok} {m₀ : Str → Option Value} {news : List (Addr × Obj)} {L : Addr} (hL : env.locals = L) (J : Nat → (Str → Option Value) → List (Addr × Obj) → Prop)
    (hh : A.handled = none) (hr : IsRange s.heap r 0 n 1 t u v) (hn : n ≤ 1000) (F : Fr g L s.heap m₀) (N : News g L s.heap news) (hj : J 0 m₀ news)
    (turn : ∀ i t m₁ news₁ h tk I it, i < n → (∀ p ∈ news₁, @Ne Nat p.1 I) → J i m₁ news₁ → Fr g L h (fun y => if y = x then some (.int (i : Int) t) else m₁ y) → News g L h ((I, it) :: news₁) →
      wpAny (model prog w) A (execs body env) (InvPostH g L (J (i + 1)) [(I, it)] { s with heap := h, toks := tk } Q) E { s with heap := h, toks := tk })
    (done : ∀ m₁ news₁ h tk, J n m₁ news₁ → Fr g L h m₁ → News g L h news₁ → Q .next { s with heap := h, toks := tk }) :
    wpAny (model prog w) A (pyIter (.ref r)) (fun it s₂ => LoopAtV prog w A g env x body Q E it s₂) E s := by
  subst hL
  have hsz : Builtin.Range.rangeSize 0 n 1 = ((n : Nat) : Int) := by simp [Builtin.Range.rangeSize]; omega
  refine wpAny_pyIter_range hr (by simp [Builtin.Range.small, hsz, Builtin.Range.rangeFitsLong]; omega) ?_
  rw [hsz]
  have W := LCg.range_walks (prog := prog) (w := w) (I := s.heap.objs.size) hh 0 n
  refine ⟨_, _, _, n, _, _, m₀, news, J, rfl, W, ?_, ?_, ?_, ?_, F.push _, (fun p hp => ⟨Heap.get?_push_of_some _ (N p hp).1, (N p hp).2⟩), hj, ?_, ?_⟩
  · intro hm
    exact absurd F.ns.lt ((List.mem_singleton.mp hm) ▸ Nat.lt_irrefl _)
  · intro b hb
    rw [List.mem_singleton.mp hb]
    exact next_is_new F
  · intro p hp hI
    exact absurd (Heap.lt_size (N p hp).1) ((List.mem_singleton.mp hI) ▸ Nat.lt_irrefl _)
  · show Heap.get? _ _ = some _
    rw [Heap.get?_push_size _ rfl]
    simp
  · rintro i v m₁ news₁ s₁ own ⟨hh', tk', rfl⟩ hin ⟨t, hP⟩ hJ hoff hown hget hall hst F₁ N₁
    obtain ⟨it0, hst'⟩ : ∃ it0 : Obj, hh'.get? s.heap.objs.size = some it0 := ⟨_, hst⟩
    have hmemI := hall s.heap.objs.size (List.mem_cons_self ..) (next_is_new F) _ hst'
    rw [Int.zero_add] at hP
    subst hP
    have hne : ∀ p ∈ news₁, @Ne Nat p.1 s.heap.objs.size := fun p hp q => hoff p hp (List.mem_singleton.mpr q)
    have N₂ : News g env.locals hh' ((s.heap.objs.size, it0) :: news₁) := fun p hp => by
      rcases List.mem_cons.mp hp with rfl | hp
      · exact N₁ _ (List.mem_append_left _ hmemI)
      · exact N₁ p (List.mem_append_right _ hp)
    refine wpAny_mono (turn i t m₁ news₁ hh' tk' _ _ hin hne hJ F₁ N₂) (fun f s₂ p => ?_) fun _ _ e => e
    have fin : InvEndH g env.locals (J (i + 1)) [(s.heap.objs.size, it0)] { s with heap := hh', toks := tk' } s₂ → LoopStepU g env.locals [s.heap.objs.size] own (J (i + 1)) { s with heap := hh', toks := tk' } .next s₂ := by
      rintro ⟨h', tk, m', news', nx, e, F', N', hn, ho, ha, hm⟩
      refine ⟨rfl, h', tk, m', nx, e, F', fun p hp => ?_, fun p hp hq => ha p hp _ (.head _) (List.mem_singleton.mp hq), hm⟩
      rcases List.mem_append.mp hp with hp | hp
      · have h1 := List.mem_singleton.mp (hown p hp)
        have h2 := hget p hp
        rw [h1, hst'] at h2
        have h3 : p = (s.heap.objs.size, it0) := Prod.ext h1 (Option.some.inj h2).symm
        rw [h3]; exact N' _ (ho _ (.head _))
      · exact N' p (hn p hp)
    cases f with
    | ret v => exact .ret p
    | brk => exact .brk p
    | next => exact .next (fin p)
    | cont => exact .cont (fin p)
  · rintro h' tk m' news' F' N' _ hJ
    exact done m' news' h' tk hJ F' N'

/-- a loop over a list; the ledger may grow -/
theorem iter_listH {ax : Addr} {its : Array Value} {ep : Nat} {m₀ : Str → Option Value} {news : List (Addr × Obj)} {L : Addr} (hL : env.locals = L) (J : Nat → (Str → Option Value) → List (Addr × Obj) → Prop)
    (hh : A.handled = none) (hl : News g L s.heap [(ax, listOf its ep)]) (F : Fr g L s.heap m₀) (N : News g L s.heap news) (hadr : ∀ p ∈ news, @Ne Nat p.1 ax) (hj : J 0 m₀ news)
    (turn : ∀ i v m₁ news₁ h tk I it lo, its[i]? = some v → @Ne Nat I ax → (∀ p ∈ news₁, @Ne Nat p.1 I) → (∀ p ∈ news₁, @Ne Nat p.1 ax) → J i m₁ news₁ → Fr g L h (fun y => if y = x then some v else m₁ y) → News g L h ((I, it) :: (ax, lo) :: news₁) → NoCode h I → NoCode h ax →
      wpAny (model prog w) A (execs body env) (InvPostH g L (J (i + 1)) [(I, it), (ax, lo)] { s with heap := h, toks := tk } Q) E { s with heap := h, toks := tk })
    (done : ∀ m₁ news₁ h tk, J its.size m₁ news₁ → Fr g L h m₁ → News g L h news₁ → Q .next { s with heap := h, toks := tk }) :
    wpAny (model prog w) A (pyIter (.ref ax)) (fun it s₂ => LoopAtV prog w A g env x body Q E it s₂) E s := by
  subst hL
  have hax := hl _ (.head _)
  have hls : s.heap.IsList ax its := isList_of hax.1
  have hlt : ax < s.heap.objs.size := Heap.lt_size hax.1
  have hne : ax ≠ s.heap.objs.size := Nat.ne_of_lt hlt
  refine wpAny_pyIter_list hls ?_
  have W := Walks.list (prog := prog) (w := w) hh s.heap.objs.size ax hne its
  refine ⟨_, _, _, its.size, _, _, m₀, news, fun i m₁ news₁ => (∀ p ∈ news₁, @Ne Nat p.1 ax) ∧ J i m₁ news₁, rfl, W, ?_, ?_, ?_, ⟨⟨_, Heap.get?_push_size _ rfl, rfl, rfl⟩, hls.at fun o e => Heap.get?_push_of_some _ e⟩, F.push _, (fun p hp => ⟨Heap.get?_push_of_some _ (N p hp).1, (N p hp).2⟩), ⟨hadr, hj⟩, ?_, ?_⟩
  · intro hm
    rcases List.mem_cons.mp hm with e | hm
    · exact absurd F.ns.lt (e ▸ Nat.lt_irrefl _)
    · exact hax.2.1 (List.mem_singleton.mp hm).symm
  · intro b hb
    rw [List.mem_singleton.mp hb]
    exact next_is_new F
  · intro p hp hI
    exact absurd (Heap.lt_size (N p hp).1) ((List.mem_singleton.mp hI) ▸ Nat.lt_irrefl _)
  · rintro i v m₁ news₁ s₁ own ⟨hh', tk', rfl⟩ hin hP ⟨hadr₁, hJ⟩ hoff hown hget hall hst F₁ N₁
    obtain ⟨it0, hst', _, hda⟩ := hst.1
    obtain ⟨lo, hlo, _, _, hdb⟩ := hst.2
    have nc1 : NoCode hh' s.heap.objs.size := fun q ⟨c, o', vs, t, e1, e2, e3, e4⟩ => by
      cases e1; rw [hst'] at e2; cases e2; rw [hda] at e3; cases e3; cases e4
    have nc2 : NoCode hh' ax := fun q ⟨c, o', vs, t, e1, e2, e3, e4⟩ => by
      cases e1; rw [hlo] at e2; cases e2; rw [hdb] at e3; cases e3
    have hmemI := hall s.heap.objs.size (List.mem_cons_self ..) (next_is_new F) _ hst'
    have hmemX := hall ax (.tail _ (.head _)) hax.2.2 _ hlo
    have hne1 : ∀ p ∈ news₁, @Ne Nat p.1 s.heap.objs.size := fun p hp q => hoff p hp (List.mem_singleton.mpr q)
    have N₂ : News g env.locals hh' ((s.heap.objs.size, it0) :: (ax, lo) :: news₁) := fun p hp => by
      rcases List.mem_cons.mp hp with rfl | hp
      · exact N₁ _ (List.mem_append_left _ hmemI)
      rcases List.mem_cons.mp hp with rfl | hp
      · exact N₁ _ (List.mem_append_left _ hmemX)
      · exact N₁ p (List.mem_append_right _ hp)
    refine wpAny_mono (turn i v m₁ news₁ hh' tk' _ _ _ hP (Ne.symm hne) hne1 hadr₁ hJ F₁ N₂ nc1 nc2) (fun f s₂ p => ?_) fun _ _ e => e
    have fin : InvEndH g env.locals (J (i + 1)) [(s.heap.objs.size, it0), (ax, lo)] { s with heap := hh', toks := tk' } s₂ → LoopStepU g env.locals [s.heap.objs.size] own (fun m₁ news₁ => (∀ p ∈ news₁, @Ne Nat p.1 ax) ∧ J (i + 1) m₁ news₁) { s with heap := hh', toks := tk' } .next s₂ := by
      rintro ⟨h', tk, m', news', nx, e, F', N', hn, ho, ha, hm⟩
      refine ⟨rfl, h', tk, m', nx, e, F', fun p hp => ?_, fun p hp hq => ha p hp _ (.head _) (List.mem_singleton.mp hq), fun p hp => ha p hp _ (.tail _ (.head _)), hm⟩
      rcases List.mem_append.mp hp with hp | hp
      · have h2 := hget p hp
        rcases List.mem_cons.mp (hown p hp) with h1 | h1
        · rw [h1] at h2
          have h2' : hh'.get? s.heap.objs.size = some p.2 := h2
          rw [hst'] at h2'
          have h3 : p = (s.heap.objs.size, it0) := Prod.ext h1 (Option.some.inj h2').symm
          rw [h3]; exact N' _ (ho _ (.head _))
        · have h1 := List.mem_singleton.mp h1
          rw [h1] at h2
          have h2' : hh'.get? ax = some p.2 := h2
          rw [hlo] at h2'
          have h3 : p = (ax, lo) := Prod.ext h1 (Option.some.inj h2').symm
          rw [h3]; exact N' _ (ho _ (.tail _ (.head _)))
      · exact N' p (hn p hp)
    cases f with
    | ret v => exact .ret p
    | brk => exact .brk p
    | next => exact .next (fin p)
    | cont => exact .cont (fin p)
  · rintro h' tk m' news' F' N' _ ⟨_, hJ⟩
    exact done m' news' h' tk hJ F' N'
end


section
variable {g h h' : Heap} {L d : Addr} {m : Str → Option Value} {front tl : List (Addr × Obj)} {ms : List Addr} {o o' : Obj} {gf : Obj → List (Addr × Obj)}
theorem refreeze (F : Fr g L h m) (N : News g L h (front ++ tl)) (c : Chg ms h h') (hL : L ∉ ms) (hg : ∀ a ∈ ms, g.get? a = none) (hfr : ∀ p ∈ front, p.1 ∉ ms) : Fr g L h' m ∧ News g L h' (front ++ frz g h' L (front.map (·.1))) :=
  ⟨fr_turnedL F c hL hg, fun p hp => by
    rcases List.mem_append.mp hp with hp | hp
    · have P := N p (List.mem_append_left _ hp)
      exact ⟨c _ _ (hfr p hp) P.1, P.2⟩
    · exact frz_news p hp⟩
theorem refreeze0 (N : News g L h (front ++ tl)) : News g L h (front ++ frz g h L (front.map (·.1))) := fun p hp => by
  rcases List.mem_append.mp hp with hp | hp
  · exact N p (List.mem_append_left _ hp)
  · exact frz_news p hp
theorem refreezeU (F : Fr g L h m) (N : News g L h (front ++ tl)) (U : UpdF d o front gf) (c : Chg [d] h h') (e : h'.get? d = some o') : Fr g L h' m ∧ News g L h' (gf o' ++ frz g h' L (front.map (·.1))) := by
  have N1 : News g L h front := fun p hp => N p (List.mem_append_left _ hp)
  refine ⟨fr_turned F N1 (UpdF.mem U) c, fun p hp => ?_⟩
  rcases List.mem_append.mp hp with hp | hp
  · exact news_turned N1 U c e p hp
  · exact frz_news p hp
theorem frz_keep (N : News g L h (front ++ tl)) (c : Chg ms h h') (h1 : ∀ p ∈ tl, p.1 ∉ ms) (h2 : ∀ q ∈ front, ∀ p ∈ tl, @Ne Nat p.1 q.1) : ∀ p ∈ tl, p ∈ frz g h' L (front.map (·.1)) := fun p hp => by
  have P := N p (List.mem_append_right _ hp)
  refine frz_mem.mpr ⟨c _ _ (h1 p hp) P.1, P.2.1, fun q => ?_, P.2.2⟩
  obtain ⟨q', hq, e⟩ := List.mem_map.mp q
  exact h2 q' hq p hp e.symm
end

/-- the tree and the law's own list -/
structure TreeSt (h : Heap) (tr dt rl rw : Addr) (nds : List Nd) (as : List Addr) (TT : List (Option Nat × Str)) : Prop where
  inst : h.get? tr = some (instObj 323 dt)
  dict : ∃ hh tk n, h.get? dt = some (dictOf [⟨hh, .str "rows" tk, .ref rl⟩] n)
  rw : ∃ ep, h.get? rw = some (listOf (as.map Value.ref).toArray ep)
  gb : GB h rl nds as TT
  small : TT.length ≤ 20
noncomputable abbrev footSt (tr dt rl rw : Addr) (nds : List Nd) (as : List Addr) : List Addr := tr :: dt :: rw :: sup rl nds as
theorem TreeSt.agree {h h' : Heap} {tr dt rl rw : Addr} {nds : List Nd} {as : List Addr} {TT : List (Option Nat × Str)} (x : TreeSt h tr dt rl rw nds as TT) (k : ∀ a ∈ footSt tr dt rl rw nds as, ∀ o, h.get? a = some o → h'.get? a = some o) : TreeSt h' tr dt rl rw nds as TT where
  inst := k _ (.head _) _ x.inst
  dict := let ⟨hh, tk, n, e⟩ := x.dict; ⟨hh, tk, n, k _ (.tail _ (.head _)) _ e⟩
  rw := let ⟨ep, e⟩ := x.rw; ⟨ep, k _ (.tail _ (.tail _ (.head _))) _ e⟩
  gb := x.gb.agree fun a ha => k a (.tail _ (.tail _ (.tail _ ha)))
  small := x.small
theorem TreeSt.keeps {h h' : Heap} {tr dt rl rw : Addr} {nds : List Nd} {as : List Addr} {TT : List (Option Nat × Str)} (x : TreeSt h tr dt rl rw nds as TT) (k : h.StaysIn h') : TreeSt h' tr dt rl rw nds as TT := x.agree fun a _ => k a
theorem TreeSt.tree {h : Heap} {tr dt rl rw : Addr} {nds : List Nd} {as : List Addr} {TT : List (Option Nat × Str)} (x : TreeSt h tr dt rl rw nds as TT) : TreeM h tr rl nds := let ⟨_, _, _, e⟩ := x.dict; x.gb.tree x.inst e
theorem TreeSt.rows {h : Heap} {tr dt rl rw : Addr} {nds : List Nd} {as : List Addr} {TT : List (Option Nat × Str)} (x : TreeSt h tr dt rl rw nds as TT) : RowsAt h rw TT := ⟨let ⟨ep, e⟩ := x.rw; ⟨as, ep, e, x.gb.alen, x.gb.tups⟩, x.small⟩

section
variable {prog : Program} {w : World} {A : Around} {s₁ : Shared} {E : Value → Shared → Prop} {env : Env} {scope : Scope} {cl : List (Str × Addr)} {x y : Str} {ifs : List PySem.Expr} {elt : PySem.Expr} {p : Value → Bool} {Fv : Value → Value → Prop} {QF : Flow → Shared → Prop}
  {g : Heap} {L : Addr} {m : Str → Option Value} {news : List (Addr × Obj)}
theorem compA_from_rangeD {r : Addr} {a b : Int} {n : Nat} {t u v : Tok} (hL : env.locals = L) (F : Fr g L s₁.heap m) (N : News g L s₁.heap news) (hh : A.handled = none) (hr : IsRange s₁.heap r a b 1 t u v) (hsm : Builtin.Range.small a b 1 = true) (hrs : Builtin.Range.rangeSize a b 1 = ((n : Nat) : Int)) (hsz : n ≤ 1000)
    (B : BlockOk prog w A s₁ env scope cl x ifs elt (fun v => ∃ (i : Nat) (t : Tok), i < n ∧ v = .int (a + (i : Int)) t) p Fv)
    (k : ∀ D h' tk ys ep' vs, s₁.heap.get? D = none → Fr g L h' (fun z => if z = y then some (.ref D) else m z) → News g L h' ((D, listOf ys ep') :: news) → IntsAre vs (rangeZ a n) → Paired Fv (vs.filter p) ys.toList → QF .next { s₁ with heap := h', toks := tk }) :
    wpAny (model prog w) A (pyIter (.ref r)) (CompGoA prog w A env scope cl x y ifs elt p Fv QF) E s₁ := by
  subst hL
  refine wpAny_pyIter_range hr hsm ?_
  rw [hrs]
  refine ⟨_, _, _, n, _, _, m, rfl, (LCg.range_walks (prog := prog) (w := w) (I := s₁.heap.objs.size) hh a n).bound, line_small hsz, ?_, ?_, ?_, (F.push _).ns, block_quiet B (fun i v hv => ?_) rfl rfl, ?_⟩
  · show Heap.get? _ _ = some _
    rw [Heap.get?_push_size _ rfl]
    simp
  · intro b hb
    show b < (s₁.heap.push _).objs.size
    rw [Heap.size_push, List.mem_singleton.mp hb]
    exact Nat.lt_succ_self _
  · intro hm; exact absurd F.ns.lt ((List.mem_singleton.mp hm) ▸ Nat.lt_irrefl _)
  · obtain ⟨hi, t, e⟩ := hv
    exact ⟨i, t, hi, e⟩
  · intro D h' tk ys vs hD _ hp hlen hv hF hns hk
    obtain ⟨ep', e⟩ := plain_get hp
    obtain ⟨F', N'⟩ := madeA (F.push _) (news_keeps N fun b o hb => Heap.get?_push_of_some _ hb) hD e hns (fun b hb o ho => absurd (Heap.lt_size (F.keep _ _ ho)) ((List.mem_singleton.mp hb) ▸ Nat.lt_irrefl _)) (fun p hp q => absurd (Heap.lt_size (N p hp).1) ((List.mem_singleton.mp q) ▸ Nat.lt_irrefl _)) hk
    exact k D h' tk ys ep' vs (fresh_back (fun b o hb => Heap.get?_push_of_some _ hb) hD) F' N' (ints_range hlen hv) hF
end
noncomputable abbrev lamNm (q : String) : Str := Str.ofString q
noncomputable abbrev LLike : List (Pos × Str) := [(posLike, nmLike)]
noncomputable abbrev LAtt : List (Pos × Str) := [(⟨263, 0, 263, 30⟩, "_law_attribute_right.<locals>.<lambda>"), (⟨264, 0, 264, 30⟩, "_law_attribute_right.<locals>.<lambda>"), (⟨267, 0, 267, 17⟩, "_law_attribute_right.<locals>.<lambda>")]
noncomputable abbrev LLaw : List (Pos × Str) := [(⟨280, 0, 280, 30⟩, "law.<locals>.<lambda>"), (⟨281, 0, 281, 30⟩, "law.<locals>.<lambda>"), (⟨285, 0, 285, 17⟩, "law.<locals>.<lambda>")]

theorem word_L5_1 : True := by
  (k_with "m_z" => exact ZIn.stays (by k_asm) (by k_asm) (by k_asm) (fun p hp => by k_extra "m_sub"))
  (k_with "call ref" => (k_dflt (((with_reducible show wpAny _ _ (call (Value.ref 372) _) _ _ _); refine' kept_i9 ?zF ?zN (due_spec ?zlv ?zR ?zO ?zB ?zT ?zW ?zP ?zk) ?_; (case zF => k_asm); (case zN => k_asm); (case zlv => k_asm); (case zR => exact Room.less (by k_asm) (by exact Nat.le_of_ble_eq_true rfl)); (case zO => k_asm); (case zB => exact Fr.keep (by k_asm)); (case zT => first | exact RowsAt.keeps (by k_asm) (Fr.keep (by k_asm)) | exact RowsAt.keeps (by k_asm) (by k_extra "m_z")); (case zW => exact WordsAt.keeps (by k_asm) (by k_extra "m_z")); (case zP => k_asm); (case zk => first | assumption | omega); intro _ _ _ _ _ _ _ _ _ _ _ _ _; (try k_sweep)))))
  (k_with "eval Name" => (k_dflt (((with_reducible show wpAny _ _ (eval (Expr.Name (Str.ofString "at") _) (compEnvC _ _ _ _)) _ _ _); (refine' comp_local ?zF ?zhv ?_ ?zhk ?zhx ?zhb; (case zhk => with_unfolding_all exact rfl); (case zhx => with_unfolding_all exact rfl); (case zhb => with_unfolding_all decide); (case zF => k_asm); (case zhv => k_extra "m_lk"))))))
  (k_with "compareOp Eq ref ref" => (k_dflt (((refine' eq_intsK ?zk1 ?zk2 ?zk3 ?zk4 ?zk5 ?_; (case zk1 => is_list); (case zk2 => first | assumption | exact IntsAre.nil); (case zk3 => is_list); (case zk4 => first | assumption | exact IntsAre.nil | exact IntsAre.cons _ _ IntsAre.nil); (case zk5 => exact Room.units64 (by k_asm)))))))
  exact True.intro
theorem newList_S {M : Model} {A : Around} {E : Value → Shared → Prop} {s : Shared} {h₀ : Heap} {L : Addr} {m : Str → Option Value} {news : List (Addr × Obj)} {vs : List Value} {Q : Value → Shared → Prop} (F : Fr h₀ L s.heap m) (N : News h₀ L s.heap news)
    (h : ∀ l h', Fr h₀ L h' m → News h₀ L h' ((l, listOf vs.toArray 0) :: news) → (∀ p ∈ news, p.1 < l) → s.heap.StaysIn h' → Q (.ref l) { s with heap := h' }) (hz : vs.length ≤ 1000) : wpAny M A (newList vs) Q E s :=
  wpAny_newList (h _ _ (F.push _) (N.push F _) (fun p hp => Heap.lt_size (N p hp).1) fun b o e => Heap.get?_push_of_some _ e)
theorem word_L5_2 : True := by
  (k_with "newList" => ((have guard' := ‹Fr _ _ (Shared.heap _) _›); clear guard'; (refine' newList_S ?zk1 ?zk2 ?_ ?z; (case zk1 => k_asm); (case zk2 => k_asm); (case z => simp only [List.length_cons, List.length_nil]; omega)); intro _ _ _ _ l1 _; (try k_lt l1); (try k_sweep); (try (revert l1; intro _))))
  exact True.intro
theorem rangeZ_nat {n : Nat} : rangeZ 0 n = natZ (List.range n) := by
  unfold rangeZ natZ
  apply List.map_congr_left
  intro a _
  omega
theorem tab_end {h g h' : Heap} {ms ms' : List Addr} {P : Addr} {LL : List (Pos × Str)} (st : g.StaysIn h') (c : Chg ms h g) (hm : ∀ b, b ∈ ms → b ∈ ms') (hn : ∀ a ∈ ms', NoCode h a) (x : TabOk P LL h) (e : h'.get? P = h.get? P) : TabOk P LL h' := by
  obtain ⟨ps, e1, t, f⟩ := x
  exact ⟨ps, e.trans e1, t, fun q hq => (f q hq).imp_right fun ⟨c', a, b⟩ => ⟨c', a, b.at fun o eo => st _ _ (c _ _ (fun hq => hn _ (hm _ hq) _ b) eo)⟩⟩
theorem el_kind {nds : List Nd} {TT : List (Option Nat × Str)} {st : List Nat} {k : Nat} {nd : Nd} (G : Grow nds TT st) (hk : k < nds.length) (e : nds[k]? = some nd) (h : hasW TT ["a", "b", "c"] k = true) : nd.kind = Str.ofString "element" := by
  obtain ⟨a, _⟩ := G.m.lab k nd hk e
  unfold hasW at h
  cases a with
  | root h1 h2 h3 => rw [h2] at h; exact absurd h (by decide)
  | text h1 h2 h3 => rw [h2] at h; exact absurd h (by decide)
  | element h1 h2 h3 => exact h1
theorem front_none {g h : Heap} {L a : Addr} {front tl : List (Addr × Obj)} (N : News g L h (front ++ tl)) (ha : a ∈ front.map (·.1)) : g.get? a = none := by
  obtain ⟨q, hq, rfl⟩ := List.mem_map.mp ha
  exact (N q (List.mem_append_left _ hq)).2.2
theorem front_off {g h : Heap} {L a : Addr} {m : Str → Option Value} {front tl : List (Addr × Obj)} (F : Fr g L h m) (N : News g L h (front ++ tl)) (e : h.get? a = none) : a ∉ L :: front.map (·.1) := fun q => by
  rcases List.mem_cons.mp q with h1 | q
  · obtain ⟨oL, es, ep, eL, _⟩ := F.ns
    rw [h1, eL] at e; cases e
  · obtain ⟨q', hq, rfl⟩ := List.mem_map.mp q
    rw [(N q' (List.mem_append_left _ hq)).1] at e; cases e
theorem sup_app {rl a : Addr} {nds : List Nd} {as : List Addr} (h : a ∈ sup rl nds []) : a ∈ sup rl nds as := by
  rcases List.mem_append.mp h with h | h
  · exact List.mem_append_left _ h
  · cases h
theorem sup_att {rl tr : Addr} {nds : List Nd} {as : List Addr} {p : Nat} {nd : Nd} {h h' : Heap} {kd ur lc : Str} {par : Option Nat} (_T : TreeM h' tr rl (attAt p nds.length nds ++ [nd])) (n : NewNd h h' nd kd ur lc par) : ∀ x ∈ sup rl (attAt p nds.length nds ++ [nd]) as, x ∈ sup rl nds as ∨ h.get? x = none := fun x hx => by
  rcases sup_inv hx with rfl | ⟨y, hy, h1⟩ | h1
  · exact .inl sup_rl
  · rcases List.mem_append.mp hy with hy | hy
    · obtain ⟨j, hj⟩ := List.mem_iff_getElem?.mp hy
      rw [attAt_get] at hj
      obtain ⟨z, hz, rfl⟩ := Option.map_eq_some_iff.mp hj
      have hm := sup_mem (rl := rl) (as := as) (List.mem_of_getElem? hz)
      left
      split at h1 <;> rcases h1 with rfl | rfl | rfl | rfl <;> first | exact hm.1 | exact hm.2.1 | exact hm.2.2.1 | exact hm.2.2.2
    · rw [List.mem_singleton.mp hy] at h1
      right
      rcases h1 with rfl | rfl | rfl | rfl
      · exact n.fa
      · exact n.fd
      · exact n.fc
      · exact n.ft
  · exact .inl (sup_as h1)
theorem word_L5_3 : True := by
  (k_with "assign Tuple" => (k_dflt (((with_reducible show wpAny _ _ (assign (Expr.Tuple _ _ _) _ (Value.ref _)) _ _ _); (refine' unpackN_ ?zF ?zN ?zT ?zk1 ?zk2 ?zk3 ?_; (case zF => k_asm); (case zN => k_asm); (case zT => refine News.isTup (by k_asm) (by k_mem)); (case zk1 => exact Room.hd (by k_asm)); (case zk2 => with_unfolding_all exact rfl); (case zk3 => with_unfolding_all exact rfl)); intro _ _ _; (try k_sweep)))))
  exact True.intro
/-- the ways of an expression that makes a list of numbers meet; all that stands joins the tail -/
inductive Joined (g : Heap) (L : Addr) (m : Str → Option Value) (front tl : List (Addr × Obj)) (s : Shared) (ln : List Nat) (v : Value) (s' : Shared) : Prop where
  | mk (l : Addr) (its : Array Value) (ep : Nat) (h' : Heap) (tk : Nat) (zc0 : v = .ref l) (zc1 : s' = { s with heap := h', toks := tk }) (zc2 : Fr g L h' m) (zc3 : News g L h' ((l, listOf its ep) :: (front ++ tl))) (zc4 : l ∉ front.map (·.1)) (zc5 : IntsAre its.toList (natZ ln)) : Joined g L m front tl s ln v s'
theorem join_list {M : Model} {A : Around} {E : Value → Shared → Prop} {s : Shared} {g : Heap} {L : Addr} {m : Str → Option Value} {tr : Sem Value} {Q : Value → Shared → Prop} (front tl : List (Addr × Obj)) (ln : List Nat) (_F : Fr g L s.heap m) (_N : News g L s.heap (front ++ tl)) (hoff : ∀ q ∈ front, ∀ p ∈ tl, @Ne Nat p.1 q.1) (h1 : wpAny M A tr (Joined g L m front tl s ln) E s)
    (h2 : ∀ l its ep h' tk tl', Fr g L h' m → News g L h' (front ++ tl') → (l, listOf its ep) ∈ tl' → (∀ p ∈ tl, p ∈ tl') → (∀ q ∈ front, ∀ p ∈ tl', @Ne Nat p.1 q.1) → IntsAre its.toList (natZ ln) → its.size = ln.length → Q (.ref l) { s with heap := h', toks := tk }) : wpAny M A tr Q E s :=
  wpAny_mono h1 (fun v s' ⟨l, its, ep, h', tk, e1, e2, F, N, hl, hI⟩ => by
    subst e1 e2
    have N1 : News g L h' (front ++ tl) := fun p hp => N p (.tail _ hp)
    have P := N _ (.head _)
    exact h2 l its ep h' tk _ F (refreeze0 N1) (frz_mem.mpr ⟨P.1, P.2.1, hl, P.2.2⟩) (frz_keep (ms := []) N1 (fun b o _ e => e) (fun p _ q => nomatch q) hoff) (fun q hq => frz_off (List.mem_map_of_mem hq)) hI (nat_size hI)) fun _ _ e => e
theorem ZIn.get {g Z h : Heap} {L : Addr} {m : Str → Option Value} {tl news : List (Addr × Obj)} {a : Addr} {o : Obj} (x : ZIn g tl Z) (F : Fr g L h m) (N : News g L h news) (hs : ∀ p ∈ tl, p ∈ news) (e : Z.get? a = some o) : h.get? a = some o := x.stays F N hs _ _ e
theorem word_L5_4 : True := by
  (k_with "m_subx" => first | with_reducible assumption | (refine List.mem_cons_of_mem _ ?_; k_extra "m_subx") | fail "m_subx")
  (k_with "m_get" => first | with_reducible assumption | exact ZIn.get (by with_reducible assumption) (by k_asm) (by k_asm) (fun p hp => by k_extra "m_subx") (by with_reducible assumption) | exact News.get (by with_reducible assumption) (by k_extra "m_subx") | fail "m_get")
  exact True.intro
theorem fresh_front {g h : Heap} {L a : Addr} {front news : List (Addr × Obj)} (N : News g L h news) (hs : ∀ p ∈ front, p ∈ news) (e : h.get? a = none) : a ∉ front.map (·.1) := fun q => by
  obtain ⟨q', hq, rfl⟩ := List.mem_map.mp q
  rw [(N q' (hs _ hq)).1] at e; cases e
theorem above_len {TT : List (Option Nat × Str)} {ws : List Str} {bg : Str} {k : Nat} (PL : ParLt (parT TT)) (hk : k ≤ 20) : (aboveN TT ws bg k).length ≤ 21 := by
  unfold aboveN
  split
  · simp
  · exact Nat.le_trans (List.length_filter_le _ _) (Nat.le_trans (upTo_length PL) (by omega))
theorem above_le {TT : List (Option Nat × Str)} {ws : List Str} {bg : Str} {k j : Nat} (PL : ParLt (parT TT)) (h : j ∈ aboveN TT ws bg k) : j ≤ k := by
  unfold aboveN at h
  split at h
  · cases h
  · exact upTo_le PL (List.mem_filter.mp h).1
theorem due_len {TT : List (Option Nat × Str)} {ws : List Str} {bg : Str} {k : Nat} : (dueN TT (Str.ofString "any") ws bg k).length ≤ 1 := by
  unfold dueN
  rw [if_neg (by decide), if_neg (by decide)]
  split <;> simp
theorem word_L5_5 : True := by
  (k_with "call builtin:sum" => (k_dflt (((with_reducible show wpAny _ _ (call (Value.builtin "sum") [Value.ref _]) _ _ _); (refine' sumK ?zk0 ?zk1 ?zk2 ?zk3 ?zk4 ?_; (case zk0 => exact Room.hd (by k_asm)); (case zk1 => k_asm); (case zk2 => k_asm); (case zk3 => is_list); (case zk4 => k_asm)); intro _ _ _ _ _; (try k_sweep)))))
  exact True.intro
theorem natZ_sum (l : List Nat) : (natZ l).sum = ((l.sum : Nat) : Int) := by
  induction l with
  | nil => rfl
  | cons a l ih => rw [natZ, List.map_cons, List.sum_cons, List.sum_cons, Int.natCast_add]; congr 1
theorem add_nat {prog : Program} {w : World} {A : Around} {E : Value → Shared → Prop} {s : Shared} {h₀ : Heap} {L a b : Addr} {m : Str → Option Value} {news : List (Addr × Obj)} {its its2 : Array Value} {la lb : List Nat} {Q : Value → Shared → Prop} {ep ep2 : Nat}
    (F : Fr h₀ L s.heap m) (N : News h₀ L s.heap news) (ha : s.heap.get? a = some (listOf its ep)) (hb : s.heap.get? b = some (listOf its2 ep2)) (hi : IntsAre its.toList (natZ la)) (hj : IntsAre its2.toList (natZ lb))
    (h : ∀ D us h', Fr h₀ L h' m → News h₀ L h' ((D, listOf (List.toArray us) 0) :: news) → (∀ p ∈ news, p.1 < D) → IntsAre us.toArray.toList (natZ (la ++ lb)) → us.length = la.length + lb.length → Q (.ref D) { s with heap := h' })
    (hz : la.length + lb.length ≤ 1000) : wpAny (model prog w) A (binaryOp .Add (.ref a) (.ref b)) Q E s :=
  add_own F N ha hb hi hj (fun D us h' F' N' l1 hI => h D us h' F' N' l1 (by rw [natZ, List.map_append]; exact hI) (by rw [hI.length, List.length_append, List.length_map, List.length_map])) (by rw [List.length_map, List.length_map]; exact hz)
theorem word_L5_6 : True := by
  (k_with "binaryOp Add ref ref" => (k_dflt (((with_reducible show wpAny _ _ (binaryOp _ (Value.ref _) (Value.ref _)) _ _ _); (refine' add_nat ?zF ?zN ?za ?zb ?zi ?zj ?_ ?z; (case zF => k_asm); (case zN => k_asm); (case za => k_extra "m_get"); (case zb => k_extra "m_get"); (case zi => k_asm); (case zj => k_asm); (case z => (try simp only [List.length_map, List.length_reverse]); omega)); intro _ _ _ _ _ l1 _ _; (try k_lt l1); (try k_sweep); (try (revert l1; intro _))))))
  exact True.intro
/-- the ways of an expression that makes a list of numbers meet; the ledger stays as it is -/
theorem join_keep {M : Model} {A : Around} {E : Value → Shared → Prop} {s : Shared} {g : Heap} {L : Addr} {m : Str → Option Value} {tr : Sem Value} {Q : Value → Shared → Prop} {news : List (Addr × Obj)} (ms : List Addr) (ln : List Nat) (_F : Fr g L s.heap m) (_N : News g L s.heap news)
    (h1 : wpAny M A tr (fun v s' => ∃ l its ep h' tk, v = .ref l ∧ s' = { s with heap := h', toks := tk } ∧ Fr g L h' m ∧ News g L h' ((l, listOf its ep) :: news) ∧ l ∉ ms ∧ IntsAre its.toList (natZ ln)) E s)
    (h2 : ∀ l its ep h' tk, Fr g L h' m → News g L h' ((l, listOf its ep) :: news) → l ∉ ms → IntsAre its.toList (natZ ln) → Q (.ref l) { s with heap := h', toks := tk }) : wpAny M A tr Q E s :=
  wpAny_mono h1 (fun v s' ⟨l, its, ep, h', tk, e1, e2, F, N, hl, hI⟩ => by
    subst e1 e2
    exact h2 l its ep h' tk F N hl hI) fun _ _ e => e
theorem strs_are {vs : List Value} : allStrs vs = true → StrsAre vs (strsOf vs) := by
  induction vs with
  | nil => intro _; exact .nil
  | cons a vs ih =>
    intro h
    unfold allStrs at h
    rw [List.all_cons, Bool.and_eq_true] at h
    cases a with
    | str x t => exact .cons x t (ih h.2)
    | _ => exact absurd h.1 Bool.false_ne_true
theorem news_drop7 {g h : Heap} {L : Addr} {a b c d e f i : Addr × Obj} {l : List (Addr × Obj)} (N : News g L h (a :: b :: c :: d :: e :: f :: i :: l)) : News g L h l := fun p hp => N p (.tail _ (.tail _ (.tail _ (.tail _ (.tail _ (.tail _ (.tail _ hp)))))))
theorem word_L5_7 : True := by
  (k_with "setItem ref int" => (k_dflt (((refine' kda_set (knd := PySem.intKind _ _) ?zF ?zN ?zU ?zd (intKind_is _ _ _ _) ?z ?_; (case zF => k_asm); (case zN => k_asm); (case zU => k_updF); (case zd => k_asm); (case z => exact line_small (by k_asm))); intro _ _ _ N' _; (try dsimp only at N'); (try k_sweep); (try (revert N'; intro _))))))
  (k_with "m_hold2" => ((fail_if_success (with_reducible show wpAny _ _ (eval (Expr.IfExp _ _ _ _) _) _ _ _)); (fail_if_success (with_reducible show wpAny _ _ (exec (Stmt.Assign _ (Expr.ListComp _ _ _ _) _) _) _ _ _))))
  (k_with "m_walk2" => (try dsimp only); repeat' (k_extra "m_hold2"; k_extra "m_hold"; (first | (k_unfold; (try clear ek qk)) | walk1); (try dsimp only); (try k_extra "m_fold")))
  exact True.intro
theorem told_more {kvs : List (Int × Value)} {labs : List Str} {z : Str} {t : Tok} (hl : kvs.length = labs.length) (hk : ∀ (j : Nat) (l : Str), labs[j]? = some l → ∃ t, kvs[j]? = some ((j : Int), .str l t)) :
    (stored kvs (labs.length : Int) (.str z t)).length = (labs ++ [z]).length ∧ ∀ (j : Nat) (l : Str), (labs ++ [z])[j]? = some l → ∃ t', (stored kvs (labs.length : Int) (.str z t))[j]? = some ((j : Int), .str l t') := by
  have hs : stored kvs (labs.length : Int) (.str z t) = kvs ++ [((labs.length : Int), .str z t)] := by
    unfold stored
    rw [if_neg]
    intro q
    obtain ⟨x, hx, hx2⟩ := List.any_eq_true.mp q
    obtain ⟨j, hj⟩ := List.mem_iff_getElem?.mp hx
    have hjl : j < labs.length := by have := (List.getElem?_eq_some_iff.mp hj).1; omega
    obtain ⟨t', e⟩ := hk j labs[j] (List.getElem?_eq_getElem hjl)
    rw [e] at hj
    have h3 := of_decide_eq_true hx2
    rw [← Option.some.inj hj] at h3
    have h4 : ((j : Nat) : Int) = (labs.length : Int) := h3
    omega
  rw [hs]
  refine ⟨by rw [List.length_append, List.length_append, hl]; rfl, fun j l e => ?_⟩
  by_cases hj : j < labs.length
  · rw [List.getElem?_append_left hj] at e
    rw [List.getElem?_append_left (by omega)]
    exact hk j l e
  · have hjl := (List.getElem?_eq_some_iff.mp e).1
    rw [List.length_append, List.length_singleton] at hjl
    obtain rfl : j = labs.length := by omega
    rw [List.getElem?_append_right (Nat.le_refl _), Nat.sub_self] at e
    cases e
    rw [List.getElem?_append_right (by omega), hl, Nat.sub_self]
    exact ⟨t, rfl⟩
theorem lab_at {TT : List (Option Nat × Str)} {z : Str} {j : Nat} (h : j < TT.length) : (TT.map (·.2) ++ [z]).getD j Str.empty = labT TT j := by
  unfold labT
  rw [List.getD_eq_getElem?_getD, List.getElem?_append_left (by rw [List.length_map]; exact h), List.getElem?_map]
theorem lab_last {TT : List (Option Nat × Str)} {z : Str} : (TT.map (·.2) ++ [z]).getD TT.length Str.empty = z := by
  rw [List.getD_eq_getElem?_getD, List.getElem?_append_right (by rw [List.length_map]; exact Nat.le_refl _), List.length_map, Nat.sub_self]; rfl
theorem lab_at0 {TT : List (Option Nat × Str)} {j : Nat} : (TT.map (·.2)).getD j Str.empty = labT TT j := by
  unfold labT
  rw [List.getD_eq_getElem?_getD, List.getElem?_map]
theorem natZ_inj {a b : List Nat} (h : natZ a = natZ b) : a = b := by
  induction a generalizing b with
  | nil => cases b with
    | nil => rfl
    | cons y b => cases h
  | cons x a ih => cases b with
    | nil => cases h
    | cons y b =>
      simp only [natZ, List.map_cons, List.cons.injEq] at h
      rw [ih h.2]
      congr 1
      omega
theorem natZ_dec {a b : List Nat} : decide (natZ a = natZ b) = decide (a = b) := by
  by_cases h : a = b
  · rw [h]; simp
  · rw [decide_eq_false h, decide_eq_false (fun q => h (natZ_inj q))]
/-- all that stands beside the front goes into the tail -/
theorem freeze {g h : Heap} {L : Addr} {m : Str → Option Value} {front tl : List (Addr × Obj)} (F : Fr g L h m) (N : News g L h (front ++ tl)) :
    ∃ tl', News g L h (front ++ tl') ∧ ZIn g tl' (hideAll h (L :: front.map (·.1))) ∧ (∀ q ∈ front, ∀ p ∈ tl', @Ne Nat p.1 q.1) ∧ (∀ p ∈ tl, (∀ q ∈ front, @Ne Nat p.1 q.1) → p ∈ tl') ∧
      (∀ P LL, TabOk P LL h → (∀ q ∈ front, NoCode h q.1) → ∃ ps, h.get? P = some (tabObj ps) ∧ TabL g tl' LL ps) := by
  refine ⟨frz g h L (front.map (·.1)), refreeze0 N, frz_Z F, fun q hq => frz_off (List.mem_map_of_mem hq), fun p hp hq => ?_, fun P LL x hc => x.frz F fun a ha => ?_⟩
  · have P := N p (List.mem_append_right _ hp)
    refine frz_mem.mpr ⟨P.1, P.2.1, fun q => ?_, P.2.2⟩
    obtain ⟨q', hq', e⟩ := List.mem_map.mp q
    exact hq q' hq' e.symm
  · obtain ⟨q', hq', e⟩ := List.mem_map.mp ha
    rw [← e]; exact hc q' hq'


noncomputable abbrev pickTail11 {f : Addr} {p} {oc : Value} {od : Option Addr} {name qual : Str} {params : Arguments} {s1 s2 s3 s4 s5 s6 s7 s8 s9 s10 s11 : Stmt} {rest : List Stmt} {scope : Scope} {dV kV doc pm cdv ct : Value} {an : Option Addr} {osl : Array (Option Value)}
  (_ : (hd.heap_39 p).lookup f = some ⟨oc, od, .func (fnX name qual params (s1 :: s2 :: s3 :: s4 :: s5 :: s6 :: s7 :: s8 :: s9 :: s10 :: s11 :: rest) scope [] dV kV doc pm an cdv ct), osl⟩) : List Stmt := rest
noncomputable abbrev pickLoop11 {f : Addr} {p} {oc : Value} {od : Option Addr} {name qual : Str} {params : Arguments} {s1 s2 s3 s4 s5 s6 s7 s8 s9 s10 s11 : Stmt} {tg it : PySem.Expr} {body els : List Stmt} {ps : Pos} {rest : List Stmt} {scope : Scope} {dV kV doc pm cdv ct : Value} {an : Option Addr} {osl : Array (Option Value)}
  (_ : (hd.heap_39 p).lookup f = some ⟨oc, od, .func (fnX name qual params (s1 :: s2 :: s3 :: s4 :: s5 :: s6 :: s7 :: s8 :: s9 :: s10 :: s11 :: .For tg it body els ps :: rest) scope [] dV kV doc pm an cdv ct), osl⟩) : List Stmt := body
noncomputable abbrev pickEnv {f : Addr} {p} {oc : Value} {od : Option Addr} {name qual : Str} {params : Arguments} {body : List Stmt} {scope : Scope} {dV kV doc pm cdv ct : Value} {an : Option Addr} {osl : Array (Option Value)}
  (_ : (hd.heap_39 p).lookup f = some ⟨oc, od, .func (fnX name qual params body scope [] dV kV doc pm an cdv ct), osl⟩) (L : Addr) : Env := envOfC qual scope L f cdv
noncomputable def attTail (w : World) : List Stmt := pickTail11 (f := 377) (p := w.params) (by k_is)
noncomputable def attLoop (w : World) : List Stmt := pickLoop11 (f := 377) (p := w.params) (by k_is)
noncomputable def attEnv (w : World) (L : Addr) : Env := pickEnv (f := 377) (p := w.params) (by k_is) L
def isLv (lv : Str) : Prop := lv = Str.ofString "single" ∨ lv = Str.ofString "multiple" ∨ lv = Str.ofString "any"

theorem word_T2_1 : True := by
  (k_with "m_hold3" => (fail_if_success (with_reducible show wpAny _ _ (call (Value.ref 84) _) _ _ _)))
  (k_with "m_walk3" => (try dsimp only); repeat' (k_extra "m_hold3"; k_extra "m_hold2"; k_extra "m_hold"; (first | (k_unfold; (try clear ek qk)) | walk1); (try dsimp only); (try k_extra "m_fold")))
  (k_with "m_suby" => first | with_reducible assumption | (refine List.mem_cons_of_mem _ ?_; k_extra "m_suby") | fail "m_suby")
  (k_with "subscriptTail" => (k_dflt (((with_reducible show wpAny _ _ (subscriptTail _ _ (Value.ref _) (Value.str _ _)) _ _ _); (refine' kda_item (knd := PySem.strKind _ _) ?zN ?zp ?zd (strKind_is _ _ _ _) ?zv ?_ ?zs ?zg; (case zN => k_asm); (case zp => k_extra "m_suby"); (case zd => with_reducible assumption); (case zv => with_reducible assumption); (case zs => with_unfolding_all rfl); (case zg => kmk_pure))))))
  exact True.intro
theorem lam_uniq {LL : List (Pos × Str)} {pos : Pos} {q q' : Str} (e : q' = q) (h : ∀ r ∈ LL, apartPos pos r.1 = true → r.1 = pos ∧ r.2 = q) : ∀ r ∈ LL, apartPos pos r.1 = true → r.1 = pos ∧ r.2 = q' := by subst e; exact h
theorem word_T2_2 : True := by
  (k_with "m_lam" => ((case zF => k_asm); (case zN => k_asm); (case zT => k_asm); (case zcd => exact rfl); (case zC => k_asm); (case zU => k_updF); (case zt => k_asm); (case zTL => k_asm); (case zm => first | k_mem | decide +kernel); (case zL => exact lam_uniq (q := Str.ofString "_law_attribute_right.<locals>.<lambda>") (by with_unfolding_all rfl) (by decide +kernel)); (case zcl => with_unfolding_all exact rfl)))
  (k_with "eval Lambda" => (k_dflt ((refine' kla_eval ?zd0 ?_; (case zd0 => exact rfl); (first | (refine' lam_make (LL := LAtt) (front := [_, _, _, _, _, _, _, _]) ?zF ?zN ?zT ?zC ?zcd ?zU ?zt ?zTL ?zm ?zL ?zcl ?_; k_extra "m_lam") | (refine' lam_make (LL := LAtt) (front := [_, _, _, _, _, _, _, _, _, _]) ?zF ?zN ?zT ?zC ?zcd ?zU ?zt ?zTL ?zm ?zL ?zcl ?_; k_extra "m_lam") | (refine' lam_make (LL := LAtt) (front := [_, _, _, _, _, _, _, _, _, _, _]) ?zF ?zN ?zT ?zC ?zcd ?zU ?zt ?zTL ?zm ?zL ?zcl ?_; k_extra "m_lam")); intro _ _ _ _ _ _ _ _ N' l1 _ _ off' _ r'; obtain ⟨_, _, _, _, _, _⟩ := r'; (try simp only [List.cons_append, List.nil_append] at N'); (have z1' := off' (374, _) (by k_mem) (by k_asm)); (try k_lt l1); (try k_sweep); (try (revert N'; intro _)); (try (revert l1; intro _)); (try (revert r'; intro _)); (try (revert z1'; intro _)); (try (revert off'; intro _))))))
  exact True.intro
section
variable {prog : Program} {w : World} {A : Around} {s : Shared} {E : Value → Shared → Prop} {g : Heap} {L : Addr} {m mg mb : Str → Option Value} {p : Program} {loose : List Str} {mean : ExcName → Option Value}
theorem att_turn {h Z : Heap} {tk : Nat} {I ax src td tr rl due nm d : Addr} {it lo on ob ot orw os otd od1 odue : Obj} {ps : Array Value} {tl tl0 : List (Addr × Obj)} {n k : Nat} {t5 tlv tb : Tok} {lv bg : Str} {ws labs : List Str} {nds : List Nd} {TT : List (Option Nat × Str)} {pend : Nat → List Nat}
    {kvs : List (Int × Value)} {kvd : List (Str × Value)} {its : Array Value} {ep : Nat} {Q : Flow → Shared → Prop}
    (R : Room A 24) (O : Ok w g) (X : (hd.heap_39 w.params).In g) (T : Top p loose mean mg mb g) (C : CodeHd g 376 374) (hlv : isLv lv) (F : Fr g L h m)
    (m1 : m (Str.ofString "tree") = some (.ref tr)) (m2 : m (Str.ofString "node") = some (.int (n : Int) t5)) (m3 : m (Str.ofString "level") = some (.str lv tlv)) (m4 : m (Str.ofString "due") = some (.ref due))
    (N : News g L h ((I, it) :: (ax, lo) :: (L + 1 + 1 + 1 + 1, on) :: (L + 1 + 1 + 1, ob) :: (L + 1 + 1, ot) :: (L + 1, orw) :: (src, os) :: (td, otd) :: (23, od1) :: (374, tabObj ps) :: tl))
    (c1 : on.data = .cell (some (.ref nm))) (c2 : ob.data = .cell (some (.str bg tb))) (c3 : ot.data = .cell (some (.ref td))) (TL : TabL g tl LAtt ps)
    (f1 : @Ne Nat I 374) (f2 : @Ne Nat ax 374) (f3 : @LT.lt Nat _ 374 L) (f4 : @Ne Nat src 374) (f5 : @Ne Nat td 374) (f6 : ∀ q ∈ tl, @Ne Nat q.1 374) (f7 : ∀ q ∈ tl, @Ne Nat q.1 I) (f8 : ∀ q ∈ tl, @Ne Nat q.1 ax) (f9 : ∀ q ∈ tl, @Ne Nat q.1 23)
    (D : otd.IsDictOf (PySem.intKind prog w) kvs) (hkl : kvs.length = labs.length) (hkv : ∀ (j : Nat) (l : Str), labs[j]? = some l → ∃ t, kvs[j]? = some ((j : Int), .str l t))
    (ZI : ZIn g tl0 Z) (hs0 : ∀ q ∈ tl0, q ∈ tl) (S : TreeAt Z tr rl nds) (W : WordsAt Z nm ws)
    (hdu : (due, odue) ∈ tl) (Dd : odue.IsDictOf (PySem.strKind prog w) kvd) (hva : valueAt kvd lv = some (.ref d)) (hdl : (d, listOf its ep) ∈ tl) (hdi : IntsAre its.toList (natZ (attDue TT lv ws bg k)))
    (WF : TreeWf nds) (MA : Match nds TT n) (PR : PreAt nds n pend) (hn : nds.length = n + 1) (hp : parN nds n = some k) (hk : k < n) (hkd : kindN nds n = Str.ofString "attribute") (hlab : labs = TT.map (·.2) ++ [Str.ofString "z"])
    (K : ∀ h' tk' ps' tl', Fr g L h' m → News g L h' ((I, it) :: (ax, lo) :: (L + 1 + 1 + 1 + 1, on) :: (L + 1 + 1 + 1, ob) :: (L + 1 + 1, ot) :: (L + 1, orw) :: (src, os) :: (td, otd) :: (23, od1) :: (374, tabObj ps') :: tl') → TabL g tl' LAtt ps' → (∀ q ∈ tl, q ∈ tl') →
      (∀ q ∈ tl', @Ne Nat q.1 374) → (∀ q ∈ tl', @Ne Nat q.1 I) → (∀ q ∈ tl', @Ne Nat q.1 ax) → (∀ q ∈ tl', @Ne Nat q.1 23) → Q .next { s with heap := h', toks := tk' }) :
    wpAny (model prog w) A (execs (attLoop w) (attEnv w L)) Q E { s with heap := h, toks := tk } := by
  unfold attLoop attEnv
  dsimp only [pickLoop11, pickEnv]
  k_extra "m_walk3"
  rename_i fa ca psa tla ctva ha tka l2a suba TLa oca vsa tta hsta hda hwa l1a z1a offa fb cb psb tlb ctvb hb tkb Fb l2b subb TLb ocb vsb ttb hstb hdb hwb Nb l1b z1b offb
  have sAB : ∀ q ∈ tl, q ∈ tlb := fun q hq => subb q (suba q hq)
  have ZIb := ZI.mono fun q hq => sAB q (hs0 q hq)
  have stZ := ZIb.stays Fb Nb fun q hq => by k_extra "m_subx"
  have hll : labs.length = nds.length := by rw [hlab, List.length_append, List.length_map, List.length_singleton, hn, MA.len]
  have To : ToldAt prog w hb td labs := ⟨kvs, Heap.dictOf_iff.mpr ⟨otd, News.get Nb (by k_mem), D⟩, hkl, hkv⟩

  have PC := pred_in O Fb.keep (News.get Nb (.tail _ (.head _))) ⟨ca, oca, vsa, tta, rfl, (hsta.mono subb).get Fb Nb (fun q hq => by k_extra "m_subx"), hda, hwa⟩ (by with_unfolding_all exact rfl) (by with_unfolding_all exact rfl) (News.get Nb (by k_mem)) (News.get Nb (by k_mem)) c3 c1 To (W.keeps stZ)
  have PB := pred_eq O Fb.keep (News.get Nb (.head _)) ⟨cb, ocb, vsb, ttb, rfl, hstb.get Fb Nb (fun q hq => by k_extra "m_subx"), hdb, hwb⟩ (by with_unfolding_all exact rfl) (by with_unfolding_all exact rfl) (News.get Nb (by k_mem)) (News.get Nb (by k_mem)) c3 c2 To
  rw [hll] at PC PB
  have he : endN nds n < n := by
    unfold endN
    rw [if_pos (by rw [hkd]; rfl), hp]; exact hk
  refine kept_step Fb Nb (counted_spec (n := n) (pend := pend) hlv (R.less (by exact Nat.le_of_ble_eq_true rfl)) O Fb.keep (S.keeps stZ) WF PR (by omega) he (by omega) (fun _ => ⟨k, hp⟩) PC PB) fun v h' tk' F' N' st' r' => ?_
  obtain ⟨l, ⟨yl⟩, ep', rfl, hl1, hl2, hl3⟩ := r'
  rw [num_att WF.parLt MA hk hp hkd (fun j hj => by show inW ws _ = _; rw [hlab, lab_at (by rw [MA.len]; exact hj)]; rfl) (by show inW ws _ = _; rw [hlab, ← MA.len, lab_last]) (fun j hj => by show (_ == bg) = _; rw [hlab, lab_at (by rw [MA.len]; exact hj)]) hlv] at hl3
  have N9 := news_made Fb Nb st' hl1 hl2
  replace hl3 : IntsAre yl _ := hl3
  obtain ⟨zl⟩ := its
  replace hdi : IntsAre zl _ := hdi
  have hdu' := sAB _ hdu
  have hdl' := sAB _ hdl
  clear N' Fb Nb PC PB To
  iterate 4 ((try dsimp only); walk1)
  (try dsimp only)
  refine ne_intsK (isList_of (News.get N9 (.head _))) hl3 (isList_of (News.get N9 (by k_extra "m_suby"))) hdi R.units64 ?_
  (try dsimp only)
  walk1
  (try dsimp only)
  refine ite_neg (by simp) ?_
  k_extra "m_walk3"
  rename Fr g L _ _ => F10
  exact K _ _ _ _ F10 (news_drop N9 fun q hq => .tail _ (.tail _ (.tail _ hq))) TLb sAB z1b (offb (I, it) (.tail _ (.head _)) (offa (I, it) (.head _) f7)) (offb (ax, lo) (.tail _ (.tail _ (.head _))) (offa (ax, lo) (.tail _ (.head _)) f8)) (offb (23, od1) (by k_mem) (offa (23, od1) (by k_mem) f9))
end


theorem word_T3_1 : True := by
  (k_with "m_hold3" => ((fail_if_success (with_reducible show wpAny _ _ (call (Value.ref 84) _) _ _ _)); (fail_if_success (with_reducible show wpAny _ _ (call (Value.ref 28) _) _ _ _))))
  (k_with "m_hold4" => (fail_if_success (with_reducible show wpAny _ _ (compareOp _ (Value.ref _) (Value.ref _)) _ _ _)))
  (k_with "m_walk4" => (try dsimp only); repeat' (k_extra "m_hold4"; k_extra "m_hold3"; k_extra "m_hold2"; k_extra "m_hold"; (first | (k_unfold; (try clear ek qk)) | walk1); (try dsimp only); (try k_extra "m_fold")))
  exact True.intro
theorem dis2 {nx : List (Addr × Obj)} {I ax : Addr} {it lo : Obj} (hI : ∀ p ∈ nx, @Ne Nat p.1 I) (hx : ∀ p ∈ nx, @Ne Nat p.1 ax) : ∀ p ∈ nx, ∀ q ∈ [(I, it), (ax, lo)], @Ne Nat p.1 q.1 := fun p hp q hq => by
  rcases List.mem_cons.mp hq with rfl | hq
  · exact hI p hp
  · rw [List.mem_singleton.mp hq]; exact hx p hp
theorem three_lv {a b c : Tok} {i : Nat} {v : Value} (h : (#[.str (Str.ofString "single") a, .str (Str.ofString "multiple") b, .str (Str.ofString "any") c] : Array Value)[i]? = some v) : ∃ lv t, v = .str lv t ∧ isLv lv := by
  rcases i with _ | _ | _ | i
  · cases h; exact ⟨_, _, rfl, .inl rfl⟩
  · cases h; exact ⟨_, _, rfl, .inr (.inl rfl)⟩
  · cases h; exact ⟨_, _, rfl, .inr (.inr rfl)⟩
  · simp at h
section
variable {prog : Program} {w : World} {A : Around} {s : Shared} {g : Heap} {L : Addr} {m mg mb : Str → Option Value} {p : Program} {loose : List Str} {mean : ExcName → Option Value}
theorem att_tail {h Z : Heap} {tk : Nat} {src td tr rl due nm : Addr} {on ob ot orw od2 odue : Obj} {b x : Int} {t1 t2 : Tok} {ns : Nat} {ps1 ps2 : Array Value} {tl tl0 : List (Addr × Obj)} {n k : Nat} {t5 tb : Tok} {bg : Str} {ws labs : List Str} {nds : List Nd} {TT : List (Option Nat × Str)} {pend : Nat → List Nat}
    {kvs : List (Int × Value)} {kvd : List (Str × Value)} {Q : Flow → Shared → Prop}
    (R : Room A 26) (O : Ok w g) (X : (hd.heap_39 w.params).In g) (T : Top p loose mean mg mb g) (C1 : CodeHd g 27 23) (C2 : CodeHd g 376 374) (F : Fr g L h m)
    (m1 : m (Str.ofString "tree") = some (.ref tr)) (m2 : m (Str.ofString "node") = some (.int (n : Int) t5)) (m4 : m (Str.ofString "due") = some (.ref due))
    (N : News g L h ((L + 1 + 1 + 1 + 1, on) :: (L + 1 + 1 + 1, ob) :: (L + 1 + 1, ot) :: (L + 1, orw) :: (src, srcObj b x t1 t2 ns) :: (td, od2) :: (23, tabObj ps1) :: (374, tabObj ps2) :: tl))
    (c1 : on.data = .cell (some (.ref nm))) (c2 : ob.data = .cell (some (.str bg tb))) (c3 : ot.data = .cell (some (.ref td))) {cv : Option Value} (c4 : orw.data = .cell cv) (TL1 : TabL g tl LLike ps1) (TL2 : TabL g tl LAtt ps2)
    (f2 : @LT.lt Nat _ 23 L) (f3 : @LT.lt Nat _ 374 L) (f4 : @LT.lt Nat _ src L) (f5 : @LT.lt Nat _ td L) (f6 : @Ne Nat src 374) (f7 : @Ne Nat td 374) (f8 : @Ne Nat src 23) (f9 : @Ne Nat td 23) (f10 : @Ne Nat src td) (o1 : ∀ q ∈ tl, @Ne Nat q.1 374) (o2 : ∀ q ∈ tl, @Ne Nat q.1 23)
    (D : od2.IsDictOf (PySem.intKind prog w) kvs) (hkl : kvs.length = labs.length) (hkv : ∀ (j : Nat) (l : Str), labs[j]? = some l → ∃ t, kvs[j]? = some ((j : Int), .str l t))
    (ZI : ZIn g tl0 Z) (hs0 : ∀ q ∈ tl0, q ∈ tl) (hZ : ∀ a ∈ [L, L + 1 + 1 + 1 + 1, L + 1 + 1 + 1, L + 1 + 1, L + 1, src, td, 23, 374], Z.get? a = none) (S : TreeAt Z tr rl nds) (W : WordsAt Z nm ws)
    (hdu : (due, odue) ∈ tl) (Dd : odue.IsDictOf (PySem.strKind prog w) kvd) (hD3 : ∀ lv, isLv lv → ∃ d its ep, valueAt kvd lv = some (.ref d) ∧ (d, listOf its ep) ∈ tl ∧ IntsAre its.toList (natZ (attDue TT lv ws bg k)))
    (WF : TreeWf nds) (MA : Match nds TT n) (PR : PreAt nds n pend) (hn : nds.length = n + 1) (hp : parN nds n = some k) (hk : k < n) (hkd : kindN nds n = Str.ofString "attribute") (hlab : labs = TT.map (·.2) ++ [Str.ofString "z"])
    (K : ∀ h' tk', g.StaysIn h' → TabOk 23 LLike h' → TabOk 374 LAtt h' → Q (.ret (.bool true)) { s with heap := h', toks := tk' }) :
    wpAny (model prog w) A (execs (attTail w) (attEnv w L)) Q (fun _ _ => False) { s with heap := h, toks := tk } := by
  unfold attTail attEnv
  dsimp only [pickTail11, pickEnv]
  k_extra "m_walk3"
  refine For_invV g rfl rfl ?_
  k_extra "m_walk3"
  rename Fr g L _ _ => F1
  rename News g L _ _ => N1
  rename_i l1
  refine iter_listH (L := L) rfl (fun i m₁ news₁ => ∃ ps tl', news₁ = (L + 1 + 1 + 1 + 1, on) :: (L + 1 + 1 + 1, ob) :: (L + 1 + 1, ot) :: (L + 1, orw) :: (src, srcObj b x t1 t2 ns) :: (td, od2) :: (23, tabObj ps1) :: (374, tabObj ps) :: tl' ∧ TabL g tl' LAtt ps ∧ (∀ q ∈ tl, q ∈ tl') ∧
      (∀ q ∈ tl', @Ne Nat q.1 374) ∧ (∀ q ∈ tl', @Ne Nat q.1 23) ∧ m₁ (Str.ofString "tree") = some (.ref tr) ∧ m₁ (Str.ofString "node") = some (.int (n : Int) t5) ∧ m₁ (Str.ofString "due") = some (.ref due)) R.hd
    (fun p hp => by rw [List.mem_singleton.mp hp]; exact N1 _ (.head _)) F1 (news_drop N1 fun p hp => .tail _ hp) ?hadr ⟨ps2, tl, rfl, TL2, fun _ h => h, o1, o2, m1, m2, m4⟩ ?turn ?done
  case hadr => exact fun p hp => Nat.ne_of_lt (ltA_get (by exact l1) p hp)
  case turn =>
    intro i v m₁ news₁ h3 tk3 I it lo hv hIax hI hax hJJ F3 N3 _ _
    (try k_fold)
    obtain ⟨ps, tl', rfl, TL', sub, o3, o4, hm1, hm2, hm4⟩ := hJJ
    obtain ⟨lv, tlv, rfl, hlv⟩ := three_lv hv
    obtain ⟨d, its, ep, hva, hdl, hdi⟩ := hD3 lv hlv
    have i1 := fhead hI
    replace hI := ftail hI
    have i2 := fhead hI
    replace hI := ftail hI
    have i3 := fhead hI
    replace hI := ftail hI
    have i4 := fhead hI
    replace hI := ftail hI
    have i5 := fhead hI
    replace hI := ftail hI
    have i6 := fhead hI
    replace hI := ftail hI
    have i7 := fhead hI
    replace hI := ftail hI
    have i8 := fhead hI
    replace hI := ftail hI
    have i9 := hI
    clear hI
    (try dsimp only at i1 i2 i3 i4 i5 i6 i7 i8 i9)
    have j1 := fhead hax
    replace hax := ftail hax
    have j2 := fhead hax
    replace hax := ftail hax
    have j3 := fhead hax
    replace hax := ftail hax
    have j4 := fhead hax
    replace hax := ftail hax
    have j5 := fhead hax
    replace hax := ftail hax
    have j6 := fhead hax
    replace hax := ftail hax
    have j7 := fhead hax
    replace hax := ftail hax
    have j8 := fhead hax
    replace hax := ftail hax
    have j9 := hax
    clear hax
    (try dsimp only at j1 j2 j3 j4 j5 j6 j7 j8 j9)
    refine att_turn (s := { s with heap := h3, toks := tk3 }) (R.less (by exact Nat.le_of_ble_eq_true rfl)) O X T C2 hlv F3 (by k_extra "m_lk") (by k_extra "m_lk") (by k_extra "m_lk") (by k_extra "m_lk") N3 c1 c2 c3 TL' (Ne.symm i8) (Ne.symm j8) f3 f6 f7 o3 i9 j9 o4 D hkl hkv (ZI.mono hs0) sub S W (sub _ hdu) Dd hva (sub _ hdl) hdi WF MA PR hn hp hk hkd hlab fun h' tk' ps' tl'' F' N' TL'' sub'' oa ob' oc od' => ?_
    exact ⟨h', tk', _, _, (L + 1 + 1 + 1 + 1, on) :: (L + 1 + 1 + 1, ob) :: (L + 1 + 1, ot) :: (L + 1, orw) :: (src, srcObj b x t1 t2 ns) :: (td, od2) :: (23, tabObj ps1) :: (374, tabObj ps') :: tl'', rfl, F', N', fun p hp => .tail _ (.tail _ hp), fun q hq => by
        rcases List.mem_cons.mp hq with rfl | hq
        · exact .head _
        · rw [List.mem_singleton.mp hq]; exact .tail _ (.head _),
      dis2 (by exact fcons i1 (fcons i2 (fcons i3 (fcons i4 (fcons i5 (fcons i6 (fcons i7 (fcons i8 ob')))))))) (by exact fcons j1 (fcons j2 (fcons j3 (fcons j4 (fcons j5 (fcons j6 (fcons j7 (fcons j8 oc)))))))),
      ps', tl'', rfl, TL'', fun q hq => sub'' q (sub q hq), oa, od', by k_extra "m_lk", by k_extra "m_lk", by k_extra "m_lk"⟩
  case done =>
    intro m₁ news₁ h3 tk3 hJJ F3 N3
    (try k_fold)
    obtain ⟨ps, tl', rfl, TL', sub, o3, o4, hm1, hm2, hm4⟩ := hJJ
    k_extra "m_walk3"
    rename Fr g L _ _ => F4
    rename News g L _ _ => N4
    have m23 := (List.Mem.tail (L + 1 + 1 + 1 + 1, on) (.tail (L + 1 + 1 + 1, ob) (.tail (L + 1 + 1, ot) (.tail (L + 1, orw) (.tail (src, srcObj b x t1 t2 ns) (.tail (td, od2) (.head (a := (23, tabObj ps1)) ((374, tabObj ps) :: tl')))))))) 
    have e23 := News.get N4 m23
    have st4 := (ZI.mono fun q hq => sub q (hs0 q hq)).stays F4 N4 fun q hq => by k_extra "m_subx"
    have TB4 : TabOk 23 LLike _ := (TL1.mono sub).ok F4 N4 (fun q hq => by k_extra "m_subx") e23
    refine turned_step (α := Value) (like_spec (R.less (by exact Nat.le_of_ble_eq_true rfl)) O F4.keep C1 (News.fresh N4 m23) (S.keeps st4) (by omega) TB4) fun v h5 tk5 c5 r5 => ?_
    obtain ⟨fv5, rfl, hf5, hP5, hTB5⟩ := r5
    obtain ⟨ps5, e5, ht5, hfd5⟩ := id hTB5
    have F5 := fr_turned F4 N4 m23 c5
    have N5 := news_turned N4 (by k_updF) c5 e5
    obtain ⟨tl5, N6, ZI6, of6, _, tb6⟩ := freeze (front := [_, _, _, _, _, _, _, _]) F5 N5
    have g1 := fhead of6
    replace of6 := ftail of6
    have g2 := fhead of6
    replace of6 := ftail of6
    have g3 := fhead of6
    replace of6 := ftail of6
    have g4 := fhead of6
    replace of6 := ftail of6
    have g5 := fhead of6
    replace of6 := ftail of6
    have g6 := fhead of6
    replace of6 := ftail of6
    have g7 := fhead of6
    replace of6 := ftail of6
    have g8 := fhead of6
    clear of6
    (try dsimp only at g1 g2 g3 g4 g5 g6 g7 g8)
    replace N6 : News g L h5 ((L + 1 + 1 + 1 + 1, on) :: (L + 1 + 1 + 1, ob) :: (L + 1 + 1, ot) :: (L + 1, orw) :: (src, srcObj b x t1 t2 ns) :: (td, od2) :: (23, tabObj ps5) :: (374, tabObj ps) :: tl5) := N6
    have e374 := News.get N5 (List.Mem.tail (L + 1 + 1 + 1 + 1, on) (.tail (L + 1 + 1 + 1, ob) (.tail (L + 1 + 1, ot) (.tail (L + 1, orw) (.tail (src, srcObj b x t1 t2 ns) (.tail (td, od2) (.tail (23, tabObj ps5) (.head (a := (374, tabObj ps)) tl'))))))))
    have hnc : ∀ q ∈ [(L + 1 + 1 + 1 + 1, on), (L + 1 + 1 + 1, ob), (L + 1 + 1, ot), (L + 1, orw), (src, srcObj b x t1 t2 ns), (td, od2), (23, tabObj ps5), (374, tabObj ps)], NoCode h5 q.1 := by
      obtain ⟨es, epd, _, hdd, _⟩ := id D
      exact fcons (noCode_cell (News.get N5 (.head _)) c1) (fcons (noCode_cell (News.get N5 (.tail _ (.head _))) c2) (fcons (noCode_cell (News.get N5 (.tail _ (.tail _ (.head _)))) c3) (fcons (noCode_cell (News.get N5 (.tail _ (.tail _ (.tail _ (.head _))))) c4) (fcons (noCode_list (News.get N5 (.tail _ (.tail _ (.tail _ (.tail _ (.head _))))))) (fcons (noCode_dict (News.get N5 (.tail _ (.tail _ (.tail _ (.tail _ (.tail _ (.head _))))))) hdd) (fcons (noCode_tab e5 ht5) (fcons (noCode_tab e374 TL'.1) fnil)))))))
    obtain ⟨psA, eA, TLA⟩ := tb6 23 LLike hTB5 hnc
    rw [e5] at eA; cases eA
    obtain ⟨psB, eB, TLB⟩ := tb6 374 LAtt (TL'.ok F5 N5 (fun q hq => by k_extra "m_subx") e374) hnc
    rw [e374] at eB; cases eB
    have st5 := (ZI.mono fun q hq => sub q (hs0 q hq)).stays F5 N5 fun q hq => by k_extra "m_subx"
    have SZ6 : TreeAt (hideAll h5 [L, L + 1 + 1 + 1 + 1, L + 1 + 1 + 1, L + 1 + 1, L + 1, src, td, 23, 374]) tr rl nds := S.keeps fun b o e => hideAll_get _ (st5 b o e) fun q => by rw [hZ b q] at e; cases e
    have PL := hP5 _ (fun b o e => of_hideAll _ e) (base_Z (ms := [L + 1 + 1 + 1 + 1, L + 1 + 1 + 1, L + 1 + 1, L + 1, src, td, 23, 374]) F5 fun a ha => front_none (front := [(L + 1 + 1 + 1 + 1, on), (L + 1 + 1 + 1, ob), (L + 1 + 1, ot), (L + 1, orw), (src, srcObj b x t1 t2 ns), (td, od2), (23, tabObj ps5), (374, tabObj ps)]) N5 ha)
      SZ6
      (fun bb oo e1 e2 => hideAll_get _ e2 (front_off (front := [(L + 1 + 1 + 1 + 1, on), (L + 1 + 1 + 1, ob), (L + 1 + 1, ot), (L + 1, orw), (src, srcObj b x t1 t2 ns), (td, od2), (23, tabObj ps1), (374, tabObj ps)]) F4 N4 e1))
      (fun c xc => xc.at fun o e => hideAll_get _ e fun q => by
        rcases List.mem_cons.mp q with q | q
        · exact noCode_L F5 _ (q ▸ xc)
        · obtain ⟨q', hq', hq2⟩ := List.mem_map.mp (show c ∈ [(L + 1 + 1 + 1 + 1, on), (L + 1 + 1 + 1, ob), (L + 1 + 1, ot), (L + 1, orw), (src, srcObj b x t1 t2 ns), (td, od2), (23, tabObj ps5), (374, tabObj ps)].map (·.1) from q)
          exact hnc q' hq' _ (hq2 ▸ xc))
    simp only [List.map_cons, List.map_nil] at ZI6
    clear tb6 hP5 hnc N4 N5 F4 e23 TB4 hTB5 st4 st5 hfd5 c5 TL' o3 o4
    k_extra "m_walk3"
    rename_i fa ca psa tla ctva ha tka Fa l2a suba TLa oca vsa tta hsta hda hwa Na l1a z1a offa
    have PF := pred_false (prog := prog) (n := nds.length) O Fa.keep (News.get Na (.head _)) ⟨ca, oca, vsa, tta, rfl, hsta.get Fa Na (fun q hq => by k_extra "m_subx"), hda, hwa⟩
    have stB := (ZI6.mono suba).stays Fa Na fun q hq => by k_extra "m_subx"
    have he : endN nds n < n := by
      unfold endN
      rw [if_pos (by rw [hkd]; rfl), hp]; exact hk
    refine kept_step Fa Na (counted_spec (n := n) (pend := pend) (.inl rfl) (R.less (by exact Nat.le_of_ble_eq_true rfl)) O Fa.keep (SZ6.keeps stB) WF PR (by omega) he (by omega) (fun _ => ⟨k, hp⟩) (PL.keeps stB) PF) fun v h' tk' F' N' st' r' => ?_
    obtain ⟨l, ⟨yl⟩, ep', rfl, hl1, hl2, hl3⟩ := r'
    rw [num_like (T := TT) WF.parLt hp hkd like_self] at hl3
    have N9 := news_made Fa Na st' hl1 hl2
    replace hl3 : IntsAre yl (natZ [1]) := hl3
    clear N' Fa Na PF PL stB
    k_extra "m_walk4"
    rename Fr g L _ _ => F10
    rename News g L _ _ => N10
    refine eq_intsK (isList_of (News.get N10 (.tail _ (.head _)))) hl3 (isList_of (News.get N10 (.head _))) (.cons _ _ .nil) R.units64 ?_
    k_extra "m_walk3"
    refine K _ _ F10.keep ((TLA.mono suba).ok F10 N10 (fun q hq => by k_extra "m_subx") (News.get N10 (by k_mem))) (TLa.ok F10 N10 (fun q hq => by k_extra "m_subx") (News.get N10 (by k_mem)))
end


noncomputable abbrev pickTail10 {f : Addr} {p} {oc : Value} {od : Option Addr} {name qual : Str} {params : Arguments} {s1 s2 s3 s4 s5 s6 s7 s8 s9 s10 : Stmt} {rest : List Stmt} {scope : Scope} {dV kV doc pm cdv ct : Value} {an : Option Addr} {osl : Array (Option Value)}
  (_ : (hd.heap_39 p).lookup f = some ⟨oc, od, .func (fnX name qual params (s1 :: s2 :: s3 :: s4 :: s5 :: s6 :: s7 :: s8 :: s9 :: s10 :: rest) scope [] dV kV doc pm an cdv ct), osl⟩) : List Stmt := rest
noncomputable def attDueS (w : World) : List Stmt := pickTail10 (f := 377) (p := w.params) (by k_is)
theorem word_T5_1 : True := by
  (k_with "m_hold5" => (fail_if_success (with_reducible show wpAny _ _ (execs (Stmt.For _ _ _ _ _ :: _) _) _ _ _)))
  (k_with "m_walk5" => (try dsimp only); repeat' (k_extra "m_hold5"; k_extra "m_hold"; (first | (k_unfold; (try clear ek qk)) | walk1); (try dsimp only); (try k_extra "m_fold")))
  exact True.intro
section
variable {prog : Program} {w : World} {A : Around} {s : Shared} {g : Heap} {L : Addr} {m mg mb : Str → Option Value} {p : Program} {loose : List Str} {mean : ExcName → Option Value}
theorem att_due {h Z : Heap} {tk : Nat} {src td tr rl nm lo ln : Addr} {on ob ot orw od2 : Obj} {b x : Int} {t1 t2 : Tok} {ns : Nat} {ps1 ps2 : Array Value} {tl tl0 : List (Addr × Obj)} {n k : Nat} {t5 tb tm : Tok} {bg : Str} {ws labs : List Str} {nds : List Nd} {TT : List (Option Nat × Str)} {pend : Nat → List Nat}
    {kvs : List (Int × Value)} {vso vsn : Array Value} {epo epn : Nat} {Q : Flow → Shared → Prop}
    (R : Room A 26) (O : Ok w g) (X : (hd.heap_39 w.params).In g) (T : Top p loose mean mg mb g) (C1 : CodeHd g 27 23) (C2 : CodeHd g 376 374) (F : Fr g L h m)
    (m1 : m (Str.ofString "tree") = some (.ref tr)) (m2 : m (Str.ofString "node") = some (.int (n : Int) t5)) (m4 : m (Str.ofString "own") = some (.ref lo)) (m5 : m (Str.ofString "numbers") = some (.ref ln)) (m6 : m (Str.ofString "many") = some (.int ((manyA TT ws bg k : Nat) : Int) tm))
    (N : News g L h ((L + 1 + 1 + 1 + 1, on) :: (L + 1 + 1 + 1, ob) :: (L + 1 + 1, ot) :: (L + 1, orw) :: (src, srcObj b x t1 t2 ns) :: (td, od2) :: (23, tabObj ps1) :: (374, tabObj ps2) :: tl))
    (c1 : on.data = .cell (some (.ref nm))) (c2 : ob.data = .cell (some (.str bg tb))) (c3 : ot.data = .cell (some (.ref td))) {cv : Option Value} (c4 : orw.data = .cell cv) (TL1 : TabL g tl LLike ps1) (TL2 : TabL g tl LAtt ps2)
    (f2 : @LT.lt Nat _ 23 L) (f3 : @LT.lt Nat _ 374 L) (f4 : @LT.lt Nat _ src L) (f5 : @LT.lt Nat _ td L) (f6 : @Ne Nat src 374) (f7 : @Ne Nat td 374) (f8 : @Ne Nat src 23) (f9 : @Ne Nat td 23) (f10 : @Ne Nat src td) (o1 : ∀ q ∈ tl, @Ne Nat q.1 374) (o2 : ∀ q ∈ tl, @Ne Nat q.1 23)
    (D : od2.IsDictOf (PySem.intKind prog w) kvs) (hkl : kvs.length = labs.length) (hkv : ∀ (j : Nat) (l : Str), labs[j]? = some l → ∃ t, kvs[j]? = some ((j : Int), .str l t))
    (ZI : ZIn g tl0 Z) (hs0 : ∀ q ∈ tl0, q ∈ tl) (hZ : ∀ a ∈ [L, L + 1 + 1 + 1 + 1, L + 1 + 1 + 1, L + 1 + 1, L + 1, src, td, 23, 374], Z.get? a = none) (S : TreeAt Z tr rl nds) (W : WordsAt Z nm ws)
    (hlo : (lo, listOf vso epo) ∈ tl) (hIo : IntsAre vso.toList (natZ (ownN ws))) (hln : (ln, listOf vsn epn) ∈ tl) (hIn : IntsAre vsn.toList (natZ ((aboveN TT ws bg k).map (amongN TT ws)))) (zo : (ownN ws).length ≤ 1) (zn : (aboveN TT ws bg k).length ≤ 21)
    (WF : TreeWf nds) (MA : Match nds TT n) (PR : PreAt nds n pend) (hn : nds.length = n + 1) (hp : parN nds n = some k) (hk : k < n) (hkd : kindN nds n = Str.ofString "attribute") (hlab : labs = TT.map (·.2) ++ [Str.ofString "z"])
    (K : ∀ h' tk', g.StaysIn h' → TabOk 23 LLike h' → TabOk 374 LAtt h' → Q (.ret (.bool true)) { s with heap := h', toks := tk' }) :
    wpAny (model prog w) A (execs (attDueS w) (attEnv w L)) Q (fun _ _ => False) { s with heap := h, toks := tk } := by
  unfold attDueS attEnv
  dsimp only [pickTail10, pickEnv]
  have zo' := nat_size hIo
  have zn' := nat_size hIn
  rw [List.length_map] at zn'
  replace ZI := ZI.mono hs0
  clear hs0
  k_extra "m_walk2"
  by_cases hmy : 0 < manyA TT ws bg k
  all_goals (
    k_extra "m_walk5"
    rename Fr g L _ _ => F9
    rename News g L _ _ => N9)
  · rename_i dd _ _ _ _ _ D3 u3 _ i3 _ l3 D2 w2 _ i2 l2 D1 w1 _ i1 la D0 u0 _ i0 _ lb lx _ lc _ oo hdd _
    have sub : ∀ q ∈ tl, q ∈ (lx, PySem.W.listOf #[.int ((manyA TT ws bg k : Nat) : Int) tm] 0) :: (D0, PySem.W.listOf u0.toArray 0) :: (D1, PySem.W.listOf w1 0) :: (D2, PySem.W.listOf w2 0) :: (D3, PySem.W.listOf u3.toArray 0) :: (dd, oo) :: tl := fun q hq => by k_extra "m_subx"
    refine att_tail (b := b) (x := x) (t1 := t1) (t2 := t2) (ns := ns) R O X T C1 C2 F9 (by k_extra "m_lk") (by k_extra "m_lk") (by k_extra "m_lk") (news_drop N9 ?y1sub) c1 c2 c3 c4 (TL1.mono sub) (TL2.mono sub) f2 f3 f4 f5 f6 f7 f8 f9 f10 ?y1o1 ?y1o2 D hkl hkv ZI sub hZ S W (by k_mem) hdd ?y1D3 WF MA PR hn hp hk hkd hlab K
    case y1D3 =>
      rintro lv (rfl | rfl | rfl)
      · exact ⟨D2, w2, 0, by with_unfolding_all rfl, by k_mem, by unfold attDue; rw [if_pos rfl]; exact i2⟩
      · exact ⟨D0, u0.toArray, 0, by with_unfolding_all rfl, by k_mem, by unfold attDue; rw [if_neg (by decide), if_pos rfl]; exact i0⟩
      · exact ⟨lx, _, 0, by with_unfolding_all rfl, by k_mem, by unfold attDue; rw [if_neg (by decide), if_neg (by decide), if_pos hmy]; exact .cons _ _ .nil⟩
    case y1o1 => exact fcons (by k_ne) (fcons (by k_ne) (fcons (by k_ne) (fcons (by k_ne) (fcons (by k_ne) (fcons (by k_ne) o1)))))
    case y1o2 => exact fcons (by k_ne) (fcons (by k_ne) (fcons (by k_ne) (fcons (by k_ne) (fcons (by k_ne) (fcons (by k_ne) o2)))))
    case y1sub =>
      intro q hq
      iterate 14 (
        rcases List.mem_cons.mp hq with hz | hq
        · rw [hz]; k_mem)
      k_extra "m_subx"
  · rename_i dd _ _ _ _ _ D3 u3 _ i3 _ l3 D2 w2 _ i2 l2 D1 w1 _ i1 la D0 u0 _ i0 _ lb lx _ lc _ oo hdd _
    have sub : ∀ q ∈ tl, q ∈ (lx, PySem.W.listOf #[] 0) :: (D0, PySem.W.listOf u0.toArray 0) :: (D1, PySem.W.listOf w1 0) :: (D2, PySem.W.listOf w2 0) :: (D3, PySem.W.listOf u3.toArray 0) :: (dd, oo) :: tl := fun q hq => by k_extra "m_subx"
    refine att_tail (b := b) (x := x) (t1 := t1) (t2 := t2) (ns := ns) R O X T C1 C2 F9 (by k_extra "m_lk") (by k_extra "m_lk") (by k_extra "m_lk") (news_drop N9 ?y2sub) c1 c2 c3 c4 (TL1.mono sub) (TL2.mono sub) f2 f3 f4 f5 f6 f7 f8 f9 f10 ?y2o1 ?y2o2 D hkl hkv ZI sub hZ S W (by k_mem) hdd ?y2D3 WF MA PR hn hp hk hkd hlab K
    case y2D3 =>
      rintro lv (rfl | rfl | rfl)
      · exact ⟨D2, w2, 0, by with_unfolding_all rfl, by k_mem, by unfold attDue; rw [if_pos rfl]; exact i2⟩
      · exact ⟨D0, u0.toArray, 0, by with_unfolding_all rfl, by k_mem, by unfold attDue; rw [if_neg (by decide), if_pos rfl]; exact i0⟩
      · exact ⟨lx, _, 0, by with_unfolding_all rfl, by k_mem, by unfold attDue; rw [if_neg (by decide), if_neg (by decide), if_neg hmy]; exact .nil⟩
    case y2o1 => exact fcons (by k_ne) (fcons (by k_ne) (fcons (by k_ne) (fcons (by k_ne) (fcons (by k_ne) (fcons (by k_ne) o1)))))
    case y2o2 => exact fcons (by k_ne) (fcons (by k_ne) (fcons (by k_ne) (fcons (by k_ne) (fcons (by k_ne) (fcons (by k_ne) o2)))))
    case y2sub =>
      intro q hq
      iterate 14 (
        rcases List.mem_cons.mp hq with hz | hq
        · rw [hz]; k_mem)
      k_extra "m_subx"
end


noncomputable abbrev pickTail6 {f : Addr} {p} {oc : Value} {od : Option Addr} {name qual : Str} {params : Arguments} {s1 s2 s3 s4 s5 s6 : Stmt} {rest : List Stmt} {scope : Scope} {dV kV doc pm cdv ct : Value} {an : Option Addr} {osl : Array (Option Value)}
  (_ : (hd.heap_39 p).lookup f = some ⟨oc, od, .func (fnX name qual params (s1 :: s2 :: s3 :: s4 :: s5 :: s6 :: rest) scope [] dV kV doc pm an cdv ct), osl⟩) : List Stmt := rest
noncomputable def attMid (w : World) : List Stmt := pickTail6 (f := 377) (p := w.params) (by k_is)
theorem word_T6_1 : True := by
  (k_with "m_hold6" => (fail_if_success (with_reducible show wpAny _ _ (execs (Stmt.Assign [Expr.Name (Str.ofString "due") _] _ _ :: _) _) _ _ _)))
  (k_with "m_walk6" => (try dsimp only); repeat' (k_extra "m_hold6"; k_extra "m_hold2"; k_extra "m_hold"; (first | (k_unfold; (try clear ek qk)) | walk1); (try dsimp only); (try k_extra "m_fold")))
  exact True.intro
section
variable {prog : Program} {w : World} {A : Around} {s : Shared} {g : Heap} {L : Addr} {m mg mb : Str → Option Value} {p : Program} {loose : List Str} {mean : ExcName → Option Value}
theorem att_mid {h Z : Heap} {tk : Nat} {src td tr rl rw nm : Addr} {on ob ot orw od2 : Obj} {b x : Int} {t1 t2 : Tok} {ns : Nat} {ps1 ps2 : Array Value} {tl : List (Addr × Obj)} {n k : Nat} {t5 tk9 tbb : Tok} {nmb : Str} {ws labs : List Str} {nds : List Nd} {TT : List (Option Nat × Str)} {pend : Nat → List Nat}
    {kvs : List (Int × Value)} {Q : Flow → Shared → Prop}
    (R' : Room A 26) (Og : Ok w g) (Xg : (hd.heap_39 w.params).In g) (Tg : Top p loose mean mg mb g) (C1 : CodeHd g 27 23) (C2 : CodeHd g 376 374) (F : Fr g L h m)
    (m1 : m (Str.ofString "tree") = some (.ref tr)) (m2 : m (Str.ofString "node") = some (.int (n : Int) t5)) (m3 : m (Str.ofString "at") = some (.int (k : Int) tk9))
    (N : News g L h ((L + 1 + 1 + 1 + 1, on) :: (L + 1 + 1 + 1, ob) :: (L + 1 + 1, ot) :: (L + 1, orw) :: (src, srcObj b x t1 t2 ns) :: (td, od2) :: (23, tabObj ps1) :: (374, tabObj ps2) :: tl))
    (c2 : on.data = .cell (some (.ref nm))) (c1 : ob.data = .cell (some (.str nmb tbb))) (c3 : ot.data = .cell (some (.ref td))) (c4 : orw.data = .cell (some (.ref rw))) (TL1 : TabL g tl LLike ps1) (TL2 : TabL g tl LAtt ps2)
    (l3 : @LT.lt Nat _ 23 L) (l4 : @LT.lt Nat _ 374 L) (l1 : @LT.lt Nat _ src L) (l2 : @LT.lt Nat _ td L) (f6 : @Ne Nat src 374) (f7 : @Ne Nat td 374) (f8 : @Ne Nat src 23) (f9 : @Ne Nat td 23) (f10 : @Ne Nat src td)
    (hof : ∀ q ∈ [(L + 1 + 1 + 1 + 1, on), (L + 1 + 1 + 1, ob), (L + 1 + 1, ot), (L + 1, orw), (src, srcObj b x t1 t2 ns), (td, od2), (23, tabObj ps1), (374, tabObj ps2)], ∀ p ∈ tl, @Ne Nat p.1 q.1)
    (D : od2.IsDictOf (PySem.intKind prog w) kvs) (hkl : kvs.length = labs.length) (hkv : ∀ (j : Nat) (l : Str), labs[j]? = some l → ∃ t, kvs[j]? = some ((j : Int), .str l t))
    (ZI : ZIn g tl Z) (hZ : ∀ a ∈ [L, L + 1 + 1 + 1 + 1, L + 1 + 1 + 1, L + 1 + 1, L + 1, src, td, 23, 374], Z.get? a = none) (S : TreeAt Z tr rl nds) (W : WordsAt Z nm ws) (RAg : RowsAt g rw TT)
    (WF : TreeWf nds) (MA : Match nds TT n) (PR : PreAt nds n pend) (hn : nds.length = n + 1) (hp : parN nds n = some k) (hkl2 : k < n) (hkd : kindN nds n = Str.ofString "attribute") (hlab : labs = TT.map (·.2) ++ [Str.ofString "z"])
    (K : ∀ h' tk', g.StaysIn h' → TabOk 23 LLike h' → TabOk 374 LAtt h' → Q (.ret (.bool true)) { s with heap := h', toks := tk' }) :
    wpAny (model prog w) A (execs (attMid w) (attEnv w L)) Q (fun _ _ => False) { s with heap := h, toks := tk } := by
  unfold attMid attEnv
  dsimp only [pickTail6, pickEnv]
  obtain ⟨wvs, wep, e2W, hws⟩ := id W
  have PL := parT_lt MA
  have hany : (Str.ofString "any" = Str.ofString "single" ∨ Str.ofString "any" = Str.ofString "multiple" ∨ Str.ofString "any" = Str.ofString "any") := .inr (.inr rfl)
  obtain ⟨⟨as', epr, e1, hal, hrow⟩, hsm⟩ := id RAg
  have hTl : TT.length = n := MA.len
  have hkT : k < TT.length := by omega
  obtain ⟨a1, u1, v1, ul1, n1, hk1, e4, hv1⟩ := rows_get hal hrow hkT
  have hTn : (List.map Value.ref as').toArray.size = TT.length := by rw [List.size_toArray, List.length_map]; exact hal
  k_extra "m_walk6"
  rename Fr g L _ _ => F12
  rename News g L _ _ => N12
  refine join_list [_, _, _, _, _, _, _, _] tl (ownN ws) F12 N12 hof ?_ fun lo itso epo h13 tk13 tl13 F13 N13 mo13 ol13 of13 hIo hso => ?_
  · k_extra "m_walk"
    · refine ⟨_, _, _, _, _, rfl, rfl, by assumption, by assumption, ?_, ?_⟩
      · simp only [List.map_cons, List.map_nil, List.mem_cons, List.not_mem_nil, or_false, not_or]; exact ⟨(by k_ne), (by k_ne), (by k_ne), (by k_ne), (by k_ne), (by k_ne), (by k_ne), (by k_ne)⟩
      · rw [ownN, if_pos (show inW ws _ = true by assumption)]; exact .cons _ _ .nil
    · refine ⟨_, _, _, _, _, rfl, rfl, by assumption, by assumption, ?_, ?_⟩
      · simp only [List.map_cons, List.map_nil, List.mem_cons, List.not_mem_nil, or_false, not_or]; exact ⟨(by k_ne), (by k_ne), (by k_ne), (by k_ne), (by k_ne), (by k_ne), (by k_ne), (by k_ne)⟩
      · rw [ownN, if_neg (by rw [show inW ws _ = false by assumption]; exact Bool.false_ne_true)]; exact .nil
  · have ZI13 := ZI.mono ol13
    replace N13 : News g L h13 (_ :: _ :: _ :: _ :: _ :: _ :: _ :: _ :: tl13) := N13
    clear ZI
    (try clear N12); (try clear F12)
    k_extra "m_walk6"
    rename Fr g L _ _ => F14
    rename News g L _ _ => N14
    refine join_list [_, _, _, _, _, _, _, _] tl13 (aboveN TT ws nmb k) F14 N14 of13 ?_ fun lv itsv epv h15 tk15 tl15 F15 N15 mo15 ol15 of15 hIv hsv => ?_
    · k_extra "m_walk"
      · refine ⟨_, _, _, _, _, rfl, rfl, by assumption, by assumption, ?_, ?_⟩
        · simp only [List.map_cons, List.map_nil, List.mem_cons, List.not_mem_nil, or_false, not_or]; exact ⟨(by k_ne), (by k_ne), (by k_ne), (by k_ne), (by k_ne), (by k_ne), (by k_ne), (by k_ne)⟩
        · rw [aboveN, if_pos (by assumption)]; exact .nil
      · refine list_comp (p := fun v => match v with | .int z _ => inW ws (labT TT z.toNat) | _ => false) (Fv := fun v y => match v with | .int z _ => ∃ t', y = .int z t' | _ => False)
          (by with_unfolding_all rfl) (by decide) (by rfl) (by decide) (by rfl) ?_
        k_extra "m_walk"
        have hI0 := ‹IntsAre _ (natZ (upTo (parT TT) (fun x => labT TT x == nmb) k))›
        have hlen : (upTo (parT TT) (fun x => labT TT x == nmb) k).length ≤ 21 := Nat.le_trans (upTo_length PL) (by have := RAg.small; omega)
        have hsz0 := ints_size hI0
        simp only [List.length_map] at hsz0
        rename Fr g L _ _ => F14b
        rename News g L _ _ => N14b
        refine' comp_from_list R'.hd (by k_extra "m_get") (by omega) ⟨?tests, ?elt⟩ ?fin
        case tests =>
          intro g' C v s₃ m₃ st hP F3 hm
          obtain ⟨j, tj, rfl, hj⟩ := ints_mem hI0 hP
          have hjk := upTo_le PL hj
          have hst := st
          have hgg : g.StaysIn g' := Stays.trans (Fr.keep (by assumption)) hst
          have X3 := Xg.keeps hgg
          have T3 := Tg.keeps hgg
          have O3 := Og.keeps hgg
          have N3 : News g' C s₃.heap [] := News.nil
          have e1' := hgg _ _ e1
          have f1 := hst _ _ (News.get N14b (by k_mem) : Heap.get? _ (L+1) = some orw)
          have f2 := hst _ _ (News.get N14b (by k_mem) : Heap.get? _ (L+1+1+1+1) = some _)
          have eW' := hst _ _ (ZIn.get ZI13 F14b N14b (fun p hp => by k_extra "m_subx") e2W)
          obtain ⟨a2, u2, v2, ul2, n2, hk2, e4b, hv2⟩ := rows_get hal hrow (show j < TT.length by omega)
          have e4b' := hgg _ _ e4b
          refine tests_one ?_
          k_extra "m_walk"
          k_extra "m_fin"
        case elt =>
          intro g' C v s₃ m₃ st hP hp F3 hm
          (try k_fold)
          obtain ⟨j, tj, rfl, hj⟩ := ints_mem hI0 hP
          refine comp_local F3 hm ⟨⟨tj, rfl⟩, s₃.heap, s₃.toks, rfl, fun _ _ e => e⟩ rfl rfl (by decide)
        case fin =>
          intro D2 h' tk ys ep' st hD hDg hPr
          have hIy := paired_ints (q := fun z => inW ws (labT TT z.toNat)) (f := id) (fun z t => rfl) (fun z t y h => h) hI0 hPr
          rw [List.map_id, natZ_filter (p := hasW TT ws) (fun n => by rw [Int.toNat_natCast]; rfl)] at hIy
          refine ⟨_, _, _, _, _, rfl, rfl, fr_keeps F14b st, news_drop (news_made F14b N14b st hD hDg) (fun p hp => by
            rcases List.mem_cons.mp hp with h | hp
            · rw [h]; exact .head _
            · exact .tail _ (.tail _ hp)), fresh_front (front := [_, _, _, _, _, _, _, _]) N14b (fun p hp => .tail _ (List.mem_append_left tl13 hp)) hD, ?_⟩
          rw [aboveN, if_neg (by rw [show (labT TT k == nmb) = false by assumption]; exact Bool.false_ne_true)]
          exact hIy
    · have ZI15 := ZI13.mono ol15
      have mo13' := ol15 _ mo13
      replace N15 : News g L h15 (_ :: _ :: _ :: _ :: _ :: _ :: _ :: _ :: tl15) := N15
      clear ZI13
      clear N14 F14
      (try clear N13); (try clear F13)
      have hsm' := RAg.small
      have hab : (aboveN TT ws nmb k).length ≤ 21 := above_len PL (by omega)
      k_extra "m_walk6"
      refine list_compA (p := fun _ => true) (Fv := fun v y => match v with | .int z _ => ∃ t', y = .int ((amongN TT ws z.toNat : Nat) : Int) t' | _ => False)
        (by with_unfolding_all rfl) (by with_unfolding_all rfl) (by decide) (by rfl) (by decide) (by rfl) (by rfl) (by rfl) ?_
      k_extra "m_walk"
      rename Fr g L _ _ => F16
      rename News g L _ _ => N16
      refine' compA_from_list (L := L) rfl F16 N16 R'.hd (by k_extra "m_get") (by omega) ⟨?tests, ?elt⟩ ?fin
      case tests =>
        intro g' C v s₃ m₃ st hP F3 hm
        exact tests_none ⟨rfl, s₃.heap, s₃.toks, rfl, fun _ _ e => e⟩
      case elt =>
        intro g' C v s₃ m₃ st hP hp F3 hm
        (try k_fold)
        obtain ⟨j, tj, rfl, hj⟩ := ints_mem hIv hP
        have hjk : j ≤ k := above_le PL hj
        have hst := st
        have hgg : g.StaysIn g' := Stays.trans (Fr.keep (by assumption)) hst
        have X3 := Xg.keeps hgg
        have T3 := Tg.keeps hgg
        have O3 := Og.keeps hgg
        have N3 : News g' C s₃.heap [] := News.nil
        have RA3 := RAg.keeps hgg
        have WA3 : WordsAt g' nm ws := ⟨wvs, wep, hst _ _ (ZIn.get ZI15 F16 N16 (fun p hp => by k_extra "m_subx") e2W), hws⟩
        have f1 := hst _ _ (News.get N16 (by k_mem) : Heap.get? _ (L+1) = some orw)
        have f2 := hst _ _ (News.get N16 (by k_mem) : Heap.get? _ (L+1+1+1+1) = some _)
        k_extra "m_walk"
        k_extra "m_fin"
      case fin =>
        intro D3 h17 tk17 ys17 ep17 F17 N17 hPr
        have hIz := paired_map (f := amongN TT ws) (fun z t y h => h) hIv hPr
        have hsz15 : ys17.size ≤ 21 := by rw [nat_size hIz, List.length_map]; exact hab
        have hdl : (dueN TT (Str.ofString "any") ws nmb k).length ≤ 1 := due_len
        have hol : (ownN ws).length ≤ 1 := by unfold ownN; split <;> simp
        dsimp only
        k_extra "m_walk6"
        rename Fr g L _ _ => F18
        rename News g L _ _ => N18
        rw [natZ_sum] at F18
        have s15 : ∀ q ∈ tl, q ∈ (D3, PySem.W.listOf ys17 ep17) :: tl15 := fun q hq => .tail _ (ol15 q (ol13 q hq))
        have n1 : @Ne Nat D3 374 := fun e => by
          have h1 := News.get N18 (show (D3, PySem.W.listOf ys17 ep17) ∈ _ from .tail _ (.tail _ (.head _)))
          rw [show D3 = 374 from e, News.get N18 (show (374, tabObj ps2) ∈ _ by k_mem)] at h1
          cases h1
        have n2 : @Ne Nat D3 23 := fun e => by
          have h1 := News.get N18 (show (D3, PySem.W.listOf ys17 ep17) ∈ _ from .tail _ (.tail _ (.head _)))
          rw [show D3 = 23 from e, News.get N18 (show (23, tabObj ps1) ∈ _ by k_mem)] at h1
          cases h1
        refine att_due (b := b) (x := x) (t1 := t1) (t2 := t2) (ns := ns) (vso := itso) (vsn := ys17) R' Og Xg Tg C1 C2 F18 (by k_extra "m_lk") (by k_extra "m_lk") (by k_extra "m_lk") (by k_extra "m_lk") (by k_extra "m_lk") (news_drop N18 ?zsub) c2 c1 c3 c4 (TL1.mono s15) (TL2.mono s15) l3 l4 l1 l2 f6 f7 f8 f9 f10
          (List.forall_mem_cons.mpr ⟨n1, of15 (374, tabObj ps2) (by k_mem)⟩) (List.forall_mem_cons.mpr ⟨n2, of15 (23, tabObj ps1) (by k_mem)⟩) D hkl hkv ZI15 (fun q hq => .tail _ hq) hZ S W (.tail _ mo13') hIo (.head _) hIz hol hab WF MA PR hn hp hkl2 hkd hlab K
        case zsub =>
          intro q hq
          iterate 9 (
            rcases List.mem_cons.mp hq with hz | hq
            · rw [hz]; k_mem)
          k_extra "m_subx"
end


theorem word_L6_1 : True := by
  (k_with "m_hold7" => (fail_if_success (with_reducible show wpAny _ _ (execs (Stmt.Assign [Expr.Name (Str.ofString "own") _] _ _ :: _) _) _ _ _)))
  (k_with "m_walk7" => (try dsimp only); repeat' (k_extra "m_hold7"; k_extra "m_hold2"; k_extra "m_hold"; (first | (k_unfold; (try clear ek qk)) | walk1); (try dsimp only); (try k_extra "m_fold")))
  exact True.intro
section
variable {prog : Program} {w : World} {A : Around} {s : Shared} {E : Value → Shared → Prop} {B0 : Heap}
theorem att_spec {src tr dt rl rw td : Addr} {nds : List Nd} {as : List Addr} {TT : List (Option Nat × Str)} {st : List Nat} (R : Room A 30) (O : Ok w B0) (hB : B0.StaysIn s.heap) (C27 : CodeHd B0 27 23) (C376 : CodeHd B0 376 374) (hs : SrcAt s.heap src) (S : TreeSt s.heap tr dt rl rw nds as TT) (G : Grow nds TT st)
    (hn10 : nds.length ≤ 10) (TO : ToldAt prog w s.heap td (TT.map (·.2))) (TB1 : TabOk 23 LLike s.heap) (TB2 : TabOk 374 LAtt s.heap) (hf1 : B0.get? src = none) (hf2 : B0.get? td = none) (hf3 : B0.get? 23 = none) (hf4 : B0.get? 374 = none) (hf5 : B0.get? rl = none) (hf6 : ∀ nd ∈ nds, B0.get? nd.t = none)
    (hap : ∀ a ∈ ([src, td, 23, 374] : List Addr), a ∉ footSt tr dt rl rw nds as) (hrw : rw ∉ sup rl nds as) (hst : @Ne Nat src td) :
    wpAny (model prog w) A (call (.ref 377) [.ref src, .ref tr, .ref rw, .ref td]) (Turned (src :: td :: 23 :: 374 :: rl :: nds.map (·.t)) s fun v h' => v = .bool true ∧ TabOk 23 LLike h' ∧ TabOk 374 LAtt h') E s := by
  obtain ⟨b, x, t1, t2, n, hsrc, hsk⟩ := hs
  replace hsk : SrcOk b x := hsk
  obtain ⟨kvs, hDk, hkvl, hkv⟩ := TO
  obtain ⟨od, hod, hodd⟩ := Heap.dictOf_iff.mp hDk
  obtain ⟨ps1, hp1, ht1, hfd1⟩ := id TB1
  obtain ⟨ps2, hp2, ht2, hfd2⟩ := id TB2
  generalize htl0 : led s.heap (rl :: nds.map (·.t)) = tl0
  replace htl0 := htl0.symm
  have hts : ∀ p ∈ tl0, p.1 ∈ rl :: nds.map (·.t) ∧ s.heap.get? p.1 = some p.2 := fun p hp => led_mem.mp (htl0 ▸ hp)
  refine' enterC (binds := [("source", .ref src), ("tree", .ref tr), ("rows", .ref rw), ("told", .ref td)]) ((src, srcObj b x t1 t2 n) :: (td, od) :: (23, tabObj ps1) :: (374, tabObj ps2) :: tl0) O hB ?hms R ?ho ?hcd ?hbind ?hkind ?hnd ?h ?hco ?hgen ?hk
  case hms =>
    intro p hp
    rcases List.mem_cons.mp hp with rfl | hp
    · exact ⟨hsrc, hf1⟩
    rcases List.mem_cons.mp hp with rfl | hp
    · exact ⟨hod, hf2⟩
    rcases List.mem_cons.mp hp with rfl | hp
    · exact ⟨hp1, hf3⟩
    rcases List.mem_cons.mp hp with rfl | hp
    · exact ⟨hp2, hf4⟩
    obtain ⟨a, e⟩ := hts p hp
    refine ⟨e, ?_⟩
    rcases List.mem_cons.mp a with h | h
    · rw [h]; exact hf5
    · obtain ⟨nd, hn, h⟩ := List.mem_map.mp h
      rw [← h]; exact hf6 nd hn
  (case ho => k_is); (case hcd => k_is); (case hbind => exact rfl); (case hkind => exact rfl); (case hnd => decide +kernel); (case hco => exact rfl); (case hgen => exact rfl); (case hk => exact rfl)
  intro A' g L h₁ tk₁ cells p loose mean mg mb R' cg hBg Og Xg Tg gm F N Y ml
  (try k_fold)
  have C1 := C27.keeps hBg
  have C2 := C376.keeps hBg
  have l1 : @LT.lt Nat _ src L := ml _ (.head _)
  have l2 : @LT.lt Nat _ td L := ml _ (.tail _ (.head _))
  have l3 : @LT.lt Nat _ 23 L := ml _ (.tail _ (.tail _ (.head _)))
  have l4 : @LT.lt Nat _ 374 L := ml _ (.tail _ (.tail _ (.tail _ (.head _))))
  have l5 : AllLt L tl0 := allLt_of fun q hq => ml q (.tail _ (.tail _ (.tail _ (.tail _ hq))))
  have Z0 : ∃ Z, Z = hideAll s.heap [src, td, 23, 374] := ⟨_, rfl⟩
  obtain ⟨Z, hZ⟩ := Z0
  have ZI : ZIn g tl0 Z := fun b o e => by
    rw [hZ] at e
    have e' := of_hideAll _ e
    by_cases hb : b ∈ rl :: nds.map (·.t)
    · exact .inr (htl0 ▸ led_mem.mpr ⟨hb, e'⟩)
    · refine .inl (cg b o (fun q => ?_) e')
      obtain ⟨q', hq', rfl⟩ := List.mem_map.mp q
      rcases List.mem_cons.mp hq' with h | hq'
      · rw [h, hideAll_none _ (.head _)] at e; cases e
      rcases List.mem_cons.mp hq' with h | hq'
      · rw [h, hideAll_none _ (.tail _ (.head _))] at e; cases e
      rcases List.mem_cons.mp hq' with h | hq'
      · rw [h, hideAll_none _ (.tail _ (.tail _ (.head _)))] at e; cases e
      rcases List.mem_cons.mp hq' with h | hq'
      · rw [h, hideAll_none _ (.tail _ (.tail _ (.tail _ (.head _))))] at e; cases e
      · exact hb (hts _ hq').1
  have SZ : TreeSt Z tr dt rl rw nds as TT := S.agree fun a ha o e => by
    rw [hZ]; exact hideAll_get _ e fun q => hap a q ha
  k_cells Y
  rename_i o1 o2 o3 o4 d1 d2 d3 d4
  have c1 : o1.data = .cell none := d1
  have c2 : o2.data = .cell none := d2
  have c3 : o3.data = .cell (some (.ref td)) := d3
  have c4 : o4.data = .cell (some (.ref rw)) := d4
  clear d1 d2 d3 d4
  simp only [List.cons_append, List.nil_append] at N
  generalize hm0 : bindL _ _ _ = m0 at F
  have M1 : m0 (Str.ofString "source") = some (.ref src) := by rw [← hm0]; rfl
  have M2 : m0 (Str.ofString "tree") = some (.ref tr) := by rw [← hm0]; rfl
  clear hm0
  have hcg : ∀ a o, (∀ its ep, o ≠ listOf its ep) ∨ a ∉ rl :: nds.map (·.t) → a ∈ footSt tr dt rl rw nds as → s.heap.get? a = some o → g.get? a = some o := fun a o hd ha e => by
    refine cg a o (fun q => ?_) e
    obtain ⟨q', hq', rfl⟩ := List.mem_map.mp q
    rcases List.mem_cons.mp hq' with h | hq'
    · exact hap _ (.head _) (by rw [h] at ha; exact ha)
    rcases List.mem_cons.mp hq' with h | hq'
    · exact hap _ (.tail _ (.head _)) (by rw [h] at ha; exact ha)
    rcases List.mem_cons.mp hq' with h | hq'
    · exact hap _ (.tail _ (.tail _ (.head _))) (by rw [h] at ha; exact ha)
    rcases List.mem_cons.mp hq' with h | hq'
    · exact hap _ (.tail _ (.tail _ (.tail _ (.head _)))) (by rw [h] at ha; exact ha)
    · rcases hd with hd | hd
      · obtain ⟨its, ep, e2⟩ := foot_list S.tree.at_ q'.1 (by
          rcases List.mem_cons.mp (hts _ hq').1 with h | h
          · rw [h]; exact .head _
          · obtain ⟨nd, hn, h⟩ := List.mem_map.mp h
            rw [← h]; exact foot_t hn)
        rw [e] at e2
        exact hd _ _ (Option.some.inj e2)
      · exact hd (hts _ hq').1
  have oldlt : ∀ a ∈ footSt tr dt rl rw nds as, @LT.lt Nat _ a L := fun a ha => by
    obtain ⟨o, e⟩ : ∃ o, s.heap.get? a = some o := by
      rcases List.mem_cons.mp ha with h | ha
      · exact ⟨_, by rw [h]; exact S.inst⟩
      rcases List.mem_cons.mp ha with h | ha
      · obtain ⟨_, _, _, e⟩ := S.dict; exact ⟨_, by rw [h]; exact e⟩
      rcases List.mem_cons.mp ha with h | ha
      · obtain ⟨_, e⟩ := S.rw; exact ⟨_, by rw [h]; exact e⟩
      · obtain ⟨o, e, _⟩ := S.gb.exist a ha; exact ⟨o, e⟩
    by_cases hb : a ∈ rl :: nds.map (·.t)
    · exact allLt_get _ l5 (a, o) (htl0 ▸ led_mem.mpr ⟨hb, e⟩)
    · exact Nat.lt_of_lt_of_le (Heap.lt_size (hcg a o (.inr hb) ha e)) F.above
  obtain ⟨hhT, tkT, nT, eT2⟩ := S.dict
  replace eT2 := hcg _ _ (.inl fun _ _ => dict_ne) (.tail _ (.head _)) eT2
  have eT1 := hcg _ _ (.inl fun _ _ => inst_ne) (.head _) S.inst
  have RAg : RowsAt g rw TT := by
    refine ⟨?_, S.small⟩
    obtain ⟨ep, e⟩ := S.rw
    refine ⟨as, ep, hcg _ _ (.inr fun q => hrw ?_) (.tail _ (.tail _ (.head _))) e, S.gb.alen, fun k a x ha hx => ?_⟩
    · rcases List.mem_cons.mp q with h | h
      · rw [h]; exact sup_rl
      · obtain ⟨nd, hn, h⟩ := List.mem_map.mp h
        rw [← h]; exact (sup_mem hn).2.2.2
    · obtain ⟨t, v, tl, n, e2, p⟩ := S.gb.tups k a x ha hx
      exact ⟨t, v, tl, n, hcg _ _ (.inl fun _ _ => tup_ne) (.tail _ (.tail _ (.tail _ (sup_as (List.mem_of_getElem? ha))))) e2, p⟩
  have hnc : ∀ a ∈ src :: td :: 23 :: 374 :: rl :: nds.map (·.t), NoCode s.heap a := fun a ha => by
    obtain ⟨es, epd, _, hdd, _⟩ := id hodd
    rcases List.mem_cons.mp ha with h | ha
    · rw [h]; exact noCode_list hsrc
    rcases List.mem_cons.mp ha with h | ha
    · rw [h]; exact noCode_dict hod hdd
    rcases List.mem_cons.mp ha with h | ha
    · rw [h]; exact noCode_tab hp1 ht1
    rcases List.mem_cons.mp ha with h | ha
    · rw [h]; exact noCode_tab hp2 ht2
    obtain ⟨its, ep, e2⟩ := foot_list S.tree.at_ a (by
      rcases List.mem_cons.mp ha with h | ha
      · rw [h]; exact .head _
      · obtain ⟨nd, hn, h⟩ := List.mem_map.mp ha
        rw [← h]; exact foot_t hn)
    exact noCode_list e2
  have hmm : ∀ b', b' ∈ ((src, srcObj b x t1 t2 n) :: (td, od) :: (23, tabObj ps1) :: (374, tabObj ps2) :: tl0).map (·.1) → b' ∈ src :: td :: 23 :: 374 :: rl :: nds.map (·.t) := fun b' hb => by
    obtain ⟨q', hq', rfl⟩ := List.mem_map.mp hb
    rcases List.mem_cons.mp hq' with h | hq'
    · rw [h]; exact .head _
    rcases List.mem_cons.mp hq' with h | hq'
    · rw [h]; exact .tail _ (.head _)
    rcases List.mem_cons.mp hq' with h | hq'
    · rw [h]; exact .tail _ (.tail _ (.head _))
    rcases List.mem_cons.mp hq' with h | hq'
    · rw [h]; exact .tail _ (.tail _ (.tail _ (.head _)))
    · exact .tail _ (.tail _ (.tail _ (.tail _ (hts _ hq').1)))
  have na : @Ne Nat src 23 := fun q => by rw [show src = 23 from q, hp1] at hsrc; cases hsrc
  have nb : @Ne Nat src 374 := fun q => by rw [show src = 374 from q, hp2] at hsrc; cases hsrc
  have nc : @Ne Nat td 23 := fun q => by
    obtain ⟨es, epd, _, hdd, _⟩ := id hodd
    rw [show td = 23 from q, hp1] at hod; cases hod; cases hdd
  have nd : @Ne Nat td 374 := fun q => by
    obtain ⟨es, epd, _, hdd, _⟩ := id hodd
    rw [show td = 374 from q, hp2] at hod; cases hod; cases hdd
  have tsup : ∀ p ∈ tl0, p.1 ∈ footSt tr dt rl rw nds as := fun p hp => by
    rcases List.mem_cons.mp (hts p hp).1 with h | h
    · rw [h]; exact .tail _ (.tail _ (.tail _ sup_rl))
    · obtain ⟨nd, hn, h⟩ := List.mem_map.mp h
      rw [← h]; exact .tail _ (.tail _ (.tail _ (sup_mem hn).2.2.2))
  have ta : ∀ p ∈ tl0, @Ne Nat p.1 src := fun p hp q => hap src (.head _) (by rw [← show p.1 = src from q]; exact tsup p hp)
  have tb : ∀ p ∈ tl0, @Ne Nat p.1 td := fun p hp q => hap td (.tail _ (.head _)) (by rw [← show p.1 = td from q]; exact tsup p hp)
  have tc : ∀ p ∈ tl0, @Ne Nat p.1 23 := fun p hp q => hap 23 (.tail _ (.tail _ (.head _))) (by rw [← show p.1 = 23 from q]; exact tsup p hp)
  have te : ∀ p ∈ tl0, @Ne Nat p.1 374 := fun p hp q => hap 374 (.tail _ (.tail _ (.tail _ (.head _)))) (by rw [← show p.1 = 374 from q]; exact tsup p hp)
  obtain ⟨⟨as', epr, e1, hal, hrow⟩, hsm⟩ := id RAg
  have hTl : TT.length = nds.length := G.m.len
  k_extra "m_walk"
  refine list_compA (p := fun v => match v with | .int z _ => inW ["a", "b", "c"] (labT TT z.toNat) | _ => false) (Fv := fun v y => match v with | .int z _ => ∃ t', y = .int z t' | _ => False)
    (by with_unfolding_all rfl) (by with_unfolding_all rfl) (by decide) (by rfl) (by decide) (by rfl) (by rfl) (by rfl) ?_
  k_extra "m_walk"
  have hTn : (List.map Value.ref as').toArray.size = TT.length := by rw [List.size_toArray, List.length_map]; exact hal
  refine' compA_from_rangeD (L := L) (a := 0) (b := ((List.map Value.ref as').toArray.size : Int)) (n := (List.map Value.ref as').toArray.size) rfl (by assumption) (by assumption) R'.hd ?hr (range_small (by omega)) (range_size _) (by omega) ⟨?tests, ?elt⟩ ?fin
  case hr => exact News.get (by assumption) (.head _)
  case tests =>
    intro g' C v s₃ m₃ st hP F3 hm
    obtain ⟨j, tj, hj, rfl⟩ := hP
    rw [Int.zero_add] at hm ⊢
    have hst := st
    have hgg : g.StaysIn g' := Stays.trans (Fr.keep (by assumption)) hst
    have X3 := Xg.keeps hgg
    have T3 := Tg.keeps hgg
    have O3 := Og.keeps hgg
    have N3 : News g' C s₃.heap [] := News.nil
    have e1' := hgg _ _ e1
    have f1 := hst _ _ (News.get (by assumption) (by k_mem) : Heap.get? _ (L+1) = some o4)
    obtain ⟨a1, u1, v1, ul1, n1, hk1, e4, hv1⟩ := rows_get hal hrow (show j < TT.length by omega)
    have e4' := hgg _ _ e4
    refine tests_one ?_
    k_extra "m_walk"
    all_goals k_extra "m_fin"
  case elt =>
    intro g' C v s₃ m₃ st hP hp F3 hm
    (try k_fold)
    obtain ⟨j, tj, hj, rfl⟩ := hP
    refine comp_local F3 hm ⟨⟨tj, by rw [Int.zero_add]⟩, s₃.heap, s₃.toks, rfl, fun _ _ e => e⟩ rfl rfl (by decide)
  case fin =>
    intro D h' tk ys ep' vs hDn F' N' hI hPr
    have hDne : ∀ a o, Heap.get? _ a = some o → @Ne Nat D a := fun a o e q => by rw [show D = a from q, e] at hDn; cases hDn
    have hIy := paired_ints (q := fun z => inW ["a", "b", "c"] (labT TT z.toNat)) (f := id) (fun z t => rfl) (fun z t y h => h) hI hPr
    have hDs := hDne src _ (News.get (by assumption) (by k_mem))
    rw [List.map_id, hTn, rangeZ_nat, natZ_filter (p := hasW TT ["a", "b", "c"]) (fun n => by rw [Int.toNat_natCast]; rfl)] at hIy
    obtain ⟨yl⟩ := ys
    replace hIy : IntsAre yl (natZ ((List.range TT.length).filter (hasW TT ["a", "b", "c"]))) := hIy
    have hyl := hIy.length
    have hyl2 := List.length_filter_le (hasW TT ["a", "b", "c"]) (List.range TT.length)
    rw [List.length_range] at hyl2
    rw [List.length_map] at hyl
    k_extra "m_walk"
    · refine ⟨_, _, rfl, fun b o e1 e2 => Fr.keep (by assumption) b o (cg b o (fun q => e1 (hmm b q)) e2), rfl, tab_end (Fr.keep (by assumption)) cg hmm hnc TB1 ?_, tab_end (Fr.keep (by assumption)) cg hmm hnc TB2 ?_⟩
      · rw [hp1]; exact News.get (by assumption) (by k_mem)
      · rw [hp2]; exact News.get (by assumption) (by k_mem)
    · rename decide _ = false => hne0
      have hne1 : 1 ≤ yl.length := by
        rcases Nat.eq_zero_or_pos yl.length with h | h
        · have : yl = [] := List.length_eq_zero_iff.mp h
          rw [this] at hIy
          have h3 : (natZ ((List.range TT.length).filter (hasW TT ["a", "b", "c"]))) = [] := List.length_eq_zero_iff.mp hIy.length.symm
          rw [h3] at hne0; simp at hne0
        · exact h
      refine one_step (vs := yl) (R'.less (by exact Nat.le_of_ble_eq_true rfl)) Og (by assumption) (by assumption) (by k_updF) hsk (News.get (by assumption) (by k_mem)) hDs hne1 (by omega) fun v r h3 tk3 b3 x3 t13 t23 n3 hv hs3 F3 N3 => ?_
      obtain ⟨k, tk9, rfl, hk⟩ := ints_mem hIy (List.mem_of_getElem? hv)
      have hkl : k < TT.length := List.mem_range.mp (List.mem_filter.mp hk).1
      have hkw := (List.mem_filter.mp hk).2
      obtain ⟨a1, u1, v1, ul1, n1, hk1, e4, hv1⟩ := rows_get hal hrow hkl
      obtain ⟨ndp, hndp⟩ : ∃ ndp, nds[k]? = some ndp := ⟨_, List.getElem?_eq_getElem (by omega)⟩
      have hel := el_kind G (by omega) hndp hkw
      have hpm := List.mem_of_getElem? hndp
      have N4 : News g L h3 ((L + 1 + 1 + 1 + 1, o1) :: (L + 1 + 1 + 1, o2) :: (L + 1 + 1, o3) :: (L + 1, o4) :: (src, srcObj b3 x3 t13 t23 n3) :: (td, od) :: (23, tabObj ps1) :: (374, tabObj ps2) :: tl0) := fun p hp => N3 p (.tail _ (.tail _ (.tail _ hp)))
      clear N3 hIy hne0 hyl hyl2 hDs hv
      k_extra "m_walk"
      rename Fr g L _ _ => F4
      rename News g L _ _ => N5
      have zst := ZI.stays F4 N5 (fun p hp => by k_extra "m_sub")
      have T4 := (SZ.keeps zst).tree
      have hled : ∀ a, a ∈ rl :: nds.map (·.t) → ∃ o, (a, o) ∈ tl0 := fun a ha => by
        obtain ⟨its, ep, e2⟩ := foot_list S.tree.at_ a (by
          rcases List.mem_cons.mp ha with h | ha
          · rw [h]; exact .head _
          · obtain ⟨nd, hn, h⟩ := List.mem_map.mp ha
            rw [← h]; exact foot_t hn)
        exact ⟨_, htl0 ▸ led_mem.mpr ⟨ha, e2⟩⟩
      have h2m : ∀ a ∈ [rl, ndp.t], ∃ o, (a, o) ∈ tl0 := fun a ha => by
        rcases List.mem_cons.mp ha with h | ha
        · exact hled a (by rw [h]; exact .head _)
        · exact hled a (by rw [List.mem_singleton.mp ha]; exact .tail _ (List.mem_map_of_mem hpm))
      have gms : ∀ a ∈ [rl, ndp.t], g.get? a = none := fun a ha => by
        obtain ⟨o, ho⟩ := h2m a ha
        exact gm _ (.tail _ (.tail _ (.tail _ (.tail _ ho))))
      have off9 : ∀ a, (∀ p ∈ tl0, @Ne Nat p.1 a) → a ∉ [rl, ndp.t] := fun a h q => by
        obtain ⟨o, ho⟩ := h2m a q
        exact h _ ho rfl
      have offL : ∀ a, @LE.le Nat _ L a → ∀ p ∈ tl0, @Ne Nat p.1 a := fun a ha p hp => by
        have := allLt_get _ l5 p hp
        exact Nat.ne_of_lt (Nat.lt_of_lt_of_le this ha)
      refine turned_step (α := Value) (set_attribute_spec (R'.less (by exact Nat.le_of_ble_eq_true rfl)) Og (Fr.keep (by assumption)) T4 (by omega) hndp (gms _ (.head _)) (gms _ (.tail _ (.head _))) hel (G.attrs _ hpm)) fun v h5 tk5 c5 r5 => ?_
      obtain ⟨nd5, ⟨t5, rfl⟩, hn5, hT5⟩ := r5
      obtain ⟨F6, N6⟩ := refreeze (front := [_, _, _, _, _, _, _, _]) F4 N5 c5 (off9 _ (offL _ (Nat.le_refl _))) gms
        (List.forall_mem_cons.mpr ⟨off9 _ (offL _ (by dsimp only; first | exact Nat.le_add_right _ 4 | exact Nat.le_add_right _ 3 | exact Nat.le_add_right _ 2 | exact Nat.le_add_right _ 1 | omega)), List.forall_mem_cons.mpr ⟨off9 _ (offL _ (by dsimp only; first | exact Nat.le_add_right _ 4 | exact Nat.le_add_right _ 3 | exact Nat.le_add_right _ 2 | exact Nat.le_add_right _ 1 | omega)), List.forall_mem_cons.mpr ⟨off9 _ (offL _ (by dsimp only; first | exact Nat.le_add_right _ 4 | exact Nat.le_add_right _ 3 | exact Nat.le_add_right _ 2 | exact Nat.le_add_right _ 1 | omega)), List.forall_mem_cons.mpr ⟨off9 _ (offL _ (by dsimp only; first | exact Nat.le_add_right _ 4 | exact Nat.le_add_right _ 3 | exact Nat.le_add_right _ 2 | exact Nat.le_add_right _ 1 | omega)), List.forall_mem_cons.mpr ⟨off9 _ ta, List.forall_mem_cons.mpr ⟨off9 _ tb, List.forall_mem_cons.mpr ⟨off9 _ tc, List.forall_mem_singleton.mpr (off9 _ te)⟩⟩⟩⟩⟩⟩⟩)
      simp only [List.map_cons, List.map_nil] at N6
      have hg8 : ∀ a ∈ [L + 1 + 1 + 1 + 1, L + 1 + 1 + 1, L + 1 + 1, L + 1, src, td, 23, 374], g.get? a = none := fun a ha => front_none (front := [(L + 1 + 1 + 1 + 1, o1), (L + 1 + 1 + 1, o2), (L + 1 + 1, o3), (L + 1, o4), (src, srcObj b3 x3 t13 t23 n3), (td, od), (23, tabObj ps1), (374, tabObj ps2)]) N5 ha
      have gZ := base_Z F6 hg8
      have ZI1 := frz_Z (ms := [L + 1 + 1 + 1 + 1, L + 1 + 1 + 1, L + 1 + 1, L + 1, src, td, 23, 374]) F6
      have new8 : ∀ a, Heap.get? _ a = none → a ∉ L :: [L + 1 + 1 + 1 + 1, L + 1 + 1 + 1, L + 1 + 1, L + 1, src, td, 23, 374] := fun a e => front_off (front := [(L + 1 + 1 + 1 + 1, o1), (L + 1 + 1 + 1, o2), (L + 1 + 1, o3), (L + 1, o4), (src, srcObj b3 x3 t13 t23 n3), (td, od), (23, tabObj ps1), (374, tabObj ps2)]) F4 N5 e
      have old8 : ∀ a ∈ footSt tr dt rl rw nds as, a ∉ L :: [L + 1 + 1 + 1 + 1, L + 1 + 1 + 1, L + 1 + 1, L + 1, src, td, 23, 374] := fun a ha q => by
        have hlt : @LT.lt Nat _ a L := oldlt a ha
        rcases List.mem_cons.mp q with h | q
        · exact absurd hlt (by rw [show a = L from h]; exact Nat.lt_irrefl _)
        rcases List.mem_cons.mp q with h | q
        · rw [show a = L + 1 + 1 + 1 + 1 from h] at hlt; exact absurd hlt (Nat.not_lt.mpr (by first | exact Nat.le_add_right _ 4 | exact Nat.le_add_right _ 3 | exact Nat.le_add_right _ 2 | exact Nat.le_add_right _ 1 | omega))
        rcases List.mem_cons.mp q with h | q
        · rw [show a = L + 1 + 1 + 1 from h] at hlt; exact absurd hlt (Nat.not_lt.mpr (by first | exact Nat.le_add_right _ 4 | exact Nat.le_add_right _ 3 | exact Nat.le_add_right _ 2 | exact Nat.le_add_right _ 1 | omega))
        rcases List.mem_cons.mp q with h | q
        · rw [show a = L + 1 + 1 from h] at hlt; exact absurd hlt (Nat.not_lt.mpr (by first | exact Nat.le_add_right _ 4 | exact Nat.le_add_right _ 3 | exact Nat.le_add_right _ 2 | exact Nat.le_add_right _ 1 | omega))
        rcases List.mem_cons.mp q with h | q
        · rw [show a = L + 1 from h] at hlt; exact absurd hlt (Nat.not_lt.mpr (by first | exact Nat.le_add_right _ 4 | exact Nat.le_add_right _ 3 | exact Nat.le_add_right _ 2 | exact Nat.le_add_right _ 1 | omega))
        · exact hap a q ha
      generalize hZ1 : hideAll h5 (L :: [L + 1 + 1 + 1 + 1, L + 1 + 1 + 1, L + 1 + 1, L + 1, src, td, 23, 374]) = Z1 at *
      have S1 : TreeSt Z1 tr dt rl rw (attAt k nds.length nds ++ [nd5]) as' TT := by
        refine ⟨gZ _ _ eT1, ⟨_, _, _, gZ _ _ eT2⟩, ⟨_, gZ _ _ e1⟩, ?_, hsm⟩
        refine GB.agree (GB.of (as := as') hT5 hal fun k a x ha hx => (hrow k a x ha hx).keeps F6.keep) fun a ha o e => ?_
        rcases sup_inv ha with h | h | h
        · rw [← hZ1]; exact hideAll_get _ e (old8 a (by rw [h]; exact .tail _ (.tail _ (.tail _ sup_rl))))
        · rw [← hZ1]
          refine hideAll_get _ e ?_
          have ha2 : a ∈ sup rl (attAt k nds.length nds ++ [nd5]) [] := by
            obtain ⟨nd, hn, h⟩ := h
            have hm := sup_mem (rl := rl) (as := []) hn
            rcases h with rfl | rfl | rfl | rfl
            · exact hm.1
            · exact hm.2.1
            · exact hm.2.2.1
            · exact hm.2.2.2
          rcases sup_att hT5 hn5 a ha2 with h2 | h2
          · exact old8 a (.tail _ (.tail _ (.tail _ (sup_app h2))))
          · exact new8 a h2
        · obtain ⟨i, hi⟩ := List.mem_iff_getElem?.mp h
          obtain ⟨y, hy⟩ : ∃ y, TT[i]? = some y := ⟨_, List.getElem?_eq_getElem (by have := (List.getElem?_eq_some_iff.mp hi).1; omega)⟩
          obtain ⟨t, v, tl, n, e2, p⟩ := hrow i a y hi hy
          have e3 := F6.keep _ _ e2
          rw [e] at e3
          rw [Option.some.inj e3]
          exact gZ _ _ e2
      generalize htl1 : frz g h5 L [L + 1 + 1 + 1 + 1, L + 1 + 1 + 1, L + 1 + 1, L + 1, src, td, 23, 374] = tl1 at N6 ZI1
      have fa : ∀ p ∈ tl1, @Ne Nat p.1 src := by rw [← htl1]; exact frz_off (by simp)
      have fb : ∀ p ∈ tl1, @Ne Nat p.1 td := by rw [← htl1]; exact frz_off (by simp)
      have fc : ∀ p ∈ tl1, @Ne Nat p.1 23 := by rw [← htl1]; exact frz_off (by simp)
      have fd : ∀ p ∈ tl1, @Ne Nat p.1 374 := by rw [← htl1]; exact frz_off (by simp)
      have fe : ∀ p ∈ tl1, @Ne Nat p.1 (L + 1 + 1 + 1 + 1) := by rw [← htl1]; exact frz_off (by simp)
      have ff : ∀ p ∈ tl1, @Ne Nat p.1 (L + 1 + 1 + 1) := by rw [← htl1]; exact frz_off (by simp)
      have fg : ∀ p ∈ tl1, @Ne Nat p.1 (L + 1 + 1) := by rw [← htl1]; exact frz_off (by simp)
      have fh : ∀ p ∈ tl1, @Ne Nat p.1 (L + 1) := by rw [← htl1]; exact frz_off (by simp)
      replace N6 : News g L h5 ((L + 1 + 1 + 1 + 1, o1) :: (L + 1 + 1 + 1, o2) :: (L + 1 + 1, o3) :: (L + 1, o4) :: (src, srcObj b3 x3 t13 t23 n3) :: (td, od) :: (23, tabObj ps1) :: (374, tabObj ps2) :: tl1) := N6
      have WF1 := wf_att (p := k) G hn5.par (by omega) hn5.kids
      have MA := match_att (p := k) (nd := nd5) G
      have PR1 := pre_of MA (by omega)
      clear N5 F4 c5 zst T4 hT5 new8 hg8 off9 h2m hled gms ZI
      k_extra "m_walk"
      rename_i nmb tbb hnmb Db _ _ _ _ _ ob db la1 _ _ la2 _ _ la3 _ _ la4 _ _ la5 _ FF NN _
      refine one_step (R'.less (by exact Nat.le_of_ble_eq_true rfl)) Og (by assumption) (by assumption) (by k_updF) (by assumption) (News.get (by assumption) (by k_mem)) (by k_ne) (by simp only [List.length_cons, List.length_nil]; omega) (by simp only [List.length_cons, List.length_nil]; omega) fun v r h7 tk7 b7 x7 t17 t27 n7 hv hs7 F7 N7 => ?_
      have hw : ∃ nm ws, v = .ref nm ∧ WordsAt (hideAll h7 (L :: [L + 1 + 1 + 1 + 1, L + 1 + 1 + 1, L + 1 + 1, L + 1, src, td, 23, 374])) nm ws := by
        have hm := List.mem_of_getElem? hv
        simp only [List.mem_cons, List.not_mem_nil, or_false] at hm
        rcases hm with rfl | rfl | rfl | rfl
        all_goals
          exact ⟨_, strsOf _, rfl, _, _, hideAll_get _ (News.get N7 (by k_mem)) (by simp only [List.mem_cons, List.not_mem_nil, or_false, not_or]; exact ⟨(by k_ne), (by k_ne), (by k_ne), (by k_ne), (by k_ne), (by k_ne), (by k_ne), (by k_ne), (by k_ne)⟩), strs_are rfl⟩
      obtain ⟨nm, ws, rfl, hW⟩ := hw
      have hZs : Z1.StaysIn (hideAll h7 (L :: [L + 1 + 1 + 1 + 1, L + 1 + 1 + 1, L + 1 + 1, L + 1, src, td, 23, 374])) := fun b o e => hideAll_get _ (ZI1.stays F7 N7 (fun p hp => by k_extra "m_sub") b o e) (fun q => by rw [← hZ1, hideAll_none _ q] at e; cases e)
      have S2 := S1.keeps hZs
      have N8 := news_drop7 N7
      have nc8 : ∀ a ∈ [L + 1 + 1 + 1 + 1, L + 1 + 1 + 1, L + 1 + 1, L + 1, src, td, 23, 374], NoCode h7 a := by
        obtain ⟨es, epd, _, hdd, _⟩ := id hodd
        exact fcons (noCode_cell (News.get N8 (.head _)) c1) (fcons (noCode_cell (News.get N8 (.tail _ (.head _))) db) (fcons (noCode_cell (News.get N8 (.tail _ (.tail _ (.head _)))) c3) (fcons (noCode_cell (News.get N8 (.tail _ (.tail _ (.tail _ (.head _))))) c4) (fcons (noCode_list (News.get N8 (.tail _ (.tail _ (.tail _ (.tail _ (.head _))))))) (fcons (noCode_dict (News.get N8 (.tail _ (.tail _ (.tail _ (.tail _ (.tail _ (.head _))))))) hdd) (fcons (noCode_tab (News.get N8 (.tail _ (.tail _ (.tail _ (.tail _ (.tail _ (.tail _ (.head _)))))))) ht1) (fcons (noCode_tab (News.get N8 (.tail _ (.tail _ (.tail _ (.tail _ (.tail _ (.tail _ (.tail _ (.head _))))))))) ht2) fnil)))))))
      have e23 := News.get N8 (show (23, tabObj ps1) ∈ _ from .tail _ (.tail _ (.tail _ (.tail _ (.tail _ (.tail _ (.head _)))))))
      have e374 := News.get N8 (show (374, tabObj ps2) ∈ _ from .tail _ (.tail _ (.tail _ (.tail _ (.tail _ (.tail _ (.tail _ (.head _))))))))
      obtain ⟨psA, eA, TLA⟩ := (tab_end F7.keep cg hmm hnc TB1 (e23.trans hp1.symm)).frz F7 nc8
      rw [e23] at eA; cases eA
      obtain ⟨psB, eB, TLB⟩ := (tab_end F7.keep cg hmm hnc TB2 (e374.trans hp2.symm)).frz F7 nc8
      rw [e374] at eB; cases eB
      have hZ2 : ∀ a ∈ L :: [L + 1 + 1 + 1 + 1, L + 1 + 1 + 1, L + 1 + 1, L + 1, src, td, 23, 374], (hideAll h7 (L :: [L + 1 + 1 + 1 + 1, L + 1 + 1 + 1, L + 1 + 1, L + 1, src, td, 23, 374])).get? a = none := fun a ha => hideAll_none _ ha
      have N12 := refreeze0 (front := [_, _, _, _, _, _, _, _]) N8
      simp only [List.map_cons, List.map_nil] at N12
      have ZI12 := frz_Z (ms := [L + 1 + 1 + 1 + 1, L + 1 + 1 + 1, L + 1 + 1, L + 1, src, td, 23, 374]) F7
      have fa12 : ∀ p ∈ frz g _ L [L + 1 + 1 + 1 + 1, L + 1 + 1 + 1, L + 1 + 1, L + 1, src, td, 23, 374], @Ne Nat p.1 src := frz_off (h := h7) (by simp)
      have fb12 : ∀ p ∈ frz g _ L [L + 1 + 1 + 1 + 1, L + 1 + 1 + 1, L + 1 + 1, L + 1, src, td, 23, 374], @Ne Nat p.1 td := frz_off (h := h7) (by simp)
      have fc12 : ∀ p ∈ frz g _ L [L + 1 + 1 + 1 + 1, L + 1 + 1 + 1, L + 1 + 1, L + 1, src, td, 23, 374], @Ne Nat p.1 23 := frz_off (h := h7) (by simp)
      have fd12 : ∀ p ∈ frz g _ L [L + 1 + 1 + 1 + 1, L + 1 + 1 + 1, L + 1 + 1, L + 1, src, td, 23, 374], @Ne Nat p.1 374 := frz_off (h := h7) (by simp)
      have fe12 : ∀ p ∈ frz g _ L [L + 1 + 1 + 1 + 1, L + 1 + 1 + 1, L + 1 + 1, L + 1, src, td, 23, 374], @Ne Nat p.1 (L + 1 + 1 + 1 + 1) := frz_off (h := h7) (by simp)
      have ff12 : ∀ p ∈ frz g _ L [L + 1 + 1 + 1 + 1, L + 1 + 1 + 1, L + 1 + 1, L + 1, src, td, 23, 374], @Ne Nat p.1 (L + 1 + 1 + 1) := frz_off (h := h7) (by simp)
      have fg12 : ∀ p ∈ frz g _ L [L + 1 + 1 + 1 + 1, L + 1 + 1 + 1, L + 1 + 1, L + 1, src, td, 23, 374], @Ne Nat p.1 (L + 1 + 1) := frz_off (h := h7) (by simp)
      have fh12 : ∀ p ∈ frz g _ L [L + 1 + 1 + 1 + 1, L + 1 + 1 + 1, L + 1 + 1, L + 1, src, td, 23, 374], @Ne Nat p.1 (L + 1) := frz_off (h := h7) (by simp)
      generalize htl12 : frz g h7 L [L + 1 + 1 + 1 + 1, L + 1 + 1 + 1, L + 1 + 1, L + 1, src, td, 23, 374] = tl12 at N12 ZI12 fa12 fb12 fc12 fd12 fe12 ff12 fg12 fh12
      replace N12 : News g L _ (_ :: _ :: _ :: _ :: _ :: _ :: _ :: _ :: tl12) := N12
      rw [htl12] at TLA TLB
      generalize hideAll h7 (L :: [L + 1 + 1 + 1 + 1, L + 1 + 1 + 1, L + 1 + 1, L + 1, src, td, 23, 374]) = Z2 at hW S2 ZI12 hZ2
      have hkvz : kvs.length ≤ 1000 := by rw [hkvl, List.length_map]; omega
      clear hZs ZI1 S1 N7 N8 hv hnmb nc8 e23 e374
      (try clear FF); (try clear NN); (try clear fa fb fc fd fe ff fg fh)
      k_extra "m_walk7"
      rename Fr g L _ _ => F12
      rename News g L _ _ => N12
      rename_i onn dnn _ odd dtd
      have htm := told_more (z := Str.ofString "z") (t := tk7) hkvl hkv
      rw [List.length_map, hTl] at htm
      refine att_mid (b := b7) (x := x7) (t1 := t17) (t2 := t27) (ns := n7) (n := nds.length) (R'.less (by exact Nat.le_of_ble_eq_true rfl)) Og Xg Tg C1 C2 F12 (by k_extra "m_lk") (by k_extra "m_lk") (by k_extra "m_lk") N12 dnn db c3 c4 TLA TLB l3 l4 l1 l2 nb nd na nc hst
        (by exact fcons fe12 (fcons ff12 (fcons fg12 (fcons fh12 (fcons fa12 (fcons fb12 (fcons fc12 (fcons fd12 fnil)))))))) dtd htm.1 htm.2 ZI12 hZ2 S2.tree.at_ hW RAg WF1 MA PR1 (by rw [List.length_append, attAt_length]; rfl) (by unfold parN; rw [att_get]; exact hn5.par) (by omega) (by unfold kindN; rw [att_get]; exact hn5.kind) rfl
        fun h' tk' st q1 q2 => ⟨_, _, rfl, fun b o e1 e2 => st b o (cg b o (fun q => e1 (hmm b q)) e2), rfl, q1, q2⟩
end


section
variable {prog : Program} {w : World} {A : Around} {E : Value → Shared → Prop} {s : Shared} {g : Heap} {L : Addr} {m : Str → Option Value} {env : Env} {elt : PySem.Expr} {scope : Scope} {cl : List (Str × Addr)} {x : Str}
/-- what a block's element makes: a new pair -/
inductive PairMade (g : Heap) (L : Addr) (m : Str → Option Value) (s : Shared) (front : List (Addr × Obj)) (z : Value) (l : Value) (y : Value) (s' : Shared) : Prop where
  | mk (b : Addr) (h' : Heap) (tk : Nat) (zc0 : y = .ref b) (zc1 : s' = { s with heap := h', toks := tk }) (zc2 : Fr g L h' m) (zc3 : News g L h' ((b, tupObj [z, l] 0) :: front)) (zc4 : (∀ q ∈ front, @Ne Nat q.1 b)) : PairMade g L m s front z l y s'
theorem rest_pairs {its : Array Value} {ax : Addr} {n : Nat} {fz fl : Nat → Value} {Fin : List Value → List (Addr × Obj) → Prop} {news0 : List (Addr × Obj)}
    (hel : ∀ i v I oI C oC D m₂ h tk ys news (E' : Value → Shared → Prop), i < n → its[i]? = some v → LCg.NsObj oC m₂ → m₂ x = some v → (∀ q ∈ news0, q ∈ news) → Fr g L h m → News g L h ((I, oI) :: (C, oC) :: (D, LCg.lst ys) :: news) →
      wpAny (model prog w) A (eval elt (compEnvC scope cl C env)) (PairMade g L m { s with heap := h, toks := tk } ((I, oI) :: (C, oC) :: (D, LCg.lst ys) :: news) (fz i) (fl i)) E' { s with heap := h, toks := tk })
    (fin : ∀ ys news, ys.length = n → (∀ q ∈ news0, q ∈ news) → (∀ (j : Nat), j < n → ∃ b, ys[j]? = some (.ref b) ∧ (b, tupObj [fz j, fl j] 0) ∈ news) → Fin ys news) (hS : LCg.SrcAt g ax its news0) :
    ∀ (k i : Nat) (ys : List Value) (news : List (Addr × Obj)), i + k = n → ys.length = i → (∀ q ∈ news0, q ∈ news) → (∀ (j : Nat), j < i → ∃ b, ys[j]? = some (.ref b) ∧ (b, tupObj [fz j, fl j] 0) ∈ news) →
      LCg.CompRest prog w A g L m env elt x scope cl s (LCg.SrcAt g ax its) (fun i v => its[i]? = some v) Fin k i ys news := by
  intro k
  induction k with
  | zero =>
    intro i ys news hi hy hs hj
    obtain rfl : i = n := by omega
    exact LCg.CompRest.zero (fin ys news hy hs hj)
  | succ k ih =>
    intro i ys news hi hy hs hj
    refine LCg.CompRest.succ fun v I oI C oC D m₂ h tk E' hv hC hm F N off ne => ?_
    refine wpAny_mono (hel i v I oI C oC D m₂ h tk ys news E' (by omega) hv hC hm hs F N) (fun y s' r => ?_) fun _ _ e => e
    obtain ⟨b, h', tk', rfl, rfl, F', N', hb⟩ := r
    refine LCg.CompEnd.intro F' N' ((b, tupObj [fz i, fl i] 0) :: news) ?_ ?_ ?_ ?_
    · intro p hp
      rcases List.mem_cons.mp hp with rfl | hp
      · exact .tail _ (.head _)
      rcases List.mem_cons.mp hp with rfl | hp
      · exact .tail _ (.tail _ (.head _))
      rcases List.mem_cons.mp hp with rfl | hp
      · exact .tail _ (.tail _ (.tail _ (.head _)))
      rcases List.mem_cons.mp hp with rfl | hp
      · exact .head _
      · exact .tail _ (.tail _ (.tail _ (.tail _ hp)))
    · exact ⟨⟨Ne.symm (hb _ (.head _)), Ne.symm (hb _ (.tail _ (.head _))), Ne.symm (hb _ (.tail _ (.tail _ (.head _))))⟩, off⟩
    · rcases hS with hS | ⟨o, ho, r⟩
      · exact .inl hS
      · exact .inr ⟨o, .tail _ (hs _ ho), r⟩
    · refine ih (i + 1) _ _ (by omega) (by rw [List.length_append, List.length_singleton, hy]) (fun q hq => .tail _ (hs q hq)) fun j hji => ?_
      by_cases hlt : j < i
      · obtain ⟨b', e1, e2⟩ := hj j hlt
        exact ⟨b', by rw [List.getElem?_append_left (by omega)]; exact e1, .tail _ e2⟩
      · obtain rfl : j = i := by omega
        exact ⟨b, by rw [List.getElem?_append_right (by omega), hy, Nat.sub_self]; rfl, .head _⟩
end


noncomputable abbrev pickFor1 {f : Addr} {p} {oc : Value} {od : Option Addr} {name qual : Str} {params : Arguments} {tg it : PySem.Expr} {body els : List Stmt} {ps : Pos} {rest : List Stmt} {scope : Scope} {dV kV doc pm cdv ct : Value} {an : Option Addr} {osl : Array (Option Value)}
  (_ : (hd.heap_39 p).lookup f = some ⟨oc, od, .func (fnX name qual params (.For tg it body els ps :: rest) scope [] dV kV doc pm an cdv ct), osl⟩) : List Stmt := body
noncomputable abbrev pickFor2 {f : Addr} {p} {oc : Value} {od : Option Addr} {name qual : Str} {params : Arguments} {tg it tg2 it2 : PySem.Expr} {s1 s2 s3 s4 : Stmt} {body rest2 els els2 : List Stmt} {ps ps2 : Pos} {rest : List Stmt} {scope : Scope} {dV kV doc pm cdv ct : Value} {an : Option Addr} {osl : Array (Option Value)}
  (_ : (hd.heap_39 p).lookup f = some ⟨oc, od, .func (fnX name qual params (.For tg it (s1 :: s2 :: s3 :: s4 :: .For tg2 it2 body els2 ps2 :: rest2) els ps :: rest) scope [] dV kV doc pm an cdv ct), osl⟩) : List Stmt := body
noncomputable abbrev pickBodyA {f : Addr} {p} {oc : Value} {od : Option Addr} {name qual : Str} {params : Arguments} {body : List Stmt} {scope : Scope} {dV kV doc pm cdv ct : Value} {an : Option Addr} {osl : Array (Option Value)}
  (_ : (hd.heap_39 p).lookup f = some ⟨oc, od, .func (fnX name qual params body scope [] dV kV doc pm an cdv ct), osl⟩) : List Stmt := body
noncomputable abbrev pickEnvA {f : Addr} {p} {oc : Value} {od : Option Addr} {name qual : Str} {params : Arguments} {body : List Stmt} {scope : Scope} {dV kV doc pm cdv ct : Value} {an : Option Addr} {osl : Array (Option Value)}
  (_ : (hd.heap_39 p).lookup f = some ⟨oc, od, .func (fnX name qual params body scope [] dV kV doc pm an cdv ct), osl⟩) (L a : Addr) : Env := envOfC qual scope L a cdv
noncomputable def lawBody (w : World) : List Stmt := pickBodyA (f := 382) (p := w.params) (by k_is)
noncomputable def lawTurn (w : World) : List Stmt := pickFor1 (f := 382) (p := w.params) (by k_is)
noncomputable def lawInner (w : World) : List Stmt := pickFor2 (f := 382) (p := w.params) (by k_is)
noncomputable def lawEnv (w : World) (L a : Addr) : Env := pickEnvA (f := 382) (p := w.params) (by k_is) L a

inductive JLaw (g : Heap) (L scr src tr rw : Addr) (o3 : Obj) (ps2 : Array Value) (tl0 : List (Addr × Obj)) (m : Str → Option Value) (news : List (Addr × Obj)) : Prop where
  | mk (o2 o1 : Obj) (v2 v1 : Option Value) (b x : Int) (t1 t2 : Tok) (ns : Nat) (ps1 ps3 : Array Value) (tl : List (Addr × Obj)) (zc0 : news = (L + 1 + 1 + 1, o3) :: (L + 1 + 1, o2) :: (L + 1, o1) :: (src, srcObj b x t1 t2 ns) :: (374, tabObj ps2) :: (23, tabObj ps1) :: (379, tabObj ps3) :: tl) (zc1 : o2.data = .cell v2) (zc2 : o1.data = .cell v1) (zc3 : SrcOk b x) (zc4 : TabL g tl LAtt ps2) (zc5 : TabL g tl LLike ps1) (zc6 : TabL g tl LLaw ps3) (zc7 : (∀ q ∈ tl0, q ∈ tl)) (zc8 : (∀ a ∈ [L + 1 + 1 + 1, L + 1 + 1, L + 1, src, 374, 23, 379], ∀ q ∈ tl, @Ne Nat q.1 a)) (zc9 : m (Str.ofString "source") = some (.ref src)) (zc10 : m (Str.ofString "tree") = some (.ref tr)) (zc11 : m (Str.ofString "rows") = some (.ref rw)) (zc12 : m (Str.ofString "script") = some (.ref scr)) : JLaw g L scr src tr rw o3 ps2 tl0 m news

theorem tail5 {g h : Heap} {L : Addr} {a b c d e f1 f2 f3 f4 f5 f6 f7 f8 f9 : Addr × Obj} {tl : List (Addr × Obj)} (N : News g L h (a :: b :: c :: d :: e :: f1 :: f2 :: f3 :: f4 :: f5 :: f6 :: f7 :: f8 :: f9 :: tl)) :
    ∃ tlw, News g L h (f1 :: f2 :: f3 :: f4 :: f5 :: f6 :: f7 :: f8 :: f9 :: tlw) ∧ (∀ q ∈ tl, q ∈ tlw) ∧ a ∈ tlw ∧ b ∈ tlw ∧ c ∈ tlw ∧ d ∈ tlw ∧ e ∈ tlw ∧
      (∀ x : Addr, @Ne Nat a.1 x → @Ne Nat b.1 x → @Ne Nat c.1 x → @Ne Nat d.1 x → @Ne Nat e.1 x → (∀ q ∈ tl, @Ne Nat q.1 x) → ∀ q ∈ tlw, @Ne Nat q.1 x) := by
  refine ⟨a :: b :: c :: d :: e :: tl, fun p hp => N p ?_, fun q hq => by k_extra "m_subx", by k_mem, by k_mem, by k_mem, by k_mem, by k_mem, fun x h1 h2 h3 h4 h5 h6 => ?_⟩
  · iterate 9 (
      rcases List.mem_cons.mp hp with hz | hp
      · rw [hz]; k_mem)
    iterate 5 (
      rcases List.mem_cons.mp hp with hz | hp
      · rw [hz]; k_mem)
    k_extra "m_subx"
  · exact fcons h1 (fcons h2 (fcons h3 (fcons h4 (fcons h5 h6))))
theorem word_W0_1 : True := by
  (k_with "m_hold9" => (fail_if_success (with_reducible show wpAny _ _ (call (Value.ref 372) _) _ _ _)))
  (k_with "m_walk9" => (try dsimp only); repeat' (k_extra "m_hold9"; k_extra "m_hold4"; k_extra "m_hold3"; k_extra "m_hold"; (first | (k_unfold; (try clear ek qk)) | walk1); (try dsimp only); (try k_extra "m_fold")))
  (k_with "m_walk8" => (try dsimp only); repeat' (k_extra "m_hold4"; k_extra "m_hold3"; k_extra "m_hold"; (first | (k_unfold; (try clear ek qk)) | walk1); (try dsimp only); (try k_extra "m_fold")))
  exact True.intro
noncomputable abbrev pickFor2r3 {f : Addr} {p} {oc : Value} {od : Option Addr} {name qual : Str} {params : Arguments} {tg it tg2 it2 : PySem.Expr} {s1 s2 s3 s4 b1 b2 b3 : Stmt} {body rest2 els els2 : List Stmt} {ps ps2 : Pos} {rest : List Stmt} {scope : Scope} {dV kV doc pm cdv ct : Value} {an : Option Addr} {osl : Array (Option Value)}
  (_ : (hd.heap_39 p).lookup f = some ⟨oc, od, .func (fnX name qual params (.For tg it (s1 :: s2 :: s3 :: s4 :: .For tg2 it2 (b1 :: b2 :: b3 :: body) els2 ps2 :: rest2) els ps :: rest) scope [] dV kV doc pm an cdv ct), osl⟩) : List Stmt := body
noncomputable abbrev pickFor2r5 {f : Addr} {p} {oc : Value} {od : Option Addr} {name qual : Str} {params : Arguments} {tg it tg2 it2 : PySem.Expr} {s1 s2 s3 s4 b1 b2 b3 b4 b5 : Stmt} {body rest2 els els2 : List Stmt} {ps ps2 : Pos} {rest : List Stmt} {scope : Scope} {dV kV doc pm cdv ct : Value} {an : Option Addr} {osl : Array (Option Value)}
  (_ : (hd.heap_39 p).lookup f = some ⟨oc, od, .func (fnX name qual params (.For tg it (s1 :: s2 :: s3 :: s4 :: .For tg2 it2 (b1 :: b2 :: b3 :: b4 :: b5 :: body) els2 ps2 :: rest2) els ps :: rest) scope [] dV kV doc pm an cdv ct), osl⟩) : List Stmt := body
noncomputable def lawDue (w : World) : List Stmt := pickFor2r3 (f := 382) (p := w.params) (by k_is)
noncomputable def lawLike (w : World) : List Stmt := pickFor2r5 (f := 382) (p := w.params) (by k_is)
theorem noCode_same {h h' : Heap} {a : Addr} {o : Obj} (x : NoCode h a) (e : h.get? a = some o) (e' : h'.get? a = some o) : NoCode h' a := fun q ⟨c, o', vs, t, e1, e2, e3, e4⟩ => by
  cases e1; rw [e'] at e2; cases e2; exact x q ⟨a, o, vs, t, rfl, e, e3, e4⟩
theorem z_none {g Z : Heap} {tl : List (Addr × Obj)} {a : Addr} (ZI : ZIn g tl Z) (hg : g.get? a = none) (hof : ∀ q ∈ tl, @Ne Nat q.1 a) : Z.get? a = none := by
  cases e : Z.get? a with
  | none => rfl
  | some o =>
    rcases ZI a o e with h | h
    · rw [hg] at h; cases h
    · exact absurd rfl (hof _ h)
theorem tail2 {g h : Heap} {L : Addr} {a b f1 f2 f3 f4 f5 f6 f7 f8 f9 : Addr × Obj} {tl : List (Addr × Obj)} (N : News g L h (a :: b :: f1 :: f2 :: f3 :: f4 :: f5 :: f6 :: f7 :: f8 :: f9 :: tl)) :
    ∃ tlw, News g L h (f1 :: f2 :: f3 :: f4 :: f5 :: f6 :: f7 :: f8 :: f9 :: tlw) ∧ (∀ q ∈ tl, q ∈ tlw) ∧ a ∈ tlw ∧ b ∈ tlw ∧ (∀ x : Addr, @Ne Nat a.1 x → @Ne Nat b.1 x → (∀ q ∈ tl, @Ne Nat q.1 x) → ∀ q ∈ tlw, @Ne Nat q.1 x) := by
  refine ⟨a :: b :: tl, fun p hp => N p ?_, fun q hq => by k_extra "m_subx", by k_mem, by k_mem, fun x h1 h2 h3 => ?_⟩
  · iterate 11 (
      rcases List.mem_cons.mp hp with hz | hp
      · rw [hz]; k_mem)
    k_extra "m_subx"
  · exact fcons h1 (fcons h2 h3)
theorem word_W0_2 : True := by
  (k_with "m_lamw" => ((case zF => k_asm); (case zN => k_asm); (case zT => k_asm); (case zcd => exact rfl); (case zC => k_asm); (case zU => k_updF); (case zt => k_asm); (case zTL => k_asm); (case zm => first | k_mem | decide +kernel); (case zL => exact lam_uniq (q := Str.ofString "law.<locals>.<lambda>") (by with_unfolding_all rfl) (by decide +kernel)); (case zcl => with_unfolding_all exact rfl)))
  (k_with "eval Lambda" => (k_dflt ((refine' kla_eval ?zd0 ?_; (case zd0 => exact rfl); (first | (refine' lam_make (LL := LLaw) (front := [_, _, _, _, _, _, _, _, _]) ?zF ?zN ?zT ?zC ?zcd ?zU ?zt ?zTL ?zm ?zL ?zcl ?_; k_extra "m_lamw") | (refine' lam_make (LL := LLaw) (front := [_, _, _, _, _, _, _, _, _, _]) ?zF ?zN ?zT ?zC ?zcd ?zU ?zt ?zTL ?zm ?zL ?zcl ?_; k_extra "m_lamw")); intro _ _ _ _ _ _ _ _ N' l1 _ _ off' _ r'; obtain ⟨_, _, _, _, _, _⟩ := r'; (try simp only [List.cons_append, List.nil_append] at N'); (have z1' := off' (379, _) (by k_mem) (by k_asm)); (try k_lt l1); (try k_sweep); (try (revert N'; intro _)); (try (revert l1; intro _)); (try (revert r'; intro _)); (try (revert z1'; intro _)); (try (revert off'; intro _))))))
  exact True.intro
inductive JOut (g : Heap) (L scr : Addr) (m : Str → Option Value) (news : List (Addr × Obj)) : Prop where
  | mk (o3 o2 o1 : Obj) (v3 v2 v1 : Option Value) (ps2 ps1 ps3 : Array Value) (tl : List (Addr × Obj)) (zc0 : news = (L + 1 + 1 + 1, o3) :: (L + 1 + 1, o2) :: (L + 1, o1) :: (374, tabObj ps2) :: (23, tabObj ps1) :: (379, tabObj ps3) :: tl) (zc1 : o3.data = .cell v3) (zc2 : o2.data = .cell v2) (zc3 : o1.data = .cell v1) (zc4 : TabL g tl LAtt ps2) (zc5 : TabL g tl LLike ps1) (zc6 : TabL g tl LLaw ps3) (zc7 : (∀ a ∈ [L + 1 + 1 + 1, L + 1 + 1, L + 1, 374, 23, 379], ∀ q ∈ tl, @Ne Nat q.1 a)) (zc8 : m (Str.ofString "script") = some (.ref scr)) : JOut g L scr m news
noncomputable abbrev pickFor1r5 {f : Addr} {p} {oc : Value} {od : Option Addr} {name qual : Str} {params : Arguments} {tg it : PySem.Expr} {s1 s2 s3 s4 s5 : Stmt} {body els : List Stmt} {ps : Pos} {rest : List Stmt} {scope : Scope} {dV kV doc pm cdv ct : Value} {an : Option Addr} {osl : Array (Option Value)}
  (_ : (hd.heap_39 p).lookup f = some ⟨oc, od, .func (fnX name qual params (.For tg it (s1 :: s2 :: s3 :: s4 :: s5 :: body) els ps :: rest) scope [] dV kV doc pm an cdv ct), osl⟩) : List Stmt := body
noncomputable abbrev pickFor1r4 {f : Addr} {p} {oc : Value} {od : Option Addr} {name qual : Str} {params : Arguments} {tg it : PySem.Expr} {s1 s2 s3 s4 : Stmt} {body els : List Stmt} {ps : Pos} {rest : List Stmt} {scope : Scope} {dV kV doc pm cdv ct : Value} {an : Option Addr} {osl : Array (Option Value)}
  (_ : (hd.heap_39 p).lookup f = some ⟨oc, od, .func (fnX name qual params (.For tg it (s1 :: s2 :: s3 :: s4 :: body) els ps :: rest) scope [] dV kV doc pm an cdv ct), osl⟩) : List Stmt := body
noncomputable abbrev pickFor1r3 {f : Addr} {p} {oc : Value} {od : Option Addr} {name qual : Str} {params : Arguments} {tg it : PySem.Expr} {s1 s2 s3 : Stmt} {body els : List Stmt} {ps : Pos} {rest : List Stmt} {scope : Scope} {dV kV doc pm cdv ct : Value} {an : Option Addr} {osl : Array (Option Value)}
  (_ : (hd.heap_39 p).lookup f = some ⟨oc, od, .func (fnX name qual params (.For tg it (s1 :: s2 :: s3 :: body) els ps :: rest) scope [] dV kV doc pm an cdv ct), osl⟩) : List Stmt := body
noncomputable def lawR5 (w : World) : List Stmt := pickFor1r5 (f := 382) (p := w.params) (by k_is)
noncomputable def lawR4 (w : World) : List Stmt := pickFor1r4 (f := 382) (p := w.params) (by k_is)
noncomputable def lawR3 (w : World) : List Stmt := pickFor1r3 (f := 382) (p := w.params) (by k_is)


section
variable {prog : Program} {w : World} {A : Around} {s : Shared} {g : Heap} {L fa : Addr} {m mg mb : Str → Option Value} {p : Program} {loose : List Str} {mean : ExcName → Option Value}
theorem law_turn3 {h Z : Heap} {tk : Nat} {I ax scr src tr dt rl rw : Addr} {it lo o3 o2 o1 : Obj} {vt : Value} {v2 v1 : Option Value} {b x : Int} {t1 t2 : Tok} {ns r : Nat} {ps1 ps2 ps3 : Array Value} {tl0 tl : List (Addr × Obj)} {tlv tr9 u1 : Tok} {lv : Str} {nds : List Nd} {as : List Addr} {TT : List (Option Nat × Str)} {st : List Nat} {Q : Flow → Shared → Prop}
    (R : Room A 30) (O : Ok w g) (X : (hd.heap_39 w.params).In g) (T : Top p loose mean mg mb g) (C1 : CodeHd g 27 23) (C3 : CodeHd g 381 379) (hlv : isLv lv) (F : Fr g L h m)
    (m1 : m (Str.ofString "source") = some (.ref src)) (m2 : m (Str.ofString "tree") = some (.ref tr)) (m3 : m (Str.ofString "level") = some (.str lv tlv)) (m4 : m (Str.ofString "rows") = some (.ref rw)) (m5 : m (Str.ofString "at") = some (.int (r : Int) tr9)) (m6 : m (Str.ofString "node") = some (.int (r : Int) u1)) (m7 : m (Str.ofString "script") = some (.ref scr))
    (N : News g L h ((I, it) :: (ax, lo) :: (L + 1 + 1 + 1, o3) :: (L + 1 + 1, o2) :: (L + 1, o1) :: (src, srcObj b x t1 t2 ns) :: (374, tabObj ps2) :: (23, tabObj ps1) :: (379, tabObj ps3) :: tl)) (ncI : NoCode h I) (ncx : NoCode h ax)
    (c3 : o3.data = .cell (some vt)) (c2 : o2.data = .cell v2) (c1 : o1.data = .cell v1) (hs : SrcOk b x) (TL1 : TabL g tl LLike ps1) (TL2 : TabL g tl LAtt ps2) (TL3 : TabL g tl LLaw ps3)
    (hIx : @Ne Nat I ax) (i1 : @Ne Nat (L + 1 + 1 + 1) I) (i2 : @Ne Nat (L + 1 + 1) I) (i3 : @Ne Nat (L + 1) I) (i4 : @Ne Nat src I) (i5 : @Ne Nat 374 I) (i6 : @Ne Nat 23 I) (i7 : @Ne Nat 379 I)
    (j1 : @Ne Nat (L + 1 + 1 + 1) ax) (j2 : @Ne Nat (L + 1 + 1) ax) (j3 : @Ne Nat (L + 1) ax) (j4 : @Ne Nat src ax) (j5 : @Ne Nat 374 ax) (j6 : @Ne Nat 23 ax) (j7 : @Ne Nat 379 ax)
    (f1 : @LT.lt Nat _ 374 L) (f2 : @LT.lt Nat _ 23 L) (f3 : @LT.lt Nat _ 379 L) (g1 : @Ne Nat src (L + 1 + 1 + 1)) (g2 : @Ne Nat src (L + 1 + 1)) (g3 : @Ne Nat src (L + 1)) (g4 : @Ne Nat src 374) (g5 : @Ne Nat src 23) (g6 : @Ne Nat src 379) (hof : ∀ a ∈ [I, ax, L + 1 + 1 + 1, L + 1 + 1, L + 1, src, 374, 23, 379], ∀ q ∈ tl, @Ne Nat q.1 a)
    (sub0 : ∀ q ∈ tl0, q ∈ tl) (ZI : ZIn g tl Z) (S : TreeSt Z tr dt rl rw nds as TT) (G : Grow nds TT st) (hn10 : nds.length ≤ 10) (hr : r < nds.length)
    (K : ∀ h' tk' m' news', Fr g L h' m' → News g L h' ((I, it) :: (ax, lo) :: news') → (∀ q ∈ news', @Ne Nat q.1 I) → (∀ q ∈ news', @Ne Nat q.1 ax) → JLaw g L scr src tr rw o3 ps2 tl0 m' news' → Q .next { s with heap := h', toks := tk' }) :
    wpAny (model prog w) A (execs (lawLike w) (lawEnv w L fa)) Q (fun _ _ => False) { s with heap := h, toks := tk } := by
  unfold lawLike lawEnv
  dsimp only [pickFor2r5, pickEnvA]
  have hofs := hof
  have k1 := fhead hofs
  replace hofs := ftail hofs
  have k2 := fhead hofs
  replace hofs := ftail hofs
  have k3 := fhead hofs
  replace hofs := ftail hofs
  have k4 := fhead hofs
  replace hofs := ftail hofs
  have k5 := fhead hofs
  replace hofs := ftail hofs
  have k6 := fhead hofs
  replace hofs := ftail hofs
  have k7 := fhead hofs
  replace hofs := ftail hofs
  have k8 := fhead hofs
  replace hofs := ftail hofs
  have k9 := fhead hofs
  clear hofs
  (try dsimp only at k1 k2 k3 k4 k5 k6 k7 k8 k9)
  obtain ⟨⟨as', epr', e1, hal, hrow⟩, hsm⟩ := S.rows
  have hTl : TT.length = nds.length := G.m.len
  have hsz : (List.map Value.ref as').toArray.size = nds.length := by rw [List.size_toArray, List.length_map, hal, hTl]
  obtain ⟨a1, u9, vp1, ul1, n1, hk1, e4, hv1⟩ := rows_get hal hrow (show r < TT.length by omega)
  have eI := News.get N (.head _)
  have ex := News.get N (.tail _ (.head _))
  k_extra "m_walk9"
  rename Fr g L _ _ => F1
  rename News g L _ _ => N1
  rename_i lw _ ql
  have st1 := ZI.stays F1 N1 fun q hq => by k_extra "m_subx"
  refine kept_step F1 N1 (due_spec (T := TT) (ws := [labT TT r]) (k := r) hlv (R.less (by exact Nat.le_of_ble_eq_true rfl)) O F1.keep (S.rows.keeps st1) ⟨[_], _, News.get N1 (.head _), .cons _ _ .nil⟩ (parT_lt G.m) (by omega)) fun v h2 tk2 F2 N2 st2 r2 => ?_
  obtain ⟨ld, ⟨vd⟩, epd, rfl, hd1, hd2, hd3⟩ := r2
  replace hd3 : IntsAre vd _ := hd3
  have qd := news_apart N1 hd1
  have N3 := news_made F1 N1 st2 hd1 hd2
  replace qd := ftail qd
  have d1 := fhead qd
  replace qd := ftail qd
  have d2 := fhead qd
  replace qd := ftail qd
  have d3 := fhead qd
  replace qd := ftail qd
  have d4 := fhead qd
  replace qd := ftail qd
  have d5 := fhead qd
  replace qd := ftail qd
  have d6 := fhead qd
  replace qd := ftail qd
  have d7 := fhead qd
  replace qd := ftail qd
  have d8 := fhead qd
  replace qd := ftail qd
  have d9 := fhead qd
  replace qd := ftail qd
  clear qd
  (try dsimp only at d1 d2 d3 d4 d5 d6 d7 d8 d9)
  obtain ⟨tlw, N4, sw, mld, mlw, ow⟩ := tail2 N3
  have hofw : ∀ a ∈ [I, ax, L + 1 + 1 + 1, L + 1 + 1, L + 1, src, 374, 23, 379], ∀ q ∈ tlw, @Ne Nat q.1 a := by
    exact fcons (ow I (Ne.symm d1) ((by k_ne)) k1) (fcons (ow ax (Ne.symm d2) ((by k_ne)) k2) (fcons (ow (L + 1 + 1 + 1) (Ne.symm d3) ((by k_ne)) k3) (fcons (ow (L + 1 + 1) (Ne.symm d4) ((by k_ne)) k4) (fcons (ow (L + 1) (Ne.symm d5) ((by k_ne)) k5) (fcons (ow src (Ne.symm d6) ((by k_ne)) k6) (fcons (ow 374 (Ne.symm d7) ((by k_ne)) k7) (fcons (ow 23 (Ne.symm d8) ((by k_ne)) k8) (fcons (ow 379 (Ne.symm d9) ((by k_ne)) k9) fnil))))))))
  clear k1 k2 k3 k4 k5 k6 k7 k8 k9 ow d1 d2 d3 d4 d5 d6 d7 d8 d9 N3 N2 mlw ql
  have hofs := hofw
  have k1 := fhead hofs
  replace hofs := ftail hofs
  have k2 := fhead hofs
  replace hofs := ftail hofs
  have k3 := fhead hofs
  replace hofs := ftail hofs
  have k4 := fhead hofs
  replace hofs := ftail hofs
  have k5 := fhead hofs
  replace hofs := ftail hofs
  have k6 := fhead hofs
  replace hofs := ftail hofs
  have k7 := fhead hofs
  replace hofs := ftail hofs
  have k8 := fhead hofs
  replace hofs := ftail hofs
  have k9 := fhead hofs
  clear hofs
  (try dsimp only at k1 k2 k3 k4 k5 k6 k7 k8 k9)
  k_extra "m_walk9"
  rename Fr g L _ _ => F5
  rename News g L _ _ => N5
  have ZIw := ZI.mono sw
  have st5 := ZIw.stays F5 N5 fun q hq => by k_extra "m_subx"
  have e23 := News.get N5 (show (23, tabObj ps1) ∈ _ from .tail _ (.tail _ (.tail _ (.tail _ (.tail _ (.tail _ (.tail _ (.head _))))))))
  have TB5 : TabOk 23 LLike _ := (TL1.mono sw).ok F5 N5 (fun q hq => by k_extra "m_subx") e23
  refine turned_step (α := Value) (like_spec (R.less (by exact Nat.le_of_ble_eq_true rfl)) O F5.keep C1 (News.fresh N5 (show (23, tabObj ps1) ∈ _ from .tail _ (.tail _ (.tail _ (.tail _ (.tail _ (.tail _ (.tail _ (.head _))))))))) (S.tree.at_.keeps st5) hr TB5) fun v h6 tk6 cc6 r6 => ?_
  obtain ⟨fv, rfl, hfv, hP, hTB⟩ := r6
  obtain ⟨ps5, e5, ht5, _⟩ := id hTB
  have F6 := fr_turned F5 N5 (show (23, tabObj ps1) ∈ _ from .tail _ (.tail _ (.tail _ (.tail _ (.tail _ (.tail _ (.tail _ (.head _)))))))) cc6
  have N6 := news_turned N5 (by k_updF) cc6 e5
  obtain ⟨tl6, N7, ZI7, of7, sb7, tb7⟩ := freeze (front := [_, _, _, _, _, _, _, _, _]) F6 N6
  have sub7 : ∀ q ∈ tlw, q ∈ tl6 := fun q hq => sb7 q hq (by
    exact fcons (k1 q hq) (fcons (k2 q hq) (fcons (k3 q hq) (fcons (k4 q hq) (fcons (k5 q hq) (fcons (k6 q hq) (fcons (k7 q hq) (fcons (k8 q hq) (fcons (k9 q hq) fnil)))))))))
  clear sb7
  replace N7 : News g L h6 ((I, it) :: (ax, lo) :: (L + 1 + 1 + 1, o3) :: (L + 1 + 1, o2) :: (L + 1, o1) :: (src, srcObj b x t1 t2 ns) :: (374, tabObj ps2) :: (23, tabObj ps5) :: (379, tabObj ps3) :: tl6) := N7
  have nc9 : ∀ q ∈ [(I, it), (ax, lo), (L + 1 + 1 + 1, o3), (L + 1 + 1, o2), (L + 1, o1), (src, srcObj b x t1 t2 ns), (374, tabObj ps2), (23, tabObj ps5), (379, tabObj ps3)], NoCode h6 q.1 := by
    exact fcons (noCode_same ncI eI (News.get N7 (.head _))) (fcons (noCode_same ncx ex (News.get N7 (.tail _ (.head _)))) (fcons (noCode_cell (News.get N7 (.tail _ (.tail _ (.head _)))) c3) (fcons (noCode_cell (News.get N7 (.tail _ (.tail _ (.tail _ (.head _))))) c2) (fcons (noCode_cell (News.get N7 (.tail _ (.tail _ (.tail _ (.tail _ (.head _)))))) c1) (fcons (noCode_list (News.get N7 (.tail _ (.tail _ (.tail _ (.tail _ (.tail _ (.head _)))))))) (fcons (noCode_tab (News.get N7 (.tail _ (.tail _ (.tail _ (.tail _ (.tail _ (.tail _ (.head _)))))))) TL2.1) (fcons (noCode_tab e5 ht5) (fcons (noCode_tab (News.get N7 (.tail _ (.tail _ (.tail _ (.tail _ (.tail _ (.tail _ (.tail _ (.tail _ (.head _)))))))))) TL3.1) fnil))))))))
  obtain ⟨psA, eA, TLA⟩ := tb7 23 LLike hTB nc9
  rw [e5] at eA; cases eA
  have st6 := ZIw.stays F6 N6 fun q hq => by k_extra "m_subx"
  have gL : g.get? L = none := Heap.get?_none_of_le F6.above
  have hZ9 : ∀ a ∈ [L, I, ax, L + 1 + 1 + 1, L + 1 + 1, L + 1, src, 374, 23, 379], Z.get? a = none := fun a ha => by
    rcases List.mem_cons.mp ha with hq | hq
    · rw [hq]; exact z_none ZIw gL fun q hq => (N6 q (by k_extra "m_subx")).2.1
    · refine z_none ZIw (front_none (front := [(I, it), (ax, lo), (L + 1 + 1 + 1, o3), (L + 1 + 1, o2), (L + 1, o1), (src, srcObj b x t1 t2 ns), (374, tabObj ps2), (23, tabObj ps5), (379, tabObj ps3)]) N7 hq) (hofw a hq)
  have SZ7 : TreeAt (hideAll h6 [L, I, ax, L + 1 + 1 + 1, L + 1 + 1, L + 1, src, 374, 23, 379]) tr rl nds := S.tree.at_.keeps fun b o e => hideAll_get _ (st6 b o e) fun q => by rw [hZ9 b q] at e; cases e
  have PL7 := hP _ (fun b o e => of_hideAll _ e) (base_Z (ms := [I, ax, L + 1 + 1 + 1, L + 1 + 1, L + 1, src, 374, 23, 379]) F6 fun a ha => front_none (front := [(I, it), (ax, lo), (L + 1 + 1 + 1, o3), (L + 1 + 1, o2), (L + 1, o1), (src, srcObj b x t1 t2 ns), (374, tabObj ps2), (23, tabObj ps5), (379, tabObj ps3)]) N7 ha)
    SZ7
    (fun bb oo e1 e2 => hideAll_get _ e2 (front_off (front := [(I, it), (ax, lo), (L + 1 + 1 + 1, o3), (L + 1 + 1, o2), (L + 1, o1), (src, srcObj b x t1 t2 ns), (374, tabObj ps2), (23, tabObj ps1), (379, tabObj ps3)]) F5 N5 e1))
    (fun c xc => xc.at fun o e => hideAll_get _ e fun q => by
      rcases List.mem_cons.mp q with q | q
      · exact noCode_L F6 _ (q ▸ xc)
      · obtain ⟨q', hq', hq2⟩ := List.mem_map.mp (show c ∈ [(I, it), (ax, lo), (L + 1 + 1 + 1, o3), (L + 1 + 1, o2), (L + 1, o1), (src, srcObj b x t1 t2 ns), (374, tabObj ps2), (23, tabObj ps5), (379, tabObj ps3)].map (·.1) from q)
        exact nc9 q' hq' _ (hq2 ▸ xc))
  simp only [List.map_cons, List.map_nil] at ZI7
  have of7' := of7
  have p1 := fhead of7'
  replace of7' := ftail of7'
  have p2 := fhead of7'
  replace of7' := ftail of7'
  have p3 := fhead of7'
  replace of7' := ftail of7'
  have p4 := fhead of7'
  replace of7' := ftail of7'
  have p5 := fhead of7'
  replace of7' := ftail of7'
  have p6 := fhead of7'
  replace of7' := ftail of7'
  have p7 := fhead of7'
  replace of7' := ftail of7'
  have p8 := fhead of7'
  replace of7' := ftail of7'
  have p9 := fhead of7'
  clear of7'
  (try dsimp only at p1 p2 p3 p4 p5 p6 p7 p8 p9)
  have TL2' := TL2.mono fun q hq => sub7 q (sw q hq)
  have TL3' := TL3.mono fun q hq => sub7 q (sw q hq)
  have mld' := sub7 _ mld
  (try clear N4)
  clear tb7 hP nc9 N5 N6 F5 e23 TB5 hTB st5 st6 cc6 k1 k2 k3 k4 k5 k6 k7 k8 k9 st1 st2 hd1 hd2 hZ9 hofw TL3
  k_extra "m_walk9"
  rename_i fb ca psa tla ctva ha tka Fa l2a suba TLa oca vsa tta hsta hda hwa Na l1a z1a offa
  have PF := pred_false (prog := prog) (n := nds.length) O Fa.keep (News.get Na (.head _)) ⟨ca, oca, vsa, tta, rfl, hsta.get Fa Na (fun q hq => by k_extra "m_subx"), hda, hwa⟩
  have stB := (ZI7.mono suba).stays Fa Na fun q hq => by k_extra "m_subx"
  have hkn : atKind (kindN nds r) = false := match_kind G.m hr
  have he : endN nds r = r := by
    unfold endN
    rw [if_neg (by rw [hkn]; exact Bool.false_ne_true)]
  refine kept_step Fa Na (counted_spec (n := nds.length) hlv (R.less (by exact Nat.le_of_ble_eq_true rfl)) O Fa.keep (SZ7.keeps stB) G.wf (pre_of G.m (by omega)) hr (by rw [he]; exact hr) (Nat.le_refl _) (fun h => by rw [hkn] at h; cases h) (PL7.keeps stB) PF) fun v h' tk' F' N' st' r' => ?_
  obtain ⟨l, ⟨yl⟩, ep', rfl, hl1, hl2, hl3⟩ := r'
  rw [num_due G.wf.parLt G.m hr (fun j hj => like_eq G.m hr hj) (fun j hj => (none_eq G.m hj).symm) hlv] at hl3
  have N9 := news_made Fa Na st' hl1 hl2
  replace hl3 : IntsAre yl _ := hl3
  have mld9 := suba _ mld'
  have ofa := fun q hq => offa q hq (of7 q hq)
  have p1 := fhead ofa
  replace ofa := ftail ofa
  have p2 := fhead ofa
  replace ofa := ftail ofa
  have p3 := fhead ofa
  replace ofa := ftail ofa
  have p4 := fhead ofa
  replace ofa := ftail ofa
  have p5 := fhead ofa
  replace ofa := ftail ofa
  have p6 := fhead ofa
  replace ofa := ftail ofa
  have p7 := fhead ofa
  replace ofa := ftail ofa
  have p8 := fhead ofa
  replace ofa := ftail ofa
  have p9 := fhead ofa
  clear ofa
  (try dsimp only at p1 p2 p3 p4 p5 p6 p7 p8 p9)
  clear N' Fa Na PF PL7 stB offa of7
  k_extra "m_walk9"
  rename Fr g L _ _ => F10
  rename News g L _ _ => N10
  refine ne_intsK (isList_of (News.get N10 (.head _))) hl3 (isList_of (News.get N10 (by k_extra "m_suby"))) hd3 R.units64 ?_
  (try dsimp only)
  walk1
  (try dsimp only)
  refine ite_neg (by simp) ?_
  k_extra "m_walk9"
  rename Fr g L _ _ => F11
  refine K _ _ _ ((L + 1 + 1 + 1, o3) :: (L + 1 + 1, o2) :: (L + 1, o1) :: (src, srcObj b x t1 t2 ns) :: (374, tabObj ps2) :: (23, tabObj ps5) :: (379, tabObj psa) :: tla) F11 (news_drop N10 fun q hq => .tail _ (.tail _ hq)) (by exact fcons i1 (fcons i2 (fcons i3 (fcons i4 (fcons i5 (fcons i6 (fcons i7 p1))))))) (by exact fcons j1 (fcons j2 (fcons j3 (fcons j4 (fcons j5 (fcons j6 (fcons j7 p2)))))))
    ⟨o2, o1, v2, v1, b, x, t1, t2, ns, ps5, psa, tla, rfl, c2, c1, hs, TL2'.mono suba, TLA.mono suba, TLa, fun q hq => suba q (sub7 q (sw q (sub0 q hq))), by exact fcons p3 (fcons p4 (fcons p5 (fcons p6 (fcons p7 (fcons p8 (fcons p9 fnil)))))), by k_extra "m_lk", by k_extra "m_lk", by k_extra "m_lk", by k_extra "m_lk"⟩
end


theorem tail1 {g h : Heap} {L : Addr} {a f1 f2 f3 f4 f5 f6 f7 f8 f9 : Addr × Obj} {tl : List (Addr × Obj)} (N : News g L h (a :: f1 :: f2 :: f3 :: f4 :: f5 :: f6 :: f7 :: f8 :: f9 :: tl)) :
    ∃ tlw, News g L h (f1 :: f2 :: f3 :: f4 :: f5 :: f6 :: f7 :: f8 :: f9 :: tlw) ∧ (∀ q ∈ tl, q ∈ tlw) ∧ a ∈ tlw ∧ (∀ x : Addr, @Ne Nat a.1 x → (∀ q ∈ tl, @Ne Nat q.1 x) → ∀ q ∈ tlw, @Ne Nat q.1 x) := by
  refine ⟨a :: tl, fun p hp => N p ?_, fun q hq => by k_extra "m_subx", by k_mem, fun x h1 h2 => ?_⟩
  · iterate 10 (
      rcases List.mem_cons.mp hp with hz | hp
      · rw [hz]; k_mem)
    k_extra "m_subx"
  · exact fcons h1 h2
theorem word_W3_1 : True := by
  (k_with "m_walkA" => (try dsimp only); repeat' (k_extra "m_hold6"; k_extra "m_hold9"; k_extra "m_hold4"; k_extra "m_hold3"; k_extra "m_hold"; (first | (k_unfold; (try clear ek qk)) | walk1); (try dsimp only); (try k_extra "m_fold")))
  exact True.intro
section
variable {prog : Program} {w : World} {A : Around} {s : Shared} {g : Heap} {L fa : Addr} {m mg mb : Str → Option Value} {p : Program} {loose : List Str} {mean : ExcName → Option Value}
theorem law_turn2 {h Z : Heap} {tk : Nat} {I ax scr src tr dt rl rw td nm : Addr} {it lo o3 o2 o1 : Obj} {b x : Int} {t1 t2 : Tok} {ns r : Nat} {ps1 ps2 ps3 : Array Value} {tl0 tl : List (Addr × Obj)} {tlv tr9 u1 tb : Tok} {lv bg : Str} {ws : List Str} {wvs : List Value} {wep : Nat} {nds : List Nd} {as : List Addr} {TT : List (Option Nat × Str)} {st : List Nat} {Q : Flow → Shared → Prop}
    (R : Room A 30) (O : Ok w g) (X : (hd.heap_39 w.params).In g) (T : Top p loose mean mg mb g) (C1 : CodeHd g 27 23) (C3 : CodeHd g 381 379) (hlv : isLv lv) (F : Fr g L h m)
    (m1 : m (Str.ofString "source") = some (.ref src)) (m2 : m (Str.ofString "tree") = some (.ref tr)) (m3 : m (Str.ofString "level") = some (.str lv tlv)) (m4 : m (Str.ofString "rows") = some (.ref rw)) (m5 : m (Str.ofString "at") = some (.int (r : Int) tr9)) (m6 : m (Str.ofString "node") = some (.int (r : Int) u1)) (m7 : m (Str.ofString "script") = some (.ref scr))
    (N : News g L h ((I, it) :: (ax, lo) :: (L + 1 + 1 + 1, o3) :: (L + 1 + 1, o2) :: (L + 1, o1) :: (src, srcObj b x t1 t2 ns) :: (374, tabObj ps2) :: (23, tabObj ps1) :: (379, tabObj ps3) :: tl)) (ncI : NoCode h I) (ncx : NoCode h ax)
    (c3 : o3.data = .cell (some (.ref td))) (c2 : o2.data = .cell (some (.ref nm))) (c1 : o1.data = .cell (some (.str bg tb))) (hs : SrcOk b x) (TL1 : TabL g tl LLike ps1) (TL2 : TabL g tl LAtt ps2) (TL3 : TabL g tl LLaw ps3)
    (hIx : @Ne Nat I ax) (i1 : @Ne Nat (L + 1 + 1 + 1) I) (i2 : @Ne Nat (L + 1 + 1) I) (i3 : @Ne Nat (L + 1) I) (i4 : @Ne Nat src I) (i5 : @Ne Nat 374 I) (i6 : @Ne Nat 23 I) (i7 : @Ne Nat 379 I)
    (j1 : @Ne Nat (L + 1 + 1 + 1) ax) (j2 : @Ne Nat (L + 1 + 1) ax) (j3 : @Ne Nat (L + 1) ax) (j4 : @Ne Nat src ax) (j5 : @Ne Nat 374 ax) (j6 : @Ne Nat 23 ax) (j7 : @Ne Nat 379 ax)
    (f1 : @LT.lt Nat _ 374 L) (f2 : @LT.lt Nat _ 23 L) (f3 : @LT.lt Nat _ 379 L) (g1 : @Ne Nat src (L + 1 + 1 + 1)) (g2 : @Ne Nat src (L + 1 + 1)) (g3 : @Ne Nat src (L + 1)) (g4 : @Ne Nat src 374) (g5 : @Ne Nat src 23) (g6 : @Ne Nat src 379) (hof : ∀ a ∈ [I, ax, L + 1 + 1 + 1, L + 1 + 1, L + 1, src, 374, 23, 379], ∀ q ∈ tl, @Ne Nat q.1 a)
    (hnm : (nm, PySem.W.listOf wvs.toArray wep) ∈ tl) (hws : StrsAre wvs ws)
    (sub0 : ∀ q ∈ tl0, q ∈ tl) (ZI : ZIn g tl Z) (S : TreeSt Z tr dt rl rw nds as TT) (TO : ToldAt prog w Z td (TT.map (·.2))) (G : Grow nds TT st) (hn10 : nds.length ≤ 10) (hr : r < nds.length)
    (K : ∀ h' tk' m' news', Fr g L h' m' → News g L h' ((I, it) :: (ax, lo) :: news') → (∀ q ∈ news', @Ne Nat q.1 I) → (∀ q ∈ news', @Ne Nat q.1 ax) → JLaw g L scr src tr rw o3 ps2 tl0 m' news' → Q .next { s with heap := h', toks := tk' }) :
    wpAny (model prog w) A (execs (lawDue w) (lawEnv w L fa)) Q (fun _ _ => False) { s with heap := h, toks := tk } := by
  unfold lawDue lawEnv
  dsimp only [pickFor2r3, pickEnvA]
  have hofs := hof
  have k1 := fhead hofs
  replace hofs := ftail hofs
  have k2 := fhead hofs
  replace hofs := ftail hofs
  have k3 := fhead hofs
  replace hofs := ftail hofs
  have k4 := fhead hofs
  replace hofs := ftail hofs
  have k5 := fhead hofs
  replace hofs := ftail hofs
  have k6 := fhead hofs
  replace hofs := ftail hofs
  have k7 := fhead hofs
  replace hofs := ftail hofs
  have k8 := fhead hofs
  replace hofs := ftail hofs
  have k9 := fhead hofs
  clear hofs
  (try dsimp only at k1 k2 k3 k4 k5 k6 k7 k8 k9)
  have hTl : TT.length = nds.length := G.m.len
  have eI := News.get N (.head _)
  have ex := News.get N (.tail _ (.head _))
  k_extra "m_walk9"
  rename Fr g L _ _ => F1
  rename News g L _ _ => N1
  have st1 := ZI.stays F1 N1 fun q hq => by k_extra "m_subx"
  refine kept_step F1 N1 (due_spec (T := TT) (ws := ws) (k := r) hlv (R.less (by exact Nat.le_of_ble_eq_true rfl)) O F1.keep (S.rows.keeps st1) ⟨wvs, wep, News.get N1 (by k_extra "m_suby"), hws⟩ (parT_lt G.m) (by omega)) fun v h2 tk2 F2 N2 st2 r2 => ?_
  obtain ⟨ld, ⟨vd⟩, epd, rfl, hd1, hd2, hd3⟩ := r2
  replace hd3 : IntsAre vd _ := hd3
  have qd := news_apart N1 hd1
  have N3 := news_made F1 N1 st2 hd1 hd2
  have d1 := fhead qd
  replace qd := ftail qd
  have d2 := fhead qd
  replace qd := ftail qd
  have d3 := fhead qd
  replace qd := ftail qd
  have d4 := fhead qd
  replace qd := ftail qd
  have d5 := fhead qd
  replace qd := ftail qd
  have d6 := fhead qd
  replace qd := ftail qd
  have d7 := fhead qd
  replace qd := ftail qd
  have d8 := fhead qd
  replace qd := ftail qd
  have d9 := fhead qd
  replace qd := ftail qd
  clear qd
  (try dsimp only at d1 d2 d3 d4 d5 d6 d7 d8 d9)
  obtain ⟨tlw, N4, sw, mld, ow⟩ := tail1 N3
  have hofw : ∀ a ∈ [I, ax, L + 1 + 1 + 1, L + 1 + 1, L + 1, src, 374, 23, 379], ∀ q ∈ tlw, @Ne Nat q.1 a := by
    exact fcons (ow I (Ne.symm d1) k1) (fcons (ow ax (Ne.symm d2) k2) (fcons (ow (L + 1 + 1 + 1) (Ne.symm d3) k3) (fcons (ow (L + 1 + 1) (Ne.symm d4) k4) (fcons (ow (L + 1) (Ne.symm d5) k5) (fcons (ow src (Ne.symm d6) k6) (fcons (ow 374 (Ne.symm d7) k7) (fcons (ow 23 (Ne.symm d8) k8) (fcons (ow 379 (Ne.symm d9) k9) fnil))))))))
  clear k1 k2 k3 k4 k5 k6 k7 k8 k9 ow d1 d2 d3 d4 d5 d6 d7 d8 d9 N3 N2 hof
  have hofs := hofw
  have k1 := fhead hofs
  replace hofs := ftail hofs
  have k2 := fhead hofs
  replace hofs := ftail hofs
  have k3 := fhead hofs
  replace hofs := ftail hofs
  have k4 := fhead hofs
  replace hofs := ftail hofs
  have k5 := fhead hofs
  replace hofs := ftail hofs
  have k6 := fhead hofs
  replace hofs := ftail hofs
  have k7 := fhead hofs
  replace hofs := ftail hofs
  have k8 := fhead hofs
  replace hofs := ftail hofs
  have k9 := fhead hofs
  clear hofs
  (try dsimp only at k1 k2 k3 k4 k5 k6 k7 k8 k9)
  have hnm' := sw _ hnm
  have ZIw := ZI.mono sw
  have TL3' := TL3.mono sw
  clear N1 F1
  (try clear N)
  k_extra "m_walkA"
  rename_i fna ca psa tla ctva ha tka l2a suba TLa oca vsa tta hsta hda hwa l1a z1a offa fnb cb psb tlb ctvb hb tkb Fb l2b subb TLb ocb vsb ttb hstb hdb hwb Nb l1b z1b offb
  have sAB : ∀ q ∈ tlw, q ∈ tlb := fun q hq => subb q (suba q hq)
  have ZIb := ZIw.mono sAB
  have stZ := ZIb.stays Fb Nb fun q hq => by k_extra "m_subx"
  have hll : (TT.map (·.2)).length = nds.length := by rw [List.length_map, hTl]
  have To := TO.keeps stZ
  have hnm9 := sAB _ hnm'
  have Wb : WordsAt hb nm ws := ⟨wvs, wep, News.get Nb (by k_extra "m_suby"), hws⟩
  have PC := pred_in O Fb.keep (News.get Nb (.tail _ (.head _))) ⟨ca, oca, vsa, tta, rfl, (hsta.mono subb).get Fb Nb (fun q hq => by k_extra "m_subx"), hda, hwa⟩ (by with_unfolding_all exact rfl) (by with_unfolding_all exact rfl) (News.get Nb (by k_mem)) (News.get Nb (by k_mem)) c3 c2 To Wb
  have PB := pred_eq O Fb.keep (News.get Nb (.head _)) ⟨cb, ocb, vsb, ttb, rfl, hstb.get Fb Nb (fun q hq => by k_extra "m_subx"), hdb, hwb⟩ (by with_unfolding_all exact rfl) (by with_unfolding_all exact rfl) (News.get Nb (by k_mem)) (News.get Nb (by k_mem)) c3 c1 To
  rw [hll] at PC PB
  have hkn : atKind (kindN nds r) = false := match_kind G.m hr
  have he : endN nds r = r := by
    unfold endN
    rw [if_neg (by rw [hkn]; exact Bool.false_ne_true)]
  refine kept_step Fb Nb (counted_spec (n := nds.length) hlv (R.less (by exact Nat.le_of_ble_eq_true rfl)) O Fb.keep (S.tree.at_.keeps stZ) G.wf (pre_of G.m (by omega)) hr (by rw [he]; exact hr) (Nat.le_refl _) (fun h => by rw [hkn] at h; cases h) PC PB) fun v h' tk' F' N' st' r' => ?_
  obtain ⟨l, ⟨yl⟩, ep', rfl, hl1, hl2, hl3⟩ := r'
  rw [num_due G.wf.parLt G.m hr (fun j hj => by show inW ws _ = _; rw [lab_at0]; rfl) (fun j hj => by show (_ == bg) = _; rw [lab_at0]) hlv] at hl3
  have N9 := news_made Fb Nb st' hl1 hl2
  replace hl3 : IntsAre yl _ := hl3
  have mld9 := sAB _ mld
  have oo : ∀ a ∈ [I, ax, L + 1 + 1 + 1, L + 1 + 1, L + 1, src, 374, 23, 379], ∀ q ∈ tlb, @Ne Nat q.1 a := by
    exact fcons (offb (I, it) (by k_mem) (offa (I, it) (by k_mem) k1)) (fcons (offb (ax, lo) (by k_mem) (offa (ax, lo) (by k_mem) k2)) (fcons (offb (L + 1 + 1 + 1, o3) (by k_mem) (offa (L + 1 + 1 + 1, o3) (by k_mem) k3)) (fcons (offb (L + 1 + 1, o2) (by k_mem) (offa (L + 1 + 1, o2) (by k_mem) k4)) (fcons (offb (L + 1, o1) (by k_mem) (offa (L + 1, o1) (by k_mem) k5)) (fcons (offb (src, srcObj b x t1 t2 ns) (by k_mem) (offa (src, srcObj b x t1 t2 ns) (by k_mem) k6)) (fcons (offb (374, tabObj ps2) (by k_mem) (offa (374, tabObj ps2) (by k_mem) k7)) (fcons (offb (23, tabObj ps1) (by k_mem) (offa (23, tabObj ps1) (by k_mem) k8)) (fcons (offb (379, tabObj psa) (by k_mem) (offa (379, tabObj ps3) (by k_mem) k9)) fnil))))))))
  clear N' Fb Nb PC PB To Wb offa offb
  k_extra "m_walkA"
  rename Fr g L _ _ => F10
  rename News g L _ _ => N10
  refine ne_intsK (isList_of (News.get N10 (.head _))) hl3 (isList_of (News.get N10 (by k_extra "m_suby"))) hd3 R.units64 ?_
  (try dsimp only)
  walk1
  (try dsimp only)
  refine ite_neg (by simp) ?_
  k_extra "m_walkA"
  rename Fr g L _ _ => F11
  refine law_turn3 (b := b) (x := x) (t1 := t1) (t2 := t2) (ns := ns) R O X T C1 C3 hlv F11 (by k_extra "m_lk") (by k_extra "m_lk") (by k_extra "m_lk") (by k_extra "m_lk") (by k_extra "m_lk") (by k_extra "m_lk") (by k_extra "m_lk") (news_drop N10 fun q hq => .tail _ (.tail _ (.tail _ hq))) (noCode_same ncI eI (News.get N10 (.tail _ (.tail _ (.tail _ (.head _)))))) (noCode_same ncx ex (News.get N10 (.tail _ (.tail _ (.tail _ (.tail _ (.head _)))))))
    c3 c2 c1 hs ((TL1.mono sw).mono sAB) ((TL2.mono sw).mono sAB) TLb hIx i1 i2 i3 i4 i5 i6 i7 j1 j2 j3 j4 j5 j6 j7 f1 f2 f3 g1 g2 g3 g4 g5 g6 oo (fun q hq => sAB q (sw q (sub0 q hq))) ZIb S G hn10 hr K
end


section
variable {prog : Program} {w : World} {A : Around} {s : Shared} {g : Heap} {L fa : Addr} {m mg mb : Str → Option Value} {p : Program} {loose : List Str} {mean : ExcName → Option Value}
theorem law_turn {h Z : Heap} {tk : Nat} {I ax scr src td tr dt rl rw : Addr} {it lo o3 : Obj} {ps2 : Array Value} {tl0 news : List (Addr × Obj)} {tlv : Tok} {lv : Str} {nds : List Nd} {as : List Addr} {TT : List (Option Nat × Str)} {st : List Nat} {Q : Flow → Shared → Prop}
    (R : Room A 30) (O : Ok w g) (X : (hd.heap_39 w.params).In g) (T : Top p loose mean mg mb g) (C1 : CodeHd g 27 23) (C3 : CodeHd g 381 379) (hlv : isLv lv) (F : Fr g L h m) (m3 : m (Str.ofString "level") = some (.str lv tlv))
    (N : News g L h ((I, it) :: (ax, lo) :: news)) (hIx : @Ne Nat I ax) (hI : ∀ q ∈ news, @Ne Nat q.1 I) (hx : ∀ q ∈ news, @Ne Nat q.1 ax) (J : JLaw g L scr src tr rw o3 ps2 tl0 m news) (ncI : NoCode h I) (ncx : NoCode h ax)
    (c3 : o3.data = .cell (some (.ref td))) (f1 : @LT.lt Nat _ 374 L) (f2 : @LT.lt Nat _ 23 L) (f3 : @LT.lt Nat _ 379 L) (g1 : @Ne Nat src (L + 1 + 1 + 1)) (g2 : @Ne Nat src (L + 1 + 1)) (g3 : @Ne Nat src (L + 1)) (g4 : @Ne Nat src 374) (g5 : @Ne Nat src 23) (g6 : @Ne Nat src 379)
    (ZI : ZIn g tl0 Z) (hZ : ∀ a ∈ [L, L + 1 + 1 + 1, L + 1 + 1, L + 1, src, 374, 23, 379], Z.get? a = none) (S : TreeSt Z tr dt rl rw nds as TT) (TO : ToldAt prog w Z td (TT.map (·.2))) (G : Grow nds TT st) (hn10 : nds.length ≤ 10)
    (K : ∀ h' tk' m' news', Fr g L h' m' → News g L h' ((I, it) :: (ax, lo) :: news') → (∀ q ∈ news', @Ne Nat q.1 I) → (∀ q ∈ news', @Ne Nat q.1 ax) → JLaw g L scr src tr rw o3 ps2 tl0 m' news' → Q .next { s with heap := h', toks := tk' }) :
    wpAny (model prog w) A (execs (lawInner w) (lawEnv w L fa)) Q (fun _ _ => False) { s with heap := h, toks := tk } := by
  unfold lawInner lawEnv
  dsimp only [pickFor2, pickEnvA]
  obtain ⟨o2, o1, v2, v1, b, x, t1, t2, ns, ps1, ps3, tl, rfl, c2, c1, hs, TL2, TL1, TL3, sub0, hof, m1, m2, m4, m7⟩ := J
  have i1 := fhead hI
  replace hI := ftail hI
  have i2 := fhead hI
  replace hI := ftail hI
  have i3 := fhead hI
  replace hI := ftail hI
  have i4 := fhead hI
  replace hI := ftail hI
  have i5 := fhead hI
  replace hI := ftail hI
  have i6 := fhead hI
  replace hI := ftail hI
  have i7 := fhead hI
  replace hI := ftail hI
  have i8 := hI
  clear hI
  (try dsimp only at i1 i2 i3 i4 i5 i6 i7 i8)
  have j1 := fhead hx
  replace hx := ftail hx
  have j2 := fhead hx
  replace hx := ftail hx
  have j3 := fhead hx
  replace hx := ftail hx
  have j4 := fhead hx
  replace hx := ftail hx
  have j5 := fhead hx
  replace hx := ftail hx
  have j6 := fhead hx
  replace hx := ftail hx
  have j7 := fhead hx
  replace hx := ftail hx
  have j8 := hx
  clear hx
  (try dsimp only at j1 j2 j3 j4 j5 j6 j7 j8)
  have k1 := fhead hof
  replace hof := ftail hof
  have k2 := fhead hof
  replace hof := ftail hof
  have k3 := fhead hof
  replace hof := ftail hof
  have k4 := fhead hof
  replace hof := ftail hof
  have k5 := fhead hof
  replace hof := ftail hof
  have k6 := fhead hof
  replace hof := ftail hof
  have k7 := fhead hof
  clear hof
  (try dsimp only at k1 k2 k3 k4 k5 k6 k7)
  have ZI1 := ZI.mono sub0
  obtain ⟨epr, eRW⟩ := S.rw
  obtain ⟨⟨as', epr', e1, hal, hrow⟩, hsm⟩ := S.rows
  have hTl : TT.length = nds.length := G.m.len
  have hpos := G.m.pre.pos
  have hsz : (List.map Value.ref as').toArray.size = nds.length := by rw [List.size_toArray, List.length_map, hal, hTl]
  clear eRW
  have eI := News.get N (.head _)
  have ex := News.get N (.tail _ (.head _))
  k_extra "m_walk8"
  rename_i r tr9 _ _ b9 x9 t19 t29 n9 hr9 hs9 _ _ _
  replace hr9 : r < nds.length := by rw [← hsz]; exact hr9
  obtain ⟨a1, u1, vp1, ul1, n1, hk1, e4, hv1⟩ := rows_get hal hrow (show r < TT.length by omega)
  clear hs
  k_extra "m_walk8"
  rename_i tk7 _ _ _ la1 _ q1 la2 _ q2 la3 _ q3 la4 _ q4 la5 _ FF NN q5
  refine one_step (R.less (by exact Nat.le_of_ble_eq_true rfl)) O FF NN (by k_updF) hs9 (News.get NN (.head _)) (by k_ne) (by simp only [List.length_cons, List.length_nil]; omega) (by simp only [List.length_cons, List.length_nil]; omega) fun v r8 h7 tk8 b7 x7 t17 t27 n7 hv hs7 F7 N7 => ?_
  obtain ⟨tlw, N8, sw, ma, mb', mc, md, me, ow⟩ := tail5 N7
  have hw : ∃ nm ws vs ep, v = .ref nm ∧ (nm, PySem.W.listOf (List.toArray vs) ep) ∈ tlw ∧ StrsAre vs ws := by
    have hm := List.mem_of_getElem? hv
    simp only [List.mem_cons, List.not_mem_nil, or_false] at hm
    rcases hm with rfl | rfl | rfl | rfl
    · exact ⟨la1, _, _, _, rfl, me, strs_are rfl⟩
    · exact ⟨la2, _, _, _, rfl, md, strs_are rfl⟩
    · exact ⟨la3, _, _, _, rfl, mc, strs_are rfl⟩
    · exact ⟨la4, _, _, _, rfl, mb', strs_are rfl⟩
  obtain ⟨nm, ws, wvs, wep, rfl, hnm, hws⟩ := hw
  replace k1 := ow (L + 1 + 1 + 1) ((by k_ne)) ((by k_ne)) ((by k_ne)) ((by k_ne)) ((by k_ne)) k1
  replace k2 := ow (L + 1 + 1) ((by k_ne)) ((by k_ne)) ((by k_ne)) ((by k_ne)) ((by k_ne)) k2
  replace k3 := ow (L + 1) ((by k_ne)) ((by k_ne)) ((by k_ne)) ((by k_ne)) ((by k_ne)) k3
  replace k4 := ow src ((by k_ne)) ((by k_ne)) ((by k_ne)) ((by k_ne)) ((by k_ne)) k4
  replace k5 := ow 374 ((by k_ne)) ((by k_ne)) ((by k_ne)) ((by k_ne)) ((by k_ne)) k5
  replace k6 := ow 23 ((by k_ne)) ((by k_ne)) ((by k_ne)) ((by k_ne)) ((by k_ne)) k6
  replace k7 := ow 379 ((by k_ne)) ((by k_ne)) ((by k_ne)) ((by k_ne)) ((by k_ne)) k7
  replace i8 := ow I ((by k_ne)) ((by k_ne)) ((by k_ne)) ((by k_ne)) ((by k_ne)) i8
  replace j8 := ow ax ((by k_ne)) ((by k_ne)) ((by k_ne)) ((by k_ne)) ((by k_ne)) j8
  replace ZI1 := ZI1.mono sw
  replace TL1 := TL1.mono sw
  replace TL2 := TL2.mono sw
  replace TL3 := TL3.mono sw
  replace sub0 : ∀ q ∈ tl0, q ∈ tlw := fun q hq => sw q (sub0 q hq)
  clear ma mb' mc md me ow hv N7 NN FF q1 q2 q3 q4 q5 sw
  k_extra "m_walkA"
  rename Fr g L _ _ => F10
  rename News g L _ _ => N10
  rename_i on2 dn2 ln _ _ rr _ _ b10 x10 t110 t210 n10 hs10 bg tb hnb _ ob1 db1
  refine law_turn2 (b := b10) (x := x10) (t1 := t110) (t2 := t210) (ns := n10) (wvs := wvs) (wep := wep) R O X T C1 C3 hlv F10 (by k_extra "m_lk") (by k_extra "m_lk") (by k_extra "m_lk") (by k_extra "m_lk") (by k_extra "m_lk") (by k_extra "m_lk") (by k_extra "m_lk") (news_drop N10 fun q hq => .tail _ (.tail _ hq)) (noCode_same ncI eI (News.get N10 (.tail _ (.tail _ (.head _))))) (noCode_same ncx ex (News.get N10 (.tail _ (.tail _ (.tail _ (.head _))))))
    c3 dn2 db1 hs10 TL1 TL2 TL3 hIx i1 i2 i3 i4 i5 i6 i7 j1 j2 j3 j4 j5 j6 j7 f1 f2 f3 g1 g2 g3 g4 g5 g6 (by exact fcons i8 (fcons j8 (fcons k1 (fcons k2 (fcons k3 (fcons k4 (fcons k5 (fcons k6 (fcons k7 fnil))))))))) hnm hws sub0 ZI1 S TO G hn10 hr9 K
end


section
variable {prog : Program} {w : World} {A : Around} {E : Value → Shared → Prop} {s : Shared} {env : Env} {g : Heap} {x : Str} {body : List Stmt} {Q : Flow → Shared → Prop}

/-- a loop over a range; the ledger may grow -/
theorem iter_rangeN {r : Addr} {n : Nat} {t u v : Tok} {m₀ : Str → Option Value} {news : List (Addr × Obj)} {L : Addr} (hL : env.locals = L) (J : Nat → (Str → Option Value) → List (Addr × Obj) → Prop)
    (hh : A.handled = none) (hr : IsRange s.heap r 0 n 1 t u v) (hn : n ≤ 1000) (F : Fr g L s.heap m₀) (N : News g L s.heap news) (hj : J 0 m₀ news)
    (turn : ∀ i t m₁ news₁ h tk I it, i < n → (∀ p ∈ news₁, @Ne Nat p.1 I) → J i m₁ news₁ → Fr g L h (fun y => if y = x then some (.int (i : Int) t) else m₁ y) → News g L h ((I, it) :: news₁) → NoCode h I →
      wpAny (model prog w) A (execs body env) (InvPostH g L (J (i + 1)) [(I, it)] { s with heap := h, toks := tk } Q) E { s with heap := h, toks := tk })
    (done : ∀ m₁ news₁ h tk, J n m₁ news₁ → Fr g L h m₁ → News g L h news₁ → Q .next { s with heap := h, toks := tk }) :
    wpAny (model prog w) A (pyIter (.ref r)) (fun it s₂ => LoopAtV prog w A g env x body Q E it s₂) E s := by
  subst hL
  have hsz : Builtin.Range.rangeSize 0 n 1 = ((n : Nat) : Int) := by simp [Builtin.Range.rangeSize]; omega
  refine wpAny_pyIter_range hr (by simp [Builtin.Range.small, hsz, Builtin.Range.rangeFitsLong]; omega) ?_
  rw [hsz]
  have W := LCg.range_walks (prog := prog) (w := w) (I := s.heap.objs.size) hh 0 n
  refine ⟨_, _, _, n, _, _, m₀, news, J, rfl, W, ?_, ?_, ?_, ?_, F.push _, (fun p hp => ⟨Heap.get?_push_of_some _ (N p hp).1, (N p hp).2⟩), hj, ?_, ?_⟩
  · intro hm
    exact absurd F.ns.lt ((List.mem_singleton.mp hm) ▸ Nat.lt_irrefl _)
  · intro b hb
    rw [List.mem_singleton.mp hb]
    exact next_is_new F
  · intro p hp hI
    exact absurd (Heap.lt_size (N p hp).1) ((List.mem_singleton.mp hI) ▸ Nat.lt_irrefl _)
  · show Heap.get? _ _ = some _
    rw [Heap.get?_push_size _ rfl]
    simp
  · rintro i v m₁ news₁ s₁ own ⟨hh', tk', rfl⟩ hin ⟨t, hP⟩ hJ hoff hown hget hall hst F₁ N₁
    obtain ⟨it0, hst'⟩ : ∃ it0 : Obj, hh'.get? s.heap.objs.size = some it0 := ⟨_, hst⟩
    have nc1 : NoCode hh' s.heap.objs.size := fun q ⟨c, o', vs, t, e1, e2, e3, e4⟩ => by
      cases e1; rw [show hh'.get? s.heap.objs.size = some _ from hst] at e2; cases e2; cases e3; cases e4
    have hmemI := hall s.heap.objs.size (List.mem_cons_self ..) (next_is_new F) _ hst'
    rw [Int.zero_add] at hP
    subst hP
    have hne : ∀ p ∈ news₁, @Ne Nat p.1 s.heap.objs.size := fun p hp q => hoff p hp (List.mem_singleton.mpr q)
    have N₂ : News g env.locals hh' ((s.heap.objs.size, it0) :: news₁) := fun p hp => by
      rcases List.mem_cons.mp hp with rfl | hp
      · exact N₁ _ (List.mem_append_left _ hmemI)
      · exact N₁ p (List.mem_append_right _ hp)
    refine wpAny_mono (turn i t m₁ news₁ hh' tk' _ _ hin hne hJ F₁ N₂ nc1) (fun f s₂ p => ?_) fun _ _ e => e
    have fin : InvEndH g env.locals (J (i + 1)) [(s.heap.objs.size, it0)] { s with heap := hh', toks := tk' } s₂ → LoopStepU g env.locals [s.heap.objs.size] own (J (i + 1)) { s with heap := hh', toks := tk' } .next s₂ := by
      rintro ⟨h', tk, m', news', nx, e, F', N', hn, ho, ha, hm⟩
      refine ⟨rfl, h', tk, m', nx, e, F', fun p hp => ?_, fun p hp hq => ha p hp _ (.head _) (List.mem_singleton.mp hq), hm⟩
      rcases List.mem_append.mp hp with hp | hp
      · have h1 := List.mem_singleton.mp (hown p hp)
        have h2 := hget p hp
        rw [h1, hst'] at h2
        have h3 : p = (s.heap.objs.size, it0) := Prod.ext h1 (Option.some.inj h2).symm
        rw [h3]; exact N' _ (ho _ (.head _))
      · exact N' p (hn p hp)
    cases f with
    | ret v => exact .ret p
    | brk => exact .brk p
    | next => exact .next (fin p)
    | cont => exact .cont (fin p)
  · rintro h' tk m' news' F' N' _ hJ
    exact done m' news' h' tk hJ F' N'

end
theorem TabOk.chg {P : Addr} {LL : List (Pos × Str)} {h h' : Heap} {ms : List Addr} (x : TabOk P LL h) (c : Chg ms h h') (hP : P ∉ ms) (hn : ∀ a ∈ ms, NoCode h a) : TabOk P LL h' := by
  obtain ⟨ps, e, t, f⟩ := x
  exact ⟨ps, c _ _ hP e, t, fun q hq => (f q hq).imp_right fun ⟨c', a, b⟩ => ⟨c', a, b.at fun o eo => c _ _ (fun hm => hn _ hm _ b) eo⟩⟩
theorem word_W4_1 : True := by
  (k_with "m_holdB" => ((fail_if_success (with_reducible show wpAny _ _ (call (Value.ref 377) _) _ _ _)); (fail_if_success (with_reducible show wpAny _ _ (call (Value.ref 334) _) _ _ _)); (fail_if_success (with_reducible show wpAny _ _ (call (Value.ref 355) _) _ _ _)); (fail_if_success (with_reducible show wpAny _ _ (call (Value.type "dict") _) _ _ _))))
  (k_with "m_walkB" => (try dsimp only); repeat' (k_extra "m_holdB"; k_extra "m_hold"; (first | (k_unfold; (try clear ek qk)) | walk1); (try dsimp only); (try k_extra "m_fold")))
  exact True.intro
section
variable {prog : Program} {w : World} {A : Around} {s : Shared} {g : Heap} {L fa : Addr} {m mg mb : Str → Option Value} {p : Program} {loose : List Str} {mean : ExcName → Option Value}
theorem law_after {h Z : Heap} {tk : Nat} {I scr src tr dt rl rw td : Addr} {it o3 o2 o1 : Obj} {v2 v1 : Option Value} {b x : Int} {t1 t2 : Tok} {ns : Nat} {ps1 ps2 ps3 : Array Value} {tl : List (Addr × Obj)} {nds : List Nd} {as : List Addr} {TT : List (Option Nat × Str)} {st : List Nat} {Q : Flow → Shared → Prop}
    (R : Room A 32) (O : Ok w g) (X : (hd.heap_39 w.params).In g) (T : Top p loose mean mg mb g) (C1 : CodeHd g 27 23) (C2 : CodeHd g 376 374) (F : Fr g L h m)
    (m1 : m (Str.ofString "source") = some (.ref src)) (m2 : m (Str.ofString "tree") = some (.ref tr)) (m4 : m (Str.ofString "rows") = some (.ref rw)) (m7 : m (Str.ofString "script") = some (.ref scr))
    (N : News g L h ((L + 1 + 1 + 1, o3) :: (L + 1 + 1, o2) :: (L + 1, o1) :: (src, srcObj b x t1 t2 ns) :: (374, tabObj ps2) :: (23, tabObj ps1) :: (379, tabObj ps3) :: tl)) (hIm : (I, it) ∈ tl) (ncI : NoCode h I)
    (c3 : o3.data = .cell (some (.ref td))) (c2 : o2.data = .cell v2) (c1 : o1.data = .cell v1) (hs : SrcOk b x) (TL1 : TabL g tl LLike ps1) (TL2 : TabL g tl LAtt ps2) (TL3 : TabL g tl LLaw ps3)
    (ZI : ZIn g tl Z) (S : TreeSt Z tr dt rl rw nds as TT) (TO : ToldAt prog w Z td (TT.map (·.2))) (G : Grow nds TT st) (hn10 : nds.length ≤ 10)
    (hap : ∀ a ∈ ([src, td, 23, 374] : List Addr), a ∉ footSt tr dt rl rw nds as) (hrw : rw ∉ sup rl nds as) (hst : @Ne Nat src td) (htd : g.get? td = none) (hgs : ∀ a ∈ rl :: nds.map (·.t), g.get? a = none)
    (hoff : ∀ a ∈ ([L, I, L + 1 + 1 + 1, L + 1 + 1, L + 1, 379] : List Addr), a ∉ src :: td :: 23 :: 374 :: rl :: nds.map (·.t))
    (nI : ∀ a ∈ [L + 1 + 1 + 1, L + 1 + 1, L + 1, 374, 23, 379], @Ne Nat a I)
    (K : ∀ h' tk' m' news', Fr g L h' m' → News g L h' ((I, it) :: news') → (∀ q ∈ news', @Ne Nat q.1 I) → JOut g L scr m' news' → Q .next { s with heap := h', toks := tk' }) :
    wpAny (model prog w) A (execs (lawR5 w) (lawEnv w L fa)) Q (fun _ _ => False) { s with heap := h, toks := tk } := by
  unfold lawR5 lawEnv
  dsimp only [pickFor1r5, pickEnvA]
  k_extra "m_walkB"
  rename Fr g L _ _ => F1
  rename News g L _ _ => N1
  have mI := fun (q : Addr × Obj) (hq : q ∈ tl) => (show q ∈ _ from List.Mem.tail _ (.tail _ (.tail _ (.tail _ (.tail _ (.tail _ (.tail _ hq)))))) : q ∈ (L + 1 + 1 + 1, o3) :: (L + 1 + 1, o2) :: (L + 1, o1) :: (src, srcObj b x t1 t2 ns) :: (374, tabObj ps2) :: (23, tabObj ps1) :: (379, tabObj ps3) :: tl)
  have st1 := ZI.stays F1 N1 mI
  have esrc := News.get N1 (.tail _ (.tail _ (.tail _ (.head _))))
  have e374 := News.get N1 (.tail _ (.tail _ (.tail _ (.tail _ (.head _)))))
  have e23 := News.get N1 (.tail _ (.tail _ (.tail _ (.tail _ (.tail _ (.head _))))))
  have e379 := News.get N1 (.tail _ (.tail _ (.tail _ (.tail _ (.tail _ (.tail _ (.head _)))))))
  have TB1 : TabOk 23 LLike _ := TL1.ok F1 N1 mI e23
  have TB2 : TabOk 374 LAtt _ := TL2.ok F1 N1 mI e374
  have TB3 : TabOk 379 LLaw _ := TL3.ok F1 N1 mI e379
  have Sh := S.keeps st1
  have Th := TO.keeps st1
  have hnc : ∀ a ∈ src :: td :: 23 :: 374 :: rl :: nds.map (·.t), NoCode _ a := fun a ha => by
    rcases List.mem_cons.mp ha with h | ha
    · rw [h]; exact noCode_list esrc
    rcases List.mem_cons.mp ha with h | ha
    · obtain ⟨kvs, hD, _⟩ := Th
      obtain ⟨od, hod, hodd⟩ := Heap.dictOf_iff.mp hD
      obtain ⟨es, epd, _, hdd, _⟩ := hodd
      rw [h]; exact noCode_dict hod hdd
    rcases List.mem_cons.mp ha with h | ha
    · rw [h]; exact noCode_tab e23 TL1.1
    rcases List.mem_cons.mp ha with h | ha
    · rw [h]; exact noCode_tab e374 TL2.1
    obtain ⟨its, ep, e2⟩ := foot_list Sh.tree.at_ a (by
      rcases List.mem_cons.mp ha with h | ha
      · rw [h]; exact .head _
      · obtain ⟨nd, hn, h⟩ := List.mem_map.mp ha
        rw [← h]; exact foot_t hn)
    exact noCode_list e2
  have hg : ∀ a ∈ src :: td :: 23 :: 374 :: rl :: nds.map (·.t), g.get? a = none := fun a ha => by
    rcases List.mem_cons.mp ha with h | ha
    · rw [h]; exact News.fresh N1 (.tail _ (.tail _ (.tail _ (.head _))))
    rcases List.mem_cons.mp ha with h | ha
    · rw [h]; exact htd
    rcases List.mem_cons.mp ha with h | ha
    · rw [h]; exact News.fresh N1 (.tail _ (.tail _ (.tail _ (.tail _ (.tail _ (.head _))))))
    rcases List.mem_cons.mp ha with h | ha
    · rw [h]; exact News.fresh N1 (.tail _ (.tail _ (.tail _ (.tail _ (.head _)))))
    exact hgs a ha
  refine turned_step (α := Value) (att_spec (R.less (by exact Nat.le_of_ble_eq_true rfl)) O F1.keep C1 C2 ⟨b, x, t1, t2, ns, esrc, hs.1, hs.2.1, hs.2.2⟩ Sh G hn10 Th TB1 TB2 (hg _ (.head _)) htd (hg _ (.tail _ (.tail _ (.head _)))) (hg _ (.tail _ (.tail _ (.tail _ (.head _))))) (hgs _ (.head _)) (fun nd hn => hgs _ (.tail _ (List.mem_map_of_mem hn))) hap hrw hst) fun v h9 tk9 c9 r9 => ?_
  obtain ⟨rfl, q1, q2⟩ := r9
  have F9 := fr_turnedL F1 c9 (hoff L (.head _)) hg
  obtain ⟨psA, eA, htA, _⟩ := id q1
  obtain ⟨psB, eB, htB, _⟩ := id q2
  have N9 : News g L h9 ([(I, it), (L + 1 + 1 + 1, o3), (L + 1 + 1, o2), (L + 1, o1), (374, tabObj psB), (23, tabObj psA), (379, tabObj ps3)] ++ []) := by
    show ∀ q ∈ [(I, it), (L + 1 + 1 + 1, o3), (L + 1 + 1, o2), (L + 1, o1), (374, tabObj psB), (23, tabObj psA), (379, tabObj ps3)], _
    exact fcons ⟨c9 _ _ (hoff I (.tail _ (.head _))) (News.get N1 (mI _ hIm)), (N1 _ (mI _ hIm)).2⟩ (fcons ⟨c9 _ _ (hoff _ (.tail _ (.tail _ (.head _)))) (News.get N1 (.head _)), (N1 _ (.head _)).2⟩ (fcons ⟨c9 _ _ (hoff _ (.tail _ (.tail _ (.tail _ (.head _))))) (News.get N1 (.tail _ (.head _))), (N1 _ (.tail _ (.head _))).2⟩ (fcons ⟨c9 _ _ (hoff _ (.tail _ (.tail _ (.tail _ (.tail _ (.head _)))))) (News.get N1 (.tail _ (.tail _ (.head _)))), (N1 _ (.tail _ (.tail _ (.head _)))).2⟩ (fcons ⟨eB, (N1 (374, tabObj ps2) (.tail _ (.tail _ (.tail _ (.tail _ (.head _)))))).2⟩ (fcons ⟨eA, (N1 (23, tabObj ps1) (.tail _ (.tail _ (.tail _ (.tail _ (.tail _ (.head _))))))).2⟩ (fcons ⟨c9 _ _ (hoff _ (.tail _ (.tail _ (.tail _ (.tail _ (.tail _ (.head _))))))) e379, (N1 (379, tabObj ps3) (.tail _ (.tail _ (.tail _ (.tail _ (.tail _ (.tail _ (.head _)))))))).2⟩ fnil))))))
  obtain ⟨tl9, N10, _, of9, _, tb9⟩ := freeze (front := [(I, it), (L + 1 + 1 + 1, o3), (L + 1 + 1, o2), (L + 1, o1), (374, tabObj psB), (23, tabObj psA), (379, tabObj ps3)]) F9 N9
  have nc9 : ∀ q ∈ [(I, it), (L + 1 + 1 + 1, o3), (L + 1 + 1, o2), (L + 1, o1), (374, tabObj psB), (23, tabObj psA), (379, tabObj ps3)], NoCode h9 q.1 := by
    exact fcons (noCode_same ncI (News.get N1 (mI _ hIm)) (News.get N9 (.head _))) (fcons (noCode_cell (News.get N9 (.tail _ (.head _))) c3) (fcons (noCode_cell (News.get N9 (.tail _ (.tail _ (.head _)))) c2) (fcons (noCode_cell (News.get N9 (.tail _ (.tail _ (.tail _ (.head _))))) c1) (fcons (noCode_tab eB htB) (fcons (noCode_tab eA htA) (fcons (noCode_tab (News.get N9 (.tail _ (.tail _ (.tail _ (.tail _ (.tail _ (.tail _ (.head _)))))))) TL3.1) fnil))))))
  obtain ⟨psC, eC, TLA⟩ := tb9 23 LLike q1 nc9
  rw [eA] at eC; cases eC
  obtain ⟨psD, eD, TLB⟩ := tb9 374 LAtt q2 nc9
  rw [eB] at eD; cases eD
  obtain ⟨psE, eE, TLC⟩ := tb9 379 LLaw (TB3.chg c9 (hoff _ (.tail _ (.tail _ (.tail _ (.tail _ (.tail _ (.head _))))))) hnc) nc9
  rw [News.get N9 (.tail _ (.tail _ (.tail _ (.tail _ (.tail _ (.tail _ (.head _)))))))] at eE; cases eE
  have p1 := fhead of9
  replace of9 := ftail of9
  have p2 := fhead of9
  replace of9 := ftail of9
  have p3 := fhead of9
  replace of9 := ftail of9
  have p4 := fhead of9
  replace of9 := ftail of9
  have p5 := fhead of9
  replace of9 := ftail of9
  have p6 := fhead of9
  replace of9 := ftail of9
  have p7 := fhead of9
  clear of9
  (try dsimp only at p1 p2 p3 p4 p5 p6 p7)
  have hIn : ∀ a ∈ [L + 1 + 1 + 1, L + 1 + 1, L + 1, 374, 23, 379], @Ne Nat a I := nI
  have n1 := fhead hIn
  replace hIn := ftail hIn
  have n2 := fhead hIn
  replace hIn := ftail hIn
  have n3 := fhead hIn
  replace hIn := ftail hIn
  have n4 := fhead hIn
  replace hIn := ftail hIn
  have n5 := fhead hIn
  replace hIn := ftail hIn
  have n6 := fhead hIn
  clear hIn
  (try dsimp only at n1 n2 n3 n4 n5 n6)
  clear tb9 nc9 N9 N1 TB1 TB2 TB3 Sh Th hnc hg st1 esrc e374 e23 e379 q1 q2 eA eB mI
  k_extra "m_walkB"
  rename Fr g L _ _ => F11
  refine K _ _ _ ((L + 1 + 1 + 1, o3) :: (L + 1 + 1, o2) :: (L + 1, o1) :: (374, tabObj psB) :: (23, tabObj psA) :: (379, tabObj ps3) :: tl9) F11 N10 (by exact fcons n1 (fcons n2 (fcons n3 (fcons n4 (fcons n5 (fcons n6 p1))))))
    ⟨o3, o2, o1, _, v2, v1, psB, psA, ps3, tl9, rfl, c3, c2, c1, TLB, TLA, TLC, by exact fcons p2 (fcons p3 (fcons p4 (fcons p5 (fcons p6 (fcons p7 fnil))))), by k_extra "m_lk"⟩
end


section
variable {prog : Program} {w : World} {A : Around} {s : Shared} {g : Heap} {L fa : Addr} {m mg mb : Str → Option Value} {p : Program} {loose : List Str} {mean : ExcName → Option Value}
theorem law_levels {h Z : Heap} {tk : Nat} {I scr src tr dt rl rw td : Addr} {it o3 o2 o1 : Obj} {v2 v1 : Option Value} {b x : Int} {t1 t2 : Tok} {ns : Nat} {ps1 ps2 ps3 : Array Value} {tl : List (Addr × Obj)} {nds : List Nd} {as : List Addr} {TT : List (Option Nat × Str)} {st : List Nat} {Q : Flow → Shared → Prop}
    (R : Room A 32) (O : Ok w g) (X : (hd.heap_39 w.params).In g) (T : Top p loose mean mg mb g) (C1 : CodeHd g 27 23) (C2 : CodeHd g 376 374) (C3 : CodeHd g 381 379) (F : Fr g L h m)
    (m1 : m (Str.ofString "source") = some (.ref src)) (m2 : m (Str.ofString "tree") = some (.ref tr)) (m4 : m (Str.ofString "rows") = some (.ref rw)) (m7 : m (Str.ofString "script") = some (.ref scr))
    (N : News g L h ((L + 1 + 1 + 1, o3) :: (L + 1 + 1, o2) :: (L + 1, o1) :: (src, srcObj b x t1 t2 ns) :: (374, tabObj ps2) :: (23, tabObj ps1) :: (379, tabObj ps3) :: tl)) (hIm : (I, it) ∈ tl) (ncI : NoCode h I)
    (c3 : o3.data = .cell (some (.ref td))) (c2 : o2.data = .cell v2) (c1 : o1.data = .cell v1) (hs : SrcOk b x) (TL1 : TabL g tl LLike ps1) (TL2 : TabL g tl LAtt ps2) (TL3 : TabL g tl LLaw ps3)
    (f1 : @LT.lt Nat _ 374 L) (f2 : @LT.lt Nat _ 23 L) (f3 : @LT.lt Nat _ 379 L) (g1 : @Ne Nat src (L + 1 + 1 + 1)) (g2 : @Ne Nat src (L + 1 + 1)) (g3 : @Ne Nat src (L + 1)) (g4 : @Ne Nat src 374) (g5 : @Ne Nat src 23) (g6 : @Ne Nat src 379)
    (hof : ∀ a ∈ [L + 1 + 1 + 1, L + 1 + 1, L + 1, src, 374, 23, 379], ∀ q ∈ tl, @Ne Nat q.1 a)
    (ZI : ZIn g tl Z) (S : TreeSt Z tr dt rl rw nds as TT) (TO : ToldAt prog w Z td (TT.map (·.2))) (G : Grow nds TT st) (hn10 : nds.length ≤ 10)
    (hap : ∀ a ∈ ([src, td, 23, 374] : List Addr), a ∉ footSt tr dt rl rw nds as) (hrw : rw ∉ sup rl nds as) (hst : @Ne Nat src td) (htd : g.get? td = none) (hgs : ∀ a ∈ rl :: nds.map (·.t), g.get? a = none)
    (hoff : ∀ a ∈ ([L, I, L + 1 + 1 + 1, L + 1 + 1, L + 1, 379] : List Addr), a ∉ src :: td :: 23 :: 374 :: rl :: nds.map (·.t)) (nI : ∀ a ∈ [L + 1 + 1 + 1, L + 1 + 1, L + 1, 374, 23, 379], @Ne Nat a I)
    (K : ∀ h' tk' m' news', Fr g L h' m' → News g L h' ((I, it) :: news') → (∀ q ∈ news', @Ne Nat q.1 I) → JOut g L scr m' news' → Q .next { s with heap := h', toks := tk' }) :
    wpAny (model prog w) A (execs (lawR4 w) (lawEnv w L fa)) Q (fun _ _ => False) { s with heap := h, toks := tk } := by
  unfold lawR4 lawEnv
  dsimp only [pickFor1r4, pickEnvA]
  have eI := News.get N (show (I, it) ∈ _ from List.Mem.tail _ (.tail _ (.tail _ (.tail _ (.tail _ (.tail _ (.tail _ hIm)))))))
  k_extra "m_walkB"
  refine For_invV g rfl rfl ?_
  k_extra "m_walkB"
  rename Fr g L _ _ => F1
  rename News g L _ _ => N1
  rename_i l1
  have hZ' : ∀ a ∈ [L, L + 1 + 1 + 1, L + 1 + 1, L + 1, src, 374, 23, 379], Z.get? a = none := fun a ha => by
    rcases List.mem_cons.mp ha with hq | hq
    · rw [hq]; exact z_none ZI (Heap.get?_none_of_le F1.above) fun q hq => (N1 q (by k_extra "m_subx")).2.1
    · exact z_none ZI (front_none (front := [(L + 1 + 1 + 1, o3), (L + 1 + 1, o2), (L + 1, o1), (src, srcObj b x t1 t2 ns), (374, tabObj ps2), (23, tabObj ps1), (379, tabObj ps3)]) (news_drop N1 fun p hp => .tail _ hp) hq) (hof a hq)
  refine iter_listH (L := L) rfl (fun _ m₁ news₁ => JLaw g L scr src tr rw o3 ps2 tl m₁ news₁) R.hd (fun p hp => by rw [List.mem_singleton.mp hp]; exact N1 _ (.head _)) F1 (news_drop N1 fun p hp => .tail _ hp) ?hadr
    ⟨o2, o1, v2, v1, b, x, t1, t2, ns, ps1, ps3, tl, rfl, c2, c1, hs, TL2, TL1, TL3, fun _ h => h, hof, m1, m2, m4, m7⟩ ?turn ?done
  case hadr => exact fun p hp => Nat.ne_of_lt (ltA_get (by exact l1) p hp)
  case turn =>
    rintro i v m₁ news₁ h3 tk3 I2 it2 lo hv hIax hI hax J F3 N3 nc1 nc2
    obtain ⟨lv, tlv, rfl, hlv⟩ := three_lv hv
    obtain ⟨o2', o1', v2', v1', b', x', t1', t2', ns', ps1', ps3', tl', rfl, y1, y2, y3, y4, y5, y6, y7, y8, y9, y10, y11, y12⟩ := J
    refine law_turn (s := { s with heap := h3, toks := tk3 }) (Z := Z) (R.less (by exact Nat.le_of_ble_eq_true rfl)) O X T C1 C3 hlv F3 (by k_extra "m_lk") N3 hIax hI hax ⟨o2', o1', v2', v1', b', x', t1', t2', ns', ps1', ps3', tl', rfl, y1, y2, y3, y4, y5, y6, y7, y8, by k_extra "m_lk", by k_extra "m_lk", by k_extra "m_lk", by k_extra "m_lk"⟩ nc1 nc2
      c3 f1 f2 f3 g1 g2 g3 g4 g5 g6 ZI hZ' S TO G hn10 fun h' tk' m' news' F' N' oI oa J' => ?_
    exact ⟨h', tk', m', _, news', rfl, F', N', fun p hp => .tail _ (.tail _ hp), fun q hq => by
        rcases List.mem_cons.mp hq with rfl | hq
        · exact .head _
        · rw [List.mem_singleton.mp hq]; exact .tail _ (.head _),
      dis2 oI oa, J'⟩
  case done =>
    intro m₁ news₁ h3 tk3 hJJ F3 N3
    (try k_fold)
    obtain ⟨o2', o1', v2', v1', b', x', t1', t2', ns', ps1', ps3', tl', rfl, y1, y2, y3, y4, y5, y6, y7, y8, y9, y10, y11, y12⟩ := hJJ
    refine law_after (b := b') (x := x') (t1 := t1') (t2 := t2') (ns := ns') R O X T C1 C2 F3 y9 y10 y11 y12 N3 (y7 _ hIm) (noCode_same ncI eI (News.get N3 (show (I, it) ∈ _ from List.Mem.tail _ (.tail _ (.tail _ (.tail _ (.tail _ (.tail _ (.tail _ (y7 _ hIm)))))))))) c3 y1 y2 y3 y5 y4 y6 (ZI.mono y7) S TO G hn10 hap hrw hst htd hgs hoff nI K
end


theorem TreeSt.exist {h : Heap} {tr dt rl rw : Addr} {nds : List Nd} {as : List Addr} {TT : List (Option Nat × Str)} (x : TreeSt h tr dt rl rw nds as TT) : ∀ a ∈ footSt tr dt rl rw nds as, ∃ o, h.get? a = some o := fun a ha => by
  rcases List.mem_cons.mp ha with h | ha
  · exact ⟨_, by rw [h]; exact x.inst⟩
  rcases List.mem_cons.mp ha with h | ha
  · obtain ⟨_, _, _, e⟩ := x.dict; exact ⟨_, by rw [h]; exact e⟩
  rcases List.mem_cons.mp ha with h | ha
  · obtain ⟨_, e⟩ := x.rw; exact ⟨_, by rw [h]; exact e⟩
  · obtain ⟨o, e, _⟩ := x.gb.exist a ha; exact ⟨o, e⟩
theorem word_W7_1 : True := by
  (k_with "m_walkC" => (try dsimp only); repeat' (k_extra "m_hold5"; k_extra "m_holdB"; k_extra "m_hold"; (first | (k_unfold; (try clear ek qk)) | walk1); (try dsimp only); (try k_extra "m_fold")))
  exact True.intro
noncomputable def tupAt (Z : Heap) (a : Addr) (j : Nat) : Value := ((Z.get? a).bind fun o => match o.data with
  | .seq xs _ => xs[j]?
  | _ => none).getD .none
theorem row_tup {Z : Heap} {a : Addr} {k : Nat} {x : Option Nat × Str} (r : RowAt Z a k x) : ∃ t v tl n, Z.get? a = some (tupObj [tupAt Z a 0, v, tupAt Z a 2] n) ∧ tupAt Z a 0 = .int (k : Int) t ∧ tupAt Z a 2 = .str x.2 tl := by
  obtain ⟨t, v, tl, n, e, p⟩ := r
  have e0 : tupAt Z a 0 = .int (k : Int) t := by unfold tupAt; rw [e]; rfl
  have e2 : tupAt Z a 2 = .str x.2 tl := by unfold tupAt; rw [e]; rfl
  exact ⟨t, v, tl, n, by rw [e0, e2]; exact e, e0, e2⟩
theorem range_keys {n : Nat} {f : Nat → Value} : (((List.range n).map fun (j : Nat) => ((j : Int), f j)).map (·.1)).Nodup := by
  rw [List.map_map]
  refine List.Pairwise.map _ (fun a b h => ?_) List.nodup_range
  intro q
  have q' : (a : Int) = (b : Int) := q
  omega
section
variable {prog : Program} {w : World} {A : Around} {E : Value → Shared → Prop} {s : Shared}
theorem comp_row {x : Str} {pos : Pos} {v : Value} {oC : Obj} {m₂ : Str → Option Value} {scope : Scope} {cl : List (Str × Addr)} {C : Addr} {env : Env} {Q : Value → Shared → Prop} (hC : LCg.NsObj oC m₂) (e : s.heap.get? C = some oC) (hv : m₂ x = some v) (h : Q v s)
    (hk : (compEnvC scope cl C env).scope.kind = .function) (hx : (compEnvC scope cl C env).kindOf x = some .local) (hb : (x == ("__debug__" : Str)) = false) : wpAny (model prog w) A (eval (.Name x pos) (compEnvC scope cl C env)) Q E s :=
  wpAny_Name (wpAny_loadName_local hk hx (hC.ns e) hv h) hb
end
theorem word_W7_2 : True := by
  (k_with "eval Name" => (k_dflt (((with_reducible show wpAny _ _ (eval (Expr.Name (Str.ofString "row") _) (compEnvC _ _ _ _)) _ _ _); (refine' comp_row ?zc ?ze ?zv ?_ ?zhk ?zhx ?zhb; (case zc => with_reducible assumption); (case ze => exact News.get (by k_asm) (by k_mem)); (case zv => with_reducible assumption); (case zhk => with_unfolding_all exact rfl); (case zhx => with_unfolding_all exact rfl); (case zhb => with_unfolding_all decide))))))
  exact True.intro
section
variable {prog : Program} {w : World} {A : Around} {s : Shared} {g : Heap} {L fa : Addr} {m mg mb : Str → Option Value} {p : Program} {loose : List Str} {mean : ExcName → Option Value}
theorem law_told {h Z : Heap} {tk : Nat} {I scr src tr dt rl rw : Addr} {it o3 o2 o1 : Obj} {v3 v2 v1 : Option Value} {b x : Int} {t1 t2 : Tok} {ns : Nat} {ps1 ps2 ps3 : Array Value} {tl : List (Addr × Obj)} {nds : List Nd} {as : List Addr} {TT : List (Option Nat × Str)} {st : List Nat} {Q : Flow → Shared → Prop}
    (R : Room A 32) (O : Ok w g) (X : (hd.heap_39 w.params).In g) (T : Top p loose mean mg mb g) (C1 : CodeHd g 27 23) (C2 : CodeHd g 376 374) (C3 : CodeHd g 381 379) (F : Fr g L h m)
    (m1 : m (Str.ofString "source") = some (.ref src)) (m2 : m (Str.ofString "tree") = some (.ref tr)) (m4 : m (Str.ofString "rows") = some (.ref rw)) (m7 : m (Str.ofString "script") = some (.ref scr))
    (N : News g L h ((L + 1 + 1 + 1, o3) :: (L + 1 + 1, o2) :: (L + 1, o1) :: (src, srcObj b x t1 t2 ns) :: (374, tabObj ps2) :: (23, tabObj ps1) :: (379, tabObj ps3) :: tl)) (hIm : (I, it) ∈ tl) (ncI : NoCode h I)
    (c3 : o3.data = .cell v3) (c2 : o2.data = .cell v2) (c1 : o1.data = .cell v1) (hs : SrcOk b x) (TL1 : TabL g tl LLike ps1) (TL2 : TabL g tl LAtt ps2) (TL3 : TabL g tl LLaw ps3)
    (f1 : @LT.lt Nat _ 374 L) (f2 : @LT.lt Nat _ 23 L) (f3 : @LT.lt Nat _ 379 L) (g1 : @Ne Nat src (L + 1 + 1 + 1)) (g2 : @Ne Nat src (L + 1 + 1)) (g3 : @Ne Nat src (L + 1)) (g4 : @Ne Nat src 374) (g5 : @Ne Nat src 23) (g6 : @Ne Nat src 379)
    (hof : ∀ a ∈ [L + 1 + 1 + 1, L + 1 + 1, L + 1, src, 374, 23, 379], ∀ q ∈ tl, @Ne Nat q.1 a)
    (ZI : ZIn g tl Z) (S : TreeSt Z tr dt rl rw nds as TT) (G : Grow nds TT st) (hn10 : nds.length ≤ 10)
    (hap : ∀ a ∈ ([src, 23, 374] : List Addr), a ∉ footSt tr dt rl rw nds as) (hrw : rw ∉ sup rl nds as) (hgs : ∀ a ∈ rl :: nds.map (·.t), g.get? a = none)
    (hoff : ∀ a ∈ ([L, I, L + 1 + 1 + 1, L + 1 + 1, L + 1, 379] : List Addr), a ∉ src :: 23 :: 374 :: rl :: nds.map (·.t)) (nI : ∀ a ∈ [L + 1 + 1 + 1, L + 1 + 1, L + 1, 374, 23, 379], @Ne Nat a I)
    (K : ∀ h' tk' m' news', Fr g L h' m' → News g L h' ((I, it) :: news') → (∀ q ∈ news', @Ne Nat q.1 I) → JOut g L scr m' news' → Q .next { s with heap := h', toks := tk' }) :
    wpAny (model prog w) A (execs (lawR3 w) (lawEnv w L fa)) Q (fun _ _ => False) { s with heap := h, toks := tk } := by
  unfold lawR3 lawEnv
  dsimp only [pickFor1r3, pickEnvA]
  have eI := News.get N (show (I, it) ∈ _ from List.Mem.tail _ (.tail _ (.tail _ (.tail _ (.tail _ (.tail _ (.tail _ hIm)))))))
  obtain ⟨epr, eRW⟩ := S.rw
  k_extra "m_walkB"
  rename Fr g L _ _ => F1
  rename News g L _ _ => N1
  refine LCg.ListComp_U F1 (by with_unfolding_all rfl) (by decide) (by rfl) (by decide) (by rfl) ?_
  k_extra "m_walkB"
  have mI := fun (q : Addr × Obj) (hq : q ∈ tl) => (show q ∈ _ from List.Mem.tail _ (.tail _ (.tail _ (.tail _ (.tail _ (.tail _ (.tail _ hq)))))) : q ∈ (L + 1 + 1 + 1, o3) :: (L + 1 + 1, o2) :: (L + 1, o1) :: (src, srcObj b x t1 t2 ns) :: (374, tabObj ps2) :: (23, tabObj ps1) :: (379, tabObj ps3) :: tl)
  have hTl : TT.length = nds.length := G.m.len
  have hal : as.length = nds.length := S.gb.alen.trans hTl
  have hsrc : LCg.SrcAt g rw (as.map Value.ref).toArray ((L + 1 + 1 + 1, o3) :: (L + 1 + 1, o2) :: (L + 1, o1) :: (src, srcObj b x t1 t2 ns) :: (374, tabObj ps2) :: (23, tabObj ps1) :: (379, tabObj ps3) :: tl) := by
    rcases ZI _ _ eRW with h | h
    · exact .inl ⟨_, h, rfl, _, rfl⟩
    · exact .inr ⟨_, mI _ h, rfl, _, rfl⟩
  refine .inl ⟨rw, (as.map Value.ref).toArray, _, rfl, R.hd, F1, N1, hsrc, line_small (by rw [List.size_toArray, List.length_map]; omega), fun s₂ hs2 => ?_⟩
  obtain ⟨g2', rfl⟩ := hs2
  refine rest_pairs (n := nds.length) (fz := fun j => tupAt Z (as.getD j 0) 0) (fl := fun j => tupAt Z (as.getD j 0) 2) ?hel ?fin hsrc _ 0 [] _ (by rw [List.size_toArray, List.length_map]; omega) rfl (fun q hq => hq) (fun j hj => absurd hj (Nat.not_lt_zero j))
  case hel =>
    rintro i v I2 oI C oC D m₂ h2 tk2 ys news E' hi hv hC hm hsub F2 N2
    obtain ⟨a, ha, rfl⟩ : ∃ a, as[i]? = some a ∧ v = .ref a := by
      rw [List.getElem?_toArray, List.getElem?_map] at hv
      obtain ⟨a, h1, h2⟩ := Option.map_eq_some_iff.mp hv
      exact ⟨a, h1, h2.symm⟩
    have hgd : as.getD i 0 = a := by rw [List.getD_eq_getElem?_getD, ha]; rfl
    obtain ⟨xx, hxx⟩ : ∃ xx, TT[i]? = some xx := ⟨_, List.getElem?_eq_getElem (by omega)⟩
    obtain ⟨t, vp, tl', n', ea, e0, e2⟩ := row_tup (S.gb.tups i a xx ha hxx)
    have ea2 := ZI.stays F2 N2 (fun q hq => .tail _ (.tail _ (.tail _ (hsub q (mI q hq))))) _ _ ea
    dsimp only
    rw [hgd]
    k_extra "m_walkB"
    rename_i Db _ FB NB lb
    exact ⟨Db, _, _, rfl, rfl, FB, NB, fun q hq => Nat.ne_of_lt (ltA_get (by exact lb) q hq)⟩
  case fin =>
    intro ys news hlen hsub hj D hD tkD FD ND offD
    have hrow : ∀ j, j < nds.length → ∃ t tl lb, (TT.map (·.2))[j]? = some lb ∧ tupAt Z (as.getD j 0) 0 = .int (j : Int) t ∧ tupAt Z (as.getD j 0) 2 = .str lb tl := fun j hjl => by
      have ha : as[j]? = some as[j] := List.getElem?_eq_getElem (by omega)
      have hx : TT[j]? = some TT[j] := List.getElem?_eq_getElem (by omega)
      have hgd : as.getD j 0 = as[j] := by rw [List.getD_eq_getElem?_getD, ha]; rfl
      obtain ⟨t, vp, tl', n', ea, e0, e2⟩ := row_tup (S.gb.tups j _ _ ha hx)
      exact ⟨t, tl', TT[j].2, by rw [List.getElem?_map, hx]; rfl, by rw [hgd]; exact e0, by rw [hgd]; exact e2⟩
    (try dsimp only at hj)
    k_extra "m_walkB"
    refine dict_pairs (kvs := (List.range nds.length).map fun (j : Nat) => ((j : Int), tupAt Z (as.getD j 0) 2)) R.hd (News.get ND (.head _)) (by rw [List.size_toArray, hlen, List.length_map, List.length_range]) (by rw [List.length_map, List.length_range]; omega) range_keys ?hP fun td h9 tk9 hd1 st9 hD9 => ?_
    case hP =>
      intro j kv hkv
      rw [List.getElem?_map] at hkv
      obtain ⟨j', hj', rfl⟩ := Option.map_eq_some_iff.mp hkv
      obtain ⟨hjl, rfl⟩ := range_get hj'
      obtain ⟨bb, e1, e2⟩ := hj j hjl
      obtain ⟨t, tl', lb, _, et, _⟩ := hrow j hjl
      rw [et] at e2
      exact ⟨bb, t, 0, by rw [List.getElem?_toArray]; exact e1, News.get ND (.tail _ e2)⟩
    obtain ⟨od, hod, hodd⟩ := Heap.dictOf_iff.mp hD9
    have F9 := fr_keeps FD st9
    have N9 := news_keeps ND st9
    have htd : g.get? td = none := fr_fresh FD hd1
    have apt := news_apart ND hd1
    have NL : News g L hD ([(L + 1 + 1 + 1, o3), (L + 1 + 1, o2), (L + 1, o1), (src, srcObj b x t1 t2 ns), (374, tabObj ps2), (23, tabObj ps1), (379, tabObj ps3)] ++ tl) := fun q hq => ND q (.tail _ (hsub q hq))
    have NA : News g L h9 ([(L + 1 + 1 + 1, o3), (L + 1 + 1, o2), (L + 1, o1), (src, srcObj b x t1 t2 ns), (374, tabObj ps2), (23, tabObj ps1), (379, tabObj ps3)] ++ ((td, od) :: tl)) := by
      intro q hq
      rcases List.mem_append.mp hq with hq | hq
      · exact N9 q (.tail _ (hsub q (List.mem_append_left tl hq)))
      · rcases List.mem_cons.mp hq with rfl | hq
        · exact (news_made FD ND st9 hd1 hod) _ (.head _)
        · exact N9 q (.tail _ (hsub q (mI q hq)))
    obtain ⟨tl9, NB, ZB, ofB, sbB, _⟩ := freeze (front := [(L + 1 + 1 + 1, o3), (L + 1 + 1, o2), (L + 1, o1), (src, srcObj b x t1 t2 ns), (374, tabObj ps2), (23, tabObj ps1), (379, tabObj ps3)]) F9 NA
    have mtd : (td, od) ∈ tl9 := sbB _ (.head _) fun q hq => Ne.symm (apt q (.tail _ (hsub q (List.mem_append_left tl hq))))
    have sub9 : ∀ q ∈ tl, q ∈ tl9 := fun q hq => sbB q (.tail _ hq) fun p hp => hof p.1 (List.mem_map_of_mem (f := (·.1)) hp) q hq
    have stD := ZI.stays FD NL (fun q hq => List.mem_append_right _ hq)
    have hZ : ∀ a ∈ L :: [L + 1 + 1 + 1, L + 1 + 1, L + 1, src, 374, 23, 379], Z.get? a = none := fun a ha => by
      rcases List.mem_cons.mp ha with hq | hq
      · rw [hq]; exact z_none ZI (Heap.get?_none_of_le FD.above) fun q hq => (NL q (List.mem_append_right _ hq)).2.1
      · exact z_none ZI (front_none NL hq) (hof a hq)
    have SZ : TreeSt (hideAll h9 (L :: [L + 1 + 1 + 1, L + 1 + 1, L + 1, src, 374, 23, 379])) tr dt rl rw nds as TT := S.keeps fun bb o e => hideAll_get _ (st9 _ _ (stD bb o e)) fun q => by rw [hZ bb q] at e; cases e
    have TZ : ToldAt prog w (hideAll h9 (L :: [L + 1 + 1 + 1, L + 1 + 1, L + 1, src, 374, 23, 379])) td (TT.map (·.2)) := by
      refine ⟨_, Heap.dictOf_iff.mpr ⟨od, hideAll_get _ hod (front_off FD NL hd1), hodd⟩, by rw [List.length_map, List.length_range, List.length_map, hTl], fun j l e => ?_⟩
      have hjl : j < nds.length := by have := (List.getElem?_eq_some_iff.mp e).1; rw [List.length_map] at this; omega
      obtain ⟨t, tl', lb, e3, _, e4⟩ := hrow j hjl
      rw [e] at e3; cases e3
      exact ⟨tl', by rw [List.getElem?_map, List.getElem?_range hjl, Option.map_some, e4]⟩
    have exF : ∀ a ∈ footSt tr dt rl rw nds as, @Ne Nat td a := fun a ha q => by
      obtain ⟨o, e⟩ := (S.keeps stD).exist a ha
      rw [← show td = a from q, hd1] at e; cases e
    have exL : ∀ a ∈ ([L, I, L + 1 + 1 + 1, L + 1 + 1, L + 1, 379] : List Addr), @Ne Nat a td := by
      refine fcons (fun q => ?_) (fcons (apt _ (.tail _ (hsub _ (mI _ hIm)))) (fcons (apt _ (.tail _ (hsub _ (.head _)))) (fcons (apt _ (.tail _ (hsub _ (.tail _ (.head _))))) (fcons (apt _ (.tail _ (hsub _ (.tail _ (.tail _ (.head _)))))) (fcons (apt (379, tabObj ps3) (.tail _ (hsub _ (by k_mem)))) fnil)))))
      obtain ⟨oL, es, ep, e, _⟩ := FD.ns
      rw [show L = td from q, hd1] at e; cases e
    have hst : @Ne Nat src td := apt (src, srcObj b x t1 t2 ns) (.tail _ (hsub _ (by k_mem)))
    have hap9 : ∀ a ∈ ([src, td, 23, 374] : List Addr), a ∉ footSt tr dt rl rw nds as := by
      exact fcons (hap _ (.head _)) (fcons (fun q => exF _ q rfl) (fcons (hap _ (.tail _ (.head _))) (fcons (hap _ (.tail _ (.tail _ (.head _)))) fnil)))
    have hoff9 : ∀ a ∈ ([L, I, L + 1 + 1 + 1, L + 1 + 1, L + 1, 379] : List Addr), a ∉ src :: td :: 23 :: 374 :: rl :: nds.map (·.t) := fun a ha q => by
      rcases List.mem_cons.mp q with h | q
      · exact hoff a ha (h ▸ .head _)
      rcases List.mem_cons.mp q with h | q
      · exact exL a ha h
      · exact hoff a ha (.tail _ q)
    have ncI9 := noCode_same ncI eI (News.get NB (List.mem_append_right _ (sub9 _ hIm)))
    have eI9 := News.get NB (List.mem_append_right _ (sub9 _ hIm))
    replace NB : News g L h9 ((L + 1 + 1 + 1, o3) :: (L + 1 + 1, o2) :: (L + 1, o1) :: (src, srcObj b x t1 t2 ns) :: (374, tabObj ps2) :: (23, tabObj ps1) :: (379, tabObj ps3) :: tl9) := NB
    simp only [List.map_cons, List.map_nil] at ZB
    have ofs := ofB
    have k1 := fhead ofs
    replace ofs := ftail ofs
    have k2 := fhead ofs
    replace ofs := ftail ofs
    have k3 := fhead ofs
    replace ofs := ftail ofs
    have k4 := fhead ofs
    replace ofs := ftail ofs
    have k5 := fhead ofs
    replace ofs := ftail ofs
    have k6 := fhead ofs
    replace ofs := ftail ofs
    have k7 := fhead ofs
    clear ofs
    (try dsimp only at k1 k2 k3 k4 k5 k6 k7)
    generalize hideAll h9 (L :: [L + 1 + 1 + 1, L + 1 + 1, L + 1, src, 374, 23, 379]) = Z9 at ZB SZ TZ
    clear NA NL N9 ND apt N1 F1 offD hj hsub stD hZ exF exL sbB hD9 hod hodd hd1 mI
    k_extra "m_walkC"
    rename Fr g L _ _ => F11
    rename News g L _ _ => N11
    rename_i oT dT
    refine law_levels (b := b) (x := x) (t1 := t1) (t2 := t2) (ns := ns) (Z := Z9) R O X T C1 C2 C3 F11 m1 m2 m4 m7 N11 (sub9 _ hIm) (noCode_same ncI eI (News.get N11 (show (I, it) ∈ _ from List.Mem.tail _ (.tail _ (.tail _ (.tail _ (.tail _ (.tail _ (.tail _ (sub9 _ hIm)))))))))) dT c2 c1 hs (TL1.mono sub9) (TL2.mono sub9) (TL3.mono sub9) f1 f2 f3 g1 g2 g3 g4 g5 g6
      (by exact fcons k1 (fcons k2 (fcons k3 (fcons k4 (fcons k5 (fcons k6 (fcons k7 fnil))))))) ZB SZ TZ G hn10 hap9 hrw hst htd hgs hoff9 nI K
end


theorem word_W8_1 : True := by
  (k_with "m_holdD" => (fail_if_success (with_reducible show wpAny _ _ (execs (Stmt.Assign [Expr.Name (Str.ofString "told") _] _ _ :: _) _) _ _ _)))
  (k_with "m_walkD" => (try dsimp only); repeat' (k_extra "m_holdD"; k_extra "m_holdB"; k_extra "m_hold"; (first | (k_unfold; (try clear ek qk)) | walk1); (try dsimp only); (try k_extra "m_fold")))
  exact True.intro
section
variable {prog : Program} {w : World} {A : Around} {s : Shared} {E : Value → Shared → Prop} {B0 : Heap}
theorem make_tree (R : Room A 4) (O : Ok w B0) (hB : B0.StaysIn s.heap) :
    wpAny (model prog w) A (call (.ref 323) []) (Kept s fun v h' => ∃ (tr dt rl : Addr) (hh : Int) (tk : Tok) (n ep : Nat), v = .ref tr ∧ h'.get? tr = some (instObj 323 dt) ∧ h'.get? dt = some (dictOf [⟨hh, .str "rows" tk, .ref rl⟩] n) ∧ h'.get? rl = some (rowsObj [] ep) ∧ s.heap.get? tr = none ∧ s.heap.get? dt = none ∧ s.heap.get? rl = none) E s := by
  obtain ⟨X, _⟩ := id O
  have X1 := X.keeps hB
  obtain ⟨hh, gs, dr, tk, os⟩ := s
  refine wpAny_call (make_core (makes_of X1 (by k_is)) (looks_findIn X1 (show findIn (hd.heap_39 w.params) (.ref 323) "__init__" = some (some (.ref 152)) by k_is)) (fun self => bind_fn X1 self (by k_is)) (.inl rfl) ?_)
  have hB2 : B0.StaysIn ((hh.push emptyDict).push (instObj 323 hh.objs.size)) := fun b o e => Heap.get?_push_of_some _ (Heap.get?_push_of_some _ (hB b o e))
  have hx : ((hh.push emptyDict).push (instObj 323 hh.objs.size)).get? (hh.objs.size + 1) = some (instObj 323 hh.objs.size) := by heap_get
  have hdx : ((hh.push emptyDict).push (instObj 323 hh.objs.size)).get? hh.objs.size = some (dictOf [] 0) := by heap_get
  have hB0 : B0.get? hh.objs.size = none := by
    cases q : B0.get? hh.objs.size with
    | none => rfl
    | some o => exact absurd (Heap.lt_size (hB _ _ q)) (Nat.lt_irrefl _)
  refine' enterKc (binds := [("self", .ref (hh.objs.size + 1))]) [(hh.objs.size, dictOf [] 0)] O hB2 ?hms (Room.under R) ?ho ?hcd ?hbind ?hloc ?hbody ?hcell ?hco ?hgen ?hk
  case hms => intro p hp; rw [List.mem_singleton.mp hp]; exact ⟨hdx, hB0⟩
  (case ho => k_is); (case hcd => k_is); (case hbind => exact rfl); (case hloc => exact locs rfl); (case hco => exact rfl); (case hgen => exact rfl); (case hk => exact rfl); (case hcell => decide)
  intro A' g L h₁ tk₁ p loose mean mg mb R' cg hBg Og Xg Tg gm F N
  (try k_fold)
  have hxg := cg _ _ (by simp) hx
  k_extra "m_walk"
  rename Fr g L _ _ => F9
  rename News g L _ _ => N9
  have i1 := News.get N9 (.tail _ (.head _))
  have i2 := News.get N9 (.head _)
  have old : hh.StaysIn _ := fun b o e => F9.keep b o (cg b o (by simpa using Nat.ne_of_lt (Heap.lt_size e)) (Heap.get?_push_of_some _ (Heap.get?_push_of_some _ e)))
  have fr : ∀ b, hh.objs.size ≤ b → hh.get? b = none := fun b hb => Heap.get?_none_of_le hb
  refine ⟨rfl, ⟨_, _, rfl, old⟩, hh.objs.size + 1, hh.objs.size, _, _, _, _, _, rfl, F9.keep _ _ hxg, i1, i2, fr _ (Nat.le_succ _), fr _ (Nat.le_refl _), fr _ (by (try dsimp only); exact Nat.le_of_lt (ltA_mem (by with_reducible assumption) (by k_mem)))⟩
end
section
variable {prog : Program} {w : World} {A : Around} {s : Shared} {g : Heap} {L fa : Addr} {m mg mb : Str → Option Value} {p : Program} {loose : List Str} {mean : ExcName → Option Value}
theorem law_step {h : Heap} {tk : Nat} {I scr : Addr} {it : Obj} {news0 : List (Addr × Obj)} {i : Nat} {tki : Tok} {vs : List Value} {zs : List Int} {Q : Flow → Shared → Prop}
    (R : Room A 32) (O : Ok w g) (X : (hd.heap_39 w.params).In g) (T : Top p loose mean mg mb g) (C1 : CodeHd g 27 23) (C2 : CodeHd g 376 374) (C3 : CodeHd g 381 379) (F : Fr g L h m)
    (m8 : m (Str.ofString "k") = some (.int (i : Int) tki)) (hi : i ≤ 10) (hscr : g.IsList scr vs.toArray) (hint : IntsAre vs zs) (hlen : zs.length ≤ 100)
    (N : News g L h ((I, it) :: news0)) (hIn : ∀ q ∈ news0, @Ne Nat q.1 I) (J : JOut g L scr m news0) (ncI : NoCode h I) (f1 : @LT.lt Nat _ 374 L) (f2 : @LT.lt Nat _ 23 L) (f3 : @LT.lt Nat _ 379 L)
    (K : ∀ h' tk' m' news', Fr g L h' m' → News g L h' ((I, it) :: news') → (∀ q ∈ news', @Ne Nat q.1 I) → JOut g L scr m' news' → Q .next { s with heap := h', toks := tk' }) :
    wpAny (model prog w) A (execs (lawTurn w) (lawEnv w L fa)) Q (fun _ _ => False) { s with heap := h, toks := tk } := by
  unfold lawTurn lawEnv
  dsimp only [pickFor1, pickEnvA]
  obtain ⟨o3, o2, o1, v3, v2, v1, ps2, ps1, ps3, tl, rfl, c3, c2, c1, TL2, TL1, TL3, hof, m7⟩ := J
  have eI := News.get N (.head _)
  have hofs := hof
  have i1 := fhead hIn
  replace hIn := ftail hIn
  have i2 := fhead hIn
  replace hIn := ftail hIn
  have i3 := fhead hIn
  replace hIn := ftail hIn
  have i4 := fhead hIn
  replace hIn := ftail hIn
  have i5 := fhead hIn
  replace hIn := ftail hIn
  have i6 := fhead hIn
  replace hIn := ftail hIn
  have i7 := hIn
  clear hIn
  (try dsimp only at i1 i2 i3 i4 i5 i6 i7)
  have k1 := fhead hofs
  replace hofs := ftail hofs
  have k2 := fhead hofs
  replace hofs := ftail hofs
  have k3 := fhead hofs
  replace hofs := ftail hofs
  have k4 := fhead hofs
  replace hofs := ftail hofs
  have k5 := fhead hofs
  replace hofs := ftail hofs
  have k6 := fhead hofs
  clear hofs
  (try dsimp only at k1 k2 k3 k4 k5 k6)
  k_extra "m_walkB"
  rename Fr g L _ _ => F1
  rename News g L _ _ => N1
  refine kept_step F1 N1 (pool_spec (R.less (by exact Nat.le_of_ble_eq_true rfl)) O F1.keep (stays_list F1.keep hscr) hint hlen hi) fun v h2 tk2 F2 N2 st2 r2 => ?_
  obtain ⟨src, b, x, t1, t2, ns, rfl, hs1, hs2, hs⟩ := r2
  have qd := news_apart N1 hs1
  have N3 := news_made F1 N1 st2 hs1 hs2
  have d1 := fhead qd
  replace qd := ftail qd
  have d2 := fhead qd
  replace qd := ftail qd
  have d3 := fhead qd
  replace qd := ftail qd
  have d4 := fhead qd
  replace qd := ftail qd
  have d5 := fhead qd
  replace qd := ftail qd
  have d6 := fhead qd
  replace qd := ftail qd
  have d7 := fhead qd
  replace qd := ftail qd
  have d8 := qd
  clear qd
  (try dsimp only at d1 d2 d3 d4 d5 d6 d7 d8)
  clear N2 N1 F1
  (try clear N)
  k_extra "m_walkB"
  rename Fr g L _ _ => F4
  rename News g L _ _ => N4
  refine kept_step (R := fun v h' => ∃ (tr dt rl : Addr) (hh : Int) (tk : Tok) (n ep : Nat), v = .ref tr ∧ h'.get? tr = some (instObj 323 dt) ∧ h'.get? dt = some (dictOf [⟨hh, .str "rows" tk, .ref rl⟩] n) ∧ h'.get? rl = some (rowsObj [] ep) ∧ Heap.get? _ tr = none ∧ Heap.get? _ dt = none ∧ Heap.get? _ rl = none) F4 N4 (make_tree (R.less (by exact Nat.le_of_ble_eq_true rfl)) O F4.keep) fun v h5 tk5 F5 N5 st5 r5 => ?_
  obtain ⟨tr, dt, rl, hh, tkr, ntr, epl, rfl, e1, e2, e3, y1, y2, y3⟩ := r5
  have N5' : News g L h5 ((rl, rowsObj [] epl) :: (dt, dictOf [⟨hh, .str "rows" tkr, .ref rl⟩] ntr) :: (tr, instObj 323 dt) :: (src, srcObj b x t1 t2 ns) :: (I, it) :: (L + 1 + 1 + 1, o3) :: (L + 1 + 1, o2) :: (L + 1, o1) :: (374, tabObj ps2) :: (23, tabObj ps1) :: (379, tabObj ps3) :: tl) := fun p hp => by
    rcases List.mem_cons.mp hp with rfl | hp
    · exact (news_made F4 N4 st5 y3 e3) _ (.head _)
    rcases List.mem_cons.mp hp with rfl | hp
    · exact (news_made F4 N4 st5 y2 e2) _ (.head _)
    rcases List.mem_cons.mp hp with rfl | hp
    · exact (news_made F4 N4 st5 y1 e1) _ (.head _)
    · exact N5 p hp
  have P4 : News g L _ ([(L + 1 + 1 + 1, o3), (L + 1 + 1, o2), (L + 1, o1), (src, srcObj b x t1 t2 ns), (374, tabObj ps2), (23, tabObj ps1), (379, tabObj ps3)] ++ ((I, it) :: tl)) := news_drop N4 fun q hq => by
    iterate 8 (
      rcases List.mem_cons.mp hq with hz | hq
      · rw [hz]; k_mem)
    k_extra "m_subx"
  have z1 := front_off F4 P4 y1
  have z2 := front_off F4 P4 y2
  have z3 := front_off F4 P4 y3
  have w1 := news_apart N4 y1
  have w2 := news_apart N4 y2
  have w3 := news_apart N4 y3
  have g3 := fr_fresh F4 y3
  have u1 : @Ne Nat rl src := fun q => w3 _ (.head _) (Eq.symm q)
  have u2 : @Ne Nat tr rl := fun q => by
    rw [show tr = rl from q, e3] at e1; cases e1
  have u3 : @Ne Nat dt rl := fun q => by
    rw [show dt = rl from q, e3] at e2
    exact absurd (congrArg Obj.cls (Option.some.inj e2)) (type_ne (by decide))
  clear N5 P4
  k_extra "m_walkB"
  rename Fr g L _ _ => F6
  rename News g L _ _ => N6
  have eTr := News.get N6 (.tail _ (.tail _ (.head _)))
  have eDt := News.get N6 (.tail _ (.head _))
  have eSr := News.get N6 (.tail _ (.tail _ (.tail _ (.head _))))
  have eI6 := News.get N6 (.tail _ (.tail _ (.tail _ (.tail _ (.head _)))))
  have T6 : TreeM _ tr rl [] := ⟨⟨⟨dt, hh, tkr, ntr, eTr, eDt⟩, ⟨epl, News.get N6 (.head _)⟩, fun nd hn => (nomatch hn), Nat.zero_le _⟩, by simp [foot]⟩
  refine turned_step (α := Value) (grown_spec (R.less (by exact Nat.le_of_ble_eq_true rfl)) O F6.keep ⟨b, x, t1, t2, ns, eSr, hs.1, hs.2.1, hs.2.2⟩ (News.fresh N6 (.tail _ (.tail _ (.tail _ (.head _))))) T6 g3 (Ne.symm u1)) fun v h7 tk7 c7 r7 => ?_
  obtain ⟨rw, as, epr, nds, TT, st, rfl, hw0, ew, B, G, hn10, ⟨b9, x9, t19, t29, n9, esrc, hb1, hb2, hb3⟩, hxs, hrw⟩ := r7
  have P6 : News g L _ ([(L + 1 + 1 + 1, o3), (L + 1 + 1, o2), (L + 1, o1), (src, srcObj b x t1 t2 ns), (374, tabObj ps2), (23, tabObj ps1), (379, tabObj ps3)] ++ ((I, it) :: tl)) := news_drop N6 fun q hq => by
    iterate 8 (
      rcases List.mem_cons.mp hq with hz | hq
      · rw [hz]; k_mem)
    k_extra "m_subx"
  have back : ∀ q ∈ [(L + 1 + 1 + 1, o3), (L + 1 + 1, o2), (L + 1, o1), (src, srcObj b x t1 t2 ns), (374, tabObj ps2), (23, tabObj ps1), (379, tabObj ps3)] ++ ((I, it) :: tl), q ∈ (src, srcObj b x t1 t2 ns) :: (I, it) :: (L + 1 + 1 + 1, o3) :: (L + 1 + 1, o2) :: (L + 1, o1) :: (374, tabObj ps2) :: (23, tabObj ps1) :: (379, tabObj ps3) :: tl := fun q hq => by
    iterate 8 (
      rcases List.mem_cons.mp hq with hz | hq
      · rw [hz]; k_mem)
    k_extra "m_subx"
  have nm : ∀ a : Addr, @Ne Nat a src → @Ne Nat a rl → a ∉ [src, rl] := fun a h1 h2 q => by
    rcases List.mem_cons.mp q with q | q
    · exact h1 q
    · exact h2 (List.mem_singleton.mp q)
  have gms : ∀ a ∈ [src, rl], g.get? a = none := fun a ha => by
    rcases List.mem_cons.mp ha with q | q
    · rw [q]; exact News.fresh N6 (.tail _ (.tail _ (.tail _ (.head _))))
    · rw [List.mem_singleton.mp q]; exact g3
  have F7 := fr_turnedL F6 c7 (nm L (Ne.symm (N6 _ (.tail _ (.tail _ (.tail _ (.head _))))).2.1) (Ne.symm (N6 _ (.head _)).2.1)) gms
  have kk : ∀ q ∈ [(L + 1 + 1 + 1, o3), (L + 1 + 1, o2), (L + 1, o1), (src, srcObj b x t1 t2 ns), (374, tabObj ps2), (23, tabObj ps1), (379, tabObj ps3)] ++ ((I, it) :: tl), @Ne Nat q.1 src → h7.get? q.1 = some q.2 ∧ q.1 ≠ L ∧ g.get? q.1 = none := fun q hq hns => ⟨c7 _ _ (nm _ hns (w3 q (back q hq))) (P6 q hq).1, (P6 q hq).2⟩
  have NA : News g L h7 ([(L + 1 + 1 + 1, o3), (L + 1 + 1, o2), (L + 1, o1), (src, srcObj b9 x9 t19 t29 n9), (374, tabObj ps2), (23, tabObj ps1), (379, tabObj ps3)] ++ ((I, it) :: tl)) := by
    intro q hq
    rcases List.mem_append.mp hq with hq | hq
    · rcases List.mem_cons.mp hq with hz | hq
      · rw [hz]; exact kk (L + 1 + 1 + 1, o3) (by k_mem) d2
      rcases List.mem_cons.mp hq with hz | hq
      · rw [hz]; exact kk (L + 1 + 1, o2) (by k_mem) d3
      rcases List.mem_cons.mp hq with hz | hq
      · rw [hz]; exact kk (L + 1, o1) (by k_mem) d4
      rcases List.mem_cons.mp hq with hz | hq
      · rw [hz]; exact ⟨esrc, (N6 _ (.tail _ (.tail _ (.tail _ (.head _))))).2⟩
      rcases List.mem_cons.mp hq with hz | hq
      · rw [hz]; exact kk (374, tabObj ps2) (by k_mem) d5
      rcases List.mem_cons.mp hq with hz | hq
      · rw [hz]; exact kk (23, tabObj ps1) (by k_mem) d6
      · rw [List.mem_singleton.mp hq]; exact kk (379, tabObj ps3) (by k_mem) d7
    · refine kk q (List.mem_append_right _ hq) ?_
      rcases List.mem_cons.mp hq with hz | hq
      · rw [hz]; exact d1
      · exact d8 q hq
  obtain ⟨tl7, NB, ZB, ofB, sbB, _⟩ := freeze (front := [(L + 1 + 1 + 1, o3), (L + 1 + 1, o2), (L + 1, o1), (src, srcObj b9 x9 t19 t29 n9), (374, tabObj ps2), (23, tabObj ps1), (379, tabObj ps3)]) F7 NA
  have mI7 : (I, it) ∈ tl7 := sbB _ (.head _) (by
    exact fcons (Ne.symm i1) (fcons (Ne.symm i2) (fcons (Ne.symm i3) (fcons d1 (fcons (Ne.symm i4) (fcons (Ne.symm i5) (fcons (Ne.symm i6) fnil)))))))
  have sub7 : ∀ q ∈ tl, q ∈ tl7 := fun q hq => sbB q (.tail _ hq) (by
    exact fcons (k1 q hq) (fcons (k2 q hq) (fcons (k3 q hq) (fcons (d8 q hq) (fcons (k4 q hq) (fcons (k5 q hq) (fcons (k6 q hq) fnil)))))))
  have zw := front_off F6 P6 hw0
  have za : ∀ a ∈ sup rl nds as, a ∉ L :: [L + 1 + 1 + 1, L + 1 + 1, L + 1, src, 374, 23, 379] := fun a ha => by
    rcases hxs a ha with h | h
    · rw [h]; exact z3
    · exact front_off F6 P6 h
  have SZ : TreeSt (hideAll h7 (L :: [L + 1 + 1 + 1, L + 1 + 1, L + 1, src, 374, 23, 379])) tr dt rl rw nds as TT :=
    ⟨hideAll_get _ (c7 _ _ (nm tr (Ne.symm (w1 _ (.head _))) u2) eTr) z1, ⟨hh, tkr, ntr, hideAll_get _ (c7 _ _ (nm dt (Ne.symm (w2 _ (.head _))) u3) eDt) z2⟩, ⟨epr, hideAll_get _ ew zw⟩, B.agree fun a ha o e => hideAll_get _ e (za a ha), by rw [G.m.len]; omega⟩
  have zf : ∀ a ∈ footSt tr dt rl rw nds as, a ∉ L :: [L + 1 + 1 + 1, L + 1 + 1, L + 1, src, 374, 23, 379] := fun a ha => by
    rcases List.mem_cons.mp ha with h | ha
    · rw [h]; exact z1
    rcases List.mem_cons.mp ha with h | ha
    · rw [h]; exact z2
    rcases List.mem_cons.mp ha with h | ha
    · rw [h]; exact zw
    · exact za a ha
  have zI : I ∉ footSt tr dt rl rw nds as := fun ha => by
    rcases List.mem_cons.mp ha with h | ha
    · exact w1 _ (.tail _ (.head _)) h
    rcases List.mem_cons.mp ha with h | ha
    · exact w2 _ (.tail _ (.head _)) h
    rcases List.mem_cons.mp ha with h | ha
    · rw [← h, eI6] at hw0; cases hw0
    · rcases hxs _ ha with h | h
      · exact w3 _ (.tail _ (.head _)) h
      · rw [eI6] at h; cases h
  have hfs : ∀ a ∈ rl :: nds.map (·.t), a ∈ footSt tr dt rl rw nds as := fun a ha => by
    rcases List.mem_cons.mp ha with h | ha
    · rw [h]; exact .tail _ (.tail _ (.tail _ sup_rl))
    · obtain ⟨nd, hn, h⟩ := List.mem_map.mp ha
      rw [← h]; exact .tail _ (.tail _ (.tail _ (sup_mem hn).2.2.2))
  have hgs : ∀ a ∈ rl :: nds.map (·.t), g.get? a = none := fun a ha => by
    rcases List.mem_cons.mp ha with h | ha
    · rw [h]; exact g3
    · obtain ⟨nd, hn, h⟩ := List.mem_map.mp ha
      rcases hxs _ (sup_mem (as := as) (rl := rl) hn).2.2.2 with h2 | h2
      · rw [← h, h2]; exact g3
      · rw [← h]; exact fr_fresh F6 h2
  have hap : ∀ a ∈ ([src, 23, 374] : List Addr), a ∉ footSt tr dt rl rw nds as := by
    exact fcons (fun q => zf _ q (.tail _ (.tail _ (.tail _ (.tail _ (.head _)))))) (fcons (fun q => zf _ q (.tail _ (.tail _ (.tail _ (.tail _ (.tail _ (.tail _ (.head _)))))))) (fcons (fun q => zf _ q (.tail _ (.tail _ (.tail _ (.tail _ (.tail _ (.head _))))))) fnil))
  have og : ∀ a : Addr, @Ne Nat a src → @Ne Nat a 23 → @Ne Nat a 374 → a ∉ footSt tr dt rl rw nds as → a ∉ src :: 23 :: 374 :: rl :: nds.map (·.t) := fun a h1 h2 h3 h4 q => by
    rcases List.mem_cons.mp q with h | q
    · exact h1 h
    rcases List.mem_cons.mp q with h | q
    · exact h2 h
    rcases List.mem_cons.mp q with h | q
    · exact h3 h
    · exact h4 (hfs a q)
  have hLs : @Ne Nat L src := Ne.symm (N6 _ (.tail _ (.tail _ (.tail _ (.head _))))).2.1
  have hoff : ∀ a ∈ ([L, I, L + 1 + 1 + 1, L + 1 + 1, L + 1, 379] : List Addr), a ∉ src :: 23 :: 374 :: rl :: nds.map (·.t) := by
    exact fcons (og L hLs ((by k_ne)) ((by k_ne)) fun q => zf _ q (.head _)) (fcons (og I d1 (Ne.symm i5) (Ne.symm i4) zI) (fcons (og (L + 1 + 1 + 1) d2 ((by k_ne)) ((by k_ne)) fun q => zf _ q (.tail _ (.head _))) (fcons (og (L + 1 + 1) d3 ((by k_ne)) ((by k_ne)) fun q => zf _ q (.tail _ (.tail _ (.head _)))) (fcons (og (L + 1) d4 ((by k_ne)) ((by k_ne)) fun q => zf _ q (.tail _ (.tail _ (.tail _ (.head _))))) (fcons (og 379 d7 (neN (by decide)) (neN (by decide)) fun q => zf _ q (.tail _ (.tail _ (.tail _ (.tail _ (.tail _ (.tail _ (.tail _ (.head _))))))))) fnil)))))
  have ofs := ofB
  have p1 := fhead ofs
  replace ofs := ftail ofs
  have p2 := fhead ofs
  replace ofs := ftail ofs
  have p3 := fhead ofs
  replace ofs := ftail ofs
  have p4 := fhead ofs
  replace ofs := ftail ofs
  have p5 := fhead ofs
  replace ofs := ftail ofs
  have p6 := fhead ofs
  replace ofs := ftail ofs
  have p7 := fhead ofs
  clear ofs
  (try dsimp only at p1 p2 p3 p4 p5 p6 p7)
  simp only [List.map_cons, List.map_nil] at ZB
  replace NB : News g L h7 ((L + 1 + 1 + 1, o3) :: (L + 1 + 1, o2) :: (L + 1, o1) :: (src, srcObj b9 x9 t19 t29 n9) :: (374, tabObj ps2) :: (23, tabObj ps1) :: (379, tabObj ps3) :: tl7) := NB
  generalize hideAll h7 (L :: [L + 1 + 1 + 1, L + 1 + 1, L + 1, src, 374, 23, 379]) = Z7 at ZB SZ
  clear NA N6 P6 back kk sbB ofB F6 B T6 c7 zf za zw z1 z2 z3 w1 w2 w3 hxs og hfs eTr eDt eSr eI6 esrc ew
  k_extra "m_walkD"
  rename Fr g L _ _ => F11
  rename News g L _ _ => N11
  refine law_told (b := b9) (x := x9) (t1 := t19) (t2 := t29) (ns := n9) (Z := Z7) R O X T C1 C2 C3 F11 (by k_extra "m_lk") (by k_extra "m_lk") (by k_extra "m_lk") (by k_extra "m_lk") N11 mI7 (noCode_same ncI eI (News.get N11 (show (I, it) ∈ _ from List.Mem.tail _ (.tail _ (.tail _ (.tail _ (.tail _ (.tail _ (.tail _ mI7)))))))))
    c3 c2 c1 ⟨hb1, hb2, hb3⟩ (TL1.mono sub7) (TL2.mono sub7) (TL3.mono sub7) f1 f2 f3 (Ne.symm d2) (Ne.symm d3) (Ne.symm d4) (Ne.symm d5) (Ne.symm d6) (Ne.symm d7) (by exact fcons p1 (fcons p2 (fcons p3 (fcons p4 (fcons p5 (fcons p6 (fcons p7 fnil))))))) ZB SZ G hn10 hap hrw hgs hoff
    (by exact fcons i1 (fcons i2 (fcons i3 (fcons i4 (fcons i5 (fcons i6 fnil)))))) K
end


theorem word_W9_1 : True := by
  (k_with "call builtin:min" => (k_dflt (((with_reducible show wpAny _ _ (call (Value.builtin _) [Value.int _ _, Value.int _ _]) _ _ _); (refine' min_two_N ?zh ?zF ?zN ?_; (case zh => exact Room.hd (by k_asm)); (case zF => k_asm); (case zN => k_asm)); intro _ _ _ _; (try k_sweep)))))
  exact True.intro
section
variable {prog : Program} {w : World} {A : Around} {s : Shared} {g : Heap} {L fa : Addr} {m mg mb : Str → Option Value} {p : Program} {loose : List Str} {mean : ExcName → Option Value}
theorem law_all {h : Heap} {tk : Nat} {scr : Addr} {o3 o2 o1 : Obj} {v3 v2 v1 : Option Value} {vs : List Value} {zs : List Int} {Q : Flow → Shared → Prop}
    (R : Room A 32) (O : Ok w g) (X : (hd.heap_39 w.params).In g) (T : Top p loose mean mg mb g) (C1 : CodeHd g 27 23) (C2 : CodeHd g 376 374) (C3 : CodeHd g 381 379) (F : Fr g L h m)
    (m7 : m (Str.ofString "script") = some (.ref scr)) (hscr : g.IsList scr vs.toArray) (hint : IntsAre vs zs) (hlen : zs.length ≤ 63)
    (N : News g L h [(L + 1 + 1 + 1, o3), (L + 1 + 1, o2), (L + 1, o1), (374, tabObj #[]), (23, tabObj #[]), (379, tabObj #[])]) (c3 : o3.data = .cell v3) (c2 : o2.data = .cell v2) (c1 : o1.data = .cell v1) (f1 : @LT.lt Nat _ 374 L) (f2 : @LT.lt Nat _ 23 L) (f3 : @LT.lt Nat _ 379 L)
    (K : ∀ h' tk', g.StaysIn h' → GrownAt 374 h' → GrownAt 23 h' → GrownAt 379 h' → Q (.ret (.bool true)) { s with heap := h', toks := tk' }) :
    wpAny (model prog w) A (execs (lawBody w) (lawEnv w L fa)) Q (fun _ _ => False) { s with heap := h, toks := tk } := by
  unfold lawBody lawEnv
  dsimp only [pickBodyA, pickEnvA]
  have hzs := hint.length
  k_extra "m_walkB"
  refine For_invV g rfl rfl ?_
  k_extra "m_walkB"
  rename_i rr _ _ ta tb F1 N1 lr
  have hE : ∃ n : Nat, (if (if 2 < (zs.length : Int) then 2 else (zs.length : Int)) > 1 then if 2 < (zs.length : Int) then 2 else (zs.length : Int) else 1) = ((n : Nat) : Int) ∧ n ≤ 2 := by
    by_cases c : 2 < (zs.length : Int)
    · exact ⟨2, by rw [if_pos c, if_pos (by decide)]; rfl, by omega⟩
    · by_cases c2 : (zs.length : Int) > 1
      · exact ⟨zs.length, by rw [if_neg c, if_pos c2], by omega⟩
      · exact ⟨1, by rw [if_neg c, if_neg c2]; rfl, by omega⟩
  obtain ⟨n, hE, hn⟩ := hE
  rw [hE] at N1
  refine iter_rangeN (L := L) (n := n) rfl (fun _ m₁ news₁ => JOut g L scr m₁ news₁) R.hd (News.get N1 (.head _)) (by omega) F1 (news_drop N1 fun q hq => .tail _ hq) ⟨o3, o2, o1, v3, v2, v1, #[], #[], #[], [], rfl, c3, c2, c1, TabL.nil, TabL.nil, TabL.nil, fun _ _ _ h => absurd h List.not_mem_nil, m7⟩ ?turn ?done
  case turn =>
    rintro i ti m₁ news₁ h3 tk3 I it hi hI ⟨o3', o2', o1', v3', v2', v1', ps2, ps1, ps3, tl, rfl, y1, y2, y3, y4, y5, y6, y7, y8⟩ F3 N3 nc
    refine law_step (s := { s with heap := h3, toks := tk3 }) (zs := zs) (i := i) R O X T C1 C2 C3 F3 (by k_extra "m_lk") (by omega) hscr hint (by omega) N3 hI ⟨o3', o2', o1', v3', v2', v1', ps2, ps1, ps3, tl, rfl, y1, y2, y3, y4, y5, y6, y7, by k_extra "m_lk"⟩ nc f1 f2 f3 fun h' tk' m' news' F' N' o J' => ?_
    exact ⟨h', tk', m', _, news', rfl, F', N', fun p hp => .tail _ hp, fun q hq => by rw [List.mem_singleton.mp hq]; exact .head _, fun p hp q hq => by rw [List.mem_singleton.mp hq]; exact o p hp, J'⟩
  case done =>
    intro m₁ news₁ h3 tk3 hJJ F3 N3
    (try k_fold)
    obtain ⟨o3', o2', o1', v3', v2', v1', ps2, ps1, ps3, tl, rfl, y1, y2, y3, y4, y5, y6, y7, y8⟩ := hJJ
    clear N1 F1
    k_extra "m_walkB"
    rename Fr g L _ _ => F11
    rename News g L _ _ => N11
    exact K _ _ F11.keep ⟨ps2, News.get N11 (by k_mem)⟩ ⟨ps1, News.get N11 (by k_mem)⟩ ⟨ps3, News.get N11 (by k_mem)⟩
end


end Mine
theorem PySem.Challenge.cw_nu0060_01_holds : PySem.Challenge.rw_nu0060_01.Holds := by
  refine holds_law Mine.hk_said fun said => ?_
  refine holds_open (q := Mine.hd.view_39) (loose := []) (Xt := fun s => xlAt Mine.hd.view_39 [] s && recOk PySem.Challenge.rw_nu0060_01.row.records s) (XP := XL Mine.hd.view_39 []) (Yf := (kmHook Mine.hd.heap_39 Mine.hd.addrs Mine.addrs_eq [374, 23, 379]).obs) (Ya := (kmHook Mine.hd.heap_39 Mine.hd.addrs Mine.addrs_eq [374, 23, 379]).val) (YP := (kmHook Mine.hd.heap_39 Mine.hd.addrs Mine.addrs_eq [374, 23, 379]).says) (N := 4806) Mine.left_once (kmHook Mine.hd.heap_39 Mine.hd.addrs Mine.addrs_eq [374, 23, 379]).of (kmHook Mine.hd.heap_39 Mine.hd.addrs Mine.addrs_eq [374, 23, 379]).keeps (fun s e => xl_of s (Bool.and_eq_true_iff.mp e).1) XL.keeps (by rfl) (by rfl) (by rfl) (fun s e => recFacts_of (Bool.and_eq_true_iff.mp e).2) (by rfl) said Mine.hk_chains Mine.hk_bare ?hw ?hc
  case hw => w_witness2
  case hc =>
    k_go0
    rename_i w s₀ s₁ mg mb G Y fa o pm doc ho hg X V T B TE TW hcd zs hs hlay0 hL1 hr1 hl2 as7 as6 scr vs as3 hL ra w1 r0 hI hr hcond hcond2 hD h₁ tk₁ oA oB oC dA dB dC X0 X1 T1 K1 F1 cA cB N1 l0
    refine wpAny_mono (E := fun _ _ => False) (Mine.law_all (s := s₁) (zs := zs) (vs := vs) (scr := scr) (Mine.Room.deeper ⟨rfl, by decide, by decide⟩) ⟨X1, _, _, _, _, _, T1⟩ X1 T1 cB cA codeHd F1 rfl lifted hI (by omega) N1 dA dB dC l0.1 l0.2.1 l0.2.2 fun h' tk' st q1 q2 q3 => ?_) (fun _ _ h => h) (fun _ _ h => h.elim)
    clear hcd hD dA dB dC X0 T1 K1 F1 N1
    refine ⟨⟨.inl ⟨.bool true, .bool true, [], rfl, fun _ => rfl, .bool true, ?_, fun _ => ⟨List.nodup_nil, fun _ h => absurd h List.not_mem_nil⟩⟩, st, rfl, hg⟩, q1, q2, q3, trivial⟩
    wrow_post
