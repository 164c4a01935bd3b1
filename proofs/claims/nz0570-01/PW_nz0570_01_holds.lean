import PyProof.Rows.All
import Wide.All
import OpenK.AllK
import Wide.FinOn
import Lean
import PySem.Challenge.RW_nz0570_01
set_option Elab.async false
set_option maxRecDepth 100000
set_option linter.all false
-- Hd
namespace Mine
open PySem PySem.Calls PySem.W PyProof.Rows

structure Fn where
  name : Str
  params : Arguments
  body : List Stmt
  scope : Scope
noncomputable def fnOf (k : Nat) : Fn := match (PySem.Challenge.pw_nz0570_01.main.body)[k]? with
  | some (.FunctionDef name args body _ _ _ scope _ _ _) => ⟨name, args, body, scope⟩
  | _ => ⟨Str.empty, default, [], default⟩
noncomputable def fnOfCls (k : Nat) : Fn := match (PySem.Challenge.pw_nz0570_01.main.body)[k]? with
  | some (.ClassDef _ _ _ body _ _ _ _ _ _ _) => (match body.filterMap fun | .FunctionDef name args body _ _ _ scope _ _ _ => some (⟨name, args, body, scope⟩ : Fn) | _ => none with
    | f :: _ => f
    | [] => ⟨Str.empty, default, [], default⟩)
  | _ => ⟨Str.empty, default, [], default⟩

/-- the part of the heap behind the top that the walk looks at, written out -/
noncomputable def hd.heap_39 (P : Params) : Frag := [
  (nat_lit 2, Obj.mk Value.none none (Data.dict #[DictEntry.mk (PyData.keyHash P (Str.ofString "type.__subclasses__.Exception.0")) (Value.str (Str.ofString "type.__subclasses__.Exception.0") 229) (Value.int 39 0), DictEntry.mk (PyData.keyHash P (Str.ofString "type.__subclasses__.Exception.n")) (Value.str (Str.ofString "type.__subclasses__.Exception.n") 230) (Value.int 1 0)] 2) #[]),
  (nat_lit 3, Obj.mk (Value.type "dict") none (Data.dict #[DictEntry.mk (PyData.keyHash P (Str.ofString "__name__")) (Value.str (Str.ofString "__name__") 165) (Value.str (Str.ofString "law_nz0570_01") 403), DictEntry.mk (PyData.keyHash P (Str.ofString "__doc__")) (Value.str (Str.ofString "__doc__") 166) Value.none, DictEntry.mk (PyData.keyHash P (Str.ofString "__package__")) (Value.str (Str.ofString "__package__") 167) Value.none, DictEntry.mk (PyData.keyHash P (Str.ofString "__loader__")) (Value.str (Str.ofString "__loader__") 168) (Value.builtin "__main__.__loader__#opaque"), DictEntry.mk (PyData.keyHash P (Str.ofString "__spec__")) (Value.str (Str.ofString "__spec__") 169) Value.none, DictEntry.mk (PyData.keyHash P (Str.ofString "__annotations__")) (Value.str (Str.ofString "__annotations__") 170) (Value.ref 6), DictEntry.mk (PyData.keyHash P (Str.ofString "__builtins__")) (Value.str (Str.ofString "__builtins__") 171) (Value.ref 4), DictEntry.mk (PyData.keyHash P (Str.ofString "__file__")) (Value.str (Str.ofString "__file__") 173) (Value.str (Str.ofString "/claim/cut.py") 172), DictEntry.mk (PyData.keyHash P (Str.ofString "__cached__")) (Value.str (Str.ofString "__cached__") 174) Value.none, DictEntry.mk (PyData.keyHash P (Str.ofString "END")) (Value.str (Str.ofString "END") 191) (Value.ref 15), DictEntry.mk (PyData.keyHash P (Str.ofString "token_at")) (Value.str (Str.ofString "token_at") 199) (Value.ref 22), DictEntry.mk (PyData.keyHash P (Str.ofString "BLANKS")) (Value.str (Str.ofString "BLANKS") 203) (Value.str (Str.ofString " \t") 202), DictEntry.mk (PyData.keyHash P (Str.ofString "BasicError")) (Value.str (Str.ofString "BasicError") 232) (Value.ref 39), DictEntry.mk (PyData.keyHash P (Str.ofString "behind_blanks")) (Value.str (Str.ofString "behind_blanks") 240) (Value.ref 49), DictEntry.mk (PyData.keyHash P (Str.ofString "read_quoted")) (Value.str (Str.ofString "read_quoted") 249) (Value.ref 56), DictEntry.mk (PyData.keyHash P (Str.ofString "read_item")) (Value.str (Str.ofString "read_item") 260) (Value.ref 63), DictEntry.mk (PyData.keyHash P (Str.ofString "MOST")) (Value.str (Str.ofString "MOST") 264) (Value.int 32767 263), DictEntry.mk (PyData.keyHash P (Str.ofString "is_end")) (Value.str (Str.ofString "is_end") 271) (Value.ref 70), DictEntry.mk (PyData.keyHash P (Str.ofString "past_statement")) (Value.str (Str.ofString "past_statement") 279) (Value.ref 77), DictEntry.mk (PyData.keyHash P (Str.ofString "else_of")) (Value.str (Str.ofString "else_of") 288) (Value.ref 84), DictEntry.mk (PyData.keyHash P (Str.ofString "fields_of")) (Value.str (Str.ofString "fields_of") 299) (Value.ref 91), DictEntry.mk (PyData.keyHash P (Str.ofString "data_of")) (Value.str (Str.ofString "data_of") 312) (Value.ref 98), DictEntry.mk (PyData.keyHash P (Str.ofString "number_in")) (Value.str (Str.ofString "number_in") 318) (Value.ref 103), DictEntry.mk (PyData.keyHash P (Str.ofString "next_place")) (Value.str (Str.ofString "next_place") 329) (Value.ref 110), DictEntry.mk (PyData.keyHash P (Str.ofString "ended_by_next")) (Value.str (Str.ofString "ended_by_next") 338) (Value.ref 117), DictEntry.mk (PyData.keyHash P (Str.ofString "GREATEST")) (Value.str (Str.ofString "GREATEST") 342) (Value.int 65529 341), DictEntry.mk (PyData.keyHash P (Str.ofString "Program")) (Value.str (Str.ofString "Program") 371) (Value.ref 134), DictEntry.mk (PyData.keyHash P (Str.ofString "place_of")) (Value.str (Str.ofString "place_of") 382) (Value.ref 145), DictEntry.mk (PyData.keyHash P (Str.ofString "has_line")) (Value.str (Str.ofString "has_line") 391) (Value.ref 152), DictEntry.mk (PyData.keyHash P (Str.ofString "put_line")) (Value.str (Str.ofString "put_line") 402) (Value.ref 159), DictEntry.mk (PyData.keyHash P (Str.ofString "_law_if")) (Value.str (Str.ofString "_law_if") 411) (Value.ref 163), DictEntry.mk (PyData.keyHash P (Str.ofString "_law_row")) (Value.str (Str.ofString "_law_row") 421) (Value.ref 170), DictEntry.mk (PyData.keyHash P (Str.ofString "_law_elses")) (Value.str (Str.ofString "_law_elses") 433) (Value.ref 177), DictEntry.mk (PyData.keyHash P (Str.ofString "_law_open")) (Value.str (Str.ofString "_law_open") 439) (Value.ref 182), DictEntry.mk (PyData.keyHash P (Str.ofString "_law_rows_right")) (Value.str (Str.ofString "_law_rows_right") 449) (Value.ref 189), DictEntry.mk (PyData.keyHash P (Str.ofString "_law_item")) (Value.str (Str.ofString "_law_item") 456) (Value.ref 196), DictEntry.mk (PyData.keyHash P (Str.ofString "_law_data_right")) (Value.str (Str.ofString "_law_data_right") 462) (Value.ref 201), DictEntry.mk (PyData.keyHash P (Str.ofString "_law_loops")) (Value.str (Str.ofString "_law_loops") 476) (Value.ref 208), DictEntry.mk (PyData.keyHash P (Str.ofString "_law_loops_right")) (Value.str (Str.ofString "_law_loops_right") 492) (Value.ref 215), DictEntry.mk (PyData.keyHash P (Str.ofString "law")) (Value.str (Str.ofString "law") 498) (Value.ref 220)] 40) #[]),
  (nat_lit 15, Obj.mk (Value.type "tuple") none (Data.seq #[Value.str (Str.ofString "end") 189, Value.str (Str.ofString "") 190]) #[]),
  (nat_lit 16, Obj.mk (Value.type "tuple") none (Data.seq #[]) #[]),
  (nat_lit 18, Obj.mk (Value.type "tuple") none (Data.seq #[Value.str (Str.ofString "tokens") 195, Value.str (Str.ofString "at") 196]) #[]),
  (nat_lit 19, Obj.mk (Value.type "tuple") none (Data.seq #[]) #[]),
  (nat_lit 21, Obj.mk (Value.type "code") none (Data.fields #[Value.str (Str.ofString "token_at") 192, Value.str (Str.ofString "token_at") 193, Value.str (Str.ofString "/claim/cut.py") 194, Value.int 3 0, Value.int 2 0, Value.int 0 0, Value.int 0 0, Value.int 3 0, Value.ref 16, Value.bool true, Value.int 181 0, Value.ref 17, Value.none, Value.ref 18, Value.ref 19, Value.ref 20, Value.int 197 0, Value.int 3 0, Value.str (Str.ofString "/claim/cut.py") 198]) #[]),
  (nat_lit 22, Obj.mk (Value.type "function") none (Data.func (FuncData.mk (Str.ofString "token_at") (Str.ofString "token_at") (fnOf 2).params (.stmts (fnOf 2).body) (fnOf 2).scope 3 [] Value.none Value.none Value.none (Value.str (Str.ofString "z80.bexpr") 187) none (Value.ref 21) Value.none 0)) #[]),
  (nat_lit 23, Obj.mk (Value.type "tuple") none (Data.seq #[Value.type "Exception"]) #[]),
  (nat_lit 30, Obj.mk (Value.type "tuple") none (Data.seq #[]) #[]),
  (nat_lit 32, Obj.mk (Value.type "tuple") none (Data.seq #[Value.str (Str.ofString "self") 219, Value.str (Str.ofString "kind") 220]) #[]),
  (nat_lit 33, Obj.mk (Value.type "tuple") none (Data.seq #[]) #[]),
  (nat_lit 35, Obj.mk (Value.type "code") none (Data.fields #[Value.str (Str.ofString "__init__") 216, Value.str (Str.ofString "BasicError.__init__") 217, Value.str (Str.ofString "/claim/cut.py") 218, Value.int 9 0, Value.int 2 0, Value.int 0 0, Value.int 0 0, Value.int 3 0, Value.ref 30, Value.bool true, Value.int 181 0, Value.ref 31, Value.none, Value.ref 32, Value.ref 33, Value.ref 34, Value.int 221 0, Value.int 9 0, Value.str (Str.ofString "/claim/cut.py") 222]) #[]),
  (nat_lit 36, Obj.mk (Value.type "function") none (Data.func (FuncData.mk (Str.ofString "__init__") (Str.ofString "BasicError.__init__") (fnOfCls 5).params (.stmts (fnOfCls 5).body) (fnOfCls 5).scope 3 [] Value.none Value.none Value.none (Value.str (Str.ofString "z80.btokens") 200) none (Value.ref 35) Value.none 0)) #[]),
  (nat_lit 37, Obj.mk (Value.type "tuple") none (Data.seq #[Value.str (Str.ofString "kind") 224]) #[]),
  (nat_lit 38, Obj.mk (Value.type "dict") none (Data.dict #[DictEntry.mk (PyData.keyHash P (Str.ofString "__module__")) (Value.str (Str.ofString "__module__") 211) (Value.str (Str.ofString "z80.btokens") 200), DictEntry.mk (PyData.keyHash P (Str.ofString "__firstlineno__")) (Value.str (Str.ofString "__firstlineno__") 215) (Value.int 7 214), DictEntry.mk (PyData.keyHash P (Str.ofString "__init__")) (Value.str (Str.ofString "__init__") 223) (Value.ref 36), DictEntry.mk (PyData.keyHash P (Str.ofString "__static_attributes__")) (Value.str (Str.ofString "__static_attributes__") 225) (Value.ref 37), DictEntry.mk (PyData.keyHash P (Str.ofString "__weakref__")) (Value.str (Str.ofString "__weakref__") 227) (Value.ref 40), DictEntry.mk (PyData.keyHash P (Str.ofString "__doc__")) (Value.str (Str.ofString "__doc__") 228) Value.none] 3) #[]),
  (nat_lit 39, Obj.mk (Value.type "type") none (Data.cls (ClassData.mk (Str.ofString "BasicError") [Value.type "Exception"] [Value.ref 39, Value.type "Exception", Value.type "BaseException", Value.type "object"] 38 (Str.ofString "BasicError") true [] [] false none false)) #[some (Value.ref 23), none, some (Value.str (Str.ofString "BasicError") 204), some (Value.str (Str.ofString "BasicError") 212), some (Value.builtin "Exception.__new__"), some (Value.bool true)]),
  (nat_lit 40, Obj.mk (Value.type "getset_descriptor") none (Data.fields #[Value.str (Str.ofString "__weakref__") 226, Value.ref 39, Value.builtin "ExceptionGroup.__weakref__", Value.none]) #[]),
  (nat_lit 43, Obj.mk (Value.type "tuple") none (Data.seq #[]) #[]),
  (nat_lit 45, Obj.mk (Value.type "tuple") none (Data.seq #[Value.str (Str.ofString "text") 236, Value.str (Str.ofString "at") 237]) #[]),
  (nat_lit 46, Obj.mk (Value.type "tuple") none (Data.seq #[]) #[]),
  (nat_lit 48, Obj.mk (Value.type "code") none (Data.fields #[Value.str (Str.ofString "behind_blanks") 233, Value.str (Str.ofString "behind_blanks") 234, Value.str (Str.ofString "/claim/cut.py") 235, Value.int 11 0, Value.int 2 0, Value.int 0 0, Value.int 0 0, Value.int 3 0, Value.ref 43, Value.bool true, Value.int 181 0, Value.ref 44, Value.none, Value.ref 45, Value.ref 46, Value.ref 47, Value.int 238 0, Value.int 11 0, Value.str (Str.ofString "/claim/cut.py") 239]) #[]),
  (nat_lit 49, Obj.mk (Value.type "function") none (Data.func (FuncData.mk (Str.ofString "behind_blanks") (Str.ofString "behind_blanks") (fnOf 6).params (.stmts (fnOf 6).body) (fnOf 6).scope 3 [] Value.none Value.none Value.none (Value.str (Str.ofString "z80.btokens") 200) none (Value.ref 48) Value.none 0)) #[]),
  (nat_lit 50, Obj.mk (Value.type "tuple") none (Data.seq #[]) #[]),
  (nat_lit 52, Obj.mk (Value.type "tuple") none (Data.seq #[Value.str (Str.ofString "text") 244, Value.str (Str.ofString "at") 245, Value.str (Str.ofString "end") 246]) #[]),
  (nat_lit 53, Obj.mk (Value.type "tuple") none (Data.seq #[]) #[]),
  (nat_lit 55, Obj.mk (Value.type "code") none (Data.fields #[Value.str (Str.ofString "read_quoted") 241, Value.str (Str.ofString "read_quoted") 242, Value.str (Str.ofString "/claim/cut.py") 243, Value.int 15 0, Value.int 2 0, Value.int 0 0, Value.int 0 0, Value.int 3 0, Value.ref 50, Value.bool true, Value.int 181 0, Value.ref 51, Value.none, Value.ref 52, Value.ref 53, Value.ref 54, Value.int 247 0, Value.int 15 0, Value.str (Str.ofString "/claim/cut.py") 248]) #[]),
  (nat_lit 56, Obj.mk (Value.type "function") none (Data.func (FuncData.mk (Str.ofString "read_quoted") (Str.ofString "read_quoted") (fnOf 7).params (.stmts (fnOf 7).body) (fnOf 7).scope 3 [] Value.none Value.none Value.none (Value.str (Str.ofString "z80.btokens") 200) none (Value.ref 55) Value.none 0)) #[]),
  (nat_lit 57, Obj.mk (Value.type "tuple") none (Data.seq #[]) #[]),
  (nat_lit 59, Obj.mk (Value.type "tuple") none (Data.seq #[Value.str (Str.ofString "text") 253, Value.str (Str.ofString "at") 254, Value.str (Str.ofString "found") 255, Value.str (Str.ofString "begin") 256, Value.str (Str.ofString "end") 257]) #[]),
  (nat_lit 60, Obj.mk (Value.type "tuple") none (Data.seq #[]) #[]),
  (nat_lit 62, Obj.mk (Value.type "code") none (Data.fields #[Value.str (Str.ofString "read_item") 250, Value.str (Str.ofString "read_item") 251, Value.str (Str.ofString "/claim/cut.py") 252, Value.int 20 0, Value.int 2 0, Value.int 0 0, Value.int 0 0, Value.int 3 0, Value.ref 57, Value.bool true, Value.int 181 0, Value.ref 58, Value.none, Value.ref 59, Value.ref 60, Value.ref 61, Value.int 258 0, Value.int 20 0, Value.str (Str.ofString "/claim/cut.py") 259]) #[]),
  (nat_lit 63, Obj.mk (Value.type "function") none (Data.func (FuncData.mk (Str.ofString "read_item") (Str.ofString "read_item") (fnOf 8).params (.stmts (fnOf 8).body) (fnOf 8).scope 3 [] Value.none Value.none Value.none (Value.str (Str.ofString "z80.btokens") 200) none (Value.ref 62) Value.none 0)) #[]),
  (nat_lit 64, Obj.mk (Value.type "tuple") none (Data.seq #[]) #[]),
  (nat_lit 66, Obj.mk (Value.type "tuple") none (Data.seq #[Value.str (Str.ofString "token") 268]) #[]),
  (nat_lit 67, Obj.mk (Value.type "tuple") none (Data.seq #[]) #[]),
  (nat_lit 69, Obj.mk (Value.type "code") none (Data.fields #[Value.str (Str.ofString "is_end") 265, Value.str (Str.ofString "is_end") 266, Value.str (Str.ofString "/claim/cut.py") 267, Value.int 37 0, Value.int 1 0, Value.int 0 0, Value.int 0 0, Value.int 3 0, Value.ref 64, Value.bool true, Value.int 181 0, Value.ref 65, Value.none, Value.ref 66, Value.ref 67, Value.ref 68, Value.int 269 0, Value.int 37 0, Value.str (Str.ofString "/claim/cut.py") 270]) #[]),
  (nat_lit 70, Obj.mk (Value.type "function") none (Data.func (FuncData.mk (Str.ofString "is_end") (Str.ofString "is_end") (fnOf 11).params (.stmts (fnOf 11).body) (fnOf 11).scope 3 [] Value.none Value.none Value.none (Value.str (Str.ofString "z80.bflow") 261) none (Value.ref 69) Value.none 0)) #[]),
  (nat_lit 71, Obj.mk (Value.type "tuple") none (Data.seq #[]) #[]),
  (nat_lit 73, Obj.mk (Value.type "tuple") none (Data.seq #[Value.str (Str.ofString "row") 275, Value.str (Str.ofString "at") 276]) #[]),
  (nat_lit 74, Obj.mk (Value.type "tuple") none (Data.seq #[]) #[]),
  (nat_lit 76, Obj.mk (Value.type "code") none (Data.fields #[Value.str (Str.ofString "past_statement") 272, Value.str (Str.ofString "past_statement") 273, Value.str (Str.ofString "/claim/cut.py") 274, Value.int 39 0, Value.int 2 0, Value.int 0 0, Value.int 0 0, Value.int 3 0, Value.ref 71, Value.bool true, Value.int 181 0, Value.ref 72, Value.none, Value.ref 73, Value.ref 74, Value.ref 75, Value.int 277 0, Value.int 39 0, Value.str (Str.ofString "/claim/cut.py") 278]) #[]),
  (nat_lit 77, Obj.mk (Value.type "function") none (Data.func (FuncData.mk (Str.ofString "past_statement") (Str.ofString "past_statement") (fnOf 12).params (.stmts (fnOf 12).body) (fnOf 12).scope 3 [] Value.none Value.none Value.none (Value.str (Str.ofString "z80.bflow") 261) none (Value.ref 76) Value.none 0)) #[]),
  (nat_lit 78, Obj.mk (Value.type "tuple") none (Data.seq #[]) #[]),
  (nat_lit 80, Obj.mk (Value.type "tuple") none (Data.seq #[Value.str (Str.ofString "row") 283, Value.str (Str.ofString "at") 284, Value.str (Str.ofString "depth") 285]) #[]),
  (nat_lit 81, Obj.mk (Value.type "tuple") none (Data.seq #[]) #[]),
  (nat_lit 83, Obj.mk (Value.type "code") none (Data.fields #[Value.str (Str.ofString "else_of") 280, Value.str (Str.ofString "else_of") 281, Value.str (Str.ofString "/claim/cut.py") 282, Value.int 43 0, Value.int 2 0, Value.int 0 0, Value.int 0 0, Value.int 3 0, Value.ref 78, Value.bool true, Value.int 181 0, Value.ref 79, Value.none, Value.ref 80, Value.ref 81, Value.ref 82, Value.int 286 0, Value.int 43 0, Value.str (Str.ofString "/claim/cut.py") 287]) #[]),
  (nat_lit 84, Obj.mk (Value.type "function") none (Data.func (FuncData.mk (Str.ofString "else_of") (Str.ofString "else_of") (fnOf 13).params (.stmts (fnOf 13).body) (fnOf 13).scope 3 [] Value.none Value.none Value.none (Value.str (Str.ofString "z80.bflow") 261) none (Value.ref 83) Value.none 0)) #[]),
  (nat_lit 85, Obj.mk (Value.type "tuple") none (Data.seq #[]) #[]),
  (nat_lit 87, Obj.mk (Value.type "tuple") none (Data.seq #[Value.str (Str.ofString "text") 292, Value.str (Str.ofString "found") 293, Value.str (Str.ofString "at") 294, Value.str (Str.ofString "here") 295, Value.str (Str.ofString "more") 296]) #[]),
  (nat_lit 88, Obj.mk (Value.type "tuple") none (Data.seq #[]) #[]),
  (nat_lit 90, Obj.mk (Value.type "code") none (Data.fields #[Value.str (Str.ofString "fields_of") 289, Value.str (Str.ofString "fields_of") 290, Value.str (Str.ofString "/claim/cut.py") 291, Value.int 54 0, Value.int 1 0, Value.int 0 0, Value.int 0 0, Value.int 3 0, Value.ref 85, Value.bool true, Value.int 181 0, Value.ref 86, Value.none, Value.ref 87, Value.ref 88, Value.ref 89, Value.int 297 0, Value.int 54 0, Value.str (Str.ofString "/claim/cut.py") 298]) #[]),
  (nat_lit 91, Obj.mk (Value.type "function") none (Data.func (FuncData.mk (Str.ofString "fields_of") (Str.ofString "fields_of") (fnOf 14).params (.stmts (fnOf 14).body) (fnOf 14).scope 3 [] Value.none Value.none Value.none (Value.str (Str.ofString "z80.bflow") 261) none (Value.ref 90) Value.none 0)) #[]),
  (nat_lit 92, Obj.mk (Value.type "tuple") none (Data.seq #[]) #[]),
  (nat_lit 94, Obj.mk (Value.type "tuple") none (Data.seq #[Value.str (Str.ofString "program") 303, Value.str (Str.ofString "found") 304, Value.str (Str.ofString "number") 305, Value.str (Str.ofString "row") 306, Value.str (Str.ofString "is_data") 307, Value.str (Str.ofString "kind") 308, Value.str (Str.ofString "value") 309]) #[]),
  (nat_lit 95, Obj.mk (Value.type "tuple") none (Data.seq #[]) #[]),
  (nat_lit 97, Obj.mk (Value.type "code") none (Data.fields #[Value.str (Str.ofString "data_of") 300, Value.str (Str.ofString "data_of") 301, Value.str (Str.ofString "/claim/cut.py") 302, Value.int 65 0, Value.int 1 0, Value.int 0 0, Value.int 0 0, Value.int 3 0, Value.ref 92, Value.bool true, Value.int 181 0, Value.ref 93, Value.none, Value.ref 94, Value.ref 95, Value.ref 96, Value.int 310 0, Value.int 65 0, Value.str (Str.ofString "/claim/cut.py") 311]) #[]),
  (nat_lit 98, Obj.mk (Value.type "function") none (Data.func (FuncData.mk (Str.ofString "data_of") (Str.ofString "data_of") (fnOf 15).params (.stmts (fnOf 15).body) (fnOf 15).scope 3 [] Value.none Value.none Value.none (Value.str (Str.ofString "z80.bflow") 261) none (Value.ref 97) Value.none 0)) #[]),
  (nat_lit 99, Obj.mk (Value.type "tuple") none (Data.seq #[]) #[]),
  (nat_lit 102, Obj.mk (Value.type "code") none (Data.fields #[Value.str (Str.ofString "number_in") 313, Value.str (Str.ofString "number_in") 314, Value.str (Str.ofString "/claim/cut.py") 315, Value.int 75 0, Value.int 1 0, Value.int 0 0, Value.int 0 0, Value.int 3 0, Value.ref 99, Value.bool true, Value.int 181 0, Value.ref 100, Value.none, Value.none, Value.none, Value.ref 101, Value.int 316 0, Value.int 75 0, Value.str (Str.ofString "/claim/cut.py") 317]) #[]),
  (nat_lit 103, Obj.mk (Value.type "function") none (Data.func (FuncData.mk (Str.ofString "number_in") (Str.ofString "number_in") (fnOf 16).params (.stmts (fnOf 16).body) (fnOf 16).scope 3 [] Value.none Value.none Value.none (Value.str (Str.ofString "z80.bflow") 261) none (Value.ref 102) Value.none 0)) #[]),
  (nat_lit 104, Obj.mk (Value.type "tuple") none (Data.seq #[]) #[]),
  (nat_lit 106, Obj.mk (Value.type "tuple") none (Data.seq #[Value.str (Str.ofString "program") 322, Value.str (Str.ofString "line") 323, Value.str (Str.ofString "at") 324, Value.str (Str.ofString "depth") 325, Value.str (Str.ofString "row") 326]) #[]),
  (nat_lit 107, Obj.mk (Value.type "tuple") none (Data.seq #[]) #[]),
  (nat_lit 109, Obj.mk (Value.type "code") none (Data.fields #[Value.str (Str.ofString "next_place") 319, Value.str (Str.ofString "next_place") 320, Value.str (Str.ofString "/claim/cut.py") 321, Value.int 87 0, Value.int 3 0, Value.int 0 0, Value.int 0 0, Value.int 3 0, Value.ref 104, Value.bool true, Value.int 181 0, Value.ref 105, Value.none, Value.ref 106, Value.ref 107, Value.ref 108, Value.int 327 0, Value.int 87 0, Value.str (Str.ofString "/claim/cut.py") 328]) #[]),
  (nat_lit 110, Obj.mk (Value.type "function") none (Data.func (FuncData.mk (Str.ofString "next_place") (Str.ofString "next_place") (fnOf 17).params (.stmts (fnOf 17).body) (fnOf 17).scope 3 [] Value.none Value.none Value.none (Value.str (Str.ofString "z80.bflow") 261) none (Value.ref 109) Value.none 0)) #[]),
  (nat_lit 111, Obj.mk (Value.type "tuple") none (Data.seq #[]) #[]),
  (nat_lit 113, Obj.mk (Value.type "tuple") none (Data.seq #[Value.str (Str.ofString "row") 333, Value.str (Str.ofString "at") 334, Value.str (Str.ofString "depth") 335]) #[]),
  (nat_lit 114, Obj.mk (Value.type "tuple") none (Data.seq #[]) #[]),
  (nat_lit 116, Obj.mk (Value.type "code") none (Data.fields #[Value.str (Str.ofString "ended_by_next") 330, Value.str (Str.ofString "ended_by_next") 331, Value.str (Str.ofString "/claim/cut.py") 332, Value.int 101 0, Value.int 3 0, Value.int 0 0, Value.int 0 0, Value.int 3 0, Value.ref 111, Value.bool true, Value.int 181 0, Value.ref 112, Value.none, Value.ref 113, Value.ref 114, Value.ref 115, Value.int 336 0, Value.int 101 0, Value.str (Str.ofString "/claim/cut.py") 337]) #[]),
  (nat_lit 117, Obj.mk (Value.type "function") none (Data.func (FuncData.mk (Str.ofString "ended_by_next") (Str.ofString "ended_by_next") (fnOf 18).params (.stmts (fnOf 18).body) (fnOf 18).scope 3 [] Value.none Value.none Value.none (Value.str (Str.ofString "z80.bflow") 261) none (Value.ref 116) Value.none 0)) #[]),
  (nat_lit 125, Obj.mk (Value.type "tuple") none (Data.seq #[]) #[]),
  (nat_lit 127, Obj.mk (Value.type "tuple") none (Data.seq #[Value.str (Str.ofString "self") 358]) #[]),
  (nat_lit 128, Obj.mk (Value.type "tuple") none (Data.seq #[]) #[]),
  (nat_lit 130, Obj.mk (Value.type "code") none (Data.fields #[Value.str (Str.ofString "__init__") 355, Value.str (Str.ofString "Program.__init__") 356, Value.str (Str.ofString "/claim/cut.py") 357, Value.int 112 0, Value.int 1 0, Value.int 0 0, Value.int 0 0, Value.int 3 0, Value.ref 125, Value.bool true, Value.int 181 0, Value.ref 126, Value.none, Value.ref 127, Value.ref 128, Value.ref 129, Value.int 359 0, Value.int 112 0, Value.str (Str.ofString "/claim/cut.py") 360]) #[]),
  (nat_lit 131, Obj.mk (Value.type "function") none (Data.func (FuncData.mk (Str.ofString "__init__") (Str.ofString "Program.__init__") (fnOfCls 21).params (.stmts (fnOfCls 21).body) (fnOfCls 21).scope 3 [] Value.none Value.none Value.none (Value.str (Str.ofString "z80.bprogram") 339) none (Value.ref 130) Value.none 0)) #[]),
  (nat_lit 132, Obj.mk (Value.type "tuple") none (Data.seq #[Value.str (Str.ofString "numbers") 362, Value.str (Str.ofString "rows") 363]) #[]),
  (nat_lit 133, Obj.mk (Value.type "dict") none (Data.dict #[DictEntry.mk (PyData.keyHash P (Str.ofString "__module__")) (Value.str (Str.ofString "__module__") 350) (Value.str (Str.ofString "z80.bprogram") 339), DictEntry.mk (PyData.keyHash P (Str.ofString "__firstlineno__")) (Value.str (Str.ofString "__firstlineno__") 354) (Value.int 110 353), DictEntry.mk (PyData.keyHash P (Str.ofString "__init__")) (Value.str (Str.ofString "__init__") 361) (Value.ref 131), DictEntry.mk (PyData.keyHash P (Str.ofString "__static_attributes__")) (Value.str (Str.ofString "__static_attributes__") 364) (Value.ref 132), DictEntry.mk (PyData.keyHash P (Str.ofString "__dict__")) (Value.str (Str.ofString "__dict__") 366) (Value.ref 135), DictEntry.mk (PyData.keyHash P (Str.ofString "__weakref__")) (Value.str (Str.ofString "__weakref__") 368) (Value.ref 136), DictEntry.mk (PyData.keyHash P (Str.ofString "__doc__")) (Value.str (Str.ofString "__doc__") 369) Value.none] 4) #[]),
  (nat_lit 134, Obj.mk (Value.type "type") none (Data.cls (ClassData.mk (Str.ofString "Program") [Value.type "object"] [Value.ref 134, Value.type "object"] 133 (Str.ofString "Program") true [] [] false none false)) #[none, none, some (Value.str (Str.ofString "Program") 343), some (Value.str (Str.ofString "Program") 351), some (Value.builtin "object.__new__"), some (Value.bool true)]),
  (nat_lit 135, Obj.mk (Value.type "getset_descriptor") none (Data.fields #[Value.str (Str.ofString "__dict__") 365, Value.ref 134, Value.builtin "function.__dict__", Value.builtin "function.__dict__#set"]) #[]),
  (nat_lit 136, Obj.mk (Value.type "getset_descriptor") none (Data.fields #[Value.str (Str.ofString "__weakref__") 367, Value.ref 134, Value.builtin "ExceptionGroup.__weakref__", Value.none]) #[]),
  (nat_lit 139, Obj.mk (Value.type "tuple") none (Data.seq #[]) #[]),
  (nat_lit 141, Obj.mk (Value.type "tuple") none (Data.seq #[Value.str (Str.ofString "program") 375, Value.str (Str.ofString "number") 376, Value.str (Str.ofString "least") 377, Value.str (Str.ofString "most") 378, Value.str (Str.ofString "middle") 379]) #[]),
  (nat_lit 142, Obj.mk (Value.type "tuple") none (Data.seq #[]) #[]),
  (nat_lit 144, Obj.mk (Value.type "code") none (Data.fields #[Value.str (Str.ofString "place_of") 372, Value.str (Str.ofString "place_of") 373, Value.str (Str.ofString "/claim/cut.py") 374, Value.int 115 0, Value.int 2 0, Value.int 0 0, Value.int 0 0, Value.int 3 0, Value.ref 139, Value.bool true, Value.int 181 0, Value.ref 140, Value.none, Value.ref 141, Value.ref 142, Value.ref 143, Value.int 380 0, Value.int 115 0, Value.str (Str.ofString "/claim/cut.py") 381]) #[]),
  (nat_lit 145, Obj.mk (Value.type "function") none (Data.func (FuncData.mk (Str.ofString "place_of") (Str.ofString "place_of") (fnOf 22).params (.stmts (fnOf 22).body) (fnOf 22).scope 3 [] Value.none Value.none Value.none (Value.str (Str.ofString "z80.bprogram") 339) none (Value.ref 144) Value.none 0)) #[]),
  (nat_lit 146, Obj.mk (Value.type "tuple") none (Data.seq #[]) #[]),
  (nat_lit 148, Obj.mk (Value.type "tuple") none (Data.seq #[Value.str (Str.ofString "program") 386, Value.str (Str.ofString "number") 387, Value.str (Str.ofString "at") 388]) #[]),
  (nat_lit 149, Obj.mk (Value.type "tuple") none (Data.seq #[]) #[]),
  (nat_lit 151, Obj.mk (Value.type "code") none (Data.fields #[Value.str (Str.ofString "has_line") 383, Value.str (Str.ofString "has_line") 384, Value.str (Str.ofString "/claim/cut.py") 385, Value.int 124 0, Value.int 2 0, Value.int 0 0, Value.int 0 0, Value.int 3 0, Value.ref 146, Value.bool true, Value.int 181 0, Value.ref 147, Value.none, Value.ref 148, Value.ref 149, Value.ref 150, Value.int 389 0, Value.int 124 0, Value.str (Str.ofString "/claim/cut.py") 390]) #[]),
  (nat_lit 152, Obj.mk (Value.type "function") none (Data.func (FuncData.mk (Str.ofString "has_line") (Str.ofString "has_line") (fnOf 23).params (.stmts (fnOf 23).body) (fnOf 23).scope 3 [] Value.none Value.none Value.none (Value.str (Str.ofString "z80.bprogram") 339) none (Value.ref 151) Value.none 0)) #[]),
  (nat_lit 153, Obj.mk (Value.type "tuple") none (Data.seq #[]) #[]),
  (nat_lit 155, Obj.mk (Value.type "tuple") none (Data.seq #[Value.str (Str.ofString "program") 395, Value.str (Str.ofString "number") 396, Value.str (Str.ofString "row") 397, Value.str (Str.ofString "at") 398, Value.str (Str.ofString "is_there") 399]) #[]),
  (nat_lit 156, Obj.mk (Value.type "tuple") none (Data.seq #[]) #[]),
  (nat_lit 158, Obj.mk (Value.type "code") none (Data.fields #[Value.str (Str.ofString "put_line") 392, Value.str (Str.ofString "put_line") 393, Value.str (Str.ofString "/claim/cut.py") 394, Value.int 127 0, Value.int 3 0, Value.int 0 0, Value.int 0 0, Value.int 3 0, Value.ref 153, Value.bool true, Value.int 181 0, Value.ref 154, Value.none, Value.ref 155, Value.ref 156, Value.ref 157, Value.int 400 0, Value.int 127 0, Value.str (Str.ofString "/claim/cut.py") 401]) #[]),
  (nat_lit 159, Obj.mk (Value.type "function") none (Data.func (FuncData.mk (Str.ofString "put_line") (Str.ofString "put_line") (fnOf 24).params (.stmts (fnOf 24).body) (fnOf 24).scope 3 [] Value.none Value.none Value.none (Value.str (Str.ofString "z80.bprogram") 339) none (Value.ref 158) Value.none 0)) #[]),
  (nat_lit 160, Obj.mk (Value.type "tuple") none (Data.seq #[Value.str (Str.ofString "word") 405, Value.str (Str.ofString "IF") 406]) #[]),
  (nat_lit 161, Obj.mk (Value.type "tuple") none (Data.seq #[Value.str (Str.ofString "name") 407, Value.str (Str.ofString "A") 408]) #[]),
  (nat_lit 162, Obj.mk (Value.type "tuple") none (Data.seq #[Value.str (Str.ofString "word") 409, Value.str (Str.ofString "THEN") 410]) #[]),
  (nat_lit 163, Obj.mk (Value.type "list") none (Data.seq #[Value.ref 160, Value.ref 161, Value.ref 162]) #[]),
  (nat_lit 164, Obj.mk (Value.type "tuple") none (Data.seq #[]) #[]),
  (nat_lit 166, Obj.mk (Value.type "tuple") none (Data.seq #[Value.str (Str.ofString "numbers") 415, Value.str (Str.ofString "found") 416, Value.str (Str.ofString "number") 417, Value.str (Str.ofString "form") 418]) #[]),
  (nat_lit 167, Obj.mk (Value.type "tuple") none (Data.seq #[]) #[]),
  (nat_lit 169, Obj.mk (Value.type "code") none (Data.fields #[Value.str (Str.ofString "_law_row") 412, Value.str (Str.ofString "_law_row") 413, Value.str (Str.ofString "/claim/cut.py") 414, Value.int 144 0, Value.int 1 0, Value.int 0 0, Value.int 0 0, Value.int 3 0, Value.ref 164, Value.bool true, Value.int 181 0, Value.ref 165, Value.none, Value.ref 166, Value.ref 167, Value.ref 168, Value.int 419 0, Value.int 144 0, Value.str (Str.ofString "/claim/cut.py") 420]) #[]),
  (nat_lit 170, Obj.mk (Value.type "function") none (Data.func (FuncData.mk (Str.ofString "_law_row") (Str.ofString "_law_row") (fnOf 27).params (.stmts (fnOf 27).body) (fnOf 27).scope 3 [] Value.none Value.none Value.none (Value.str (Str.ofString "law_nz0570_01") 403) none (Value.ref 169) Value.none 0)) #[]),
  (nat_lit 171, Obj.mk (Value.type "tuple") none (Data.seq #[]) #[]),
  (nat_lit 173, Obj.mk (Value.type "tuple") none (Data.seq #[Value.str (Str.ofString "row") 425, Value.str (Str.ofString "found") 426, Value.str (Str.ofString "at") 427, Value.str (Str.ofString "token") 428, Value.str (Str.ofString "end") 429, Value.str (Str.ofString "ahead") 430]) #[]),
  (nat_lit 174, Obj.mk (Value.type "tuple") none (Data.seq #[]) #[]),
  (nat_lit 176, Obj.mk (Value.type "code") none (Data.fields #[Value.str (Str.ofString "_law_elses") 422, Value.str (Str.ofString "_law_elses") 423, Value.str (Str.ofString "/claim/cut.py") 424, Value.int 155 0, Value.int 1 0, Value.int 0 0, Value.int 0 0, Value.int 3 0, Value.ref 171, Value.bool true, Value.int 181 0, Value.ref 172, Value.none, Value.ref 173, Value.ref 174, Value.ref 175, Value.int 431 0, Value.int 155 0, Value.str (Str.ofString "/claim/cut.py") 432]) #[]),
  (nat_lit 177, Obj.mk (Value.type "function") none (Data.func (FuncData.mk (Str.ofString "_law_elses") (Str.ofString "_law_elses") (fnOf 28).params (.stmts (fnOf 28).body) (fnOf 28).scope 3 [] Value.none Value.none Value.none (Value.str (Str.ofString "law_nz0570_01") 403) none (Value.ref 176) Value.none 0)) #[]),
  (nat_lit 178, Obj.mk (Value.type "tuple") none (Data.seq #[]) #[]),
  (nat_lit 181, Obj.mk (Value.type "code") none (Data.fields #[Value.str (Str.ofString "_law_open") 434, Value.str (Str.ofString "_law_open") 435, Value.str (Str.ofString "/claim/cut.py") 436, Value.int 165 0, Value.int 1 0, Value.int 0 0, Value.int 0 0, Value.int 3 0, Value.ref 178, Value.bool true, Value.int 181 0, Value.ref 179, Value.none, Value.none, Value.none, Value.ref 180, Value.int 437 0, Value.int 165 0, Value.str (Str.ofString "/claim/cut.py") 438]) #[]),
  (nat_lit 182, Obj.mk (Value.type "function") none (Data.func (FuncData.mk (Str.ofString "_law_open") (Str.ofString "_law_open") (fnOf 29).params (.stmts (fnOf 29).body) (fnOf 29).scope 3 [] Value.none Value.none Value.none (Value.str (Str.ofString "law_nz0570_01") 403) none (Value.ref 181) Value.none 0)) #[]),
  (nat_lit 183, Obj.mk (Value.type "tuple") none (Data.seq #[]) #[]),
  (nat_lit 185, Obj.mk (Value.type "tuple") none (Data.seq #[Value.str (Str.ofString "row") 443, Value.str (Str.ofString "due") 444, Value.str (Str.ofString "at") 445, Value.str (Str.ofString "end") 446]) #[]),
  (nat_lit 186, Obj.mk (Value.type "tuple") none (Data.seq #[]) #[]),
  (nat_lit 188, Obj.mk (Value.type "code") none (Data.fields #[Value.str (Str.ofString "_law_rows_right") 440, Value.str (Str.ofString "_law_rows_right") 441, Value.str (Str.ofString "/claim/cut.py") 442, Value.int 167 0, Value.int 1 0, Value.int 0 0, Value.int 0 0, Value.int 3 0, Value.ref 183, Value.bool true, Value.int 181 0, Value.ref 184, Value.none, Value.ref 185, Value.ref 186, Value.ref 187, Value.int 447 0, Value.int 167 0, Value.str (Str.ofString "/claim/cut.py") 448]) #[]),
  (nat_lit 189, Obj.mk (Value.type "function") none (Data.func (FuncData.mk (Str.ofString "_law_rows_right") (Str.ofString "_law_rows_right") (fnOf 30).params (.stmts (fnOf 30).body) (fnOf 30).scope 3 [] Value.none Value.none Value.none (Value.str (Str.ofString "law_nz0570_01") 403) none (Value.ref 188) Value.none 0)) #[]),
  (nat_lit 190, Obj.mk (Value.type "tuple") none (Data.seq #[]) #[]),
  (nat_lit 192, Obj.mk (Value.type "tuple") none (Data.seq #[Value.str (Str.ofString "number") 453]) #[]),
  (nat_lit 193, Obj.mk (Value.type "tuple") none (Data.seq #[]) #[]),
  (nat_lit 195, Obj.mk (Value.type "code") none (Data.fields #[Value.str (Str.ofString "_law_item") 450, Value.str (Str.ofString "_law_item") 451, Value.str (Str.ofString "/claim/cut.py") 452, Value.int 179 0, Value.int 1 0, Value.int 0 0, Value.int 0 0, Value.int 3 0, Value.ref 190, Value.bool true, Value.int 181 0, Value.ref 191, Value.none, Value.ref 192, Value.ref 193, Value.ref 194, Value.int 454 0, Value.int 179 0, Value.str (Str.ofString "/claim/cut.py") 455]) #[]),
  (nat_lit 196, Obj.mk (Value.type "function") none (Data.func (FuncData.mk (Str.ofString "_law_item") (Str.ofString "_law_item") (fnOf 31).params (.stmts (fnOf 31).body) (fnOf 31).scope 3 [] Value.none Value.none Value.none (Value.str (Str.ofString "law_nz0570_01") 403) none (Value.ref 195) Value.none 0)) #[]),
  (nat_lit 197, Obj.mk (Value.type "tuple") none (Data.seq #[]) #[]),
  (nat_lit 200, Obj.mk (Value.type "code") none (Data.fields #[Value.str (Str.ofString "_law_data_right") 457, Value.str (Str.ofString "_law_data_right") 458, Value.str (Str.ofString "/claim/cut.py") 459, Value.int 181 0, Value.int 1 0, Value.int 0 0, Value.int 0 0, Value.int 3 0, Value.ref 197, Value.bool true, Value.int 181 0, Value.ref 198, Value.none, Value.none, Value.none, Value.ref 199, Value.int 460 0, Value.int 181 0, Value.str (Str.ofString "/claim/cut.py") 461]) #[]),
  (nat_lit 201, Obj.mk (Value.type "function") none (Data.func (FuncData.mk (Str.ofString "_law_data_right") (Str.ofString "_law_data_right") (fnOf 32).params (.stmts (fnOf 32).body) (fnOf 32).scope 3 [] Value.none Value.none Value.none (Value.str (Str.ofString "law_nz0570_01") 403) none (Value.ref 200) Value.none 0)) #[]),
  (nat_lit 202, Obj.mk (Value.type "tuple") none (Data.seq #[]) #[]),
  (nat_lit 204, Obj.mk (Value.type "tuple") none (Data.seq #[Value.str (Str.ofString "some") 466, Value.str (Str.ofString "program") 467, Value.str (Str.ofString "events") 468, Value.str (Str.ofString "line") 469, Value.str (Str.ofString "row") 470, Value.str (Str.ofString "spot") 471, Value.str (Str.ofString "number") 472, Value.str (Str.ofString "turn") 473]) #[]),
  (nat_lit 205, Obj.mk (Value.type "tuple") none (Data.seq #[]) #[]),
  (nat_lit 207, Obj.mk (Value.type "code") none (Data.fields #[Value.str (Str.ofString "_law_loops") 463, Value.str (Str.ofString "_law_loops") 464, Value.str (Str.ofString "/claim/cut.py") 465, Value.int 195 0, Value.int 1 0, Value.int 0 0, Value.int 0 0, Value.int 3 0, Value.ref 202, Value.bool true, Value.int 181 0, Value.ref 203, Value.none, Value.ref 204, Value.ref 205, Value.ref 206, Value.int 474 0, Value.int 195 0, Value.str (Str.ofString "/claim/cut.py") 475]) #[]),
  (nat_lit 208, Obj.mk (Value.type "function") none (Data.func (FuncData.mk (Str.ofString "_law_loops") (Str.ofString "_law_loops") (fnOf 33).params (.stmts (fnOf 33).body) (fnOf 33).scope 3 [] Value.none Value.none Value.none (Value.str (Str.ofString "law_nz0570_01") 403) none (Value.ref 207) Value.none 0)) #[]),
  (nat_lit 209, Obj.mk (Value.type "tuple") none (Data.seq #[]) #[]),
  (nat_lit 211, Obj.mk (Value.type "tuple") none (Data.seq #[Value.str (Str.ofString "some") 480, Value.str (Str.ofString "program") 481, Value.str (Str.ofString "events") 482, Value.str (Str.ofString "at") 483, Value.str (Str.ofString "one") 484, Value.str (Str.ofString "depth") 485, Value.str (Str.ofString "due") 486, Value.str (Str.ofString "other") 487, Value.str (Str.ofString "found") 488, Value.str (Str.ofString "caught") 489]) #[]),
  (nat_lit 212, Obj.mk (Value.type "tuple") none (Data.seq #[]) #[]),
  (nat_lit 214, Obj.mk (Value.type "code") none (Data.fields #[Value.str (Str.ofString "_law_loops_right") 477, Value.str (Str.ofString "_law_loops_right") 478, Value.str (Str.ofString "/claim/cut.py") 479, Value.int 216 0, Value.int 1 0, Value.int 0 0, Value.int 0 0, Value.int 3 0, Value.ref 209, Value.bool true, Value.int 181 0, Value.ref 210, Value.none, Value.ref 211, Value.ref 212, Value.ref 213, Value.int 490 0, Value.int 216 0, Value.str (Str.ofString "/claim/cut.py") 491]) #[]),
  (nat_lit 215, Obj.mk (Value.type "function") none (Data.func (FuncData.mk (Str.ofString "_law_loops_right") (Str.ofString "_law_loops_right") (fnOf 34).params (.stmts (fnOf 34).body) (fnOf 34).scope 3 [] Value.none Value.none Value.none (Value.str (Str.ofString "law_nz0570_01") 403) none (Value.ref 214) Value.none 0)) #[]),
  (nat_lit 216, Obj.mk (Value.type "tuple") none (Data.seq #[]) #[]),
  (nat_lit 219, Obj.mk (Value.type "code") none (Data.fields #[Value.str (Str.ofString "law") 493, Value.str (Str.ofString "law") 494, Value.str (Str.ofString "/claim/cut.py") 495, Value.int 232 0, Value.int 1 0, Value.int 0 0, Value.int 0 0, Value.int 3 0, Value.ref 216, Value.bool true, Value.int 181 0, Value.ref 217, Value.none, Value.none, Value.none, Value.ref 218, Value.int 496 0, Value.int 232 0, Value.str (Str.ofString "/claim/cut.py") 497]) #[]),
  (nat_lit 220, Obj.mk (Value.type "function") none (Data.func (FuncData.mk (Str.ofString "law") (Str.ofString "law") (fnOf 35).params (.stmts (fnOf 35).body) (fnOf 35).scope 3 [] Value.none Value.none Value.none (Value.str (Str.ofString "law_nz0570_01") 403) none (Value.ref 219) Value.none 0)) #[])]
noncomputable abbrev heapAs : List Addr := [2, 3, 15, 16, 18, 19, 21, 22, 23, 30, 32, 33, 35, 36, 37, 38, 39, 40, 43, 45, 46, 48, 49, 50, 52, 53, 55, 56, 57, 59, 60, 62, 63, 64, 66, 67, 69, 70, 71, 73, 74, 76, 77, 78, 80, 81, 83, 84, 85, 87, 88, 90, 91, 92, 94, 95, 97, 98, 99, 102, 103, 104, 106, 107, 109, 110, 111, 113, 114, 116, 117, 125, 127, 128, 130, 131, 132, 133, 134, 135, 136, 139, 141, 142, 144, 145, 146, 148, 149, 151, 152, 153, 155, 156, 158, 159, 160, 161, 162, 163, 164, 166, 167, 169, 170, 171, 173, 174, 176, 177, 178, 181, 182, 183, 185, 186, 188, 189, 190, 192, 193, 195, 196, 197, 200, 201, 202, 204, 205, 207, 208, 209, 211, 212, 214, 215, 216, 219, 220]
noncomputable abbrev hk : Hook := kHook hd.heap_39 heapAs (fun _ => by kernel_rfl)

noncomputable abbrev pw : Program := PySem.Challenge.pw_nz0570_01
/-- the program without the statements that bind nothing the walk reads -/
noncomputable def vw : Program := view pw [1, 2, 4, 5, 6, 7, 8, 10, 11, 12, 13, 14, 15, 16, 17, 18, 20, 21, 22, 23, 24, 26, 27, 28, 29, 30, 31, 32, 33, 34, 35]
noncomputable abbrev ls : List Str := [Str.ofString "_law_if"]
noncomputable abbrev seenX (s : Shared) : Bool := xlAt vw [] s && recOk (RowW.records PySem.Challenge.rw_nz0570_01.row.toRowW) s

theorem opened : ∀ w : World, (fencedOpening treeTable pw w 2734).map (fun s => (s.heap, s.gens, s.drawn, s.toks)) = some (boot_heap w.params, Array.mk [], boot_drawn, boot_toks) :=
  boot_open (by kernel_rfl) (by decide +kernel) (fun s => by kernel_rfl)
noncomputable abbrev ob11 (P : Params) : Obj := Obj.mk (Value.type "tuple") none (Data.seq #[]) #[]
noncomputable abbrev ob13 (P : Params) : Obj := Obj.mk (Value.type "code") none (Data.fields #[Value.str (Str.ofString "<module>") 182, Value.str (Str.ofString "<module>") 183, Value.str (Str.ofString "/claim/cut.py") 184, Value.int 1 0, Value.int 0 0, Value.int 0 0, Value.int 0 0, Value.int 0 0, Value.ref 11, Value.bool false, Value.int 181 0, Value.ref 12, Value.none, Value.none, Value.none, Value.none, Value.int 185 0, Value.int 1 0, Value.str (Str.ofString "/claim/cut.py") 186]) #[]
noncomputable abbrev ob14 (P : Params) : Obj := Obj.mk (Value.type "frame") none Data.plain #[some (Value.ref 13), some (Value.ref 3), some (Value.ref 3), none, some (Value.str (Str.ofString "__main__") 164), none, some (Value.ref 0)]
noncomputable abbrev ob15 (P : Params) : Obj := Obj.mk (Value.type "tuple") none (Data.seq #[Value.str (Str.ofString "end") 189, Value.str (Str.ofString "") 190]) #[]
noncomputable abbrev ob16 (P : Params) : Obj := Obj.mk (Value.type "tuple") none (Data.seq #[]) #[]
noncomputable abbrev ob17 (P : Params) : Obj := Obj.mk Value.none none (Data.fields #[]) #[]
noncomputable abbrev ob18 (P : Params) : Obj := Obj.mk (Value.type "tuple") none (Data.seq #[Value.str (Str.ofString "tokens") 195, Value.str (Str.ofString "at") 196]) #[]
noncomputable abbrev ob19 (P : Params) : Obj := Obj.mk (Value.type "tuple") none (Data.seq #[]) #[]
noncomputable abbrev ob20 (P : Params) : Obj := Obj.mk Value.none none (Data.func (FuncData.mk (Str.ofString "token_at") (Str.ofString "token_at") (fnOf 2).params (.stmts (fnOf 2).body) (fnOf 2).scope 0 [] Value.none Value.none Value.none Value.none none Value.none Value.none 0)) #[]
noncomputable abbrev ob21 (P : Params) : Obj := Obj.mk (Value.type "code") none (Data.fields #[Value.str (Str.ofString "token_at") 192, Value.str (Str.ofString "token_at") 193, Value.str (Str.ofString "/claim/cut.py") 194, Value.int 3 0, Value.int 2 0, Value.int 0 0, Value.int 0 0, Value.int 3 0, Value.ref 16, Value.bool true, Value.int 181 0, Value.ref 17, Value.none, Value.ref 18, Value.ref 19, Value.ref 20, Value.int 197 0, Value.int 3 0, Value.str (Str.ofString "/claim/cut.py") 198]) #[]
noncomputable abbrev ob22 (P : Params) : Obj := Obj.mk (Value.type "function") none (Data.func (FuncData.mk (Str.ofString "token_at") (Str.ofString "token_at") (fnOf 2).params (.stmts (fnOf 2).body) (fnOf 2).scope 3 [] Value.none Value.none Value.none (Value.str (Str.ofString "z80.bexpr") 187) none (Value.ref 21) Value.none 0)) #[]
noncomputable abbrev ob23 (P : Params) : Obj := Obj.mk (Value.type "tuple") none (Data.seq #[Value.type "Exception"]) #[]
noncomputable abbrev ob24 (P : Params) : Obj := Obj.mk (Value.type "builtin_function_or_method") none (Data.fields #[Value.builtin "type.__prepare__", Value.type "type"]) #[]
noncomputable abbrev ob25 (P : Params) : Obj := Obj.mk (Value.type "dict") none (Data.dict #[DictEntry.mk (PyData.keyHash P (Str.ofString "__module__")) (Value.str (Str.ofString "__module__") 211) (Value.str (Str.ofString "z80.btokens") 200), DictEntry.mk (PyData.keyHash P (Str.ofString "__qualname__")) (Value.str (Str.ofString "__qualname__") 213) (Value.str (Str.ofString "BasicError") 212), DictEntry.mk (PyData.keyHash P (Str.ofString "__firstlineno__")) (Value.str (Str.ofString "__firstlineno__") 215) (Value.int 7 214), DictEntry.mk (PyData.keyHash P (Str.ofString "__init__")) (Value.str (Str.ofString "__init__") 223) (Value.ref 36), DictEntry.mk (PyData.keyHash P (Str.ofString "__static_attributes__")) (Value.str (Str.ofString "__static_attributes__") 225) (Value.ref 37)] 5) #[]
noncomputable abbrev ob26 (P : Params) : Obj := Obj.mk (Value.type "tuple") none (Data.seq #[]) #[]
noncomputable abbrev ob27 (P : Params) : Obj := Obj.mk Value.none none (Data.fields #[Value.int 9 0, Value.int 4 0, Value.ref 35]) #[]
noncomputable abbrev ob28 (P : Params) : Obj := Obj.mk (Value.type "code") none (Data.fields #[Value.str (Str.ofString "BasicError") 206, Value.str (Str.ofString "BasicError") 207, Value.str (Str.ofString "/claim/cut.py") 208, Value.int 7 0, Value.int 0 0, Value.int 0 0, Value.int 0 0, Value.int 0 0, Value.ref 26, Value.bool false, Value.int 181 0, Value.ref 27, Value.none, Value.none, Value.none, Value.none, Value.int 209 0, Value.int 7 0, Value.str (Str.ofString "/claim/cut.py") 210]) #[]
noncomputable abbrev ob29 (P : Params) : Obj := Obj.mk (Value.type "frame") none Data.plain #[some (Value.ref 28), some (Value.ref 3), some (Value.ref 25), none, some (Value.str (Str.ofString "z80.btokens") 200), none, some (Value.ref 0)]
noncomputable abbrev ob30 (P : Params) : Obj := Obj.mk (Value.type "tuple") none (Data.seq #[]) #[]
noncomputable abbrev ob31 (P : Params) : Obj := Obj.mk Value.none none (Data.fields #[]) #[]
noncomputable abbrev ob32 (P : Params) : Obj := Obj.mk (Value.type "tuple") none (Data.seq #[Value.str (Str.ofString "self") 219, Value.str (Str.ofString "kind") 220]) #[]
noncomputable abbrev ob33 (P : Params) : Obj := Obj.mk (Value.type "tuple") none (Data.seq #[]) #[]
noncomputable abbrev ob34 (P : Params) : Obj := Obj.mk Value.none none (Data.func (FuncData.mk (Str.ofString "__init__") (Str.ofString "BasicError.__init__") (fnOfCls 5).params (.stmts (fnOfCls 5).body) (fnOfCls 5).scope 0 [] Value.none Value.none Value.none Value.none none Value.none Value.none 0)) #[]
noncomputable abbrev ob35 (P : Params) : Obj := Obj.mk (Value.type "code") none (Data.fields #[Value.str (Str.ofString "__init__") 216, Value.str (Str.ofString "BasicError.__init__") 217, Value.str (Str.ofString "/claim/cut.py") 218, Value.int 9 0, Value.int 2 0, Value.int 0 0, Value.int 0 0, Value.int 3 0, Value.ref 30, Value.bool true, Value.int 181 0, Value.ref 31, Value.none, Value.ref 32, Value.ref 33, Value.ref 34, Value.int 221 0, Value.int 9 0, Value.str (Str.ofString "/claim/cut.py") 222]) #[]
noncomputable abbrev ob36 (P : Params) : Obj := Obj.mk (Value.type "function") none (Data.func (FuncData.mk (Str.ofString "__init__") (Str.ofString "BasicError.__init__") (fnOfCls 5).params (.stmts (fnOfCls 5).body) (fnOfCls 5).scope 3 [] Value.none Value.none Value.none (Value.str (Str.ofString "z80.btokens") 200) none (Value.ref 35) Value.none 0)) #[]
noncomputable abbrev ob37 (P : Params) : Obj := Obj.mk (Value.type "tuple") none (Data.seq #[Value.str (Str.ofString "kind") 224]) #[]
noncomputable abbrev ob38 (P : Params) : Obj := Obj.mk (Value.type "dict") none (Data.dict #[DictEntry.mk (PyData.keyHash P (Str.ofString "__module__")) (Value.str (Str.ofString "__module__") 211) (Value.str (Str.ofString "z80.btokens") 200), DictEntry.mk (PyData.keyHash P (Str.ofString "__firstlineno__")) (Value.str (Str.ofString "__firstlineno__") 215) (Value.int 7 214), DictEntry.mk (PyData.keyHash P (Str.ofString "__init__")) (Value.str (Str.ofString "__init__") 223) (Value.ref 36), DictEntry.mk (PyData.keyHash P (Str.ofString "__static_attributes__")) (Value.str (Str.ofString "__static_attributes__") 225) (Value.ref 37), DictEntry.mk (PyData.keyHash P (Str.ofString "__weakref__")) (Value.str (Str.ofString "__weakref__") 227) (Value.ref 40), DictEntry.mk (PyData.keyHash P (Str.ofString "__doc__")) (Value.str (Str.ofString "__doc__") 228) Value.none] 3) #[]
noncomputable abbrev ob39 (P : Params) : Obj := Obj.mk (Value.type "type") none (Data.cls (ClassData.mk (Str.ofString "BasicError") [Value.type "Exception"] [Value.ref 39, Value.type "Exception", Value.type "BaseException", Value.type "object"] 38 (Str.ofString "BasicError") true [] [] false none false)) #[some (Value.ref 23), none, some (Value.str (Str.ofString "BasicError") 204), some (Value.str (Str.ofString "BasicError") 212), some (Value.builtin "Exception.__new__"), some (Value.bool true)]
noncomputable abbrev ob40 (P : Params) : Obj := Obj.mk (Value.type "getset_descriptor") none (Data.fields #[Value.str (Str.ofString "__weakref__") 226, Value.ref 39, Value.builtin "ExceptionGroup.__weakref__", Value.none]) #[]
noncomputable abbrev ob41 (P : Params) : Obj := Obj.mk (Value.type "super") none (Data.fields #[Value.ref 39, Value.ref 39, Value.ref 39]) #[]
noncomputable abbrev ob42 (P : Params) : Obj := Obj.mk (Value.type "builtin_function_or_method") none (Data.fields #[Value.builtin "object.__init_subclass__", Value.ref 39]) #[]
noncomputable abbrev ob43 (P : Params) : Obj := Obj.mk (Value.type "tuple") none (Data.seq #[]) #[]
noncomputable abbrev ob44 (P : Params) : Obj := Obj.mk Value.none none (Data.fields #[]) #[]
noncomputable abbrev ob45 (P : Params) : Obj := Obj.mk (Value.type "tuple") none (Data.seq #[Value.str (Str.ofString "text") 236, Value.str (Str.ofString "at") 237]) #[]
noncomputable abbrev ob46 (P : Params) : Obj := Obj.mk (Value.type "tuple") none (Data.seq #[]) #[]
noncomputable abbrev ob47 (P : Params) : Obj := Obj.mk Value.none none (Data.func (FuncData.mk (Str.ofString "behind_blanks") (Str.ofString "behind_blanks") (fnOf 6).params (.stmts (fnOf 6).body) (fnOf 6).scope 0 [] Value.none Value.none Value.none Value.none none Value.none Value.none 0)) #[]
noncomputable abbrev ob48 (P : Params) : Obj := Obj.mk (Value.type "code") none (Data.fields #[Value.str (Str.ofString "behind_blanks") 233, Value.str (Str.ofString "behind_blanks") 234, Value.str (Str.ofString "/claim/cut.py") 235, Value.int 11 0, Value.int 2 0, Value.int 0 0, Value.int 0 0, Value.int 3 0, Value.ref 43, Value.bool true, Value.int 181 0, Value.ref 44, Value.none, Value.ref 45, Value.ref 46, Value.ref 47, Value.int 238 0, Value.int 11 0, Value.str (Str.ofString "/claim/cut.py") 239]) #[]
noncomputable abbrev ob49 (P : Params) : Obj := Obj.mk (Value.type "function") none (Data.func (FuncData.mk (Str.ofString "behind_blanks") (Str.ofString "behind_blanks") (fnOf 6).params (.stmts (fnOf 6).body) (fnOf 6).scope 3 [] Value.none Value.none Value.none (Value.str (Str.ofString "z80.btokens") 200) none (Value.ref 48) Value.none 0)) #[]
noncomputable abbrev ob50 (P : Params) : Obj := Obj.mk (Value.type "tuple") none (Data.seq #[]) #[]
noncomputable abbrev ob51 (P : Params) : Obj := Obj.mk Value.none none (Data.fields #[]) #[]
noncomputable abbrev ob52 (P : Params) : Obj := Obj.mk (Value.type "tuple") none (Data.seq #[Value.str (Str.ofString "text") 244, Value.str (Str.ofString "at") 245, Value.str (Str.ofString "end") 246]) #[]
noncomputable abbrev ob53 (P : Params) : Obj := Obj.mk (Value.type "tuple") none (Data.seq #[]) #[]
noncomputable abbrev ob54 (P : Params) : Obj := Obj.mk Value.none none (Data.func (FuncData.mk (Str.ofString "read_quoted") (Str.ofString "read_quoted") (fnOf 7).params (.stmts (fnOf 7).body) (fnOf 7).scope 0 [] Value.none Value.none Value.none Value.none none Value.none Value.none 0)) #[]
noncomputable abbrev ob55 (P : Params) : Obj := Obj.mk (Value.type "code") none (Data.fields #[Value.str (Str.ofString "read_quoted") 241, Value.str (Str.ofString "read_quoted") 242, Value.str (Str.ofString "/claim/cut.py") 243, Value.int 15 0, Value.int 2 0, Value.int 0 0, Value.int 0 0, Value.int 3 0, Value.ref 50, Value.bool true, Value.int 181 0, Value.ref 51, Value.none, Value.ref 52, Value.ref 53, Value.ref 54, Value.int 247 0, Value.int 15 0, Value.str (Str.ofString "/claim/cut.py") 248]) #[]
noncomputable abbrev ob56 (P : Params) : Obj := Obj.mk (Value.type "function") none (Data.func (FuncData.mk (Str.ofString "read_quoted") (Str.ofString "read_quoted") (fnOf 7).params (.stmts (fnOf 7).body) (fnOf 7).scope 3 [] Value.none Value.none Value.none (Value.str (Str.ofString "z80.btokens") 200) none (Value.ref 55) Value.none 0)) #[]
noncomputable abbrev ob57 (P : Params) : Obj := Obj.mk (Value.type "tuple") none (Data.seq #[]) #[]
noncomputable abbrev ob58 (P : Params) : Obj := Obj.mk Value.none none (Data.fields #[]) #[]
noncomputable abbrev ob59 (P : Params) : Obj := Obj.mk (Value.type "tuple") none (Data.seq #[Value.str (Str.ofString "text") 253, Value.str (Str.ofString "at") 254, Value.str (Str.ofString "found") 255, Value.str (Str.ofString "begin") 256, Value.str (Str.ofString "end") 257]) #[]
noncomputable abbrev ob60 (P : Params) : Obj := Obj.mk (Value.type "tuple") none (Data.seq #[]) #[]
noncomputable abbrev ob61 (P : Params) : Obj := Obj.mk Value.none none (Data.func (FuncData.mk (Str.ofString "read_item") (Str.ofString "read_item") (fnOf 8).params (.stmts (fnOf 8).body) (fnOf 8).scope 0 [] Value.none Value.none Value.none Value.none none Value.none Value.none 0)) #[]
noncomputable abbrev ob62 (P : Params) : Obj := Obj.mk (Value.type "code") none (Data.fields #[Value.str (Str.ofString "read_item") 250, Value.str (Str.ofString "read_item") 251, Value.str (Str.ofString "/claim/cut.py") 252, Value.int 20 0, Value.int 2 0, Value.int 0 0, Value.int 0 0, Value.int 3 0, Value.ref 57, Value.bool true, Value.int 181 0, Value.ref 58, Value.none, Value.ref 59, Value.ref 60, Value.ref 61, Value.int 258 0, Value.int 20 0, Value.str (Str.ofString "/claim/cut.py") 259]) #[]
noncomputable abbrev ob63 (P : Params) : Obj := Obj.mk (Value.type "function") none (Data.func (FuncData.mk (Str.ofString "read_item") (Str.ofString "read_item") (fnOf 8).params (.stmts (fnOf 8).body) (fnOf 8).scope 3 [] Value.none Value.none Value.none (Value.str (Str.ofString "z80.btokens") 200) none (Value.ref 62) Value.none 0)) #[]
noncomputable abbrev ob64 (P : Params) : Obj := Obj.mk (Value.type "tuple") none (Data.seq #[]) #[]
noncomputable abbrev ob65 (P : Params) : Obj := Obj.mk Value.none none (Data.fields #[]) #[]
noncomputable abbrev ob66 (P : Params) : Obj := Obj.mk (Value.type "tuple") none (Data.seq #[Value.str (Str.ofString "token") 268]) #[]
noncomputable abbrev ob67 (P : Params) : Obj := Obj.mk (Value.type "tuple") none (Data.seq #[]) #[]
noncomputable abbrev ob68 (P : Params) : Obj := Obj.mk Value.none none (Data.func (FuncData.mk (Str.ofString "is_end") (Str.ofString "is_end") (fnOf 11).params (.stmts (fnOf 11).body) (fnOf 11).scope 0 [] Value.none Value.none Value.none Value.none none Value.none Value.none 0)) #[]
noncomputable abbrev ob69 (P : Params) : Obj := Obj.mk (Value.type "code") none (Data.fields #[Value.str (Str.ofString "is_end") 265, Value.str (Str.ofString "is_end") 266, Value.str (Str.ofString "/claim/cut.py") 267, Value.int 37 0, Value.int 1 0, Value.int 0 0, Value.int 0 0, Value.int 3 0, Value.ref 64, Value.bool true, Value.int 181 0, Value.ref 65, Value.none, Value.ref 66, Value.ref 67, Value.ref 68, Value.int 269 0, Value.int 37 0, Value.str (Str.ofString "/claim/cut.py") 270]) #[]
noncomputable abbrev ob70 (P : Params) : Obj := Obj.mk (Value.type "function") none (Data.func (FuncData.mk (Str.ofString "is_end") (Str.ofString "is_end") (fnOf 11).params (.stmts (fnOf 11).body) (fnOf 11).scope 3 [] Value.none Value.none Value.none (Value.str (Str.ofString "z80.bflow") 261) none (Value.ref 69) Value.none 0)) #[]
noncomputable abbrev ob71 (P : Params) : Obj := Obj.mk (Value.type "tuple") none (Data.seq #[]) #[]
noncomputable abbrev ob72 (P : Params) : Obj := Obj.mk Value.none none (Data.fields #[]) #[]
noncomputable abbrev ob73 (P : Params) : Obj := Obj.mk (Value.type "tuple") none (Data.seq #[Value.str (Str.ofString "row") 275, Value.str (Str.ofString "at") 276]) #[]
noncomputable abbrev ob74 (P : Params) : Obj := Obj.mk (Value.type "tuple") none (Data.seq #[]) #[]
noncomputable abbrev ob75 (P : Params) : Obj := Obj.mk Value.none none (Data.func (FuncData.mk (Str.ofString "past_statement") (Str.ofString "past_statement") (fnOf 12).params (.stmts (fnOf 12).body) (fnOf 12).scope 0 [] Value.none Value.none Value.none Value.none none Value.none Value.none 0)) #[]
noncomputable abbrev ob76 (P : Params) : Obj := Obj.mk (Value.type "code") none (Data.fields #[Value.str (Str.ofString "past_statement") 272, Value.str (Str.ofString "past_statement") 273, Value.str (Str.ofString "/claim/cut.py") 274, Value.int 39 0, Value.int 2 0, Value.int 0 0, Value.int 0 0, Value.int 3 0, Value.ref 71, Value.bool true, Value.int 181 0, Value.ref 72, Value.none, Value.ref 73, Value.ref 74, Value.ref 75, Value.int 277 0, Value.int 39 0, Value.str (Str.ofString "/claim/cut.py") 278]) #[]
noncomputable abbrev ob77 (P : Params) : Obj := Obj.mk (Value.type "function") none (Data.func (FuncData.mk (Str.ofString "past_statement") (Str.ofString "past_statement") (fnOf 12).params (.stmts (fnOf 12).body) (fnOf 12).scope 3 [] Value.none Value.none Value.none (Value.str (Str.ofString "z80.bflow") 261) none (Value.ref 76) Value.none 0)) #[]
noncomputable abbrev ob78 (P : Params) : Obj := Obj.mk (Value.type "tuple") none (Data.seq #[]) #[]
noncomputable abbrev ob79 (P : Params) : Obj := Obj.mk Value.none none (Data.fields #[]) #[]
noncomputable abbrev ob80 (P : Params) : Obj := Obj.mk (Value.type "tuple") none (Data.seq #[Value.str (Str.ofString "row") 283, Value.str (Str.ofString "at") 284, Value.str (Str.ofString "depth") 285]) #[]
noncomputable abbrev ob81 (P : Params) : Obj := Obj.mk (Value.type "tuple") none (Data.seq #[]) #[]
noncomputable abbrev ob82 (P : Params) : Obj := Obj.mk Value.none none (Data.func (FuncData.mk (Str.ofString "else_of") (Str.ofString "else_of") (fnOf 13).params (.stmts (fnOf 13).body) (fnOf 13).scope 0 [] Value.none Value.none Value.none Value.none none Value.none Value.none 0)) #[]
noncomputable abbrev ob83 (P : Params) : Obj := Obj.mk (Value.type "code") none (Data.fields #[Value.str (Str.ofString "else_of") 280, Value.str (Str.ofString "else_of") 281, Value.str (Str.ofString "/claim/cut.py") 282, Value.int 43 0, Value.int 2 0, Value.int 0 0, Value.int 0 0, Value.int 3 0, Value.ref 78, Value.bool true, Value.int 181 0, Value.ref 79, Value.none, Value.ref 80, Value.ref 81, Value.ref 82, Value.int 286 0, Value.int 43 0, Value.str (Str.ofString "/claim/cut.py") 287]) #[]
noncomputable abbrev ob84 (P : Params) : Obj := Obj.mk (Value.type "function") none (Data.func (FuncData.mk (Str.ofString "else_of") (Str.ofString "else_of") (fnOf 13).params (.stmts (fnOf 13).body) (fnOf 13).scope 3 [] Value.none Value.none Value.none (Value.str (Str.ofString "z80.bflow") 261) none (Value.ref 83) Value.none 0)) #[]
noncomputable abbrev ob85 (P : Params) : Obj := Obj.mk (Value.type "tuple") none (Data.seq #[]) #[]
noncomputable abbrev ob86 (P : Params) : Obj := Obj.mk Value.none none (Data.fields #[]) #[]
noncomputable abbrev ob87 (P : Params) : Obj := Obj.mk (Value.type "tuple") none (Data.seq #[Value.str (Str.ofString "text") 292, Value.str (Str.ofString "found") 293, Value.str (Str.ofString "at") 294, Value.str (Str.ofString "here") 295, Value.str (Str.ofString "more") 296]) #[]
noncomputable abbrev ob88 (P : Params) : Obj := Obj.mk (Value.type "tuple") none (Data.seq #[]) #[]
noncomputable abbrev ob89 (P : Params) : Obj := Obj.mk Value.none none (Data.func (FuncData.mk (Str.ofString "fields_of") (Str.ofString "fields_of") (fnOf 14).params (.stmts (fnOf 14).body) (fnOf 14).scope 0 [] Value.none Value.none Value.none Value.none none Value.none Value.none 0)) #[]
noncomputable abbrev ob90 (P : Params) : Obj := Obj.mk (Value.type "code") none (Data.fields #[Value.str (Str.ofString "fields_of") 289, Value.str (Str.ofString "fields_of") 290, Value.str (Str.ofString "/claim/cut.py") 291, Value.int 54 0, Value.int 1 0, Value.int 0 0, Value.int 0 0, Value.int 3 0, Value.ref 85, Value.bool true, Value.int 181 0, Value.ref 86, Value.none, Value.ref 87, Value.ref 88, Value.ref 89, Value.int 297 0, Value.int 54 0, Value.str (Str.ofString "/claim/cut.py") 298]) #[]
noncomputable abbrev ob91 (P : Params) : Obj := Obj.mk (Value.type "function") none (Data.func (FuncData.mk (Str.ofString "fields_of") (Str.ofString "fields_of") (fnOf 14).params (.stmts (fnOf 14).body) (fnOf 14).scope 3 [] Value.none Value.none Value.none (Value.str (Str.ofString "z80.bflow") 261) none (Value.ref 90) Value.none 0)) #[]
noncomputable abbrev ob92 (P : Params) : Obj := Obj.mk (Value.type "tuple") none (Data.seq #[]) #[]
noncomputable abbrev ob93 (P : Params) : Obj := Obj.mk Value.none none (Data.fields #[]) #[]
noncomputable abbrev ob94 (P : Params) : Obj := Obj.mk (Value.type "tuple") none (Data.seq #[Value.str (Str.ofString "program") 303, Value.str (Str.ofString "found") 304, Value.str (Str.ofString "number") 305, Value.str (Str.ofString "row") 306, Value.str (Str.ofString "is_data") 307, Value.str (Str.ofString "kind") 308, Value.str (Str.ofString "value") 309]) #[]
noncomputable abbrev ob95 (P : Params) : Obj := Obj.mk (Value.type "tuple") none (Data.seq #[]) #[]
noncomputable abbrev ob96 (P : Params) : Obj := Obj.mk Value.none none (Data.func (FuncData.mk (Str.ofString "data_of") (Str.ofString "data_of") (fnOf 15).params (.stmts (fnOf 15).body) (fnOf 15).scope 0 [] Value.none Value.none Value.none Value.none none Value.none Value.none 0)) #[]
noncomputable abbrev ob97 (P : Params) : Obj := Obj.mk (Value.type "code") none (Data.fields #[Value.str (Str.ofString "data_of") 300, Value.str (Str.ofString "data_of") 301, Value.str (Str.ofString "/claim/cut.py") 302, Value.int 65 0, Value.int 1 0, Value.int 0 0, Value.int 0 0, Value.int 3 0, Value.ref 92, Value.bool true, Value.int 181 0, Value.ref 93, Value.none, Value.ref 94, Value.ref 95, Value.ref 96, Value.int 310 0, Value.int 65 0, Value.str (Str.ofString "/claim/cut.py") 311]) #[]
noncomputable abbrev ob98 (P : Params) : Obj := Obj.mk (Value.type "function") none (Data.func (FuncData.mk (Str.ofString "data_of") (Str.ofString "data_of") (fnOf 15).params (.stmts (fnOf 15).body) (fnOf 15).scope 3 [] Value.none Value.none Value.none (Value.str (Str.ofString "z80.bflow") 261) none (Value.ref 97) Value.none 0)) #[]
noncomputable abbrev ob99 (P : Params) : Obj := Obj.mk (Value.type "tuple") none (Data.seq #[]) #[]
noncomputable abbrev ob100 (P : Params) : Obj := Obj.mk Value.none none (Data.fields #[]) #[]
noncomputable abbrev ob101 (P : Params) : Obj := Obj.mk Value.none none (Data.func (FuncData.mk (Str.ofString "number_in") (Str.ofString "number_in") (fnOf 16).params (.stmts (fnOf 16).body) (fnOf 16).scope 0 [] Value.none Value.none Value.none Value.none none Value.none Value.none 0)) #[]
noncomputable abbrev ob102 (P : Params) : Obj := Obj.mk (Value.type "code") none (Data.fields #[Value.str (Str.ofString "number_in") 313, Value.str (Str.ofString "number_in") 314, Value.str (Str.ofString "/claim/cut.py") 315, Value.int 75 0, Value.int 1 0, Value.int 0 0, Value.int 0 0, Value.int 3 0, Value.ref 99, Value.bool true, Value.int 181 0, Value.ref 100, Value.none, Value.none, Value.none, Value.ref 101, Value.int 316 0, Value.int 75 0, Value.str (Str.ofString "/claim/cut.py") 317]) #[]
noncomputable abbrev ob103 (P : Params) : Obj := Obj.mk (Value.type "function") none (Data.func (FuncData.mk (Str.ofString "number_in") (Str.ofString "number_in") (fnOf 16).params (.stmts (fnOf 16).body) (fnOf 16).scope 3 [] Value.none Value.none Value.none (Value.str (Str.ofString "z80.bflow") 261) none (Value.ref 102) Value.none 0)) #[]
noncomputable abbrev ob104 (P : Params) : Obj := Obj.mk (Value.type "tuple") none (Data.seq #[]) #[]
noncomputable abbrev ob105 (P : Params) : Obj := Obj.mk Value.none none (Data.fields #[]) #[]
noncomputable abbrev ob106 (P : Params) : Obj := Obj.mk (Value.type "tuple") none (Data.seq #[Value.str (Str.ofString "program") 322, Value.str (Str.ofString "line") 323, Value.str (Str.ofString "at") 324, Value.str (Str.ofString "depth") 325, Value.str (Str.ofString "row") 326]) #[]
noncomputable abbrev ob107 (P : Params) : Obj := Obj.mk (Value.type "tuple") none (Data.seq #[]) #[]
noncomputable abbrev ob108 (P : Params) : Obj := Obj.mk Value.none none (Data.func (FuncData.mk (Str.ofString "next_place") (Str.ofString "next_place") (fnOf 17).params (.stmts (fnOf 17).body) (fnOf 17).scope 0 [] Value.none Value.none Value.none Value.none none Value.none Value.none 0)) #[]
noncomputable abbrev ob109 (P : Params) : Obj := Obj.mk (Value.type "code") none (Data.fields #[Value.str (Str.ofString "next_place") 319, Value.str (Str.ofString "next_place") 320, Value.str (Str.ofString "/claim/cut.py") 321, Value.int 87 0, Value.int 3 0, Value.int 0 0, Value.int 0 0, Value.int 3 0, Value.ref 104, Value.bool true, Value.int 181 0, Value.ref 105, Value.none, Value.ref 106, Value.ref 107, Value.ref 108, Value.int 327 0, Value.int 87 0, Value.str (Str.ofString "/claim/cut.py") 328]) #[]
noncomputable abbrev ob110 (P : Params) : Obj := Obj.mk (Value.type "function") none (Data.func (FuncData.mk (Str.ofString "next_place") (Str.ofString "next_place") (fnOf 17).params (.stmts (fnOf 17).body) (fnOf 17).scope 3 [] Value.none Value.none Value.none (Value.str (Str.ofString "z80.bflow") 261) none (Value.ref 109) Value.none 0)) #[]
noncomputable abbrev ob111 (P : Params) : Obj := Obj.mk (Value.type "tuple") none (Data.seq #[]) #[]
noncomputable abbrev ob112 (P : Params) : Obj := Obj.mk Value.none none (Data.fields #[]) #[]
noncomputable abbrev ob113 (P : Params) : Obj := Obj.mk (Value.type "tuple") none (Data.seq #[Value.str (Str.ofString "row") 333, Value.str (Str.ofString "at") 334, Value.str (Str.ofString "depth") 335]) #[]
noncomputable abbrev ob114 (P : Params) : Obj := Obj.mk (Value.type "tuple") none (Data.seq #[]) #[]
noncomputable abbrev ob115 (P : Params) : Obj := Obj.mk Value.none none (Data.func (FuncData.mk (Str.ofString "ended_by_next") (Str.ofString "ended_by_next") (fnOf 18).params (.stmts (fnOf 18).body) (fnOf 18).scope 0 [] Value.none Value.none Value.none Value.none none Value.none Value.none 0)) #[]
noncomputable abbrev ob116 (P : Params) : Obj := Obj.mk (Value.type "code") none (Data.fields #[Value.str (Str.ofString "ended_by_next") 330, Value.str (Str.ofString "ended_by_next") 331, Value.str (Str.ofString "/claim/cut.py") 332, Value.int 101 0, Value.int 3 0, Value.int 0 0, Value.int 0 0, Value.int 3 0, Value.ref 111, Value.bool true, Value.int 181 0, Value.ref 112, Value.none, Value.ref 113, Value.ref 114, Value.ref 115, Value.int 336 0, Value.int 101 0, Value.str (Str.ofString "/claim/cut.py") 337]) #[]
noncomputable abbrev ob117 (P : Params) : Obj := Obj.mk (Value.type "function") none (Data.func (FuncData.mk (Str.ofString "ended_by_next") (Str.ofString "ended_by_next") (fnOf 18).params (.stmts (fnOf 18).body) (fnOf 18).scope 3 [] Value.none Value.none Value.none (Value.str (Str.ofString "z80.bflow") 261) none (Value.ref 116) Value.none 0)) #[]
noncomputable abbrev ob118 (P : Params) : Obj := Obj.mk (Value.type "tuple") none (Data.seq #[]) #[]
noncomputable abbrev ob119 (P : Params) : Obj := Obj.mk (Value.type "builtin_function_or_method") none (Data.fields #[Value.builtin "type.__prepare__", Value.type "type"]) #[]
noncomputable abbrev ob120 (P : Params) : Obj := Obj.mk (Value.type "dict") none (Data.dict #[DictEntry.mk (PyData.keyHash P (Str.ofString "__module__")) (Value.str (Str.ofString "__module__") 350) (Value.str (Str.ofString "z80.bprogram") 339), DictEntry.mk (PyData.keyHash P (Str.ofString "__qualname__")) (Value.str (Str.ofString "__qualname__") 352) (Value.str (Str.ofString "Program") 351), DictEntry.mk (PyData.keyHash P (Str.ofString "__firstlineno__")) (Value.str (Str.ofString "__firstlineno__") 354) (Value.int 110 353), DictEntry.mk (PyData.keyHash P (Str.ofString "__init__")) (Value.str (Str.ofString "__init__") 361) (Value.ref 131), DictEntry.mk (PyData.keyHash P (Str.ofString "__static_attributes__")) (Value.str (Str.ofString "__static_attributes__") 364) (Value.ref 132)] 5) #[]
noncomputable abbrev ob121 (P : Params) : Obj := Obj.mk (Value.type "tuple") none (Data.seq #[]) #[]
noncomputable abbrev ob122 (P : Params) : Obj := Obj.mk Value.none none (Data.fields #[Value.int 112 0, Value.int 4 0, Value.ref 130]) #[]
noncomputable abbrev ob123 (P : Params) : Obj := Obj.mk (Value.type "code") none (Data.fields #[Value.str (Str.ofString "Program") 345, Value.str (Str.ofString "Program") 346, Value.str (Str.ofString "/claim/cut.py") 347, Value.int 110 0, Value.int 0 0, Value.int 0 0, Value.int 0 0, Value.int 0 0, Value.ref 121, Value.bool false, Value.int 181 0, Value.ref 122, Value.none, Value.none, Value.none, Value.none, Value.int 348 0, Value.int 110 0, Value.str (Str.ofString "/claim/cut.py") 349]) #[]
noncomputable abbrev ob124 (P : Params) : Obj := Obj.mk (Value.type "frame") none Data.plain #[some (Value.ref 123), some (Value.ref 3), some (Value.ref 120), none, some (Value.str (Str.ofString "z80.bprogram") 339), none, some (Value.ref 0)]
noncomputable abbrev ob125 (P : Params) : Obj := Obj.mk (Value.type "tuple") none (Data.seq #[]) #[]
noncomputable abbrev ob126 (P : Params) : Obj := Obj.mk Value.none none (Data.fields #[]) #[]
noncomputable abbrev ob127 (P : Params) : Obj := Obj.mk (Value.type "tuple") none (Data.seq #[Value.str (Str.ofString "self") 358]) #[]
noncomputable abbrev ob128 (P : Params) : Obj := Obj.mk (Value.type "tuple") none (Data.seq #[]) #[]
noncomputable abbrev ob129 (P : Params) : Obj := Obj.mk Value.none none (Data.func (FuncData.mk (Str.ofString "__init__") (Str.ofString "Program.__init__") (fnOfCls 21).params (.stmts (fnOfCls 21).body) (fnOfCls 21).scope 0 [] Value.none Value.none Value.none Value.none none Value.none Value.none 0)) #[]
noncomputable abbrev ob130 (P : Params) : Obj := Obj.mk (Value.type "code") none (Data.fields #[Value.str (Str.ofString "__init__") 355, Value.str (Str.ofString "Program.__init__") 356, Value.str (Str.ofString "/claim/cut.py") 357, Value.int 112 0, Value.int 1 0, Value.int 0 0, Value.int 0 0, Value.int 3 0, Value.ref 125, Value.bool true, Value.int 181 0, Value.ref 126, Value.none, Value.ref 127, Value.ref 128, Value.ref 129, Value.int 359 0, Value.int 112 0, Value.str (Str.ofString "/claim/cut.py") 360]) #[]
noncomputable abbrev ob131 (P : Params) : Obj := Obj.mk (Value.type "function") none (Data.func (FuncData.mk (Str.ofString "__init__") (Str.ofString "Program.__init__") (fnOfCls 21).params (.stmts (fnOfCls 21).body) (fnOfCls 21).scope 3 [] Value.none Value.none Value.none (Value.str (Str.ofString "z80.bprogram") 339) none (Value.ref 130) Value.none 0)) #[]
noncomputable abbrev ob132 (P : Params) : Obj := Obj.mk (Value.type "tuple") none (Data.seq #[Value.str (Str.ofString "numbers") 362, Value.str (Str.ofString "rows") 363]) #[]
noncomputable abbrev ob133 (P : Params) : Obj := Obj.mk (Value.type "dict") none (Data.dict #[DictEntry.mk (PyData.keyHash P (Str.ofString "__module__")) (Value.str (Str.ofString "__module__") 350) (Value.str (Str.ofString "z80.bprogram") 339), DictEntry.mk (PyData.keyHash P (Str.ofString "__firstlineno__")) (Value.str (Str.ofString "__firstlineno__") 354) (Value.int 110 353), DictEntry.mk (PyData.keyHash P (Str.ofString "__init__")) (Value.str (Str.ofString "__init__") 361) (Value.ref 131), DictEntry.mk (PyData.keyHash P (Str.ofString "__static_attributes__")) (Value.str (Str.ofString "__static_attributes__") 364) (Value.ref 132), DictEntry.mk (PyData.keyHash P (Str.ofString "__dict__")) (Value.str (Str.ofString "__dict__") 366) (Value.ref 135), DictEntry.mk (PyData.keyHash P (Str.ofString "__weakref__")) (Value.str (Str.ofString "__weakref__") 368) (Value.ref 136), DictEntry.mk (PyData.keyHash P (Str.ofString "__doc__")) (Value.str (Str.ofString "__doc__") 369) Value.none] 4) #[]
noncomputable abbrev ob134 (P : Params) : Obj := Obj.mk (Value.type "type") none (Data.cls (ClassData.mk (Str.ofString "Program") [Value.type "object"] [Value.ref 134, Value.type "object"] 133 (Str.ofString "Program") true [] [] false none false)) #[none, none, some (Value.str (Str.ofString "Program") 343), some (Value.str (Str.ofString "Program") 351), some (Value.builtin "object.__new__"), some (Value.bool true)]
noncomputable abbrev ob135 (P : Params) : Obj := Obj.mk (Value.type "getset_descriptor") none (Data.fields #[Value.str (Str.ofString "__dict__") 365, Value.ref 134, Value.builtin "function.__dict__", Value.builtin "function.__dict__#set"]) #[]
noncomputable abbrev ob136 (P : Params) : Obj := Obj.mk (Value.type "getset_descriptor") none (Data.fields #[Value.str (Str.ofString "__weakref__") 367, Value.ref 134, Value.builtin "ExceptionGroup.__weakref__", Value.none]) #[]
noncomputable abbrev ob137 (P : Params) : Obj := Obj.mk (Value.type "super") none (Data.fields #[Value.ref 134, Value.ref 134, Value.ref 134]) #[]
noncomputable abbrev ob138 (P : Params) : Obj := Obj.mk (Value.type "builtin_function_or_method") none (Data.fields #[Value.builtin "object.__init_subclass__", Value.ref 134]) #[]
noncomputable abbrev ob139 (P : Params) : Obj := Obj.mk (Value.type "tuple") none (Data.seq #[]) #[]
noncomputable abbrev ob140 (P : Params) : Obj := Obj.mk Value.none none (Data.fields #[]) #[]
noncomputable abbrev ob141 (P : Params) : Obj := Obj.mk (Value.type "tuple") none (Data.seq #[Value.str (Str.ofString "program") 375, Value.str (Str.ofString "number") 376, Value.str (Str.ofString "least") 377, Value.str (Str.ofString "most") 378, Value.str (Str.ofString "middle") 379]) #[]
noncomputable abbrev ob142 (P : Params) : Obj := Obj.mk (Value.type "tuple") none (Data.seq #[]) #[]
noncomputable abbrev ob143 (P : Params) : Obj := Obj.mk Value.none none (Data.func (FuncData.mk (Str.ofString "place_of") (Str.ofString "place_of") (fnOf 22).params (.stmts (fnOf 22).body) (fnOf 22).scope 0 [] Value.none Value.none Value.none Value.none none Value.none Value.none 0)) #[]
noncomputable abbrev ob144 (P : Params) : Obj := Obj.mk (Value.type "code") none (Data.fields #[Value.str (Str.ofString "place_of") 372, Value.str (Str.ofString "place_of") 373, Value.str (Str.ofString "/claim/cut.py") 374, Value.int 115 0, Value.int 2 0, Value.int 0 0, Value.int 0 0, Value.int 3 0, Value.ref 139, Value.bool true, Value.int 181 0, Value.ref 140, Value.none, Value.ref 141, Value.ref 142, Value.ref 143, Value.int 380 0, Value.int 115 0, Value.str (Str.ofString "/claim/cut.py") 381]) #[]
noncomputable abbrev ob145 (P : Params) : Obj := Obj.mk (Value.type "function") none (Data.func (FuncData.mk (Str.ofString "place_of") (Str.ofString "place_of") (fnOf 22).params (.stmts (fnOf 22).body) (fnOf 22).scope 3 [] Value.none Value.none Value.none (Value.str (Str.ofString "z80.bprogram") 339) none (Value.ref 144) Value.none 0)) #[]
noncomputable abbrev ob146 (P : Params) : Obj := Obj.mk (Value.type "tuple") none (Data.seq #[]) #[]
noncomputable abbrev ob147 (P : Params) : Obj := Obj.mk Value.none none (Data.fields #[]) #[]
noncomputable abbrev ob148 (P : Params) : Obj := Obj.mk (Value.type "tuple") none (Data.seq #[Value.str (Str.ofString "program") 386, Value.str (Str.ofString "number") 387, Value.str (Str.ofString "at") 388]) #[]
noncomputable abbrev ob149 (P : Params) : Obj := Obj.mk (Value.type "tuple") none (Data.seq #[]) #[]
noncomputable abbrev ob150 (P : Params) : Obj := Obj.mk Value.none none (Data.func (FuncData.mk (Str.ofString "has_line") (Str.ofString "has_line") (fnOf 23).params (.stmts (fnOf 23).body) (fnOf 23).scope 0 [] Value.none Value.none Value.none Value.none none Value.none Value.none 0)) #[]
noncomputable abbrev ob151 (P : Params) : Obj := Obj.mk (Value.type "code") none (Data.fields #[Value.str (Str.ofString "has_line") 383, Value.str (Str.ofString "has_line") 384, Value.str (Str.ofString "/claim/cut.py") 385, Value.int 124 0, Value.int 2 0, Value.int 0 0, Value.int 0 0, Value.int 3 0, Value.ref 146, Value.bool true, Value.int 181 0, Value.ref 147, Value.none, Value.ref 148, Value.ref 149, Value.ref 150, Value.int 389 0, Value.int 124 0, Value.str (Str.ofString "/claim/cut.py") 390]) #[]
noncomputable abbrev ob152 (P : Params) : Obj := Obj.mk (Value.type "function") none (Data.func (FuncData.mk (Str.ofString "has_line") (Str.ofString "has_line") (fnOf 23).params (.stmts (fnOf 23).body) (fnOf 23).scope 3 [] Value.none Value.none Value.none (Value.str (Str.ofString "z80.bprogram") 339) none (Value.ref 151) Value.none 0)) #[]
noncomputable abbrev ob153 (P : Params) : Obj := Obj.mk (Value.type "tuple") none (Data.seq #[]) #[]
noncomputable abbrev ob154 (P : Params) : Obj := Obj.mk Value.none none (Data.fields #[]) #[]
noncomputable abbrev ob155 (P : Params) : Obj := Obj.mk (Value.type "tuple") none (Data.seq #[Value.str (Str.ofString "program") 395, Value.str (Str.ofString "number") 396, Value.str (Str.ofString "row") 397, Value.str (Str.ofString "at") 398, Value.str (Str.ofString "is_there") 399]) #[]
noncomputable abbrev ob156 (P : Params) : Obj := Obj.mk (Value.type "tuple") none (Data.seq #[]) #[]
noncomputable abbrev ob157 (P : Params) : Obj := Obj.mk Value.none none (Data.func (FuncData.mk (Str.ofString "put_line") (Str.ofString "put_line") (fnOf 24).params (.stmts (fnOf 24).body) (fnOf 24).scope 0 [] Value.none Value.none Value.none Value.none none Value.none Value.none 0)) #[]
noncomputable abbrev ob158 (P : Params) : Obj := Obj.mk (Value.type "code") none (Data.fields #[Value.str (Str.ofString "put_line") 392, Value.str (Str.ofString "put_line") 393, Value.str (Str.ofString "/claim/cut.py") 394, Value.int 127 0, Value.int 3 0, Value.int 0 0, Value.int 0 0, Value.int 3 0, Value.ref 153, Value.bool true, Value.int 181 0, Value.ref 154, Value.none, Value.ref 155, Value.ref 156, Value.ref 157, Value.int 400 0, Value.int 127 0, Value.str (Str.ofString "/claim/cut.py") 401]) #[]
noncomputable abbrev ob159 (P : Params) : Obj := Obj.mk (Value.type "function") none (Data.func (FuncData.mk (Str.ofString "put_line") (Str.ofString "put_line") (fnOf 24).params (.stmts (fnOf 24).body) (fnOf 24).scope 3 [] Value.none Value.none Value.none (Value.str (Str.ofString "z80.bprogram") 339) none (Value.ref 158) Value.none 0)) #[]
noncomputable abbrev ob160 (P : Params) : Obj := Obj.mk (Value.type "tuple") none (Data.seq #[Value.str (Str.ofString "word") 405, Value.str (Str.ofString "IF") 406]) #[]
noncomputable abbrev ob161 (P : Params) : Obj := Obj.mk (Value.type "tuple") none (Data.seq #[Value.str (Str.ofString "name") 407, Value.str (Str.ofString "A") 408]) #[]
noncomputable abbrev ob162 (P : Params) : Obj := Obj.mk (Value.type "tuple") none (Data.seq #[Value.str (Str.ofString "word") 409, Value.str (Str.ofString "THEN") 410]) #[]
noncomputable abbrev ob163 (P : Params) : Obj := Obj.mk (Value.type "list") none (Data.seq #[Value.ref 160, Value.ref 161, Value.ref 162]) #[]
noncomputable abbrev ob164 (P : Params) : Obj := Obj.mk (Value.type "tuple") none (Data.seq #[]) #[]
noncomputable abbrev ob165 (P : Params) : Obj := Obj.mk Value.none none (Data.fields #[]) #[]
noncomputable abbrev ob166 (P : Params) : Obj := Obj.mk (Value.type "tuple") none (Data.seq #[Value.str (Str.ofString "numbers") 415, Value.str (Str.ofString "found") 416, Value.str (Str.ofString "number") 417, Value.str (Str.ofString "form") 418]) #[]
noncomputable abbrev ob167 (P : Params) : Obj := Obj.mk (Value.type "tuple") none (Data.seq #[]) #[]
noncomputable abbrev ob168 (P : Params) : Obj := Obj.mk Value.none none (Data.func (FuncData.mk (Str.ofString "_law_row") (Str.ofString "_law_row") (fnOf 27).params (.stmts (fnOf 27).body) (fnOf 27).scope 0 [] Value.none Value.none Value.none Value.none none Value.none Value.none 0)) #[]
noncomputable abbrev ob169 (P : Params) : Obj := Obj.mk (Value.type "code") none (Data.fields #[Value.str (Str.ofString "_law_row") 412, Value.str (Str.ofString "_law_row") 413, Value.str (Str.ofString "/claim/cut.py") 414, Value.int 144 0, Value.int 1 0, Value.int 0 0, Value.int 0 0, Value.int 3 0, Value.ref 164, Value.bool true, Value.int 181 0, Value.ref 165, Value.none, Value.ref 166, Value.ref 167, Value.ref 168, Value.int 419 0, Value.int 144 0, Value.str (Str.ofString "/claim/cut.py") 420]) #[]
noncomputable abbrev ob170 (P : Params) : Obj := Obj.mk (Value.type "function") none (Data.func (FuncData.mk (Str.ofString "_law_row") (Str.ofString "_law_row") (fnOf 27).params (.stmts (fnOf 27).body) (fnOf 27).scope 3 [] Value.none Value.none Value.none (Value.str (Str.ofString "law_nz0570_01") 403) none (Value.ref 169) Value.none 0)) #[]
noncomputable abbrev ob171 (P : Params) : Obj := Obj.mk (Value.type "tuple") none (Data.seq #[]) #[]
noncomputable abbrev ob172 (P : Params) : Obj := Obj.mk Value.none none (Data.fields #[]) #[]
noncomputable abbrev ob173 (P : Params) : Obj := Obj.mk (Value.type "tuple") none (Data.seq #[Value.str (Str.ofString "row") 425, Value.str (Str.ofString "found") 426, Value.str (Str.ofString "at") 427, Value.str (Str.ofString "token") 428, Value.str (Str.ofString "end") 429, Value.str (Str.ofString "ahead") 430]) #[]
noncomputable abbrev ob174 (P : Params) : Obj := Obj.mk (Value.type "tuple") none (Data.seq #[]) #[]
noncomputable abbrev ob175 (P : Params) : Obj := Obj.mk Value.none none (Data.func (FuncData.mk (Str.ofString "_law_elses") (Str.ofString "_law_elses") (fnOf 28).params (.stmts (fnOf 28).body) (fnOf 28).scope 0 [] Value.none Value.none Value.none Value.none none Value.none Value.none 0)) #[]
noncomputable abbrev ob176 (P : Params) : Obj := Obj.mk (Value.type "code") none (Data.fields #[Value.str (Str.ofString "_law_elses") 422, Value.str (Str.ofString "_law_elses") 423, Value.str (Str.ofString "/claim/cut.py") 424, Value.int 155 0, Value.int 1 0, Value.int 0 0, Value.int 0 0, Value.int 3 0, Value.ref 171, Value.bool true, Value.int 181 0, Value.ref 172, Value.none, Value.ref 173, Value.ref 174, Value.ref 175, Value.int 431 0, Value.int 155 0, Value.str (Str.ofString "/claim/cut.py") 432]) #[]
noncomputable abbrev ob177 (P : Params) : Obj := Obj.mk (Value.type "function") none (Data.func (FuncData.mk (Str.ofString "_law_elses") (Str.ofString "_law_elses") (fnOf 28).params (.stmts (fnOf 28).body) (fnOf 28).scope 3 [] Value.none Value.none Value.none (Value.str (Str.ofString "law_nz0570_01") 403) none (Value.ref 176) Value.none 0)) #[]
noncomputable abbrev ob178 (P : Params) : Obj := Obj.mk (Value.type "tuple") none (Data.seq #[]) #[]
noncomputable abbrev ob179 (P : Params) : Obj := Obj.mk Value.none none (Data.fields #[]) #[]
noncomputable abbrev ob180 (P : Params) : Obj := Obj.mk Value.none none (Data.func (FuncData.mk (Str.ofString "_law_open") (Str.ofString "_law_open") (fnOf 29).params (.stmts (fnOf 29).body) (fnOf 29).scope 0 [] Value.none Value.none Value.none Value.none none Value.none Value.none 0)) #[]
noncomputable abbrev ob181 (P : Params) : Obj := Obj.mk (Value.type "code") none (Data.fields #[Value.str (Str.ofString "_law_open") 434, Value.str (Str.ofString "_law_open") 435, Value.str (Str.ofString "/claim/cut.py") 436, Value.int 165 0, Value.int 1 0, Value.int 0 0, Value.int 0 0, Value.int 3 0, Value.ref 178, Value.bool true, Value.int 181 0, Value.ref 179, Value.none, Value.none, Value.none, Value.ref 180, Value.int 437 0, Value.int 165 0, Value.str (Str.ofString "/claim/cut.py") 438]) #[]
noncomputable abbrev ob182 (P : Params) : Obj := Obj.mk (Value.type "function") none (Data.func (FuncData.mk (Str.ofString "_law_open") (Str.ofString "_law_open") (fnOf 29).params (.stmts (fnOf 29).body) (fnOf 29).scope 3 [] Value.none Value.none Value.none (Value.str (Str.ofString "law_nz0570_01") 403) none (Value.ref 181) Value.none 0)) #[]
noncomputable abbrev ob183 (P : Params) : Obj := Obj.mk (Value.type "tuple") none (Data.seq #[]) #[]
noncomputable abbrev ob184 (P : Params) : Obj := Obj.mk Value.none none (Data.fields #[]) #[]
noncomputable abbrev ob185 (P : Params) : Obj := Obj.mk (Value.type "tuple") none (Data.seq #[Value.str (Str.ofString "row") 443, Value.str (Str.ofString "due") 444, Value.str (Str.ofString "at") 445, Value.str (Str.ofString "end") 446]) #[]
noncomputable abbrev ob186 (P : Params) : Obj := Obj.mk (Value.type "tuple") none (Data.seq #[]) #[]
noncomputable abbrev ob187 (P : Params) : Obj := Obj.mk Value.none none (Data.func (FuncData.mk (Str.ofString "_law_rows_right") (Str.ofString "_law_rows_right") (fnOf 30).params (.stmts (fnOf 30).body) (fnOf 30).scope 0 [] Value.none Value.none Value.none Value.none none Value.none Value.none 0)) #[]
noncomputable abbrev ob188 (P : Params) : Obj := Obj.mk (Value.type "code") none (Data.fields #[Value.str (Str.ofString "_law_rows_right") 440, Value.str (Str.ofString "_law_rows_right") 441, Value.str (Str.ofString "/claim/cut.py") 442, Value.int 167 0, Value.int 1 0, Value.int 0 0, Value.int 0 0, Value.int 3 0, Value.ref 183, Value.bool true, Value.int 181 0, Value.ref 184, Value.none, Value.ref 185, Value.ref 186, Value.ref 187, Value.int 447 0, Value.int 167 0, Value.str (Str.ofString "/claim/cut.py") 448]) #[]
noncomputable abbrev ob189 (P : Params) : Obj := Obj.mk (Value.type "function") none (Data.func (FuncData.mk (Str.ofString "_law_rows_right") (Str.ofString "_law_rows_right") (fnOf 30).params (.stmts (fnOf 30).body) (fnOf 30).scope 3 [] Value.none Value.none Value.none (Value.str (Str.ofString "law_nz0570_01") 403) none (Value.ref 188) Value.none 0)) #[]
noncomputable abbrev ob190 (P : Params) : Obj := Obj.mk (Value.type "tuple") none (Data.seq #[]) #[]
noncomputable abbrev ob191 (P : Params) : Obj := Obj.mk Value.none none (Data.fields #[]) #[]
noncomputable abbrev ob192 (P : Params) : Obj := Obj.mk (Value.type "tuple") none (Data.seq #[Value.str (Str.ofString "number") 453]) #[]
noncomputable abbrev ob193 (P : Params) : Obj := Obj.mk (Value.type "tuple") none (Data.seq #[]) #[]
noncomputable abbrev ob194 (P : Params) : Obj := Obj.mk Value.none none (Data.func (FuncData.mk (Str.ofString "_law_item") (Str.ofString "_law_item") (fnOf 31).params (.stmts (fnOf 31).body) (fnOf 31).scope 0 [] Value.none Value.none Value.none Value.none none Value.none Value.none 0)) #[]
noncomputable abbrev ob195 (P : Params) : Obj := Obj.mk (Value.type "code") none (Data.fields #[Value.str (Str.ofString "_law_item") 450, Value.str (Str.ofString "_law_item") 451, Value.str (Str.ofString "/claim/cut.py") 452, Value.int 179 0, Value.int 1 0, Value.int 0 0, Value.int 0 0, Value.int 3 0, Value.ref 190, Value.bool true, Value.int 181 0, Value.ref 191, Value.none, Value.ref 192, Value.ref 193, Value.ref 194, Value.int 454 0, Value.int 179 0, Value.str (Str.ofString "/claim/cut.py") 455]) #[]
noncomputable abbrev ob196 (P : Params) : Obj := Obj.mk (Value.type "function") none (Data.func (FuncData.mk (Str.ofString "_law_item") (Str.ofString "_law_item") (fnOf 31).params (.stmts (fnOf 31).body) (fnOf 31).scope 3 [] Value.none Value.none Value.none (Value.str (Str.ofString "law_nz0570_01") 403) none (Value.ref 195) Value.none 0)) #[]
noncomputable abbrev ob197 (P : Params) : Obj := Obj.mk (Value.type "tuple") none (Data.seq #[]) #[]
noncomputable abbrev ob198 (P : Params) : Obj := Obj.mk Value.none none (Data.fields #[]) #[]
noncomputable abbrev ob199 (P : Params) : Obj := Obj.mk Value.none none (Data.func (FuncData.mk (Str.ofString "_law_data_right") (Str.ofString "_law_data_right") (fnOf 32).params (.stmts (fnOf 32).body) (fnOf 32).scope 0 [] Value.none Value.none Value.none Value.none none Value.none Value.none 0)) #[]
noncomputable abbrev ob200 (P : Params) : Obj := Obj.mk (Value.type "code") none (Data.fields #[Value.str (Str.ofString "_law_data_right") 457, Value.str (Str.ofString "_law_data_right") 458, Value.str (Str.ofString "/claim/cut.py") 459, Value.int 181 0, Value.int 1 0, Value.int 0 0, Value.int 0 0, Value.int 3 0, Value.ref 197, Value.bool true, Value.int 181 0, Value.ref 198, Value.none, Value.none, Value.none, Value.ref 199, Value.int 460 0, Value.int 181 0, Value.str (Str.ofString "/claim/cut.py") 461]) #[]
noncomputable abbrev ob201 (P : Params) : Obj := Obj.mk (Value.type "function") none (Data.func (FuncData.mk (Str.ofString "_law_data_right") (Str.ofString "_law_data_right") (fnOf 32).params (.stmts (fnOf 32).body) (fnOf 32).scope 3 [] Value.none Value.none Value.none (Value.str (Str.ofString "law_nz0570_01") 403) none (Value.ref 200) Value.none 0)) #[]
noncomputable abbrev ob202 (P : Params) : Obj := Obj.mk (Value.type "tuple") none (Data.seq #[]) #[]
noncomputable abbrev ob203 (P : Params) : Obj := Obj.mk Value.none none (Data.fields #[]) #[]
noncomputable abbrev ob204 (P : Params) : Obj := Obj.mk (Value.type "tuple") none (Data.seq #[Value.str (Str.ofString "some") 466, Value.str (Str.ofString "program") 467, Value.str (Str.ofString "events") 468, Value.str (Str.ofString "line") 469, Value.str (Str.ofString "row") 470, Value.str (Str.ofString "spot") 471, Value.str (Str.ofString "number") 472, Value.str (Str.ofString "turn") 473]) #[]
noncomputable abbrev ob205 (P : Params) : Obj := Obj.mk (Value.type "tuple") none (Data.seq #[]) #[]
noncomputable abbrev ob206 (P : Params) : Obj := Obj.mk Value.none none (Data.func (FuncData.mk (Str.ofString "_law_loops") (Str.ofString "_law_loops") (fnOf 33).params (.stmts (fnOf 33).body) (fnOf 33).scope 0 [] Value.none Value.none Value.none Value.none none Value.none Value.none 0)) #[]
noncomputable abbrev ob207 (P : Params) : Obj := Obj.mk (Value.type "code") none (Data.fields #[Value.str (Str.ofString "_law_loops") 463, Value.str (Str.ofString "_law_loops") 464, Value.str (Str.ofString "/claim/cut.py") 465, Value.int 195 0, Value.int 1 0, Value.int 0 0, Value.int 0 0, Value.int 3 0, Value.ref 202, Value.bool true, Value.int 181 0, Value.ref 203, Value.none, Value.ref 204, Value.ref 205, Value.ref 206, Value.int 474 0, Value.int 195 0, Value.str (Str.ofString "/claim/cut.py") 475]) #[]
noncomputable abbrev ob208 (P : Params) : Obj := Obj.mk (Value.type "function") none (Data.func (FuncData.mk (Str.ofString "_law_loops") (Str.ofString "_law_loops") (fnOf 33).params (.stmts (fnOf 33).body) (fnOf 33).scope 3 [] Value.none Value.none Value.none (Value.str (Str.ofString "law_nz0570_01") 403) none (Value.ref 207) Value.none 0)) #[]
noncomputable abbrev ob209 (P : Params) : Obj := Obj.mk (Value.type "tuple") none (Data.seq #[]) #[]
noncomputable abbrev ob210 (P : Params) : Obj := Obj.mk Value.none none (Data.fields #[]) #[]
noncomputable abbrev ob211 (P : Params) : Obj := Obj.mk (Value.type "tuple") none (Data.seq #[Value.str (Str.ofString "some") 480, Value.str (Str.ofString "program") 481, Value.str (Str.ofString "events") 482, Value.str (Str.ofString "at") 483, Value.str (Str.ofString "one") 484, Value.str (Str.ofString "depth") 485, Value.str (Str.ofString "due") 486, Value.str (Str.ofString "other") 487, Value.str (Str.ofString "found") 488, Value.str (Str.ofString "caught") 489]) #[]
noncomputable abbrev ob212 (P : Params) : Obj := Obj.mk (Value.type "tuple") none (Data.seq #[]) #[]
noncomputable abbrev ob213 (P : Params) : Obj := Obj.mk Value.none none (Data.func (FuncData.mk (Str.ofString "_law_loops_right") (Str.ofString "_law_loops_right") (fnOf 34).params (.stmts (fnOf 34).body) (fnOf 34).scope 0 [] Value.none Value.none Value.none Value.none none Value.none Value.none 0)) #[]
noncomputable abbrev ob214 (P : Params) : Obj := Obj.mk (Value.type "code") none (Data.fields #[Value.str (Str.ofString "_law_loops_right") 477, Value.str (Str.ofString "_law_loops_right") 478, Value.str (Str.ofString "/claim/cut.py") 479, Value.int 216 0, Value.int 1 0, Value.int 0 0, Value.int 0 0, Value.int 3 0, Value.ref 209, Value.bool true, Value.int 181 0, Value.ref 210, Value.none, Value.ref 211, Value.ref 212, Value.ref 213, Value.int 490 0, Value.int 216 0, Value.str (Str.ofString "/claim/cut.py") 491]) #[]
noncomputable abbrev ob215 (P : Params) : Obj := Obj.mk (Value.type "function") none (Data.func (FuncData.mk (Str.ofString "_law_loops_right") (Str.ofString "_law_loops_right") (fnOf 34).params (.stmts (fnOf 34).body) (fnOf 34).scope 3 [] Value.none Value.none Value.none (Value.str (Str.ofString "law_nz0570_01") 403) none (Value.ref 214) Value.none 0)) #[]
noncomputable abbrev ob216 (P : Params) : Obj := Obj.mk (Value.type "tuple") none (Data.seq #[]) #[]
noncomputable abbrev ob217 (P : Params) : Obj := Obj.mk Value.none none (Data.fields #[]) #[]
noncomputable abbrev ob218 (P : Params) : Obj := Obj.mk Value.none none (Data.func (FuncData.mk (Str.ofString "law") (Str.ofString "law") (fnOf 35).params (.stmts (fnOf 35).body) (fnOf 35).scope 0 [] Value.none Value.none Value.none Value.none none Value.none Value.none 0)) #[]
noncomputable abbrev ob219 (P : Params) : Obj := Obj.mk (Value.type "code") none (Data.fields #[Value.str (Str.ofString "law") 493, Value.str (Str.ofString "law") 494, Value.str (Str.ofString "/claim/cut.py") 495, Value.int 232 0, Value.int 1 0, Value.int 0 0, Value.int 0 0, Value.int 3 0, Value.ref 216, Value.bool true, Value.int 181 0, Value.ref 217, Value.none, Value.none, Value.none, Value.ref 218, Value.int 496 0, Value.int 232 0, Value.str (Str.ofString "/claim/cut.py") 497]) #[]
noncomputable abbrev ob220 (P : Params) : Obj := Obj.mk (Value.type "function") none (Data.func (FuncData.mk (Str.ofString "law") (Str.ofString "law") (fnOf 35).params (.stmts (fnOf 35).body) (fnOf 35).scope 3 [] Value.none Value.none Value.none (Value.str (Str.ofString "law_nz0570_01") 403) none (Value.ref 219) Value.none 0)) #[]
noncomputable def topH0 (P : Params) : Heap := ⟨Array.mk [
  boot_o_0 P,
  boot_o_1 P,
  Obj.mk Value.none none (Data.dict #[]) #[],
  Obj.mk (Value.type "dict") none (Data.dict #[DictEntry.mk (PyData.keyHash P (Str.ofString "__name__")) (Value.str (Str.ofString "__name__") 165) (Value.str (Str.ofString "__main__") 164), DictEntry.mk (PyData.keyHash P (Str.ofString "__doc__")) (Value.str (Str.ofString "__doc__") 166) Value.none, DictEntry.mk (PyData.keyHash P (Str.ofString "__package__")) (Value.str (Str.ofString "__package__") 167) Value.none, DictEntry.mk (PyData.keyHash P (Str.ofString "__loader__")) (Value.str (Str.ofString "__loader__") 168) (Value.builtin "__main__.__loader__#opaque"), DictEntry.mk (PyData.keyHash P (Str.ofString "__spec__")) (Value.str (Str.ofString "__spec__") 169) Value.none, DictEntry.mk (PyData.keyHash P (Str.ofString "__annotations__")) (Value.str (Str.ofString "__annotations__") 170) (Value.ref 6), DictEntry.mk (PyData.keyHash P (Str.ofString "__builtins__")) (Value.str (Str.ofString "__builtins__") 171) (Value.ref 4), DictEntry.mk (PyData.keyHash P (Str.ofString "__file__")) (Value.str (Str.ofString "__file__") 173) (Value.str (Str.ofString "/claim/cut.py") 172), DictEntry.mk (PyData.keyHash P (Str.ofString "__cached__")) (Value.str (Str.ofString "__cached__") 174) Value.none] 9) #[],
  boot_o_4 P,
  boot_o_5 P,
  boot_o_6 P,
  boot_o_7 P,
  boot_o_8 P,
  boot_o_9 P,
  boot_o_10 P,
  ob11 P,
  Obj.mk Value.none none (Data.fields #[]) #[],
  ob13 P,
  ob14 P], Life.mk [] [] [] 0 [] [] false #[] [] 0 false false false 0 [2000, 10, 10] false 0 true [] [] 0 false⟩
noncomputable abbrev topS0 (w : World) (os : OsState) : Shared := ⟨topH0 w.params, Array.mk [], Drawn.mk 0 0 0 0, 187, os⟩
noncomputable def topH1 (P : Params) : Heap := ⟨Array.mk [
  boot_o_0 P,
  boot_o_1 P,
  Obj.mk Value.none none (Data.dict #[]) #[],
  Obj.mk (Value.type "dict") none (Data.dict #[DictEntry.mk (PyData.keyHash P (Str.ofString "__name__")) (Value.str (Str.ofString "__name__") 165) (Value.str (Str.ofString "z80.btokens") 200), DictEntry.mk (PyData.keyHash P (Str.ofString "__doc__")) (Value.str (Str.ofString "__doc__") 166) Value.none, DictEntry.mk (PyData.keyHash P (Str.ofString "__package__")) (Value.str (Str.ofString "__package__") 167) Value.none, DictEntry.mk (PyData.keyHash P (Str.ofString "__loader__")) (Value.str (Str.ofString "__loader__") 168) (Value.builtin "__main__.__loader__#opaque"), DictEntry.mk (PyData.keyHash P (Str.ofString "__spec__")) (Value.str (Str.ofString "__spec__") 169) Value.none, DictEntry.mk (PyData.keyHash P (Str.ofString "__annotations__")) (Value.str (Str.ofString "__annotations__") 170) (Value.ref 6), DictEntry.mk (PyData.keyHash P (Str.ofString "__builtins__")) (Value.str (Str.ofString "__builtins__") 171) (Value.ref 4), DictEntry.mk (PyData.keyHash P (Str.ofString "__file__")) (Value.str (Str.ofString "__file__") 173) (Value.str (Str.ofString "/claim/cut.py") 172), DictEntry.mk (PyData.keyHash P (Str.ofString "__cached__")) (Value.str (Str.ofString "__cached__") 174) Value.none, DictEntry.mk (PyData.keyHash P (Str.ofString "END")) (Value.str (Str.ofString "END") 191) (Value.ref 15), DictEntry.mk (PyData.keyHash P (Str.ofString "token_at")) (Value.str (Str.ofString "token_at") 199) (Value.ref 22), DictEntry.mk (PyData.keyHash P (Str.ofString "BLANKS")) (Value.str (Str.ofString "BLANKS") 203) (Value.str (Str.ofString " \t") 202)] 12) #[],
  boot_o_4 P,
  boot_o_5 P,
  boot_o_6 P,
  boot_o_7 P,
  boot_o_8 P,
  boot_o_9 P,
  boot_o_10 P,
  ob11 P,
  Obj.mk Value.none none (Data.fields #[Value.int 3 0, Value.int 0 0, Value.ref 21]) #[],
  ob13 P,
  ob14 P,
  ob15 P,
  ob16 P,
  ob17 P,
  ob18 P,
  ob19 P,
  ob20 P,
  ob21 P,
  ob22 P], Life.mk [] [] [] 0 [] [] false #[] [] 0 false false false 0 [2000, 10, 10] false 0 true [] [] 0 false⟩
noncomputable abbrev topS1 (w : World) (os : OsState) : Shared := ⟨topH1 w.params, Array.mk [], Drawn.mk 0 0 0 0, 204, os⟩
noncomputable def topH2 (P : Params) : Heap := ⟨Array.mk [
  boot_o_0 P,
  boot_o_1 P,
  Obj.mk Value.none none (Data.dict #[DictEntry.mk (PyData.keyHash P (Str.ofString "type.__subclasses__.Exception.0")) (Value.str (Str.ofString "type.__subclasses__.Exception.0") 229) (Value.int 39 0), DictEntry.mk (PyData.keyHash P (Str.ofString "type.__subclasses__.Exception.n")) (Value.str (Str.ofString "type.__subclasses__.Exception.n") 230) (Value.int 1 0)] 2) #[],
  Obj.mk (Value.type "dict") none (Data.dict #[DictEntry.mk (PyData.keyHash P (Str.ofString "__name__")) (Value.str (Str.ofString "__name__") 165) (Value.str (Str.ofString "z80.btokens") 200), DictEntry.mk (PyData.keyHash P (Str.ofString "__doc__")) (Value.str (Str.ofString "__doc__") 166) Value.none, DictEntry.mk (PyData.keyHash P (Str.ofString "__package__")) (Value.str (Str.ofString "__package__") 167) Value.none, DictEntry.mk (PyData.keyHash P (Str.ofString "__loader__")) (Value.str (Str.ofString "__loader__") 168) (Value.builtin "__main__.__loader__#opaque"), DictEntry.mk (PyData.keyHash P (Str.ofString "__spec__")) (Value.str (Str.ofString "__spec__") 169) Value.none, DictEntry.mk (PyData.keyHash P (Str.ofString "__annotations__")) (Value.str (Str.ofString "__annotations__") 170) (Value.ref 6), DictEntry.mk (PyData.keyHash P (Str.ofString "__builtins__")) (Value.str (Str.ofString "__builtins__") 171) (Value.ref 4), DictEntry.mk (PyData.keyHash P (Str.ofString "__file__")) (Value.str (Str.ofString "__file__") 173) (Value.str (Str.ofString "/claim/cut.py") 172), DictEntry.mk (PyData.keyHash P (Str.ofString "__cached__")) (Value.str (Str.ofString "__cached__") 174) Value.none, DictEntry.mk (PyData.keyHash P (Str.ofString "END")) (Value.str (Str.ofString "END") 191) (Value.ref 15), DictEntry.mk (PyData.keyHash P (Str.ofString "token_at")) (Value.str (Str.ofString "token_at") 199) (Value.ref 22), DictEntry.mk (PyData.keyHash P (Str.ofString "BLANKS")) (Value.str (Str.ofString "BLANKS") 203) (Value.str (Str.ofString " \t") 202), DictEntry.mk (PyData.keyHash P (Str.ofString "BasicError")) (Value.str (Str.ofString "BasicError") 232) (Value.ref 39)] 13) #[],
  boot_o_4 P,
  boot_o_5 P,
  boot_o_6 P,
  boot_o_7 P,
  boot_o_8 P,
  boot_o_9 P,
  boot_o_10 P,
  ob11 P,
  Obj.mk Value.none none (Data.fields #[Value.int 3 0, Value.int 0 0, Value.ref 21, Value.int 7 0, Value.int 0 0, Value.ref 28]) #[],
  ob13 P,
  ob14 P,
  ob15 P,
  ob16 P,
  ob17 P,
  ob18 P,
  ob19 P,
  ob20 P,
  ob21 P,
  ob22 P,
  ob23 P,
  ob24 P,
  ob25 P,
  ob26 P,
  ob27 P,
  ob28 P,
  ob29 P,
  ob30 P,
  ob31 P,
  ob32 P,
  ob33 P,
  ob34 P,
  ob35 P,
  ob36 P,
  ob37 P,
  ob38 P,
  ob39 P,
  ob40 P,
  ob41 P,
  ob42 P], Life.mk [] [] [] 0 [] [] false #[] [] 0 false false false 0 [2000, 10, 10] false 0 true [] [] 0 false⟩
noncomputable abbrev topS2 (w : World) (os : OsState) : Shared := ⟨topH2 w.params, Array.mk [], Drawn.mk 0 0 0 0, 233, os⟩
noncomputable def topH3 (P : Params) : Heap := ⟨Array.mk [
  boot_o_0 P,
  boot_o_1 P,
  Obj.mk Value.none none (Data.dict #[DictEntry.mk (PyData.keyHash P (Str.ofString "type.__subclasses__.Exception.0")) (Value.str (Str.ofString "type.__subclasses__.Exception.0") 229) (Value.int 39 0), DictEntry.mk (PyData.keyHash P (Str.ofString "type.__subclasses__.Exception.n")) (Value.str (Str.ofString "type.__subclasses__.Exception.n") 230) (Value.int 1 0)] 2) #[],
  Obj.mk (Value.type "dict") none (Data.dict #[DictEntry.mk (PyData.keyHash P (Str.ofString "__name__")) (Value.str (Str.ofString "__name__") 165) (Value.str (Str.ofString "z80.bflow") 261), DictEntry.mk (PyData.keyHash P (Str.ofString "__doc__")) (Value.str (Str.ofString "__doc__") 166) Value.none, DictEntry.mk (PyData.keyHash P (Str.ofString "__package__")) (Value.str (Str.ofString "__package__") 167) Value.none, DictEntry.mk (PyData.keyHash P (Str.ofString "__loader__")) (Value.str (Str.ofString "__loader__") 168) (Value.builtin "__main__.__loader__#opaque"), DictEntry.mk (PyData.keyHash P (Str.ofString "__spec__")) (Value.str (Str.ofString "__spec__") 169) Value.none, DictEntry.mk (PyData.keyHash P (Str.ofString "__annotations__")) (Value.str (Str.ofString "__annotations__") 170) (Value.ref 6), DictEntry.mk (PyData.keyHash P (Str.ofString "__builtins__")) (Value.str (Str.ofString "__builtins__") 171) (Value.ref 4), DictEntry.mk (PyData.keyHash P (Str.ofString "__file__")) (Value.str (Str.ofString "__file__") 173) (Value.str (Str.ofString "/claim/cut.py") 172), DictEntry.mk (PyData.keyHash P (Str.ofString "__cached__")) (Value.str (Str.ofString "__cached__") 174) Value.none, DictEntry.mk (PyData.keyHash P (Str.ofString "END")) (Value.str (Str.ofString "END") 191) (Value.ref 15), DictEntry.mk (PyData.keyHash P (Str.ofString "token_at")) (Value.str (Str.ofString "token_at") 199) (Value.ref 22), DictEntry.mk (PyData.keyHash P (Str.ofString "BLANKS")) (Value.str (Str.ofString "BLANKS") 203) (Value.str (Str.ofString " \t") 202), DictEntry.mk (PyData.keyHash P (Str.ofString "BasicError")) (Value.str (Str.ofString "BasicError") 232) (Value.ref 39), DictEntry.mk (PyData.keyHash P (Str.ofString "behind_blanks")) (Value.str (Str.ofString "behind_blanks") 240) (Value.ref 49), DictEntry.mk (PyData.keyHash P (Str.ofString "read_quoted")) (Value.str (Str.ofString "read_quoted") 249) (Value.ref 56), DictEntry.mk (PyData.keyHash P (Str.ofString "read_item")) (Value.str (Str.ofString "read_item") 260) (Value.ref 63), DictEntry.mk (PyData.keyHash P (Str.ofString "MOST")) (Value.str (Str.ofString "MOST") 264) (Value.int 32767 263)] 17) #[],
  boot_o_4 P,
  boot_o_5 P,
  boot_o_6 P,
  boot_o_7 P,
  boot_o_8 P,
  boot_o_9 P,
  boot_o_10 P,
  ob11 P,
  Obj.mk Value.none none (Data.fields #[Value.int 3 0, Value.int 0 0, Value.ref 21, Value.int 7 0, Value.int 0 0, Value.ref 28, Value.int 11 0, Value.int 0 0, Value.ref 48, Value.int 15 0, Value.int 0 0, Value.ref 55, Value.int 20 0, Value.int 0 0, Value.ref 62]) #[],
  ob13 P,
  ob14 P,
  ob15 P,
  ob16 P,
  ob17 P,
  ob18 P,
  ob19 P,
  ob20 P,
  ob21 P,
  ob22 P,
  ob23 P,
  ob24 P,
  ob25 P,
  ob26 P,
  ob27 P,
  ob28 P,
  ob29 P,
  ob30 P,
  ob31 P,
  ob32 P,
  ob33 P,
  ob34 P,
  ob35 P,
  ob36 P,
  ob37 P,
  ob38 P,
  ob39 P,
  ob40 P,
  ob41 P,
  ob42 P,
  ob43 P,
  ob44 P,
  ob45 P,
  ob46 P,
  ob47 P,
  ob48 P,
  ob49 P,
  ob50 P,
  ob51 P,
  ob52 P,
  ob53 P,
  ob54 P,
  ob55 P,
  ob56 P,
  ob57 P,
  ob58 P,
  ob59 P,
  ob60 P,
  ob61 P,
  ob62 P,
  ob63 P], Life.mk [] [] [] 0 [] [] false #[] [] 0 false false false 0 [2000, 10, 10] false 0 true [] [] 0 false⟩
noncomputable abbrev topS3 (w : World) (os : OsState) : Shared := ⟨topH3 w.params, Array.mk [], Drawn.mk 0 0 0 0, 265, os⟩
noncomputable def topH4 (P : Params) : Heap := ⟨Array.mk [
  boot_o_0 P,
  boot_o_1 P,
  Obj.mk Value.none none (Data.dict #[DictEntry.mk (PyData.keyHash P (Str.ofString "type.__subclasses__.Exception.0")) (Value.str (Str.ofString "type.__subclasses__.Exception.0") 229) (Value.int 39 0), DictEntry.mk (PyData.keyHash P (Str.ofString "type.__subclasses__.Exception.n")) (Value.str (Str.ofString "type.__subclasses__.Exception.n") 230) (Value.int 1 0)] 2) #[],
  Obj.mk (Value.type "dict") none (Data.dict #[DictEntry.mk (PyData.keyHash P (Str.ofString "__name__")) (Value.str (Str.ofString "__name__") 165) (Value.str (Str.ofString "z80.bflow") 261), DictEntry.mk (PyData.keyHash P (Str.ofString "__doc__")) (Value.str (Str.ofString "__doc__") 166) Value.none, DictEntry.mk (PyData.keyHash P (Str.ofString "__package__")) (Value.str (Str.ofString "__package__") 167) Value.none, DictEntry.mk (PyData.keyHash P (Str.ofString "__loader__")) (Value.str (Str.ofString "__loader__") 168) (Value.builtin "__main__.__loader__#opaque"), DictEntry.mk (PyData.keyHash P (Str.ofString "__spec__")) (Value.str (Str.ofString "__spec__") 169) Value.none, DictEntry.mk (PyData.keyHash P (Str.ofString "__annotations__")) (Value.str (Str.ofString "__annotations__") 170) (Value.ref 6), DictEntry.mk (PyData.keyHash P (Str.ofString "__builtins__")) (Value.str (Str.ofString "__builtins__") 171) (Value.ref 4), DictEntry.mk (PyData.keyHash P (Str.ofString "__file__")) (Value.str (Str.ofString "__file__") 173) (Value.str (Str.ofString "/claim/cut.py") 172), DictEntry.mk (PyData.keyHash P (Str.ofString "__cached__")) (Value.str (Str.ofString "__cached__") 174) Value.none, DictEntry.mk (PyData.keyHash P (Str.ofString "END")) (Value.str (Str.ofString "END") 191) (Value.ref 15), DictEntry.mk (PyData.keyHash P (Str.ofString "token_at")) (Value.str (Str.ofString "token_at") 199) (Value.ref 22), DictEntry.mk (PyData.keyHash P (Str.ofString "BLANKS")) (Value.str (Str.ofString "BLANKS") 203) (Value.str (Str.ofString " \t") 202), DictEntry.mk (PyData.keyHash P (Str.ofString "BasicError")) (Value.str (Str.ofString "BasicError") 232) (Value.ref 39), DictEntry.mk (PyData.keyHash P (Str.ofString "behind_blanks")) (Value.str (Str.ofString "behind_blanks") 240) (Value.ref 49), DictEntry.mk (PyData.keyHash P (Str.ofString "read_quoted")) (Value.str (Str.ofString "read_quoted") 249) (Value.ref 56), DictEntry.mk (PyData.keyHash P (Str.ofString "read_item")) (Value.str (Str.ofString "read_item") 260) (Value.ref 63), DictEntry.mk (PyData.keyHash P (Str.ofString "MOST")) (Value.str (Str.ofString "MOST") 264) (Value.int 32767 263), DictEntry.mk (PyData.keyHash P (Str.ofString "is_end")) (Value.str (Str.ofString "is_end") 271) (Value.ref 70), DictEntry.mk (PyData.keyHash P (Str.ofString "past_statement")) (Value.str (Str.ofString "past_statement") 279) (Value.ref 77), DictEntry.mk (PyData.keyHash P (Str.ofString "else_of")) (Value.str (Str.ofString "else_of") 288) (Value.ref 84), DictEntry.mk (PyData.keyHash P (Str.ofString "fields_of")) (Value.str (Str.ofString "fields_of") 299) (Value.ref 91), DictEntry.mk (PyData.keyHash P (Str.ofString "data_of")) (Value.str (Str.ofString "data_of") 312) (Value.ref 98)] 22) #[],
  boot_o_4 P,
  boot_o_5 P,
  boot_o_6 P,
  boot_o_7 P,
  boot_o_8 P,
  boot_o_9 P,
  boot_o_10 P,
  ob11 P,
  Obj.mk Value.none none (Data.fields #[Value.int 3 0, Value.int 0 0, Value.ref 21, Value.int 7 0, Value.int 0 0, Value.ref 28, Value.int 11 0, Value.int 0 0, Value.ref 48, Value.int 15 0, Value.int 0 0, Value.ref 55, Value.int 20 0, Value.int 0 0, Value.ref 62, Value.int 37 0, Value.int 0 0, Value.ref 69, Value.int 39 0, Value.int 0 0, Value.ref 76, Value.int 43 0, Value.int 0 0, Value.ref 83, Value.int 54 0, Value.int 0 0, Value.ref 90, Value.int 65 0, Value.int 0 0, Value.ref 97]) #[],
  ob13 P,
  ob14 P,
  ob15 P,
  ob16 P,
  ob17 P,
  ob18 P,
  ob19 P,
  ob20 P,
  ob21 P,
  ob22 P,
  ob23 P,
  ob24 P,
  ob25 P,
  ob26 P,
  ob27 P,
  ob28 P,
  ob29 P,
  ob30 P,
  ob31 P,
  ob32 P,
  ob33 P,
  ob34 P,
  ob35 P,
  ob36 P,
  ob37 P,
  ob38 P,
  ob39 P,
  ob40 P,
  ob41 P,
  ob42 P,
  ob43 P,
  ob44 P,
  ob45 P,
  ob46 P,
  ob47 P,
  ob48 P,
  ob49 P,
  ob50 P,
  ob51 P,
  ob52 P,
  ob53 P,
  ob54 P,
  ob55 P,
  ob56 P,
  ob57 P,
  ob58 P,
  ob59 P,
  ob60 P,
  ob61 P,
  ob62 P,
  ob63 P,
  ob64 P,
  ob65 P,
  ob66 P,
  ob67 P,
  ob68 P,
  ob69 P,
  ob70 P,
  ob71 P,
  ob72 P,
  ob73 P,
  ob74 P,
  ob75 P,
  ob76 P,
  ob77 P,
  ob78 P,
  ob79 P,
  ob80 P,
  ob81 P,
  ob82 P,
  ob83 P,
  ob84 P,
  ob85 P,
  ob86 P,
  ob87 P,
  ob88 P,
  ob89 P,
  ob90 P,
  ob91 P,
  ob92 P,
  ob93 P,
  ob94 P,
  ob95 P,
  ob96 P,
  ob97 P,
  ob98 P], Life.mk [] [] [] 0 [] [] false #[] [] 0 false false false 0 [2000, 10, 10] false 0 true [] [] 0 false⟩
noncomputable abbrev topS4 (w : World) (os : OsState) : Shared := ⟨topH4 w.params, Array.mk [], Drawn.mk 0 0 0 0, 313, os⟩
noncomputable def topH5 (P : Params) : Heap := ⟨Array.mk [
  boot_o_0 P,
  boot_o_1 P,
  Obj.mk Value.none none (Data.dict #[DictEntry.mk (PyData.keyHash P (Str.ofString "type.__subclasses__.Exception.0")) (Value.str (Str.ofString "type.__subclasses__.Exception.0") 229) (Value.int 39 0), DictEntry.mk (PyData.keyHash P (Str.ofString "type.__subclasses__.Exception.n")) (Value.str (Str.ofString "type.__subclasses__.Exception.n") 230) (Value.int 1 0)] 2) #[],
  Obj.mk (Value.type "dict") none (Data.dict #[DictEntry.mk (PyData.keyHash P (Str.ofString "__name__")) (Value.str (Str.ofString "__name__") 165) (Value.str (Str.ofString "z80.bprogram") 339), DictEntry.mk (PyData.keyHash P (Str.ofString "__doc__")) (Value.str (Str.ofString "__doc__") 166) Value.none, DictEntry.mk (PyData.keyHash P (Str.ofString "__package__")) (Value.str (Str.ofString "__package__") 167) Value.none, DictEntry.mk (PyData.keyHash P (Str.ofString "__loader__")) (Value.str (Str.ofString "__loader__") 168) (Value.builtin "__main__.__loader__#opaque"), DictEntry.mk (PyData.keyHash P (Str.ofString "__spec__")) (Value.str (Str.ofString "__spec__") 169) Value.none, DictEntry.mk (PyData.keyHash P (Str.ofString "__annotations__")) (Value.str (Str.ofString "__annotations__") 170) (Value.ref 6), DictEntry.mk (PyData.keyHash P (Str.ofString "__builtins__")) (Value.str (Str.ofString "__builtins__") 171) (Value.ref 4), DictEntry.mk (PyData.keyHash P (Str.ofString "__file__")) (Value.str (Str.ofString "__file__") 173) (Value.str (Str.ofString "/claim/cut.py") 172), DictEntry.mk (PyData.keyHash P (Str.ofString "__cached__")) (Value.str (Str.ofString "__cached__") 174) Value.none, DictEntry.mk (PyData.keyHash P (Str.ofString "END")) (Value.str (Str.ofString "END") 191) (Value.ref 15), DictEntry.mk (PyData.keyHash P (Str.ofString "token_at")) (Value.str (Str.ofString "token_at") 199) (Value.ref 22), DictEntry.mk (PyData.keyHash P (Str.ofString "BLANKS")) (Value.str (Str.ofString "BLANKS") 203) (Value.str (Str.ofString " \t") 202), DictEntry.mk (PyData.keyHash P (Str.ofString "BasicError")) (Value.str (Str.ofString "BasicError") 232) (Value.ref 39), DictEntry.mk (PyData.keyHash P (Str.ofString "behind_blanks")) (Value.str (Str.ofString "behind_blanks") 240) (Value.ref 49), DictEntry.mk (PyData.keyHash P (Str.ofString "read_quoted")) (Value.str (Str.ofString "read_quoted") 249) (Value.ref 56), DictEntry.mk (PyData.keyHash P (Str.ofString "read_item")) (Value.str (Str.ofString "read_item") 260) (Value.ref 63), DictEntry.mk (PyData.keyHash P (Str.ofString "MOST")) (Value.str (Str.ofString "MOST") 264) (Value.int 32767 263), DictEntry.mk (PyData.keyHash P (Str.ofString "is_end")) (Value.str (Str.ofString "is_end") 271) (Value.ref 70), DictEntry.mk (PyData.keyHash P (Str.ofString "past_statement")) (Value.str (Str.ofString "past_statement") 279) (Value.ref 77), DictEntry.mk (PyData.keyHash P (Str.ofString "else_of")) (Value.str (Str.ofString "else_of") 288) (Value.ref 84), DictEntry.mk (PyData.keyHash P (Str.ofString "fields_of")) (Value.str (Str.ofString "fields_of") 299) (Value.ref 91), DictEntry.mk (PyData.keyHash P (Str.ofString "data_of")) (Value.str (Str.ofString "data_of") 312) (Value.ref 98), DictEntry.mk (PyData.keyHash P (Str.ofString "number_in")) (Value.str (Str.ofString "number_in") 318) (Value.ref 103), DictEntry.mk (PyData.keyHash P (Str.ofString "next_place")) (Value.str (Str.ofString "next_place") 329) (Value.ref 110), DictEntry.mk (PyData.keyHash P (Str.ofString "ended_by_next")) (Value.str (Str.ofString "ended_by_next") 338) (Value.ref 117), DictEntry.mk (PyData.keyHash P (Str.ofString "GREATEST")) (Value.str (Str.ofString "GREATEST") 342) (Value.int 65529 341)] 26) #[],
  boot_o_4 P,
  boot_o_5 P,
  boot_o_6 P,
  boot_o_7 P,
  boot_o_8 P,
  boot_o_9 P,
  boot_o_10 P,
  ob11 P,
  Obj.mk Value.none none (Data.fields #[Value.int 3 0, Value.int 0 0, Value.ref 21, Value.int 7 0, Value.int 0 0, Value.ref 28, Value.int 11 0, Value.int 0 0, Value.ref 48, Value.int 15 0, Value.int 0 0, Value.ref 55, Value.int 20 0, Value.int 0 0, Value.ref 62, Value.int 37 0, Value.int 0 0, Value.ref 69, Value.int 39 0, Value.int 0 0, Value.ref 76, Value.int 43 0, Value.int 0 0, Value.ref 83, Value.int 54 0, Value.int 0 0, Value.ref 90, Value.int 65 0, Value.int 0 0, Value.ref 97, Value.int 75 0, Value.int 0 0, Value.ref 102, Value.int 87 0, Value.int 0 0, Value.ref 109, Value.int 101 0, Value.int 0 0, Value.ref 116]) #[],
  ob13 P,
  ob14 P,
  ob15 P,
  ob16 P,
  ob17 P,
  ob18 P,
  ob19 P,
  ob20 P,
  ob21 P,
  ob22 P,
  ob23 P,
  ob24 P,
  ob25 P,
  ob26 P,
  ob27 P,
  ob28 P,
  ob29 P,
  ob30 P,
  ob31 P,
  ob32 P,
  ob33 P,
  ob34 P,
  ob35 P,
  ob36 P,
  ob37 P,
  ob38 P,
  ob39 P,
  ob40 P,
  ob41 P,
  ob42 P,
  ob43 P,
  ob44 P,
  ob45 P,
  ob46 P,
  ob47 P,
  ob48 P,
  ob49 P,
  ob50 P,
  ob51 P,
  ob52 P,
  ob53 P,
  ob54 P,
  ob55 P,
  ob56 P,
  ob57 P,
  ob58 P,
  ob59 P,
  ob60 P,
  ob61 P,
  ob62 P,
  ob63 P,
  ob64 P,
  ob65 P,
  ob66 P,
  ob67 P,
  ob68 P,
  ob69 P,
  ob70 P,
  ob71 P,
  ob72 P,
  ob73 P,
  ob74 P,
  ob75 P,
  ob76 P,
  ob77 P,
  ob78 P,
  ob79 P,
  ob80 P,
  ob81 P,
  ob82 P,
  ob83 P,
  ob84 P,
  ob85 P,
  ob86 P,
  ob87 P,
  ob88 P,
  ob89 P,
  ob90 P,
  ob91 P,
  ob92 P,
  ob93 P,
  ob94 P,
  ob95 P,
  ob96 P,
  ob97 P,
  ob98 P,
  ob99 P,
  ob100 P,
  ob101 P,
  ob102 P,
  ob103 P,
  ob104 P,
  ob105 P,
  ob106 P,
  ob107 P,
  ob108 P,
  ob109 P,
  ob110 P,
  ob111 P,
  ob112 P,
  ob113 P,
  ob114 P,
  ob115 P,
  ob116 P,
  ob117 P], Life.mk [] [] [] 0 [] [] false #[] [] 0 false false false 0 [2000, 10, 10] false 0 true [] [] 0 false⟩
noncomputable abbrev topS5 (w : World) (os : OsState) : Shared := ⟨topH5 w.params, Array.mk [], Drawn.mk 0 0 0 0, 343, os⟩
noncomputable def topH6 (P : Params) : Heap := ⟨Array.mk [
  boot_o_0 P,
  boot_o_1 P,
  Obj.mk Value.none none (Data.dict #[DictEntry.mk (PyData.keyHash P (Str.ofString "type.__subclasses__.Exception.0")) (Value.str (Str.ofString "type.__subclasses__.Exception.0") 229) (Value.int 39 0), DictEntry.mk (PyData.keyHash P (Str.ofString "type.__subclasses__.Exception.n")) (Value.str (Str.ofString "type.__subclasses__.Exception.n") 230) (Value.int 1 0)] 2) #[],
  Obj.mk (Value.type "dict") none (Data.dict #[DictEntry.mk (PyData.keyHash P (Str.ofString "__name__")) (Value.str (Str.ofString "__name__") 165) (Value.str (Str.ofString "z80.bprogram") 339), DictEntry.mk (PyData.keyHash P (Str.ofString "__doc__")) (Value.str (Str.ofString "__doc__") 166) Value.none, DictEntry.mk (PyData.keyHash P (Str.ofString "__package__")) (Value.str (Str.ofString "__package__") 167) Value.none, DictEntry.mk (PyData.keyHash P (Str.ofString "__loader__")) (Value.str (Str.ofString "__loader__") 168) (Value.builtin "__main__.__loader__#opaque"), DictEntry.mk (PyData.keyHash P (Str.ofString "__spec__")) (Value.str (Str.ofString "__spec__") 169) Value.none, DictEntry.mk (PyData.keyHash P (Str.ofString "__annotations__")) (Value.str (Str.ofString "__annotations__") 170) (Value.ref 6), DictEntry.mk (PyData.keyHash P (Str.ofString "__builtins__")) (Value.str (Str.ofString "__builtins__") 171) (Value.ref 4), DictEntry.mk (PyData.keyHash P (Str.ofString "__file__")) (Value.str (Str.ofString "__file__") 173) (Value.str (Str.ofString "/claim/cut.py") 172), DictEntry.mk (PyData.keyHash P (Str.ofString "__cached__")) (Value.str (Str.ofString "__cached__") 174) Value.none, DictEntry.mk (PyData.keyHash P (Str.ofString "END")) (Value.str (Str.ofString "END") 191) (Value.ref 15), DictEntry.mk (PyData.keyHash P (Str.ofString "token_at")) (Value.str (Str.ofString "token_at") 199) (Value.ref 22), DictEntry.mk (PyData.keyHash P (Str.ofString "BLANKS")) (Value.str (Str.ofString "BLANKS") 203) (Value.str (Str.ofString " \t") 202), DictEntry.mk (PyData.keyHash P (Str.ofString "BasicError")) (Value.str (Str.ofString "BasicError") 232) (Value.ref 39), DictEntry.mk (PyData.keyHash P (Str.ofString "behind_blanks")) (Value.str (Str.ofString "behind_blanks") 240) (Value.ref 49), DictEntry.mk (PyData.keyHash P (Str.ofString "read_quoted")) (Value.str (Str.ofString "read_quoted") 249) (Value.ref 56), DictEntry.mk (PyData.keyHash P (Str.ofString "read_item")) (Value.str (Str.ofString "read_item") 260) (Value.ref 63), DictEntry.mk (PyData.keyHash P (Str.ofString "MOST")) (Value.str (Str.ofString "MOST") 264) (Value.int 32767 263), DictEntry.mk (PyData.keyHash P (Str.ofString "is_end")) (Value.str (Str.ofString "is_end") 271) (Value.ref 70), DictEntry.mk (PyData.keyHash P (Str.ofString "past_statement")) (Value.str (Str.ofString "past_statement") 279) (Value.ref 77), DictEntry.mk (PyData.keyHash P (Str.ofString "else_of")) (Value.str (Str.ofString "else_of") 288) (Value.ref 84), DictEntry.mk (PyData.keyHash P (Str.ofString "fields_of")) (Value.str (Str.ofString "fields_of") 299) (Value.ref 91), DictEntry.mk (PyData.keyHash P (Str.ofString "data_of")) (Value.str (Str.ofString "data_of") 312) (Value.ref 98), DictEntry.mk (PyData.keyHash P (Str.ofString "number_in")) (Value.str (Str.ofString "number_in") 318) (Value.ref 103), DictEntry.mk (PyData.keyHash P (Str.ofString "next_place")) (Value.str (Str.ofString "next_place") 329) (Value.ref 110), DictEntry.mk (PyData.keyHash P (Str.ofString "ended_by_next")) (Value.str (Str.ofString "ended_by_next") 338) (Value.ref 117), DictEntry.mk (PyData.keyHash P (Str.ofString "GREATEST")) (Value.str (Str.ofString "GREATEST") 342) (Value.int 65529 341), DictEntry.mk (PyData.keyHash P (Str.ofString "Program")) (Value.str (Str.ofString "Program") 371) (Value.ref 134)] 27) #[],
  boot_o_4 P,
  boot_o_5 P,
  boot_o_6 P,
  boot_o_7 P,
  boot_o_8 P,
  boot_o_9 P,
  boot_o_10 P,
  ob11 P,
  Obj.mk Value.none none (Data.fields #[Value.int 3 0, Value.int 0 0, Value.ref 21, Value.int 7 0, Value.int 0 0, Value.ref 28, Value.int 11 0, Value.int 0 0, Value.ref 48, Value.int 15 0, Value.int 0 0, Value.ref 55, Value.int 20 0, Value.int 0 0, Value.ref 62, Value.int 37 0, Value.int 0 0, Value.ref 69, Value.int 39 0, Value.int 0 0, Value.ref 76, Value.int 43 0, Value.int 0 0, Value.ref 83, Value.int 54 0, Value.int 0 0, Value.ref 90, Value.int 65 0, Value.int 0 0, Value.ref 97, Value.int 75 0, Value.int 0 0, Value.ref 102, Value.int 87 0, Value.int 0 0, Value.ref 109, Value.int 101 0, Value.int 0 0, Value.ref 116, Value.int 110 0, Value.int 0 0, Value.ref 123]) #[],
  ob13 P,
  ob14 P,
  ob15 P,
  ob16 P,
  ob17 P,
  ob18 P,
  ob19 P,
  ob20 P,
  ob21 P,
  ob22 P,
  ob23 P,
  ob24 P,
  ob25 P,
  ob26 P,
  ob27 P,
  ob28 P,
  ob29 P,
  ob30 P,
  ob31 P,
  ob32 P,
  ob33 P,
  ob34 P,
  ob35 P,
  ob36 P,
  ob37 P,
  ob38 P,
  ob39 P,
  ob40 P,
  ob41 P,
  ob42 P,
  ob43 P,
  ob44 P,
  ob45 P,
  ob46 P,
  ob47 P,
  ob48 P,
  ob49 P,
  ob50 P,
  ob51 P,
  ob52 P,
  ob53 P,
  ob54 P,
  ob55 P,
  ob56 P,
  ob57 P,
  ob58 P,
  ob59 P,
  ob60 P,
  ob61 P,
  ob62 P,
  ob63 P,
  ob64 P,
  ob65 P,
  ob66 P,
  ob67 P,
  ob68 P,
  ob69 P,
  ob70 P,
  ob71 P,
  ob72 P,
  ob73 P,
  ob74 P,
  ob75 P,
  ob76 P,
  ob77 P,
  ob78 P,
  ob79 P,
  ob80 P,
  ob81 P,
  ob82 P,
  ob83 P,
  ob84 P,
  ob85 P,
  ob86 P,
  ob87 P,
  ob88 P,
  ob89 P,
  ob90 P,
  ob91 P,
  ob92 P,
  ob93 P,
  ob94 P,
  ob95 P,
  ob96 P,
  ob97 P,
  ob98 P,
  ob99 P,
  ob100 P,
  ob101 P,
  ob102 P,
  ob103 P,
  ob104 P,
  ob105 P,
  ob106 P,
  ob107 P,
  ob108 P,
  ob109 P,
  ob110 P,
  ob111 P,
  ob112 P,
  ob113 P,
  ob114 P,
  ob115 P,
  ob116 P,
  ob117 P,
  ob118 P,
  ob119 P,
  ob120 P,
  ob121 P,
  ob122 P,
  ob123 P,
  ob124 P,
  ob125 P,
  ob126 P,
  ob127 P,
  ob128 P,
  ob129 P,
  ob130 P,
  ob131 P,
  ob132 P,
  ob133 P,
  ob134 P,
  ob135 P,
  ob136 P,
  ob137 P,
  ob138 P], Life.mk [] [] [] 0 [] [] false #[] [] 0 false false false 0 [2000, 10, 10] false 0 true [] [] 0 false⟩
noncomputable abbrev topS6 (w : World) (os : OsState) : Shared := ⟨topH6 w.params, Array.mk [], Drawn.mk 0 0 0 0, 372, os⟩
noncomputable def topH7 (P : Params) : Heap := ⟨Array.mk [
  boot_o_0 P,
  boot_o_1 P,
  Obj.mk Value.none none (Data.dict #[DictEntry.mk (PyData.keyHash P (Str.ofString "type.__subclasses__.Exception.0")) (Value.str (Str.ofString "type.__subclasses__.Exception.0") 229) (Value.int 39 0), DictEntry.mk (PyData.keyHash P (Str.ofString "type.__subclasses__.Exception.n")) (Value.str (Str.ofString "type.__subclasses__.Exception.n") 230) (Value.int 1 0)] 2) #[],
  Obj.mk (Value.type "dict") none (Data.dict #[DictEntry.mk (PyData.keyHash P (Str.ofString "__name__")) (Value.str (Str.ofString "__name__") 165) (Value.str (Str.ofString "law_nz0570_01") 403), DictEntry.mk (PyData.keyHash P (Str.ofString "__doc__")) (Value.str (Str.ofString "__doc__") 166) Value.none, DictEntry.mk (PyData.keyHash P (Str.ofString "__package__")) (Value.str (Str.ofString "__package__") 167) Value.none, DictEntry.mk (PyData.keyHash P (Str.ofString "__loader__")) (Value.str (Str.ofString "__loader__") 168) (Value.builtin "__main__.__loader__#opaque"), DictEntry.mk (PyData.keyHash P (Str.ofString "__spec__")) (Value.str (Str.ofString "__spec__") 169) Value.none, DictEntry.mk (PyData.keyHash P (Str.ofString "__annotations__")) (Value.str (Str.ofString "__annotations__") 170) (Value.ref 6), DictEntry.mk (PyData.keyHash P (Str.ofString "__builtins__")) (Value.str (Str.ofString "__builtins__") 171) (Value.ref 4), DictEntry.mk (PyData.keyHash P (Str.ofString "__file__")) (Value.str (Str.ofString "__file__") 173) (Value.str (Str.ofString "/claim/cut.py") 172), DictEntry.mk (PyData.keyHash P (Str.ofString "__cached__")) (Value.str (Str.ofString "__cached__") 174) Value.none, DictEntry.mk (PyData.keyHash P (Str.ofString "END")) (Value.str (Str.ofString "END") 191) (Value.ref 15), DictEntry.mk (PyData.keyHash P (Str.ofString "token_at")) (Value.str (Str.ofString "token_at") 199) (Value.ref 22), DictEntry.mk (PyData.keyHash P (Str.ofString "BLANKS")) (Value.str (Str.ofString "BLANKS") 203) (Value.str (Str.ofString " \t") 202), DictEntry.mk (PyData.keyHash P (Str.ofString "BasicError")) (Value.str (Str.ofString "BasicError") 232) (Value.ref 39), DictEntry.mk (PyData.keyHash P (Str.ofString "behind_blanks")) (Value.str (Str.ofString "behind_blanks") 240) (Value.ref 49), DictEntry.mk (PyData.keyHash P (Str.ofString "read_quoted")) (Value.str (Str.ofString "read_quoted") 249) (Value.ref 56), DictEntry.mk (PyData.keyHash P (Str.ofString "read_item")) (Value.str (Str.ofString "read_item") 260) (Value.ref 63), DictEntry.mk (PyData.keyHash P (Str.ofString "MOST")) (Value.str (Str.ofString "MOST") 264) (Value.int 32767 263), DictEntry.mk (PyData.keyHash P (Str.ofString "is_end")) (Value.str (Str.ofString "is_end") 271) (Value.ref 70), DictEntry.mk (PyData.keyHash P (Str.ofString "past_statement")) (Value.str (Str.ofString "past_statement") 279) (Value.ref 77), DictEntry.mk (PyData.keyHash P (Str.ofString "else_of")) (Value.str (Str.ofString "else_of") 288) (Value.ref 84), DictEntry.mk (PyData.keyHash P (Str.ofString "fields_of")) (Value.str (Str.ofString "fields_of") 299) (Value.ref 91), DictEntry.mk (PyData.keyHash P (Str.ofString "data_of")) (Value.str (Str.ofString "data_of") 312) (Value.ref 98), DictEntry.mk (PyData.keyHash P (Str.ofString "number_in")) (Value.str (Str.ofString "number_in") 318) (Value.ref 103), DictEntry.mk (PyData.keyHash P (Str.ofString "next_place")) (Value.str (Str.ofString "next_place") 329) (Value.ref 110), DictEntry.mk (PyData.keyHash P (Str.ofString "ended_by_next")) (Value.str (Str.ofString "ended_by_next") 338) (Value.ref 117), DictEntry.mk (PyData.keyHash P (Str.ofString "GREATEST")) (Value.str (Str.ofString "GREATEST") 342) (Value.int 65529 341), DictEntry.mk (PyData.keyHash P (Str.ofString "Program")) (Value.str (Str.ofString "Program") 371) (Value.ref 134), DictEntry.mk (PyData.keyHash P (Str.ofString "place_of")) (Value.str (Str.ofString "place_of") 382) (Value.ref 145), DictEntry.mk (PyData.keyHash P (Str.ofString "has_line")) (Value.str (Str.ofString "has_line") 391) (Value.ref 152), DictEntry.mk (PyData.keyHash P (Str.ofString "put_line")) (Value.str (Str.ofString "put_line") 402) (Value.ref 159)] 30) #[],
  boot_o_4 P,
  boot_o_5 P,
  boot_o_6 P,
  boot_o_7 P,
  boot_o_8 P,
  boot_o_9 P,
  boot_o_10 P,
  ob11 P,
  Obj.mk Value.none none (Data.fields #[Value.int 3 0, Value.int 0 0, Value.ref 21, Value.int 7 0, Value.int 0 0, Value.ref 28, Value.int 11 0, Value.int 0 0, Value.ref 48, Value.int 15 0, Value.int 0 0, Value.ref 55, Value.int 20 0, Value.int 0 0, Value.ref 62, Value.int 37 0, Value.int 0 0, Value.ref 69, Value.int 39 0, Value.int 0 0, Value.ref 76, Value.int 43 0, Value.int 0 0, Value.ref 83, Value.int 54 0, Value.int 0 0, Value.ref 90, Value.int 65 0, Value.int 0 0, Value.ref 97, Value.int 75 0, Value.int 0 0, Value.ref 102, Value.int 87 0, Value.int 0 0, Value.ref 109, Value.int 101 0, Value.int 0 0, Value.ref 116, Value.int 110 0, Value.int 0 0, Value.ref 123, Value.int 115 0, Value.int 0 0, Value.ref 144, Value.int 124 0, Value.int 0 0, Value.ref 151, Value.int 127 0, Value.int 0 0, Value.ref 158]) #[],
  ob13 P,
  ob14 P,
  ob15 P,
  ob16 P,
  ob17 P,
  ob18 P,
  ob19 P,
  ob20 P,
  ob21 P,
  ob22 P,
  ob23 P,
  ob24 P,
  ob25 P,
  ob26 P,
  ob27 P,
  ob28 P,
  ob29 P,
  ob30 P,
  ob31 P,
  ob32 P,
  ob33 P,
  ob34 P,
  ob35 P,
  ob36 P,
  ob37 P,
  ob38 P,
  ob39 P,
  ob40 P,
  ob41 P,
  ob42 P,
  ob43 P,
  ob44 P,
  ob45 P,
  ob46 P,
  ob47 P,
  ob48 P,
  ob49 P,
  ob50 P,
  ob51 P,
  ob52 P,
  ob53 P,
  ob54 P,
  ob55 P,
  ob56 P,
  ob57 P,
  ob58 P,
  ob59 P,
  ob60 P,
  ob61 P,
  ob62 P,
  ob63 P,
  ob64 P,
  ob65 P,
  ob66 P,
  ob67 P,
  ob68 P,
  ob69 P,
  ob70 P,
  ob71 P,
  ob72 P,
  ob73 P,
  ob74 P,
  ob75 P,
  ob76 P,
  ob77 P,
  ob78 P,
  ob79 P,
  ob80 P,
  ob81 P,
  ob82 P,
  ob83 P,
  ob84 P,
  ob85 P,
  ob86 P,
  ob87 P,
  ob88 P,
  ob89 P,
  ob90 P,
  ob91 P,
  ob92 P,
  ob93 P,
  ob94 P,
  ob95 P,
  ob96 P,
  ob97 P,
  ob98 P,
  ob99 P,
  ob100 P,
  ob101 P,
  ob102 P,
  ob103 P,
  ob104 P,
  ob105 P,
  ob106 P,
  ob107 P,
  ob108 P,
  ob109 P,
  ob110 P,
  ob111 P,
  ob112 P,
  ob113 P,
  ob114 P,
  ob115 P,
  ob116 P,
  ob117 P,
  ob118 P,
  ob119 P,
  ob120 P,
  ob121 P,
  ob122 P,
  ob123 P,
  ob124 P,
  ob125 P,
  ob126 P,
  ob127 P,
  ob128 P,
  ob129 P,
  ob130 P,
  ob131 P,
  ob132 P,
  ob133 P,
  ob134 P,
  ob135 P,
  ob136 P,
  ob137 P,
  ob138 P,
  ob139 P,
  ob140 P,
  ob141 P,
  ob142 P,
  ob143 P,
  ob144 P,
  ob145 P,
  ob146 P,
  ob147 P,
  ob148 P,
  ob149 P,
  ob150 P,
  ob151 P,
  ob152 P,
  ob153 P,
  ob154 P,
  ob155 P,
  ob156 P,
  ob157 P,
  ob158 P,
  ob159 P], Life.mk [] [] [] 0 [] [] false #[] [] 0 false false false 0 [2000, 10, 10] false 0 true [] [] 0 false⟩
noncomputable abbrev topS7 (w : World) (os : OsState) : Shared := ⟨topH7 w.params, Array.mk [], Drawn.mk 0 0 0 0, 405, os⟩
noncomputable def topH8 (P : Params) : Heap := ⟨Array.mk [
  boot_o_0 P,
  boot_o_1 P,
  Obj.mk Value.none none (Data.dict #[DictEntry.mk (PyData.keyHash P (Str.ofString "type.__subclasses__.Exception.0")) (Value.str (Str.ofString "type.__subclasses__.Exception.0") 229) (Value.int 39 0), DictEntry.mk (PyData.keyHash P (Str.ofString "type.__subclasses__.Exception.n")) (Value.str (Str.ofString "type.__subclasses__.Exception.n") 230) (Value.int 1 0)] 2) #[],
  Obj.mk (Value.type "dict") none (Data.dict #[DictEntry.mk (PyData.keyHash P (Str.ofString "__name__")) (Value.str (Str.ofString "__name__") 165) (Value.str (Str.ofString "law_nz0570_01") 403), DictEntry.mk (PyData.keyHash P (Str.ofString "__doc__")) (Value.str (Str.ofString "__doc__") 166) Value.none, DictEntry.mk (PyData.keyHash P (Str.ofString "__package__")) (Value.str (Str.ofString "__package__") 167) Value.none, DictEntry.mk (PyData.keyHash P (Str.ofString "__loader__")) (Value.str (Str.ofString "__loader__") 168) (Value.builtin "__main__.__loader__#opaque"), DictEntry.mk (PyData.keyHash P (Str.ofString "__spec__")) (Value.str (Str.ofString "__spec__") 169) Value.none, DictEntry.mk (PyData.keyHash P (Str.ofString "__annotations__")) (Value.str (Str.ofString "__annotations__") 170) (Value.ref 6), DictEntry.mk (PyData.keyHash P (Str.ofString "__builtins__")) (Value.str (Str.ofString "__builtins__") 171) (Value.ref 4), DictEntry.mk (PyData.keyHash P (Str.ofString "__file__")) (Value.str (Str.ofString "__file__") 173) (Value.str (Str.ofString "/claim/cut.py") 172), DictEntry.mk (PyData.keyHash P (Str.ofString "__cached__")) (Value.str (Str.ofString "__cached__") 174) Value.none, DictEntry.mk (PyData.keyHash P (Str.ofString "END")) (Value.str (Str.ofString "END") 191) (Value.ref 15), DictEntry.mk (PyData.keyHash P (Str.ofString "token_at")) (Value.str (Str.ofString "token_at") 199) (Value.ref 22), DictEntry.mk (PyData.keyHash P (Str.ofString "BLANKS")) (Value.str (Str.ofString "BLANKS") 203) (Value.str (Str.ofString " \t") 202), DictEntry.mk (PyData.keyHash P (Str.ofString "BasicError")) (Value.str (Str.ofString "BasicError") 232) (Value.ref 39), DictEntry.mk (PyData.keyHash P (Str.ofString "behind_blanks")) (Value.str (Str.ofString "behind_blanks") 240) (Value.ref 49), DictEntry.mk (PyData.keyHash P (Str.ofString "read_quoted")) (Value.str (Str.ofString "read_quoted") 249) (Value.ref 56), DictEntry.mk (PyData.keyHash P (Str.ofString "read_item")) (Value.str (Str.ofString "read_item") 260) (Value.ref 63), DictEntry.mk (PyData.keyHash P (Str.ofString "MOST")) (Value.str (Str.ofString "MOST") 264) (Value.int 32767 263), DictEntry.mk (PyData.keyHash P (Str.ofString "is_end")) (Value.str (Str.ofString "is_end") 271) (Value.ref 70), DictEntry.mk (PyData.keyHash P (Str.ofString "past_statement")) (Value.str (Str.ofString "past_statement") 279) (Value.ref 77), DictEntry.mk (PyData.keyHash P (Str.ofString "else_of")) (Value.str (Str.ofString "else_of") 288) (Value.ref 84), DictEntry.mk (PyData.keyHash P (Str.ofString "fields_of")) (Value.str (Str.ofString "fields_of") 299) (Value.ref 91), DictEntry.mk (PyData.keyHash P (Str.ofString "data_of")) (Value.str (Str.ofString "data_of") 312) (Value.ref 98), DictEntry.mk (PyData.keyHash P (Str.ofString "number_in")) (Value.str (Str.ofString "number_in") 318) (Value.ref 103), DictEntry.mk (PyData.keyHash P (Str.ofString "next_place")) (Value.str (Str.ofString "next_place") 329) (Value.ref 110), DictEntry.mk (PyData.keyHash P (Str.ofString "ended_by_next")) (Value.str (Str.ofString "ended_by_next") 338) (Value.ref 117), DictEntry.mk (PyData.keyHash P (Str.ofString "GREATEST")) (Value.str (Str.ofString "GREATEST") 342) (Value.int 65529 341), DictEntry.mk (PyData.keyHash P (Str.ofString "Program")) (Value.str (Str.ofString "Program") 371) (Value.ref 134), DictEntry.mk (PyData.keyHash P (Str.ofString "place_of")) (Value.str (Str.ofString "place_of") 382) (Value.ref 145), DictEntry.mk (PyData.keyHash P (Str.ofString "has_line")) (Value.str (Str.ofString "has_line") 391) (Value.ref 152), DictEntry.mk (PyData.keyHash P (Str.ofString "put_line")) (Value.str (Str.ofString "put_line") 402) (Value.ref 159), DictEntry.mk (PyData.keyHash P (Str.ofString "_law_if")) (Value.str (Str.ofString "_law_if") 411) (Value.ref 163), DictEntry.mk (PyData.keyHash P (Str.ofString "_law_row")) (Value.str (Str.ofString "_law_row") 421) (Value.ref 170), DictEntry.mk (PyData.keyHash P (Str.ofString "_law_elses")) (Value.str (Str.ofString "_law_elses") 433) (Value.ref 177), DictEntry.mk (PyData.keyHash P (Str.ofString "_law_open")) (Value.str (Str.ofString "_law_open") 439) (Value.ref 182), DictEntry.mk (PyData.keyHash P (Str.ofString "_law_rows_right")) (Value.str (Str.ofString "_law_rows_right") 449) (Value.ref 189)] 35) #[],
  boot_o_4 P,
  boot_o_5 P,
  boot_o_6 P,
  boot_o_7 P,
  boot_o_8 P,
  boot_o_9 P,
  boot_o_10 P,
  ob11 P,
  Obj.mk Value.none none (Data.fields #[Value.int 3 0, Value.int 0 0, Value.ref 21, Value.int 7 0, Value.int 0 0, Value.ref 28, Value.int 11 0, Value.int 0 0, Value.ref 48, Value.int 15 0, Value.int 0 0, Value.ref 55, Value.int 20 0, Value.int 0 0, Value.ref 62, Value.int 37 0, Value.int 0 0, Value.ref 69, Value.int 39 0, Value.int 0 0, Value.ref 76, Value.int 43 0, Value.int 0 0, Value.ref 83, Value.int 54 0, Value.int 0 0, Value.ref 90, Value.int 65 0, Value.int 0 0, Value.ref 97, Value.int 75 0, Value.int 0 0, Value.ref 102, Value.int 87 0, Value.int 0 0, Value.ref 109, Value.int 101 0, Value.int 0 0, Value.ref 116, Value.int 110 0, Value.int 0 0, Value.ref 123, Value.int 115 0, Value.int 0 0, Value.ref 144, Value.int 124 0, Value.int 0 0, Value.ref 151, Value.int 127 0, Value.int 0 0, Value.ref 158, Value.int 144 0, Value.int 0 0, Value.ref 169, Value.int 155 0, Value.int 0 0, Value.ref 176, Value.int 165 0, Value.int 0 0, Value.ref 181, Value.int 167 0, Value.int 0 0, Value.ref 188]) #[],
  ob13 P,
  ob14 P,
  ob15 P,
  ob16 P,
  ob17 P,
  ob18 P,
  ob19 P,
  ob20 P,
  ob21 P,
  ob22 P,
  ob23 P,
  ob24 P,
  ob25 P,
  ob26 P,
  ob27 P,
  ob28 P,
  ob29 P,
  ob30 P,
  ob31 P,
  ob32 P,
  ob33 P,
  ob34 P,
  ob35 P,
  ob36 P,
  ob37 P,
  ob38 P,
  ob39 P,
  ob40 P,
  ob41 P,
  ob42 P,
  ob43 P,
  ob44 P,
  ob45 P,
  ob46 P,
  ob47 P,
  ob48 P,
  ob49 P,
  ob50 P,
  ob51 P,
  ob52 P,
  ob53 P,
  ob54 P,
  ob55 P,
  ob56 P,
  ob57 P,
  ob58 P,
  ob59 P,
  ob60 P,
  ob61 P,
  ob62 P,
  ob63 P,
  ob64 P,
  ob65 P,
  ob66 P,
  ob67 P,
  ob68 P,
  ob69 P,
  ob70 P,
  ob71 P,
  ob72 P,
  ob73 P,
  ob74 P,
  ob75 P,
  ob76 P,
  ob77 P,
  ob78 P,
  ob79 P,
  ob80 P,
  ob81 P,
  ob82 P,
  ob83 P,
  ob84 P,
  ob85 P,
  ob86 P,
  ob87 P,
  ob88 P,
  ob89 P,
  ob90 P,
  ob91 P,
  ob92 P,
  ob93 P,
  ob94 P,
  ob95 P,
  ob96 P,
  ob97 P,
  ob98 P,
  ob99 P,
  ob100 P,
  ob101 P,
  ob102 P,
  ob103 P,
  ob104 P,
  ob105 P,
  ob106 P,
  ob107 P,
  ob108 P,
  ob109 P,
  ob110 P,
  ob111 P,
  ob112 P,
  ob113 P,
  ob114 P,
  ob115 P,
  ob116 P,
  ob117 P,
  ob118 P,
  ob119 P,
  ob120 P,
  ob121 P,
  ob122 P,
  ob123 P,
  ob124 P,
  ob125 P,
  ob126 P,
  ob127 P,
  ob128 P,
  ob129 P,
  ob130 P,
  ob131 P,
  ob132 P,
  ob133 P,
  ob134 P,
  ob135 P,
  ob136 P,
  ob137 P,
  ob138 P,
  ob139 P,
  ob140 P,
  ob141 P,
  ob142 P,
  ob143 P,
  ob144 P,
  ob145 P,
  ob146 P,
  ob147 P,
  ob148 P,
  ob149 P,
  ob150 P,
  ob151 P,
  ob152 P,
  ob153 P,
  ob154 P,
  ob155 P,
  ob156 P,
  ob157 P,
  ob158 P,
  ob159 P,
  ob160 P,
  ob161 P,
  ob162 P,
  ob163 P,
  ob164 P,
  ob165 P,
  ob166 P,
  ob167 P,
  ob168 P,
  ob169 P,
  ob170 P,
  ob171 P,
  ob172 P,
  ob173 P,
  ob174 P,
  ob175 P,
  ob176 P,
  ob177 P,
  ob178 P,
  ob179 P,
  ob180 P,
  ob181 P,
  ob182 P,
  ob183 P,
  ob184 P,
  ob185 P,
  ob186 P,
  ob187 P,
  ob188 P,
  ob189 P], Life.mk [] [] [] 0 [] [] false #[] [] 0 false false false 0 [2000, 10, 10] false 0 true [] [] 0 false⟩
noncomputable abbrev topS8 (w : World) (os : OsState) : Shared := ⟨topH8 w.params, Array.mk [], Drawn.mk 0 0 0 0, 450, os⟩
noncomputable def topH9 (P : Params) : Heap := ⟨Array.mk [
  boot_o_0 P,
  boot_o_1 P,
  Obj.mk Value.none none (Data.dict #[DictEntry.mk (PyData.keyHash P (Str.ofString "type.__subclasses__.Exception.0")) (Value.str (Str.ofString "type.__subclasses__.Exception.0") 229) (Value.int 39 0), DictEntry.mk (PyData.keyHash P (Str.ofString "type.__subclasses__.Exception.n")) (Value.str (Str.ofString "type.__subclasses__.Exception.n") 230) (Value.int 1 0)] 2) #[],
  Obj.mk (Value.type "dict") none (Data.dict #[DictEntry.mk (PyData.keyHash P (Str.ofString "__name__")) (Value.str (Str.ofString "__name__") 165) (Value.str (Str.ofString "law_nz0570_01") 403), DictEntry.mk (PyData.keyHash P (Str.ofString "__doc__")) (Value.str (Str.ofString "__doc__") 166) Value.none, DictEntry.mk (PyData.keyHash P (Str.ofString "__package__")) (Value.str (Str.ofString "__package__") 167) Value.none, DictEntry.mk (PyData.keyHash P (Str.ofString "__loader__")) (Value.str (Str.ofString "__loader__") 168) (Value.builtin "__main__.__loader__#opaque"), DictEntry.mk (PyData.keyHash P (Str.ofString "__spec__")) (Value.str (Str.ofString "__spec__") 169) Value.none, DictEntry.mk (PyData.keyHash P (Str.ofString "__annotations__")) (Value.str (Str.ofString "__annotations__") 170) (Value.ref 6), DictEntry.mk (PyData.keyHash P (Str.ofString "__builtins__")) (Value.str (Str.ofString "__builtins__") 171) (Value.ref 4), DictEntry.mk (PyData.keyHash P (Str.ofString "__file__")) (Value.str (Str.ofString "__file__") 173) (Value.str (Str.ofString "/claim/cut.py") 172), DictEntry.mk (PyData.keyHash P (Str.ofString "__cached__")) (Value.str (Str.ofString "__cached__") 174) Value.none, DictEntry.mk (PyData.keyHash P (Str.ofString "END")) (Value.str (Str.ofString "END") 191) (Value.ref 15), DictEntry.mk (PyData.keyHash P (Str.ofString "token_at")) (Value.str (Str.ofString "token_at") 199) (Value.ref 22), DictEntry.mk (PyData.keyHash P (Str.ofString "BLANKS")) (Value.str (Str.ofString "BLANKS") 203) (Value.str (Str.ofString " \t") 202), DictEntry.mk (PyData.keyHash P (Str.ofString "BasicError")) (Value.str (Str.ofString "BasicError") 232) (Value.ref 39), DictEntry.mk (PyData.keyHash P (Str.ofString "behind_blanks")) (Value.str (Str.ofString "behind_blanks") 240) (Value.ref 49), DictEntry.mk (PyData.keyHash P (Str.ofString "read_quoted")) (Value.str (Str.ofString "read_quoted") 249) (Value.ref 56), DictEntry.mk (PyData.keyHash P (Str.ofString "read_item")) (Value.str (Str.ofString "read_item") 260) (Value.ref 63), DictEntry.mk (PyData.keyHash P (Str.ofString "MOST")) (Value.str (Str.ofString "MOST") 264) (Value.int 32767 263), DictEntry.mk (PyData.keyHash P (Str.ofString "is_end")) (Value.str (Str.ofString "is_end") 271) (Value.ref 70), DictEntry.mk (PyData.keyHash P (Str.ofString "past_statement")) (Value.str (Str.ofString "past_statement") 279) (Value.ref 77), DictEntry.mk (PyData.keyHash P (Str.ofString "else_of")) (Value.str (Str.ofString "else_of") 288) (Value.ref 84), DictEntry.mk (PyData.keyHash P (Str.ofString "fields_of")) (Value.str (Str.ofString "fields_of") 299) (Value.ref 91), DictEntry.mk (PyData.keyHash P (Str.ofString "data_of")) (Value.str (Str.ofString "data_of") 312) (Value.ref 98), DictEntry.mk (PyData.keyHash P (Str.ofString "number_in")) (Value.str (Str.ofString "number_in") 318) (Value.ref 103), DictEntry.mk (PyData.keyHash P (Str.ofString "next_place")) (Value.str (Str.ofString "next_place") 329) (Value.ref 110), DictEntry.mk (PyData.keyHash P (Str.ofString "ended_by_next")) (Value.str (Str.ofString "ended_by_next") 338) (Value.ref 117), DictEntry.mk (PyData.keyHash P (Str.ofString "GREATEST")) (Value.str (Str.ofString "GREATEST") 342) (Value.int 65529 341), DictEntry.mk (PyData.keyHash P (Str.ofString "Program")) (Value.str (Str.ofString "Program") 371) (Value.ref 134), DictEntry.mk (PyData.keyHash P (Str.ofString "place_of")) (Value.str (Str.ofString "place_of") 382) (Value.ref 145), DictEntry.mk (PyData.keyHash P (Str.ofString "has_line")) (Value.str (Str.ofString "has_line") 391) (Value.ref 152), DictEntry.mk (PyData.keyHash P (Str.ofString "put_line")) (Value.str (Str.ofString "put_line") 402) (Value.ref 159), DictEntry.mk (PyData.keyHash P (Str.ofString "_law_if")) (Value.str (Str.ofString "_law_if") 411) (Value.ref 163), DictEntry.mk (PyData.keyHash P (Str.ofString "_law_row")) (Value.str (Str.ofString "_law_row") 421) (Value.ref 170), DictEntry.mk (PyData.keyHash P (Str.ofString "_law_elses")) (Value.str (Str.ofString "_law_elses") 433) (Value.ref 177), DictEntry.mk (PyData.keyHash P (Str.ofString "_law_open")) (Value.str (Str.ofString "_law_open") 439) (Value.ref 182), DictEntry.mk (PyData.keyHash P (Str.ofString "_law_rows_right")) (Value.str (Str.ofString "_law_rows_right") 449) (Value.ref 189), DictEntry.mk (PyData.keyHash P (Str.ofString "_law_item")) (Value.str (Str.ofString "_law_item") 456) (Value.ref 196), DictEntry.mk (PyData.keyHash P (Str.ofString "_law_data_right")) (Value.str (Str.ofString "_law_data_right") 462) (Value.ref 201), DictEntry.mk (PyData.keyHash P (Str.ofString "_law_loops")) (Value.str (Str.ofString "_law_loops") 476) (Value.ref 208), DictEntry.mk (PyData.keyHash P (Str.ofString "_law_loops_right")) (Value.str (Str.ofString "_law_loops_right") 492) (Value.ref 215), DictEntry.mk (PyData.keyHash P (Str.ofString "law")) (Value.str (Str.ofString "law") 498) (Value.ref 220)] 40) #[],
  boot_o_4 P,
  boot_o_5 P,
  boot_o_6 P,
  boot_o_7 P,
  boot_o_8 P,
  boot_o_9 P,
  boot_o_10 P,
  ob11 P,
  Obj.mk Value.none none (Data.fields #[Value.int 3 0, Value.int 0 0, Value.ref 21, Value.int 7 0, Value.int 0 0, Value.ref 28, Value.int 11 0, Value.int 0 0, Value.ref 48, Value.int 15 0, Value.int 0 0, Value.ref 55, Value.int 20 0, Value.int 0 0, Value.ref 62, Value.int 37 0, Value.int 0 0, Value.ref 69, Value.int 39 0, Value.int 0 0, Value.ref 76, Value.int 43 0, Value.int 0 0, Value.ref 83, Value.int 54 0, Value.int 0 0, Value.ref 90, Value.int 65 0, Value.int 0 0, Value.ref 97, Value.int 75 0, Value.int 0 0, Value.ref 102, Value.int 87 0, Value.int 0 0, Value.ref 109, Value.int 101 0, Value.int 0 0, Value.ref 116, Value.int 110 0, Value.int 0 0, Value.ref 123, Value.int 115 0, Value.int 0 0, Value.ref 144, Value.int 124 0, Value.int 0 0, Value.ref 151, Value.int 127 0, Value.int 0 0, Value.ref 158, Value.int 144 0, Value.int 0 0, Value.ref 169, Value.int 155 0, Value.int 0 0, Value.ref 176, Value.int 165 0, Value.int 0 0, Value.ref 181, Value.int 167 0, Value.int 0 0, Value.ref 188, Value.int 179 0, Value.int 0 0, Value.ref 195, Value.int 181 0, Value.int 0 0, Value.ref 200, Value.int 195 0, Value.int 0 0, Value.ref 207, Value.int 216 0, Value.int 0 0, Value.ref 214, Value.int 232 0, Value.int 0 0, Value.ref 219]) #[],
  ob13 P,
  ob14 P,
  ob15 P,
  ob16 P,
  ob17 P,
  ob18 P,
  ob19 P,
  ob20 P,
  ob21 P,
  ob22 P,
  ob23 P,
  ob24 P,
  ob25 P,
  ob26 P,
  ob27 P,
  ob28 P,
  ob29 P,
  ob30 P,
  ob31 P,
  ob32 P,
  ob33 P,
  ob34 P,
  ob35 P,
  ob36 P,
  ob37 P,
  ob38 P,
  ob39 P,
  ob40 P,
  ob41 P,
  ob42 P,
  ob43 P,
  ob44 P,
  ob45 P,
  ob46 P,
  ob47 P,
  ob48 P,
  ob49 P,
  ob50 P,
  ob51 P,
  ob52 P,
  ob53 P,
  ob54 P,
  ob55 P,
  ob56 P,
  ob57 P,
  ob58 P,
  ob59 P,
  ob60 P,
  ob61 P,
  ob62 P,
  ob63 P,
  ob64 P,
  ob65 P,
  ob66 P,
  ob67 P,
  ob68 P,
  ob69 P,
  ob70 P,
  ob71 P,
  ob72 P,
  ob73 P,
  ob74 P,
  ob75 P,
  ob76 P,
  ob77 P,
  ob78 P,
  ob79 P,
  ob80 P,
  ob81 P,
  ob82 P,
  ob83 P,
  ob84 P,
  ob85 P,
  ob86 P,
  ob87 P,
  ob88 P,
  ob89 P,
  ob90 P,
  ob91 P,
  ob92 P,
  ob93 P,
  ob94 P,
  ob95 P,
  ob96 P,
  ob97 P,
  ob98 P,
  ob99 P,
  ob100 P,
  ob101 P,
  ob102 P,
  ob103 P,
  ob104 P,
  ob105 P,
  ob106 P,
  ob107 P,
  ob108 P,
  ob109 P,
  ob110 P,
  ob111 P,
  ob112 P,
  ob113 P,
  ob114 P,
  ob115 P,
  ob116 P,
  ob117 P,
  ob118 P,
  ob119 P,
  ob120 P,
  ob121 P,
  ob122 P,
  ob123 P,
  ob124 P,
  ob125 P,
  ob126 P,
  ob127 P,
  ob128 P,
  ob129 P,
  ob130 P,
  ob131 P,
  ob132 P,
  ob133 P,
  ob134 P,
  ob135 P,
  ob136 P,
  ob137 P,
  ob138 P,
  ob139 P,
  ob140 P,
  ob141 P,
  ob142 P,
  ob143 P,
  ob144 P,
  ob145 P,
  ob146 P,
  ob147 P,
  ob148 P,
  ob149 P,
  ob150 P,
  ob151 P,
  ob152 P,
  ob153 P,
  ob154 P,
  ob155 P,
  ob156 P,
  ob157 P,
  ob158 P,
  ob159 P,
  ob160 P,
  ob161 P,
  ob162 P,
  ob163 P,
  ob164 P,
  ob165 P,
  ob166 P,
  ob167 P,
  ob168 P,
  ob169 P,
  ob170 P,
  ob171 P,
  ob172 P,
  ob173 P,
  ob174 P,
  ob175 P,
  ob176 P,
  ob177 P,
  ob178 P,
  ob179 P,
  ob180 P,
  ob181 P,
  ob182 P,
  ob183 P,
  ob184 P,
  ob185 P,
  ob186 P,
  ob187 P,
  ob188 P,
  ob189 P,
  ob190 P,
  ob191 P,
  ob192 P,
  ob193 P,
  ob194 P,
  ob195 P,
  ob196 P,
  ob197 P,
  ob198 P,
  ob199 P,
  ob200 P,
  ob201 P,
  ob202 P,
  ob203 P,
  ob204 P,
  ob205 P,
  ob206 P,
  ob207 P,
  ob208 P,
  ob209 P,
  ob210 P,
  ob211 P,
  ob212 P,
  ob213 P,
  ob214 P,
  ob215 P,
  ob216 P,
  ob217 P,
  ob218 P,
  ob219 P,
  ob220 P], Life.mk [] [] [] 0 [] [] false #[] [] 0 false false false 0 [2000, 10, 10] false 0 true [] [] 0 false⟩
noncomputable abbrev topS9 (w : World) (os : OsState) : Shared := ⟨topH9 w.params, Array.mk [], Drawn.mk 0 0 0 0, 499, os⟩
noncomputable abbrev bootS (w : World) (os : OsState) : Shared := ⟨boot_heap w.params, Array.mk [], boot_drawn, boot_toks, os⟩
noncomputable abbrev topE : Env := { scope := pw.main.scope, locals := mainNs, globals := mainNs, cells := [], code := .ref 13, frame := some 14 }
noncomputable abbrev topB : List Stmt := behindTheImports pw
noncomputable abbrev topC : Code := .body topB topE
noncomputable abbrev q0 : Pos := Pos.mk 0 0 0 0
noncomputable abbrev topAnn : Option Value := some (.ref 6)
noncomputable def sts0 : List Stmt := (topB.drop 0).take 5
noncomputable def sts1 : List Stmt := (topB.drop 5).take 1
noncomputable def sts2 : List Stmt := (topB.drop 6).take 5
noncomputable def sts3 : List Stmt := (topB.drop 11).take 5
noncomputable def sts4 : List Stmt := (topB.drop 16).take 5
noncomputable def sts5 : List Stmt := (topB.drop 21).take 1
noncomputable def sts6 : List Stmt := (topB.drop 22).take 4
noncomputable def sts7 : List Stmt := (topB.drop 26).take 5
noncomputable def sts8 : List Stmt := (topB.drop 31).take 5
theorem top_pre : ∀ (w : World) (os : OsState), topGo treeTable pw w 11 topAnn 12 (bootS w os) (topStub pw) = some (topS0 w os, ⟨denote treeTable topC, topC, q0, [topFrame q0]⟩) := by
  intro w os
  with_unfolding_all kernel_rfl
theorem top_block : ∀ (w : World) (os : OsState), segRun treeTable pw w 11 topAnn 1 1 (topS0 w os) (blockOf topB topE topC q0 [topFrame q0]) = some (.next, topS0 w os, topC, q0) := by
  intro w os
  with_unfolding_all kernel_rfl
theorem top_g0 : ∀ (w : World) (os : OsState), segRun treeTable pw w 11 topAnn 1 70 (topS0 w os) (piecesOf sts0 topE topC q0 [topFrame q0]) = some (.next, topS1 w os, topC, (Pos.mk 6 0 6 6)) := by
  intro w os
  with_unfolding_all kernel_rfl
theorem top_g1 : ∀ (w : World) (os : OsState), segRun treeTable pw w 11 topAnn 1 229 (topS1 w os) (piecesOf sts1 topE topC (Pos.mk 6 0 6 6) [topFrame q0]) = some (.next, topS2 w os, topC, (Pos.mk 7 0 10 24)) := by
  intro w os
  with_unfolding_all kernel_rfl
theorem top_g2 : ∀ (w : World) (os : OsState), segRun treeTable pw w 11 topAnn 1 113 (topS2 w os) (piecesOf sts2 topE topC (Pos.mk 7 0 10 24) [topFrame q0]) = some (.next, topS3 w os, topC, (Pos.mk 36 0 36 4)) := by
  intro w os
  with_unfolding_all kernel_rfl
theorem top_g3 : ∀ (w : World) (os : OsState), segRun treeTable pw w 11 topAnn 1 159 (topS3 w os) (piecesOf sts3 topE topC (Pos.mk 36 0 36 4) [topFrame q0]) = some (.next, topS4 w os, topC, (Pos.mk 65 0 74 16)) := by
  intro w os
  with_unfolding_all kernel_rfl
theorem top_g4 : ∀ (w : World) (os : OsState), segRun treeTable pw w 11 topAnn 1 109 (topS4 w os) (piecesOf sts4 topE topC (Pos.mk 65 0 74 16) [topFrame q0]) = some (.next, topS5 w os, topC, (Pos.mk 109 0 109 8)) := by
  intro w os
  with_unfolding_all kernel_rfl
theorem top_g5 : ∀ (w : World) (os : OsState), segRun treeTable pw w 11 topAnn 1 223 (topS5 w os) (piecesOf sts5 topE topC (Pos.mk 109 0 109 8) [topFrame q0]) = some (.next, topS6 w os, topC, (Pos.mk 110 0 114 22)) := by
  intro w os
  with_unfolding_all kernel_rfl
theorem top_g6 : ∀ (w : World) (os : OsState), segRun treeTable pw w 11 topAnn 1 107 (topS6 w os) (piecesOf sts6 topE topC (Pos.mk 110 0 114 22) [topFrame q0]) = some (.next, topS7 w os, topC, (Pos.mk 142 0 142 8)) := by
  intro w os
  with_unfolding_all kernel_rfl
theorem top_g7 : ∀ (w : World) (os : OsState), segRun treeTable pw w 11 topAnn 1 147 (topS7 w os) (piecesOf sts7 topE topC (Pos.mk 142 0 142 8) [topFrame q0]) = some (.next, topS8 w os, topC, (Pos.mk 167 0 178 15)) := by
  intro w os
  with_unfolding_all kernel_rfl
theorem top_g8 : ∀ (w : World) (os : OsState), segRun treeTable pw w 11 topAnn 1 156 (topS8 w os) (piecesOf sts8 topE topC (Pos.mk 167 0 178 15) [topFrame q0]) = some (.next, topS9 w os, topC, (Pos.mk 232 0 240 53)) := by
  intro w os
  with_unfolding_all kernel_rfl
theorem top_fin : ∀ (w : World) (os : OsState), topRun treeTable pw w 11 topAnn 2 (topS9 w os) ⟨doneF .next, topC, (Pos.mk 232 0 240 53), [topFrame q0]⟩ = some (topS9 w os) := by
  intro w os
  with_unfolding_all kernel_rfl
theorem top_split : topB = sts0 ++ (sts1 ++ (sts2 ++ (sts3 ++ (sts4 ++ (sts5 ++ (sts6 ++ (sts7 ++ (sts8 ++ [])))))))) := by kernel_rfl
theorem top_rest (w : World) (os : OsState) : topRun treeTable pw w 11 topAnn (70 + (229 + (113 + (159 + (109 + (223 + (107 + (147 + (156 + (2)))))))))) (topS0 w os) (restOf topB topE topC q0 [topFrame q0]) = some (topS9 w os) :=
  Eq.mp (congrArg (fun b => topRun treeTable pw w 11 topAnn (70 + (229 + (113 + (159 + (109 + (223 + (107 + (147 + (156 + (2)))))))))) (topS0 w os) (restOf b topE topC q0 [topFrame q0]) = some (topS9 w os)) top_split.symm)
    (piece_app (top_g0 w os) (piece_app (top_g1 w os) (piece_app (top_g2 w os) (piece_app (top_g3 w os) (piece_app (top_g4 w os) (piece_app (top_g5 w os) (piece_app (top_g6 w os) (piece_app (top_g7 w os) (piece_app (top_g8 w os) (piece_nil (top_fin w os)))))))))))
theorem top_run (w : World) (os : OsState) : topRun treeTable pw w 11 topAnn (12 + (1 + (70 + (229 + (113 + (159 + (109 + (223 + (107 + (147 + (156 + (2)))))))))))) (bootS w os) (topStub pw) = some (topS9 w os) :=
  go_top (top_pre w os) (piece_block (top_block w os) (top_rest w os))
theorem left : LeftO pw vw ls seenX (Hook.obs hk) (Hook.val hk) 2734 :=
  LeftO.of_pieces (H₁ := topH9) (gs₁ := Array.mk []) (d₁ := Drawn.mk 0 0 0 0) (k₁ := 499) opened (fun w => by with_unfolding_all kernel_rfl) top_run (by decide +kernel)
    (fun w => by with_unfolding_all kernel_rfl)

theorem said : PySem.Challenge.rw_nz0570_01.wellSaid = true := by
  unfold OpenLaw.wellSaid OpenRow.wellSaid OpenRow.partSaid looksOpen
  repeat' (with_reducible refine look_both ?_ ?_)
  all_goals decide +kernel

noncomputable def defRecOf (k : Nat) : DefRec := match (PySem.Challenge.pw_nz0570_01.main.body)[k]? with
  | some (.FunctionDef name args body _ _ _ scope _ _ pos) => ⟨name, args, body, scope, pos⟩
  | _ => ⟨Str.empty, default, [], default, default⟩
noncomputable abbrev lawD : DefRec := defRecOf 35
theorem hd (h : WalkO vw ls (XL vw []) hk.says PySem.Challenge.rw_nz0570_01.row.toRowW lawD [] fun f vs => PySem.call f vs) : PySem.Challenge.rw_nz0570_01.Holds := by
  w_on
  refine holds_law said fun sd => ?_
  refine holds_open (q := vw) (loose := ls) (Xt := seenX) (XP := XL vw []) (Yf := Hook.obs hk) (Ya := Hook.val hk) (YP := Hook.says hk) (N := 2734) left (Hook.of hk) (Hook.keeps hk) (fun s e => xl_of s (Bool.and_eq_true_iff.mp e).1) XL.keeps (by kernel_rfl) (by kernel_rfl) (by kernel_rfl) (fun s e => recFacts_of (Bool.and_eq_true_iff.mp e).2) (by rfl) sd (by decide +kernel) ⟨rfl, rfl, rfl, rfl, rfl, by decide +kernel⟩ ?hw h
  case hw => w_witness2
end Mine

-- A0
namespace Mine
open PySem PySem.Calls PySem.W PyProof.Rows

noncomputable abbrev prg : Program := PySem.Challenge.rw_nz0570_01.row.prog

/-- abstract values: tuples and settled lists as values, lists that still turn by their address -/
inductive V where
  | none | bool (b : Bool) | int (i : Int) | str (x : Str)
  | tup (l : List V) | lst (l : List V) | ref (a : Addr)
  | prog (ns rs : List V)
  | dct (ks : List Int) (vs : List V)
  | fix (u : Value)

/-- one of Program at a, its dict at d, its two lists at n and r -/
noncomputable def IsProg (h : Heap) (a d n r : Addr) : Prop :=
  h.get? a = some (instObj 134 d) ∧ ∃ e1 e2 ep, h.get? d = some (dictOf [e1, e2] ep) ∧ (∃ t, e1.key = .str "numbers" t) ∧ e1.val = .ref n ∧ (∃ t, e2.key = .str "rows" t) ∧ e2.val = .ref r

mutual
noncomputable def VR (w : World) (X : List Addr) (h : Heap) : V → Value → Prop
  | .none, u => u = .none
  | .bool b, u => u = .bool b
  | .int i, u => ∃ t, u = .int i t
  | .str x, u => ∃ t, u = .str x t
  | .ref a, u => u = .ref a
  | .fix v, u => u = v
  | .tup l, u => ∃ a us, u = .ref a ∧ a ∉ X ∧ IsTup h a (List.toArray us) ∧ VRs w X h l us
  | .lst l, u => ∃ a us, u = .ref a ∧ a ∉ X ∧ h.IsList a (List.toArray us) ∧ VRs w X h l us
  | .prog ns rs, u => ∃ a d n r us vs, u = .ref a ∧ a ∉ X ∧ d ∉ X ∧ n ∉ X ∧ r ∉ X ∧ IsProg h a d n r ∧ h.IsList n (List.toArray us) ∧ VRs w X h ns us ∧ h.IsList r (List.toArray vs) ∧ VRs w X h rs vs
  | .dct ks vs, u => ∃ a us ep, u = .ref a ∧ a ∉ X ∧ a ≠ sysModules ∧ Heap.DictAt (intKind prg w) h a (ks.zip us) ep ∧ ks.length = vs.length ∧ VRs w X h vs us
noncomputable def VRs (w : World) (X : List Addr) (h : Heap) : List V → List Value → Prop
  | [], us => us = []
  | v :: vs, us => ∃ u us', us = u :: us' ∧ VR w X h v u ∧ VRs w X h vs us'
end

section
variable {w : World} {X X' : List Addr} {h h' : Heap}

/-- outside of Z all stays -/
noncomputable def Kept (Z : List Addr) (h h' : Heap) : Prop := ∀ b o, b ∉ Z → h.get? b = some o → h'.get? b = some o
/-- what is new in X' was not there -/
noncomputable def Newly (X X' : List Addr) (h : Heap) : Prop := ∀ b, b ∈ X' → b ∈ X ∨ h.get? b = none

theorem Kept.refl {Z : List Addr} {h : Heap} : Kept Z h h := fun _ _ _ e => e
theorem Newly.refl {X : List Addr} {h : Heap} : Newly X X h := fun _ hb => .inl hb

theorem out_of {b : Addr} {o : Obj} (hX : Newly X X' h) (hb : b ∉ X) (ho : h.get? b = some o) : b ∉ X' := fun hm => by
  rcases hX b hm with q | q
  · exact hb q
  · rw [ho] at q; cases q

theorem IsProg.kept {a d n r : Addr} (p : IsProg h a d n r) (hk : Kept X h h') (ha : a ∉ X) (hd : d ∉ X) : IsProg h' a d n r := by
  obtain ⟨h1, e1, e2, ep, h2, r⟩ := p
  exact ⟨hk _ _ ha h1, e1, e2, ep, hk _ _ hd h2, r⟩

mutual
theorem VR.mono (hk : Kept X h h') (hX : Newly X X' h) : ∀ (v : V) {u : Value}, VR w X h v u → VR w X' h' v u
  | .none, _, r => by simpa only [VR] using r
  | .bool b, _, r => by simpa only [VR] using r
  | .int i, _, r => by simpa only [VR] using r
  | .str x, _, r => by simpa only [VR] using r
  | .ref a, _, r => by simpa only [VR] using r
  | .fix a, _, r => by simpa only [VR] using r
  | .tup l, _, r => by
    simp only [VR] at r ⊢
    obtain ⟨a, us, e, ha, ⟨o, ho, q⟩, hs⟩ := r
    exact ⟨a, us, e, out_of hX ha ho, ⟨o, hk _ _ ha ho, q⟩, VRs.mono hk hX l hs⟩
  | .lst l, _, r => by
    simp only [VR] at r ⊢
    obtain ⟨a, us, e, ha, ⟨o, ho, q⟩, hs⟩ := r
    exact ⟨a, us, e, out_of hX ha ho, ⟨o, hk _ _ ha ho, q⟩, VRs.mono hk hX l hs⟩
  | .prog ns rs, _, r => by
    simp only [VR] at r ⊢
    obtain ⟨a, d, n, r, us, vs, e, ha, hd, hn, hr, p, ⟨o1, ho1, q1⟩, hs1, ⟨o2, ho2, q2⟩, hs2⟩ := r
    have p1 := p.1
    obtain ⟨e1, e2, ep, p2, _⟩ := p.2
    exact ⟨a, d, n, r, us, vs, e, out_of hX ha p1, out_of hX hd p2, out_of hX hn ho1, out_of hX hr ho2, p.kept hk ha hd, ⟨o1, hk _ _ hn ho1, q1⟩, VRs.mono hk hX ns hs1, ⟨o2, hk _ _ hr ho2, q2⟩, VRs.mono hk hX rs hs2⟩
  | .dct ks vs, _, r => by
    simp only [VR] at r ⊢
    obtain ⟨a, us, ep, e, ha, hm, ⟨o, es, ho, q⟩, hl, hs⟩ := r
    exact ⟨a, us, ep, e, out_of hX ha ho, hm, ⟨o, es, hk _ _ ha ho, q⟩, hl, VRs.mono hk hX vs hs⟩
theorem VRs.mono (hk : Kept X h h') (hX : Newly X X' h) : ∀ (l : List V) {us : List Value}, VRs w X h l us → VRs w X' h' l us
  | [], _, r => by simpa only [VRs] using r
  | v :: vs, _, r => by
    simp only [VRs] at r ⊢
    obtain ⟨u, us', e, hv, hs⟩ := r
    exact ⟨u, us', e, VR.mono hk hX v hv, VRs.mono hk hX vs hs⟩
end

theorem VRs.nil : VRs w X h [] [] := by simp only [VRs]
theorem VRs.cons {v : V} {u : Value} {vs : List V} {us : List Value} (a : VR w X h v u) (b : VRs w X h vs us) : VRs w X h (v :: vs) (u :: us) := by simp only [VRs]; exact ⟨u, us, rfl, a, b⟩
theorem VRs.length : ∀ {l : List V} {us : List Value}, VRs w X h l us → us.length = l.length
  | [], us, r => by simp only [VRs] at r; subst r; rfl
  | v :: vs, us, r => by
    simp only [VRs] at r
    obtain ⟨u, us', rfl, _, hs⟩ := r
    simp only [List.length_cons, VRs.length hs]
theorem VRs.append : ∀ {l l' : List V} {us us' : List Value}, VRs w X h l us → VRs w X h l' us' → VRs w X h (l ++ l') (us ++ us')
  | [], _, us, _, r, r' => by simp only [VRs] at r; subst r; exact r'
  | v :: vs, _, us, _, r, r' => by
    simp only [VRs] at r
    obtain ⟨u, us', rfl, hv, hs⟩ := r
    exact .cons hv (hs.append r')
theorem VRs.get? : ∀ {l : List V} {us : List Value} {i : Nat} {v : V}, VRs w X h l us → l[i]? = some v → ∃ u, us[i]? = some u ∧ VR w X h v u
  | [], us, i, v, r, hv => by simp at hv
  | v₀ :: vs, us, i, v, r, hv => by
    simp only [VRs] at r
    obtain ⟨u, us', rfl, h0, hs⟩ := r
    cases i with
    | zero => simp at hv; subst hv; exact ⟨u, rfl, h0⟩
    | succ i => exact VRs.get? (i := i) hs (by simpa using hv)
theorem VRs.take : ∀ {l : List V} {us : List Value} (k : Nat), VRs w X h l us → VRs w X h (l.take k) (us.take k)
  | _, _, 0, _ => by simp [VRs.nil]
  | [], us, k + 1, r => by simp only [VRs] at r; subst r; exact .nil
  | v :: vs, us, k + 1, r => by
    simp only [VRs] at r
    obtain ⟨u, us', rfl, h0, hs⟩ := r
    exact .cons h0 (hs.take k)
theorem VRs.drop : ∀ {l : List V} {us : List Value} (k : Nat), VRs w X h l us → VRs w X h (l.drop k) (us.drop k)
  | _, _, 0, r => r
  | [], us, k + 1, r => by simp only [VRs] at r; subst r; exact .nil
  | v :: vs, us, k + 1, r => by
    simp only [VRs] at r
    obtain ⟨u, us', rfl, h0, hs⟩ := r
    exact hs.drop k
theorem VRs.set : ∀ {l : List V} {us : List Value} (k : Nat) {v : V} {u : Value}, VRs w X h l us → VR w X h v u → VRs w X h (l.set k v) (us.set k u)
  | [], us, k, _, _, r, _ => by simp only [VRs] at r; subst r; exact .nil
  | v :: vs, us, 0, _, _, r, q => by
    simp only [VRs] at r
    obtain ⟨u, us', rfl, h0, hs⟩ := r
    exact .cons q hs
  | v :: vs, us, k + 1, _, _, r, q => by
    simp only [VRs] at r
    obtain ⟨u, us', rfl, h0, hs⟩ := r
    exact .cons h0 (hs.set k q)
theorem VRs.reverse : ∀ {l : List V} {us : List Value}, VRs w X h l us → VRs w X h l.reverse us.reverse
  | [], us, r => by simp only [VRs] at r; subst r; exact .nil
  | v :: vs, us, r => by
    simp only [VRs] at r
    obtain ⟨u, us', rfl, h0, hs⟩ := r
    rw [List.reverse_cons, List.reverse_cons]
    exact hs.reverse.append (.cons h0 .nil)
end

/-- objects that turn -/
inductive AO where
  | list (l : List V)
  | dict (ks : List Int) (vs : List V)
  | inst (d : Addr)
  | attrs (l : List (Str × Addr))
  | frm (mc : Str → Option Value)
/-- a dict of names -/
noncomputable def AttrsAre : List DictEntry → List (Str × Addr) → Prop
  | [], [] => True
  | e :: es, p :: ps => (∃ t, e.key = .str p.1 t) ∧ e.val = .ref p.2 ∧ AttrsAre es ps
  | _, _ => False

noncomputable def OR (w : World) (X : List Addr) (h : Heap) (a : Addr) : AO → Prop
  | .list l => ∃ us n, IsL h a (List.toArray us) n ∧ VRs w X h l us
  | .dict ks vs => ∃ us ep, a ≠ sysModules ∧ Heap.DictAt (intKind prg w) h a (ks.zip us) ep ∧ ks.length = vs.length ∧ VRs w X h vs us
  | .inst d => h.get? a = some (instObj 134 d)
  | .attrs l => ∃ es ep, h.get? a = some (dictOf es ep) ∧ AttrsAre es l
  | .frm mc => h.Ns a mc

noncomputable abbrev Led := List (Addr × AO)
noncomputable abbrev dm (O : Led) : List Addr := O.map (·.1)

theorem OR.there {w : World} {X : List Addr} {h : Heap} {a : Addr} : ∀ {ao : AO}, OR w X h a ao → ∃ o, h.get? a = some o
  | .list _, ⟨_, _, e, _⟩ => ⟨_, e⟩
  | .dict _ _, ⟨_, _, _, ⟨_, _, e, _⟩, _⟩ => ⟨_, e⟩
  | .inst _, e => ⟨_, e⟩
  | .attrs _, ⟨_, _, e, _⟩ => ⟨_, e⟩
  | .frm _, ⟨_, _, _, e, _⟩ => ⟨_, e⟩

theorem OR.mono {w : World} {X X' : List Addr} {h h' : Heap} {a : Addr} (hk : Kept X h h') (hX : Newly X X' h) (ha : ∀ o, h.get? a = some o → h'.get? a = some o) : ∀ {ao : AO}, OR w X h a ao → OR w X' h' a ao
  | .list _, ⟨us, n, e, r⟩ => ⟨us, n, ha _ e, r.mono hk hX⟩
  | .dict _ _, ⟨us, ep, m, ⟨o, es, e, q⟩, l, r⟩ => ⟨us, ep, m, ⟨o, es, ha _ e, q⟩, l, r.mono hk hX⟩
  | .inst _, e => ha _ e
  | .attrs _, ⟨es, ep, e, r⟩ => ⟨es, ep, ha _ e, r⟩
  | .frm _, ⟨o, es, ep, e, r⟩ => ⟨o, es, ep, ha _ e, r⟩

/-- the ground of the call -/
structure Gr where
  w : World
  h : Heap
  mg : Str → Option Value
  mb : Str → Option Value
  kin : (hd.heap_39 w.params).In h
  lim : h.NoLimit
  gs : h.Ns mainGlobals mg
  bs : h.Ns builtinsNs mb
  hb : ∀ x : Str, x ≠ "__name__" → mb x = bootBuiltins x

structure St (g : Gr) (F : List Addr) (O : Led) (h : Heap) : Prop where
  keep : ∀ b o, g.h.get? b = some o → h.get? b = some o
  fresh : ∀ a, a ∈ dm O ++ F → g.h.get? a = none
  nodup : (dm O).Nodup
  disj : ∀ a, a ∈ dm O → a ∉ F
  thereF : ∀ a, a ∈ F → ∃ o, h.get? a = some o
  obj : ∀ p ∈ O, OR g.w (dm O ++ F) h p.1 p.2

/-- how deep it still goes; the frames, where they are to be known -/
structure Lv where
  n : Nat
  fr : Option (List Env)
/-- enough room; no exception in flight -/
structure Ok (n : Lv) (A : Around) : Prop where
  handled : A.handled = none
  depth : A.depth + 4 * n.n + 4 ≤ 999
  units : A.units + 20 * n.n + 40 ≤ 9000
  guards : A.guards = some []
  frames : ∃ l, A.frames = some l
  here : ∀ l, n.fr = some l → A.frames = some l

theorem Ok.deeper {n : Nat} {A : Around} {fr : Option (List Env)} (env : Env) (h : Ok ⟨n + 1, fr⟩ A) : Ok ⟨n, none⟩ (A.deeper env) :=
  ⟨h.handled, (by have := h.depth; simp only at this ⊢; omega : A.depth + 1 + 4 * n + 4 ≤ 999), (by have := h.units; simp only at this ⊢; omega : A.units + 3 + 20 * n + 40 ≤ 9000), h.guards, (by obtain ⟨l, e⟩ := h.frames; exact ⟨env :: l, by show A.frames.map _ = _; rw [e]; rfl⟩), fun l h => by cases h⟩
theorem Ok.le {n m : Nat} {A : Around} {fr : Option (List Env)} (h : Ok ⟨n, fr⟩ A) (hm : m ≤ n) : Ok ⟨m, none⟩ A := ⟨h.handled, by have := h.depth; simp only at this ⊢; omega, by have := h.units; simp only at this ⊢; omega, h.guards, h.frames, fun l h => by cases h⟩
theorem Ok.plain {k : Lv} {A : Around} (h : Ok k A) : Ok ⟨k.n, none⟩ A := ⟨h.handled, h.depth, h.units, h.guards, h.frames, fun l h => by cases h⟩

section
variable {g : Gr} {F F' : List Addr} {O O' : Led} {h h' : Heap}
theorem St.there (S : St g F O h) : ∀ a, a ∈ dm O ++ F → ∃ o, h.get? a = some o := fun a ha => by
  rcases List.mem_append.mp ha with q | q
  · obtain ⟨p, hp, rfl⟩ := List.mem_map.mp q
    exact (S.obj p hp).there
  · exact S.thereF a q
/-- all stays: the ledger stands as it stood -/
theorem St.grow (S : St g F O h) (hk : Kept [] h h') : St g F O h' :=
  ⟨fun b o e => hk _ _ (by simp) (S.keep b o e), S.fresh, S.nodup, S.disj, fun a ha => let ⟨o, e⟩ := S.thereF a ha; ⟨o, hk _ _ (by simp) e⟩, fun p hp => (S.obj p hp).mono (fun b o _ e => hk b o (by simp) e) .refl fun o e => hk _ _ (by simp) e⟩
theorem kept_of {Z : List Addr} (hk : Kept [] h h') : Kept Z h h' := fun b o _ e => hk b o (by simp) e
theorem kept_push (o : Obj) : Kept [] h (h.push o) := fun _ _ _ e => Heap.get?_push_of_some _ e
theorem Kept.trans {h'' : Heap} {Z : List Addr} (a : Kept Z h h') (b : Kept Z h' h'') : Kept Z h h'' := fun x o hx e => b x o hx (a x o hx e)
theorem newly_trans {X X' X'' : List Addr} (hk : Kept X h h') (a : Newly X X' h) (b : Newly X' X'' h') : Newly X X'' h := fun x hx => by
  rcases b x hx with q | q
  · exact a x q
  · by_cases hm : x ∈ X
    · exact .inl hm
    · right
      cases e : h.get? x with
      | none => rfl
      | some o => rw [hk x o hm e] at q; cases q

/-- the next state -/
structure Nxt (Z X X' : List Addr) (s s' : Shared) : Prop where
  same : ∃ h' tk, s' = { s with heap := h', toks := tk }
  kept : Kept Z s.heap s'.heap
  new : Newly X X' s.heap
theorem Nxt.refl {Z X : List Addr} {s : Shared} : Nxt Z X X s s := ⟨⟨s.heap, s.toks, rfl⟩, .refl, .refl⟩
theorem Nxt.tok {Z X : List Addr} {s : Shared} (t : Nat) : Nxt Z X X s { s with toks := t } := ⟨⟨s.heap, t, rfl⟩, .refl, .refl⟩
theorem Nxt.trans {Z X X' X'' : List Addr} {s s' s'' : Shared} (a : Nxt [] X X' s s') (b : Nxt Z X' X'' s' s'') : Nxt Z X X'' s s'' := by
  obtain ⟨h1, t1, rfl⟩ := a.same
  obtain ⟨h2, t2, rfl⟩ := b.same
  exact ⟨⟨h2, t2, rfl⟩, fun x o hx e => b.kept x o hx (a.kept x o (by simp) e), newly_trans (kept_of a.kept) a.new b.new⟩
/-- statements: what turns lies in X -/
theorem Nxt.trans2 {X X' X'' : List Addr} {Z Z' : List Addr} {s s' s'' : Shared} (hZ : ∀ a, a ∈ Z → a ∈ X) (a : Nxt Z X X' s s') (b : Nxt Z' X' X'' s' s'') (hz : ∀ x, x ∈ Z' → x ∈ Z ∨ s.heap.get? x = none) : Nxt Z X X'' s s'' := by
  obtain ⟨h1, t1, rfl⟩ := a.same
  obtain ⟨h2, t2, rfl⟩ := b.same
  refine ⟨⟨h2, t2, rfl⟩, fun x o hx e => b.kept x o (fun hm => ?_) (a.kept x o hx e), newly_trans (fun b o hb e => a.kept b o (fun q => hb (hZ _ q)) e) a.new b.new⟩
  rcases hz x hm with q | q
  · exact hx q
  · rw [e] at q; cases q
end
end Mine

-- A1
namespace Mine
open PySem PySem.Calls PySem.W PyProof.Rows

noncomputable abbrev Loc := List (Str × Option V)
noncomputable abbrev ownA (env : Env) : List Addr := env.locals :: env.cells.map (·.2)

/-- the frame's names -/
structure LR (g : Gr) (F : List Addr) (O : Led) (h : Heap) (env : Env) (m : Loc) : Prop where
  fn : env.scope.kind = .function
  gl : env.globals = mainGlobals
  bl : env.builtins = builtinsNs
  inF : ∀ a, a ∈ ownA env → a ∈ F
  ond : (ownA env).Nodup
  nd : (m.map (·.1)).Nodup
  cs : ∀ c, c ∈ env.cells.map (·.2) → ∃ v0, h.IsCell c v0
  ns : ∃ mc, h.Ns env.locals mc ∧ ∀ x v, (x, some v) ∈ m → ∃ u, VR g.w (dm O ++ F) h v u ∧ ((env.kindOf x = some .local ∧ mc x = some u) ∨ (env.kindOf x = some .cell ∧ ∃ c, env.cells.lookup x = some c ∧ h.IsCell c (some u)))

section
variable {g : Gr} {F : List Addr} {O O' : Led} {h h' : Heap} {env : Env} {m : Loc}
theorem LR.grow (L : LR g F O h env m) (hk : Kept [] h h') (hX : Newly (dm O ++ F) (dm O' ++ F) h) : LR g F O' h' env m := by
  obtain ⟨mc, hn, hv⟩ := L.ns
  refine ⟨L.fn, L.gl, L.bl, L.inF, L.ond, L.nd, fun c hc => let ⟨v0, e⟩ := L.cs c hc; ⟨v0, e.keeps fun b o e => hk b o (by simp) e⟩, mc, hn.keeps fun b o e => hk b o (by simp) e, fun x v hx => ?_⟩
  obtain ⟨u, hu, q⟩ := hv x v hx
  refine ⟨u, hu.mono (kept_of hk) hX, q.imp id fun ⟨k, c, h1, h2⟩ => ⟨k, c, h1, h2.keeps fun b o e => hk b o (by simp) e⟩⟩
end

/-- what an expression leaves -/
inductive EP (g : Gr) (F : List Addr) (O : Led) (s : Shared) (Q : V → Led → Prop) (u : Value) (s' : Shared) : Prop
  | mk (v : V) (O' : Led) (N : Nxt [] (dm O ++ F) (dm O' ++ F) s s') (S : St g F O' s'.heap) (R : VR g.w (dm O' ++ F) s'.heap v u) (q : Q v O')
inductive TP (g : Gr) (F : List Addr) (O : Led) (s : Shared) (Q : Bool → Led → Prop) (b : Bool) (s' : Shared) : Prop
  | mk (O' : Led) (N : Nxt [] (dm O ++ F) (dm O' ++ F) s s') (S : St g F O' s'.heap) (q : Q b O')
inductive LP (g : Gr) (F : List Addr) (O : Led) (s : Shared) (k : Nat) (Q : List V → Led → Prop) (us : List Value) (s' : Shared) : Prop
  | mk (l : us.length = k) (vs : List V) (O' : Led) (N : Nxt [] (dm O ++ F) (dm O' ++ F) s s') (S : St g F O' s'.heap) (R : VRs g.w (dm O' ++ F) s'.heap vs us) (q : Q vs O')

noncomputable def EW (g : Gr) (n : Lv) (env : Env) (m : Loc) (O : Led) (e : Expr) (Q : V → Led → Prop) : Prop :=
  ∀ F A s, Ok n A → St g F O s.heap → LR g F O s.heap env m → wpAny (model prg g.w) A (eval e env) (EP g F O s Q) (fun _ _ => False) s
noncomputable def TW (g : Gr) (n : Lv) (env : Env) (m : Loc) (O : Led) (e : Expr) (Q : Bool → Led → Prop) : Prop :=
  ∀ F A s, Ok n A → St g F O s.heap → LR g F O s.heap env m → wpAny (model prg g.w) A (isTrue e env (eval e env)) (TP g F O s Q) (fun _ _ => False) s
noncomputable def LW (g : Gr) (n : Lv) (env : Env) (m : Loc) (O : Led) (es : List Expr) (Q : List V → Led → Prop) : Prop :=
  ∀ F A s pos, Ok n A → St g F O s.heap → LR g F O s.heap env m → wpAny (model prg g.w) A (spliced (backTo pos (starEach es env))) (LP g F O s es.length Q) (fun _ _ => False) s
noncomputable def W1 (g : Gr) (n : Lv) (t : Value → Sem Value) (a : V) (O : Led) (Q : V → Led → Prop) : Prop :=
  ∀ F A s u, Ok n A → St g F O s.heap → VR g.w (dm O ++ F) s.heap a u → wpAny (model prg g.w) A (t u) (EP g F O s Q) (fun _ _ => False) s
noncomputable def W2 (g : Gr) (n : Lv) (t : Value → Value → Sem Value) (a b : V) (O : Led) (Q : V → Led → Prop) : Prop :=
  ∀ F A s u v, Ok n A → St g F O s.heap → VR g.w (dm O ++ F) s.heap a u → VR g.w (dm O ++ F) s.heap b v → wpAny (model prg g.w) A (t u v) (EP g F O s Q) (fun _ _ => False) s
noncomputable def WL (g : Gr) (n : Lv) (t : List Value → Sem Value) (vs : List V) (O : Led) (Q : V → Led → Prop) : Prop :=
  ∀ F A s us, Ok n A → St g F O s.heap → VRs g.w (dm O ++ F) s.heap vs us → wpAny (model prg g.w) A (t us) (EP g F O s Q) (fun _ _ => False) s
noncomputable def T1 (g : Gr) (n : Lv) (t : Value → Sem Bool) (a : V) (O : Led) (Q : Bool → Led → Prop) : Prop :=
  ∀ F A s u, Ok n A → St g F O s.heap → VR g.w (dm O ++ F) s.heap a u → wpAny (model prg g.w) A (t u) (TP g F O s Q) (fun _ _ => False) s

section
variable {g : Gr} {F : List Addr} {O O1 : Led} {s s1 : Shared} {n : Lv} {env : Env} {m : Loc}

theorem EP.chain {Q : V → Led → Prop} {u : Value} {s' : Shared} (N : Nxt [] (dm O ++ F) (dm O1 ++ F) s s1) (h : EP g F O1 s1 Q u s') : EP g F O s Q u s' :=
  let ⟨v, O', N', S, R, q⟩ := h; ⟨v, O', N.trans N', S, R, q⟩
theorem TP.chain {Q : Bool → Led → Prop} {u : Bool} {s' : Shared} (N : Nxt [] (dm O ++ F) (dm O1 ++ F) s s1) (h : TP g F O1 s1 Q u s') : TP g F O s Q u s' :=
  let ⟨O', N', S, q⟩ := h; ⟨O', N.trans N', S, q⟩
theorem LR.nxt (L : LR g F O s.heap env m) (N : Nxt [] (dm O ++ F) (dm O1 ++ F) s s1) : LR g F O1 s1.heap env m := L.grow N.kept N.new
theorem VR.nxt {v : V} {u : Value} (r : VR g.w (dm O ++ F) s.heap v u) (N : Nxt [] (dm O ++ F) (dm O1 ++ F) s s1) : VR g.w (dm O1 ++ F) s1.heap v u := r.mono (kept_of N.kept) N.new
theorem VRs.nxt {v : List V} {u : List Value} (r : VRs g.w (dm O ++ F) s.heap v u) (N : Nxt [] (dm O ++ F) (dm O1 ++ F) s s1) : VRs g.w (dm O1 ++ F) s1.heap v u := r.mono (kept_of N.kept) N.new

/-- a value without a change of the heap -/
theorem EP.tok {Q : V → Led → Prop} {v : V} {u : Value} {t : Nat} (S : St g F O s.heap) (r : VR g.w (dm O ++ F) s.heap v u) (q : Q v O) : EP g F O s Q u { s with toks := t } := ⟨v, O, Nxt.tok t, S, r, q⟩
theorem EP.same {Q : V → Led → Prop} {v : V} {u : Value} (S : St g F O s.heap) (r : VR g.w (dm O ++ F) s.heap v u) (q : Q v O) : EP g F O s Q u s := ⟨v, O, Nxt.refl, S, r, q⟩
/-- a new object that is no one's to turn -/
theorem EP.push {Q : V → Led → Prop} {v : V} {o : Obj} {t : Nat} (S : St g F O s.heap) (r : VR g.w (dm O ++ F) (s.heap.push o) v (.ref s.heap.objs.size)) (q : Q v O) :
    EP g F O s Q (.ref s.heap.objs.size) { s with heap := s.heap.push o, toks := t } :=
  ⟨v, O, ⟨⟨_, _, rfl⟩, kept_push o, .refl⟩, S.grow (kept_push o), r, q⟩
theorem notIn_size (S : St g F O s.heap) : s.heap.objs.size ∉ dm O ++ F := fun hm => by
  obtain ⟨o, e⟩ := S.there _ hm
  exact absurd (Heap.lt_size e) (Nat.lt_irrefl _)

theorem ew_mono {e : Expr} {Q Q' : V → Led → Prop} (h : EW g n env m O e Q) (hq : ∀ v O, Q v O → Q' v O) : EW g n env m O e Q' := fun F A s ok S L =>
  wpAny_mono (h F A s ok S L) (fun _ _ ⟨v, O', N, S', R, q⟩ => ⟨v, O', N, S', R, hq _ _ q⟩) fun _ _ x => x

-- constants
theorem ew_int {i : Int} {k pos} {Q : V → Led → Prop} (q : Q (.int i) O) : EW g n env m O (.Constant (.int i) k pos) Q := fun F A s ok S L =>
  wpAny_Constant_int (EP.tok S (by simp only [VR]; exact ⟨_, rfl⟩) q)
theorem ew_str {i : Str} {k pos} {Q : V → Led → Prop} (q : Q (.str i) O) : EW g n env m O (.Constant (.str i) k pos) Q := fun F A s ok S L =>
  wpAny_Constant_str (EP.tok S (by simp only [VR]; exact ⟨_, rfl⟩) q)
theorem ew_bool {i : Bool} {k pos} {Q : V → Led → Prop} (q : Q (.bool i) O) : EW g n env m O (.Constant (.bool i) k pos) Q := fun F A s ok S L =>
  wpAny_Constant_bool (EP.same S (by simp only [VR]) q)
theorem ew_none {k pos} {Q : V → Led → Prop} (q : Q .none O) : EW g n env m O (.Constant .none k pos) Q := fun F A s ok S L =>
  wpAny_Constant_none (EP.same S (by simp only [VR]) q)

-- names
inductive Get : Loc → Str → V → Prop
  | here {m x v} : Get ((x, some v) :: m) x v
  | there {m x v p} : Get m x v → Get (p :: m) x v
theorem Get.mem {m : Loc} {x v} (h : Get m x v) : (x, some v) ∈ m := by
  induction h with
  | here => exact .head _
  | there _ ih => exact .tail _ ih
inductive Upd : Loc → Str → V → Loc → Prop
  | here {m x v w} : Upd ((x, w) :: m) x v ((x, some v) :: m)
  | there {m m' x v p} : Upd m x v m' → Upd (p :: m) x v (p :: m')
theorem Upd.keys {m m' : Loc} {x v} (h : Upd m x v m') : m'.map (·.1) = m.map (·.1) := by
  induction h with
  | here => rfl
  | there _ ih => simp only [List.map_cons, ih]
theorem Upd.keyIn {m m' : Loc} {x v} (h : Upd m x v m') : x ∈ m.map (·.1) := by
  induction h with
  | here => exact .head _
  | there _ ih => exact .tail _ ih
theorem Upd.mem {m m' : Loc} {x v} (h : Upd m x v m') (hd : (m.map (·.1)).Nodup) : ∀ p ∈ m', p = (x, some v) ∨ (p ∈ m ∧ p.1 ≠ x) := by
  induction h with
  | @here m x v w =>
    intro p hp
    rcases List.mem_cons.mp hp with rfl | hp
    · exact .inl rfl
    · refine .inr ⟨.tail _ hp, fun e => ?_⟩
      rw [List.map_cons, List.nodup_cons] at hd
      exact hd.1 (by have := List.mem_map_of_mem (f := fun p : Str × Option V => p.1) hp; exact e ▸ this)
  | @there m m' x v q hu ih =>
    intro p hp
    rw [List.map_cons, List.nodup_cons] at hd
    rcases List.mem_cons.mp hp with rfl | hp
    · exact .inr ⟨.head _, fun e => hd.1 (e ▸ hu.keyIn)⟩
    · exact (ih hd.2 p hp).imp id fun ⟨a, b⟩ => ⟨.tail _ a, b⟩

theorem ew_name {x : Str} {pos : Pos} {v : V} {Q : V → Led → Prop} (hg : Get m x v) (q : Q v O) (hd : (x == ("__debug__" : Str)) = false := by decide) : EW g n env m O (.Name x pos) Q := fun F A s ok S L => by
  obtain ⟨mc, hn, hv⟩ := L.ns
  obtain ⟨u, hu, h1 | ⟨hk, c, h1, h2⟩⟩ := hv x v hg.mem
  · exact wpAny_Name (wpAny_loadName_local L.fn h1.1 hn h1.2 (EP.same S hu q)) hd
  · exact wpAny_Name (wpAny_loadName_cell L.fn hk h1 h2 (EP.same S hu q)) hd

theorem ew_global {x : Str} {pos : Pos} {u : Value} {v : V} {Q : V → Led → Prop} (hk : env.kindOf x = some .globalImplicit) (hu : g.mg x = some u) (hv : ∀ X : List Addr, (∀ a ∈ X, g.h.get? a = none) → VR g.w X g.h v u) (q : Q v O)
    (hd : (x == ("__debug__" : Str)) = false := by decide) : EW g n env m O (.Name x pos) Q := fun F A s ok S L => by
  refine Name_function_global L.fn hk (loadGlobal_global (mg := g.mg) ?_ hu ?_) hd
  · rw [L.gl]; exact g.gs.keeps S.keep
  · exact EP.same S ((hv _ S.fresh).mono (fun b o _ e => S.keep b o e) .refl) q
-- operators
theorem ew_binop {l r : Expr} {op pos} {Q : V → Led → Prop} (h : EW g n env m O l fun a O1 => EW g n env m O1 r fun b O2 => W2 g n (binaryOp op) a b O2 Q) : EW g n env m O (.BinOp l op r pos) Q := fun F A s ok S L => by
  refine wpAny_BinOp (wpAny_mono (h F A s ok S L) (fun a s1 ⟨va, O1, N1, S1, R1, h1⟩ => ?_) fun _ _ x => x)
  refine wpAny_mono (h1 F A s1 ok S1 (L.nxt N1)) (fun b s2 ⟨vb, O2, N2, S2, R2, h2⟩ => ?_) fun _ _ x => x
  exact wpAny_mono (h2 F A s2 a b ok S2 (R1.nxt N2) R2) (fun u s3 h3 => h3.chain (N1.trans N2)) fun _ _ x => x
theorem ew_cmp {l r : Expr} {op pos} {Q : V → Led → Prop} (h : EW g n env m O l fun a O1 => EW g n env m O1 r fun b O2 => W2 g n (compareOp op) a b O2 Q) (hm : behindInMarks op r = false := by with_unfolding_all rfl) : EW g n env m O (.Compare l [op] [r] pos) Q := fun F A s ok S L => by
  refine wpAny_Compare1 (wpAny_mono (h F A s ok S L) (fun a s1 ⟨va, O1, N1, S1, R1, h1⟩ => ?_) fun _ _ x => x) hm
  refine wpAny_mono (h1 F A s1 ok S1 (L.nxt N1)) (fun b s2 ⟨vb, O2, N2, S2, R2, h2⟩ => ?_) fun _ _ x => x
  exact wpAny_mono (h2 F A s2 a b ok S2 (R1.nxt N2) R2) (fun u s3 h3 => h3.chain (N1.trans N2)) fun _ _ x => x
theorem tw_cmp {l r : Expr} {op pos} {Q : Bool → Led → Prop} (h : EW g n env m O l fun a O1 => EW g n env m O1 r fun b O2 => W2 g n (compareOp op) a b O2 fun c O3 => T1 g n truthy c O3 Q) (hm : behindInMarks op r = false := by with_unfolding_all rfl) : TW g n env m O (.Compare l [op] [r] pos) Q := fun F A s ok S L => by
  refine wpAny_isTrue_Compare1 (wpAny_mono (h F A s ok S L) (fun a s1 ⟨va, O1, N1, S1, R1, h1⟩ => ?_) fun _ _ x => x) hm
  refine wpAny_mono (h1 F A s1 ok S1 (L.nxt N1)) (fun b s2 ⟨vb, O2, N2, S2, R2, h2⟩ => ?_) fun _ _ x => x
  refine wpAny_mono (h2 F A s2 a b ok S2 (R1.nxt N2) R2) (fun u s3 ⟨v, O3, N3, S3, R3, h3⟩ => ?_) fun _ _ x => x
  exact wpAny_mono (h3 F A s3 u ok S3 R3) (fun u s4 h4 => h4.chain ((N1.trans N2).trans N3)) fun _ _ x => x
theorem t1_bool {b : Bool} {Q : Bool → Led → Prop} (q : Q b O) : T1 g n truthy (.bool b) O Q := fun F A s u ok S R => by
  simp only [VR] at R; subst R
  exact wpAny_truthy_bool ⟨O, Nxt.refl, S, q⟩
theorem tw_not {x : Expr} {pos} {Q : Bool → Led → Prop} (h : TW g n env m O x fun b O1 => Q (!b) O1) : TW g n env m O (.UnaryOp .Not x pos) Q := fun F A s ok S L =>
  wpAny_isTrue_Not (wpAny_mono (h F A s ok S L) (fun b s1 ⟨O1, N1, S1, q⟩ => ⟨O1, N1, S1, q⟩) fun _ _ x => x)
theorem tw_value {e : Expr} {Q : Bool → Led → Prop} (h : EW g n env m O e fun v O1 => T1 g n truthy v O1 Q) (he : ∀ (env : Env) whole, isTrue e env whole = (do let v ← whole; standAt e.pos; holding [v] (truthy v)) := by intro _ _; rfl) : TW g n env m O e Q := fun F A s ok S L => by
  refine wpAny_isTrue_value (wpAny_mono (h F A s ok S L) (fun a s1 ⟨va, O1, N1, S1, R1, h1⟩ => ?_) fun _ _ x => x) (he env _)
  exact wpAny_mono (h1 F A s1 a ok S1 R1) (fun u s2 h2 => h2.chain N1) fun _ _ x => x
/-- and | or as a test -/
noncomputable def AW (g : Gr) (n : Lv) (env : Env) (m : Loc) (O : Led) (op : PySem.BoolOp) (es : List Expr) (Q : Bool → Led → Prop) : Prop :=
  ∀ F A s, Ok n A → St g F O s.heap → LR g F O s.heap env m → wpAny (model prg g.w) A (allTrue op es env) (TP g F O s Q) (fun _ _ => False) s
theorem tw_boolop {op es pos} {Q : Bool → Led → Prop} (h : AW g n env m O op es Q) : TW g n env m O (.BoolOp op es pos) Q := fun F A s ok S L => wpAny_isTrue_BoolOp (h F A s ok S L)
theorem aw_and_nil {Q : Bool → Led → Prop} (q : Q true O) : AW g n env m O .And [] Q := fun F A s ok S L => wpAny_allTrue_And_nil ⟨O, Nxt.refl, S, q⟩
theorem aw_or_nil {Q : Bool → Led → Prop} (q : Q false O) : AW g n env m O .Or [] Q := fun F A s ok S L => wpAny_allTrue_Or_nil ⟨O, Nxt.refl, S, q⟩
theorem aw_and {e es} {Q : Bool → Led → Prop} (h : TW g n env m O e fun b O1 => if b = true then AW g n env m O1 .And es Q else Q false O1) : AW g n env m O .And (e :: es) Q := fun F A s ok S L => by
  refine wpAny_allTrue_And_cons (wpAny_mono (h F A s ok S L) (fun b s1 ⟨O1, N1, S1, h1⟩ => ?_) fun _ _ x => x)
  cases b with
  | false => exact ⟨O1, N1, S1, h1⟩
  | true => exact wpAny_mono (h1 F A s1 ok S1 (L.nxt N1)) (fun u s2 h2 => h2.chain N1) fun _ _ x => x
theorem aw_or {e es} {Q : Bool → Led → Prop} (h : TW g n env m O e fun b O1 => if b = true then Q true O1 else AW g n env m O1 .Or es Q) : AW g n env m O .Or (e :: es) Q := fun F A s ok S L => by
  refine wpAny_allTrue_Or_cons (wpAny_mono (h F A s ok S L) (fun b s1 ⟨O1, N1, S1, h1⟩ => ?_) fun _ _ x => x)
  cases b with
  | true => exact ⟨O1, N1, S1, h1⟩
  | false => exact wpAny_mono (h1 F A s1 ok S1 (L.nxt N1)) (fun u s2 h2 => h2.chain N1) fun _ _ x => x
theorem ew_ifexp {t a b : Expr} {pos} {Q : V → Led → Prop} (h : TW g n env m O t fun c O1 => if c = true then EW g n env m O1 a Q else EW g n env m O1 b Q) : EW g n env m O (.IfExp t a b pos) Q := fun F A s ok S L => by
  refine wpAny_IfExp (wpAny_mono (h F A s ok S L) (fun c s1 ⟨O1, N1, S1, h1⟩ => ?_) fun _ _ x => x)
  cases c <;> exact wpAny_mono (h1 F A s1 ok S1 (L.nxt N1)) (fun u s2 h2 => h2.chain N1) fun _ _ x => x

-- lists of expressions
theorem lw_nil {Q : List V → Led → Prop} (q : Q [] O) : LW g n env m O [] Q := fun F A s pos ok S L => wpAny_items_nil ⟨rfl, [], O, Nxt.refl, S, .nil, q⟩
theorem lw_cons {e : Expr} {es : List Expr} {Q : List V → Led → Prop} (h : EW g n env m O e fun v O1 => LW g n env m O1 es fun vs O2 => Q (v :: vs) O2) (he : ∀ (env : Env) es, starEach (e :: es) env = (false, eval e env) :: starEach es env := by intro _ _; rfl) : LW g n env m O (e :: es) Q := fun F A s pos ok S L => by
  refine wpAny_items_cons (wpAny_mono (h F A s ok S L) (fun a s1 ⟨va, O1, N1, S1, R1, h1⟩ => ?_) fun _ _ x => x) (he env es)
  refine wpAny_mono (h1 F A s1 pos ok S1 (L.nxt N1)) (fun us s2 ⟨hl, vs, O2, N2, S2, R2, h2⟩ => ?_) fun _ _ x => x
  exact ⟨by rw [List.length_cons, hl, List.length_cons], va :: vs, O2, N1.trans N2, S2, .cons (R1.nxt N2) R2, h2⟩
theorem vr_tup (S : St g F O s.heap) {vs : List V} {us : List Value} (R : VRs g.w (dm O ++ F) s.heap vs us) : VR g.w (dm O ++ F) (s.heap.push { cls := .type "tuple", data := .seq us.toArray }) (.tup vs) (.ref s.heap.objs.size) := by
  simp only [VR]
  exact ⟨_, us, rfl, notIn_size S, ⟨_, Heap.get?_push_size _ rfl, rfl, 0, rfl⟩, R.mono (kept_of (kept_push _)) .refl⟩
theorem vr_lst (S : St g F O s.heap) {vs : List V} {us : List Value} (R : VRs g.w (dm O ++ F) s.heap vs us) : VR g.w (dm O ++ F) (s.heap.push { cls := .type "list", data := .seq us.toArray }) (.lst vs) (.ref s.heap.objs.size) := by
  simp only [VR]
  exact ⟨_, us, rfl, notIn_size S, ⟨_, Heap.get?_push_size _ rfl, rfl, 0, rfl⟩, R.mono (kept_of (kept_push _)) .refl⟩
theorem ew_tuple {es : List Expr} {k pos} {Q : V → Led → Prop} (h : LW g n env m O es fun vs O1 => Q (.tup vs) O1) (hl : es.length ≤ 1000 := by decide) : EW g n env m O (.Tuple es k pos) Q := fun F A s ok S L => by
  refine wpAny_Tuple (wpAny_mono (h F A s pos ok S L) (fun us s1 ⟨hk, vs, O1, N1, S1, R1, h1⟩ => ⟨by rw [hk, sizeLine_eq]; omega, ?_⟩) fun _ _ x => x)
  exact EP.chain N1 (EP.push (t := s1.toks) S1 (vr_tup S1 R1) h1)
/-- a list display that is not turned again -/
theorem ew_list {es : List Expr} {pos} {Q : V → Led → Prop} (h : LW g n env m O es fun vs O1 => Q (.lst vs) O1) (hl : es.length ≤ 1000 := by decide) : EW g n env m O (.List es pos) Q := fun F A s ok S L => by
  refine wpAny_List (wpAny_mono (h F A s pos ok S L) (fun us s1 ⟨hk, vs, O1, N1, S1, R1, h1⟩ => ⟨by rw [hk, sizeLine_eq]; omega, ?_⟩) fun _ _ x => x)
  exact EP.chain N1 (EP.push (t := s1.toks) S1 (vr_lst S1 R1) h1)
theorem newly_size {X : List Addr} : Newly X (s.heap.objs.size :: X) s.heap := fun b hb => by
  rcases List.mem_cons.mp hb with rfl | hb
  · right
    cases e : s.heap.get? s.heap.objs.size with
    | none => rfl
    | some o => exact absurd (Heap.lt_size e) (Nat.lt_irrefl _)
  · exact .inl hb
/-- a new object that turns -/
theorem St.new (S : St g F O s.heap) {ao : AO} {o : Obj} (r : OR g.w (s.heap.objs.size :: (dm O ++ F)) (s.heap.push o) s.heap.objs.size ao) : St g F ((s.heap.objs.size, ao) :: O) (s.heap.push o) := by
  have ns := notIn_size S
  refine ⟨fun b o' e => Heap.get?_push_of_some _ (S.keep b o' e), fun a ha => ?_, ?_, fun a ha hF => ?_, fun a ha => let ⟨o', e⟩ := S.thereF a ha; ⟨o', Heap.get?_push_of_some _ e⟩, fun p hp => ?_⟩
  · rcases List.mem_cons.mp ha with rfl | ha
    · cases e : g.h.get? s.heap.objs.size with
      | none => rfl
      | some o => exact absurd (Heap.lt_size (S.keep _ _ e)) (Nat.lt_irrefl _)
    · exact S.fresh a ha
  · exact List.nodup_cons.mpr ⟨fun hm => ns (List.mem_append.mpr (.inl hm)), S.nodup⟩
  · rcases List.mem_cons.mp ha with rfl | ha
    · exact ns (List.mem_append.mpr (.inr hF))
    · exact S.disj a ha hF
  · rcases List.mem_cons.mp hp with rfl | hp
    · exact r
    · exact (S.obj p hp).mono (kept_of (kept_push o)) newly_size fun o' e => Heap.get?_push_of_some _ e
theorem EP.new {Q : V → Led → Prop} {ao : AO} {o : Obj} {t : Nat} (S : St g F O s.heap) (r : OR g.w (s.heap.objs.size :: (dm O ++ F)) (s.heap.push o) s.heap.objs.size ao) (q : ∀ a, Q (.ref a) ((a, ao) :: O)) :
    EP g F O s Q (.ref s.heap.objs.size) { s with heap := s.heap.push o, toks := t } :=
  ⟨.ref s.heap.objs.size, (s.heap.objs.size, ao) :: O, ⟨⟨_, _, rfl⟩, kept_push o, newly_size⟩, S.new r, by simp only [VR], q _⟩
theorem or_list {vs : List V} {us : List Value} {X : List Addr} (R : VRs g.w X s.heap vs us) : OR g.w (s.heap.objs.size :: X) (s.heap.push { cls := .type "list", data := .seq us.toArray }) s.heap.objs.size (.list vs) :=
  ⟨us, 0, Heap.get?_push_size _ rfl, R.mono (kept_of (kept_push _)) newly_size⟩
/-- a list display that turns -/
theorem ew_listN {es : List Expr} {pos} {Q : V → Led → Prop} (h : LW g n env m O es fun vs O1 => ∀ a, Q (.ref a) ((a, .list vs) :: O1)) (hl : es.length ≤ 1000 := by decide) : EW g n env m O (.List es pos) Q := fun F A s ok S L => by
  refine wpAny_List (wpAny_mono (h F A s pos ok S L) (fun us s1 ⟨hk, vs, O1, N1, S1, R1, h1⟩ => ⟨by rw [hk, sizeLine_eq]; omega, ?_⟩) fun _ _ x => x)
  exact EP.chain N1 (EP.new (t := s1.toks) S1 (or_list R1) h1)
end
end Mine

-- A2
namespace Mine
open PySem PySem.Calls PySem.W PyProof.Rows

inductive Fl where | next | brk | cont | ret (v : V)
noncomputable def FlR (w : World) (X : List Addr) (h : Heap) : Fl → Flow → Prop
  | .next, f => f = .next
  | .brk, f => f = .brk
  | .cont, f => f = .cont
  | .ret v, f => ∃ u, f = .ret u ∧ VR w X h v u

inductive SP (g : Gr) (F : List Addr) (env : Env) (O : Led) (s : Shared) (Q : Fl → Loc → Led → Prop) (f : Flow) (s' : Shared) : Prop
  | mk (fl : Fl) (m' : Loc) (O' : Led) (N : Nxt (dm O ++ ownA env) (dm O ++ F) (dm O' ++ F) s s') (S : St g F O' s'.heap) (L : LR g F O' s'.heap env m') (R : FlR g.w (dm O' ++ F) s'.heap fl f) (q : Q fl m' O')

/-- statements -/
noncomputable def SW (g : Gr) (n : Lv) (env : Env) (m : Loc) (O : Led) (ss : List Stmt) (Q : Fl → Loc → Led → Prop) : Prop :=
  ∀ F A s, Ok n A → St g F O s.heap → LR g F O s.heap env m → wpAny (model prg g.w) A (execs ss env) (SP g F env O s Q) (fun _ _ => False) s
/-- one statement -/
noncomputable def S1 (g : Gr) (n : Lv) (env : Env) (m : Loc) (O : Led) (st : Stmt) (Q : Fl → Loc → Led → Prop) : Prop :=
  ∀ F A s, Ok n A → St g F O s.heap → LR g F O s.heap env m → wpAny (model prg g.w) A (exec st env) (SP g F env O s Q) (fun _ _ => False) s
inductive AP (g : Gr) (F : List Addr) (env : Env) (O : Led) (s : Shared) (Q : Loc → Led → Prop) (s' : Shared) : Prop
  | mk (m' : Loc) (O' : Led) (N : Nxt (dm O ++ ownA env) (dm O ++ F) (dm O' ++ F) s s') (S : St g F O' s'.heap) (L : LR g F O' s'.heap env m') (q : Q m' O')
/-- a store to a target -/
noncomputable def AsW (g : Gr) (n : Lv) (env : Env) (m : Loc) (O : Led) (t : Expr) (v : V) (Q : Loc → Led → Prop) : Prop :=
  ∀ F A s u, Ok n A → St g F O s.heap → LR g F O s.heap env m → VR g.w (dm O ++ F) s.heap v u → wpAny (model prg g.w) A (assign t env u) (fun _ s' => AP g F env O s Q s') (fun _ _ => False) s
/-- a store to a name -/
noncomputable def NmW (g : Gr) (n : Lv) (env : Env) (m : Loc) (O : Led) (x : Str) (v : V) (Q : Loc → Led → Prop) : Prop :=
  ∀ F A s u, Ok n A → St g F O s.heap → LR g F O s.heap env m → VR g.w (dm O ++ F) s.heap v u → wpAny (model prg g.w) A (storeName env x u) (fun _ s' => AP g F env O s Q s') (fun _ _ => False) s

section
variable {g : Gr} {F : List Addr} {O O1 : Led} {s s1 : Shared} {n : Lv} {env : Env} {m m1 : Loc}

theorem own_in (hF : ∀ a, a ∈ ownA env → a ∈ F) : ∀ a, a ∈ dm O ++ ownA env → a ∈ dm O ++ F := fun a ha => by
  rcases List.mem_append.mp ha with ha | ha
  · exact List.mem_append.mpr (.inl ha)
  · exact List.mem_append.mpr (.inr (hF _ ha))
theorem Nxt.stmt {s' : Shared} {O' : Led} (hF : ∀ a, a ∈ ownA env → a ∈ F) (S : St g F O s.heap) (S1 : St g F O1 s1.heap) (N : Nxt (dm O ++ ownA env) (dm O ++ F) (dm O1 ++ F) s s1) (N' : Nxt (dm O1 ++ ownA env) (dm O1 ++ F) (dm O' ++ F) s1 s') : Nxt (dm O ++ ownA env) (dm O ++ F) (dm O' ++ F) s s' := by
  refine N.trans2 (own_in hF) N' fun x hx => ?_
  rcases List.mem_append.mp hx with hx | hx
  · rcases N.new x (List.mem_append.mpr (.inl hx)) with q | q
    · rcases List.mem_append.mp q with q | q
      · exact .inl (List.mem_append.mpr (.inl q))
      · exact absurd q (S1.disj x hx)
    · exact .inr q
  · exact .inl (List.mem_append.mpr (.inr hx))
theorem Nxt.weak {Z X X' : List Addr} (N : Nxt [] X X' s s1) : Nxt Z X X' s s1 := ⟨N.same, kept_of N.kept, N.new⟩
theorem SP.chain {Q : Fl → Loc → Led → Prop} {f : Flow} {s' : Shared} (hF : ∀ a, a ∈ ownA env → a ∈ F) (S : St g F O s.heap) (S1 : St g F O1 s1.heap) (N : Nxt (dm O ++ ownA env) (dm O ++ F) (dm O1 ++ F) s s1) (h : SP g F env O1 s1 Q f s') : SP g F env O s Q f s' :=
  let ⟨fl, m', O', N', S', L', R, q⟩ := h; ⟨fl, m', O', Nxt.stmt hF S S1 N N', S', L', R, q⟩
theorem AP.chain {Q : Loc → Led → Prop} {s' : Shared} (hF : ∀ a, a ∈ ownA env → a ∈ F) (S : St g F O s.heap) (S1 : St g F O1 s1.heap) (N : Nxt (dm O ++ ownA env) (dm O ++ F) (dm O1 ++ F) s s1) (h : AP g F env O1 s1 Q s') : AP g F env O s Q s' :=
  let ⟨m', O', N', S', L', q⟩ := h; ⟨m', O', Nxt.stmt hF S S1 N N', S', L', q⟩
theorem VR.stm {v : V} {u : Value} (hF : ∀ a, a ∈ ownA env → a ∈ F) (N : Nxt (dm O ++ ownA env) (dm O ++ F) (dm O1 ++ F) s s1) (r : VR g.w (dm O ++ F) s.heap v u) : VR g.w (dm O1 ++ F) s1.heap v u :=
  r.mono (fun b o hb e => N.kept b o (fun q => hb (own_in hF b q)) e) N.new
theorem VRs.stm {v : List V} {u : List Value} (hF : ∀ a, a ∈ ownA env → a ∈ F) (N : Nxt (dm O ++ ownA env) (dm O ++ F) (dm O1 ++ F) s s1) (r : VRs g.w (dm O ++ F) s.heap v u) : VRs g.w (dm O1 ++ F) s1.heap v u :=
  r.mono (fun b o hb e => N.kept b o (fun q => hb (own_in hF b q)) e) N.new

/-- the state when one object of the frame turns -/
theorem St.turnF {h h' : Heap} {a : Addr} (S : St g F O h) (ha : a ∈ F) (hk : Kept [a] h h') (ht : ∃ o, h'.get? a = some o) : St g F O h' := by
  have ne : ∀ b, b ∈ dm O → b ∉ [a] := fun b hb q => S.disj b hb (by rw [List.mem_singleton.mp q]; exact ha)
  refine ⟨fun b o e => hk b o (fun q => ?_) (S.keep b o e), S.fresh, S.nodup, S.disj, fun b hb => ?_, fun p hp => ?_⟩
  · rw [List.mem_singleton.mp q] at e
    rw [S.fresh a (List.mem_append.mpr (.inr ha))] at e; cases e
  · by_cases q : b = a
    · rw [q]; exact ht
    · obtain ⟨o, e⟩ := S.thereF b hb
      exact ⟨o, hk b o (fun z => q (List.mem_singleton.mp z)) e⟩
  · exact (S.obj p hp).mono (fun b o hb e => hk b o (fun z => hb (by rw [List.mem_singleton.mp z]; exact List.mem_append.mpr (.inr ha))) e) .refl fun o e => hk _ _ (ne _ (List.mem_map_of_mem hp)) e

theorem kept_same {a : Addr} {h h' : Heap} (hs : Heap.SameBut a h h') : Kept [a] h h' := fun b o hb e => (hs.2 b (fun q => hb (List.mem_singleton.mpr q))).trans e

theorem nm_local {x : Str} {v : V} {m' : Loc} {Q : Loc → Led → Prop} (hk : env.kindOf x = some .local) (hu : Upd m x v m') (q : Q m' O) : NmW g n env m O x v Q := fun F A s u ok S L R => by
  obtain ⟨mc, hn, hv⟩ := L.ns
  have hLF : env.locals ∈ F := L.inF _ (.head _)
  refine wpAny_storeName_local hk hn (fun h' hn' hs => ?_) (by rw [L.fn]; rfl)
  have kp : Kept [env.locals] s.heap h' := kept_same hs
  have kX : Kept (dm O ++ F) s.heap h' := fun b o hb e => kp b o (fun z => hb (by rw [List.mem_singleton.mp z]; exact List.mem_append.mpr (.inr hLF))) e
  have ht : ∃ o, h'.get? env.locals = some o := let ⟨o, _, _, e, _⟩ := hn'; ⟨o, e⟩
  refine ⟨m', O, ⟨⟨_, _, rfl⟩, fun b o hb e => kp b o (fun z => hb (by rw [List.mem_singleton.mp z]; exact List.mem_append.mpr (.inr (.head _)))) e, .refl⟩, S.turnF hLF kp ht, ?_, q⟩
  have cne : ∀ c, c ∈ env.cells.map (·.2) → c ≠ env.locals := fun c hc e => (List.nodup_cons.mp L.ond).1 (e ▸ hc)
  refine ⟨L.fn, L.gl, L.bl, L.inF, L.ond, by rw [hu.keys]; exact L.nd, fun c hc => let ⟨v0, e⟩ := L.cs c hc; ⟨v0, e.sameBut hs (cne c hc)⟩, _, hn', fun y w hy => ?_⟩
  rcases hu.mem L.nd _ hy with e | ⟨hm, hne⟩
  · injection e with e1 e2
    injection e2 with e2
    subst e1 e2
    exact ⟨u, R.mono kX .refl, .inl ⟨hk, by simp⟩⟩
  · obtain ⟨u', hu', q'⟩ := hv y w hm
    refine ⟨u', hu'.mono kX .refl, q'.imp (fun ⟨a, b⟩ => ⟨a, by simp only [hne, if_false]; exact b⟩) fun ⟨a, c, h1, h2⟩ => ⟨a, c, h1, h2.sameBut hs (cne c ?_)⟩⟩
    exact List.mem_map.mpr ⟨(y, c), PySem.mem_of_lookup h1, rfl⟩

theorem nm_cell {x : Str} {v : V} {m' : Loc} {c : Addr} {Q : Loc → Led → Prop} (hk : env.kindOf x = some .cell) (hc : env.cells.lookup x = some c) (hu : Upd m x v m') (q : Q m' O) : NmW g n env m O x v Q := fun F A s u ok S L R => by
  obtain ⟨mc, hn, hv⟩ := L.ns
  have hm : c ∈ env.cells.map (·.2) := List.mem_map.mpr ⟨(x, c), PySem.mem_of_lookup hc, rfl⟩
  have hcF : c ∈ F := L.inF _ (.tail _ hm)
  obtain ⟨v0, hc0⟩ := L.cs c hm
  refine wpAny_storeName_cell L.fn hk hc hc0 fun h' hc' hs => ?_
  have kp : Kept [c] s.heap h' := kept_same hs
  have kX : Kept (dm O ++ F) s.heap h' := fun b o hb e => kp b o (fun z => hb (by rw [List.mem_singleton.mp z]; exact List.mem_append.mpr (.inr hcF))) e
  have ht : ∃ o, h'.get? c = some o := let ⟨o, e, _⟩ := hc'; ⟨o, e⟩
  refine ⟨m', O, ⟨⟨_, _, rfl⟩, fun b o hb e => kp b o (fun z => hb (by rw [List.mem_singleton.mp z]; exact List.mem_append.mpr (.inr (.tail _ hm)))) e, .refl⟩, S.turnF hcF kp ht, ?_, q⟩
  have lne : env.locals ≠ c := fun e => (List.nodup_cons.mp L.ond).1 (by rw [e]; exact hm)
  refine ⟨L.fn, L.gl, L.bl, L.inF, L.ond, by rw [hu.keys]; exact L.nd, fun c' hc2 => ?_, mc, hn.sameBut hs lne, fun y w hy => ?_⟩
  · by_cases e : c' = c
    · rw [e]; exact ⟨_, hc'⟩
    · obtain ⟨v0, e'⟩ := L.cs c' hc2
      exact ⟨v0, e'.sameBut hs e⟩
  · rcases hu.mem L.nd _ hy with e | ⟨hm', hne⟩
    · injection e with e1 e2
      injection e2 with e2
      subst e1 e2
      exact ⟨u, R.mono kX .refl, .inr ⟨hk, c, hc, hc'⟩⟩
    · obtain ⟨u', hu', q'⟩ := hv y w hm'
      refine ⟨u', hu'.mono kX .refl, q'.imp id fun ⟨a, c', h1, h2⟩ => ⟨a, c', h1, h2.sameBut hs ?_⟩⟩
      rintro rfl
      refine hne (PySem.name_of_addr ?_ (PySem.mem_of_lookup h1) (PySem.mem_of_lookup hc))
      have := (List.nodup_cons.mp L.ond).2
      rw [List.Nodup, List.pairwise_map] at this
      exact this

theorem asw_name {x : Str} {p} {v : V} {Q : Loc → Led → Prop} (h : NmW g n env m O x v Q) : AsW g n env m O (.Name x p) v Q := fun F A s u ok S L R => wpAny_assign_Name (h F A s u ok S L R)

/-- the targets of an unpacking, one by one -/
noncomputable def AsL (g : Gr) (n : Lv) (env : Env) : Loc → Led → List Expr → List V → (Loc → Led → Prop) → Prop
  | m, O, [], [], Q => Q m O
  | m, O, t :: ts, v :: vs, Q => AsW g n env m O t v fun m1 O1 => AsL g n env m1 O1 ts vs Q
  | _, _, _, _, _ => False
theorem asl_run {ts : List Expr} : ∀ {vs : List V} {us : List Value} {m : Loc} {O : Led} {Q : Loc → Led → Prop}, AsL g n env m O ts vs Q → (∀ t ∈ ts, ∀ e p, t ≠ .Starred e p) → ∀ F A s, Ok n A → St g F O s.heap → LR g F O s.heap env m → VRs g.w (dm O ++ F) s.heap vs us →
    wpAny (model prg g.w) A (assignInOrder ((assignEach ts env).map (·.2)) us) (fun _ s' => AP g F env O s Q s') (fun _ _ => False) s := by
  induction ts with
  | nil =>
    intro vs us m O Q h hs F A s ok S L R
    cases vs with
    | nil =>
      simp only [VRs] at R; subst R
      exact wpAny_pure ⟨m, O, Nxt.refl, S, L, h⟩
    | cons v vs => exact h.elim
  | cons t ts ih =>
    intro vs us m O Q h hs F A s ok S L R
    cases vs with
    | nil => exact h.elim
    | cons v vs =>
      simp only [VRs] at R
      obtain ⟨u, us', rfl, r0, rs⟩ := R
      have e : (assignEach (t :: ts) env).map (·.2) = assign t env :: (assignEach ts env).map (·.2) := by
        cases t <;> first | rfl | exact absurd rfl (hs _ (.head _) _ _)
      rw [e]
      show wpAny _ A (do holding us' (assign t env u); assignInOrder _ us') _ _ s
      refine wpAny_bind (wpAny_holding (wpAny_mono (h F A s u ok S L r0) (fun _ s1 ⟨m1, O1, N1, S1, L1, h1⟩ => ?_) fun _ _ x => x))
      exact wpAny_mono (ih h1 (fun t ht => hs t (.tail _ ht)) F A s1 ok S1 L1 (rs.stm L.inF N1)) (fun _ s2 q => q.chain L.inF S S1 N1) fun _ _ x => x
theorem kept_ext {h h' : Heap} (hs : Heap.ExtBut h.objs.size h h') : Kept [] h h' := fun b o _ e => hs b o (Nat.ne_of_lt (Heap.lt_size e)) e
theorem assignEach_len : ∀ (ts : List Expr), (∀ t ∈ ts, ∀ e p, t ≠ .Starred e p) → (assignEach ts env).length = ts.length ∧ (assignEach ts env).findIdx? (·.1) = none
  | [], _ => ⟨rfl, rfl⟩
  | t :: ts, hs => by
    have e : assignEach (t :: ts) env = (false, assign t env) :: assignEach ts env := by
      cases t <;> first | rfl | exact absurd rfl (hs _ (.head _) _ _)
    obtain ⟨h1, h2⟩ := assignEach_len ts fun t ht => hs t (.tail _ ht)
    rw [e]
    exact ⟨by rw [List.length_cons, h1, List.length_cons], by rw [List.findIdx?_cons]; simp [h2]⟩
theorem asw_tuple {ts : List Expr} {k p} {vs : List V} {Q : Loc → Led → Prop} (h : AsL g n env m O ts vs Q) (hl : ts.length = vs.length := by rfl)
    (hs : ∀ t ∈ ts, ∀ e p, t ≠ .Starred e p := by intro t ht e p; simp only [List.mem_cons, List.not_mem_nil, or_false] at ht; rcases ht with rfl | rfl <;> exact fun z => nomatch z) : AsW g n env m O (.Tuple ts k p) (.tup vs) Q := fun F A s u ok S L R => by
  simp only [VR] at R
  obtain ⟨a, us, rfl, ha, ht, hr⟩ := R
  obtain ⟨h1, h2⟩ := assignEach_len (env := env) ts hs
  refine wpAny_assign_Tuple ok.handled ht (by rw [h1, List.size_toArray, hr.length, hl]) h2 fun h' he => ?_
  have N : Nxt [] (dm O ++ F) (dm O ++ F) s { s with heap := h' } := ⟨⟨h', s.toks, rfl⟩, kept_ext he, .refl⟩
  exact wpAny_mono (asl_run h hs F A _ ok (S.grow N.kept) (L.nxt N) (hr.nxt N)) (fun _ s2 q => q.chain L.inF S (S.grow N.kept) N.weak) fun _ _ x => x

-- one statement
theorem s1_assign {x : Str} {p e pos} {Q : Fl → Loc → Led → Prop} (h : EW g n env m O e fun v O1 => NmW g n env m O1 x v (Q .next)) (hs : ∀ env : Env, env.scope.kind = .function → swapsWith e (some (.Name x p)) pos.line env = pure false := by intro _ _; rfl) : S1 g n env m O (.Assign [.Name x p] e pos) Q := fun F A s ok S L => by
  refine wpAny_Assign_Name (wpAny_mono (h F A s ok S L) (fun u s1 ⟨v, O1, N1, S1, R1, h1⟩ => ?_) fun _ _ x => x) (hs env L.fn)
  refine wpAny_mono (h1 F A s1 u ok S1 (L.nxt N1) R1) (fun _ s2 q => ?_) fun _ _ x => x
  obtain ⟨m', O', N', S', L', q⟩ := q.chain L.inF S S1 N1.weak
  exact ⟨.next, m', O', N', S', L', rfl, q⟩
theorem s1_assign_tuple {ts k p e pos} {Q : Fl → Loc → Led → Prop} (h : EW g n env m O e fun v O1 => AsW g n env m O1 (.Tuple ts k p) v (Q .next)) (hw : ∀ env : Env, swapsWithSole [.Tuple ts k p] e pos.line env = pure false := by intro _; rfl) (hs : ∀ env : Env, swappedStores [.Tuple ts k p] e env = pure none := by intro _; rfl) : S1 g n env m O (.Assign [.Tuple ts k p] e pos) Q := fun F A s ok S L => by
  refine Assign_Tuple (wpAny_mono (h F A s ok S L) (fun u s1 ⟨v, O1, N1, S1, R1, h1⟩ => ?_) fun _ _ x => x) (hw env) (hs env)
  refine wpAny_mono (h1 F A s1 u ok S1 (L.nxt N1) R1) (fun _ s2 q => ?_) fun _ _ x => x
  obtain ⟨m', O', N', S', L', q⟩ := q.chain L.inF S S1 N1.weak
  exact ⟨.next, m', O', N', S', L', rfl, q⟩
theorem s1_return {e pos} {Q : Fl → Loc → Led → Prop} (h : EW g n env m O e fun v O1 => Q (.ret v) m O1) : S1 g n env m O (.Return (some e) pos) Q := fun F A s ok S L =>
  wpAny_Return_some (wpAny_mono (h F A s ok S L) (fun u s1 ⟨v, O1, N1, S1, R1, h1⟩ => ⟨.ret v, m, O1, N1.weak, S1, L.nxt N1, ⟨u, rfl, R1⟩, h1⟩) fun _ _ x => x)
theorem s1_aug {x : Str} {p op e pos v0} {Q : Fl → Loc → Led → Prop} (hg : Get m x v0) (h : EW g n env m O e fun v O1 => W2 g n (inplaceOp op) v0 v O1 fun r O2 => NmW g n env m O2 x r (Q .next)) : S1 g n env m O (.AugAssign (.Name x p) op e pos) Q := fun F A s ok S L => by
  have ld : ∀ Q' : Value → Shared → Prop, (∀ u, VR g.w (dm O ++ F) s.heap v0 u → Q' u s) → wpAny (model prg g.w) A (loadName env x) Q' (fun _ _ => False) s := fun Q' hq => by
    obtain ⟨mc, hn, hv⟩ := L.ns
    obtain ⟨u, hu, h1 | ⟨hk, c, h1, h2⟩⟩ := hv x v0 hg.mem
    · exact wpAny_loadName_local L.fn h1.1 hn h1.2 (hq u hu)
    · exact wpAny_loadName_cell L.fn hk h1 h2 (hq u hu)
  refine wpAny_AugAssign_Name (ld _ fun u0 R0 => ?_)
  refine wpAny_mono (h F A s ok S L) (fun u s1 ⟨v, O1, N1, S1, R1, h1⟩ => ?_) fun _ _ x => x
  refine wpAny_mono (h1 F A s1 u0 u ok S1 (R0.nxt N1) R1) (fun r s2 ⟨rv, O2, N2, S2, R2, h2⟩ => ?_) fun _ _ x => x
  refine wpAny_mono (h2 F A s2 r ok S2 ((L.nxt N1).nxt N2) R2) (fun _ s3 q => ?_) fun _ _ x => x
  obtain ⟨m', O', N', S', L', q⟩ := q.chain L.inF S S2 (N1.trans N2).weak
  exact ⟨.next, m', O', N', S', L', rfl, q⟩
-- sequences
noncomputable def Seq (g : Gr) (n : Lv) (env : Env) (rest : List Stmt) (Q : Fl → Loc → Led → Prop) : Fl → Loc → Led → Prop
  | .next, m, O => SW g n env m O rest Q
  | .brk, m, O => Q .brk m O
  | .cont, m, O => Q .cont m O
  | .ret v, m, O => Q (.ret v) m O
theorem sw_nil {Q : Fl → Loc → Led → Prop} (q : Q .next m O) : SW g n env m O [] Q := fun F A s ok S L => wpAny_execs_nil ⟨.next, m, O, Nxt.refl, S, L, rfl, q⟩
theorem sw_cons {st rest} {Q : Fl → Loc → Led → Prop} (h : S1 g n env m O st (Seq g n env rest Q)) : SW g n env m O (st :: rest) Q := fun F A s ok S L => by
  refine wpAny_execs_cons (wpAny_mono (h F A s ok S L) (fun f s1 ⟨fl, m1, O1, N1, S1, L1, R1, h1⟩ => ?_) fun _ _ x => x)
  cases fl with
  | next => simp only [FlR] at R1; subst R1; exact wpAny_mono (h1 F A s1 ok S1 L1) (fun _ s2 q => q.chain L.inF S S1 N1) fun _ _ x => x
  | brk => simp only [FlR] at R1; subst R1; exact ⟨.brk, m1, O1, N1, S1, L1, rfl, h1⟩
  | cont => simp only [FlR] at R1; subst R1; exact ⟨.cont, m1, O1, N1, S1, L1, rfl, h1⟩
  | ret v => simp only [FlR] at R1; obtain ⟨u, rfl, R⟩ := R1; exact ⟨.ret v, m1, O1, N1, S1, L1, ⟨u, rfl, R⟩, h1⟩

theorem execs_append (a b : List Stmt) (env : Env) : execs (a ++ b) env = (execs a env >>= fun f => match f with | .next => execs b env | f => pure f) := by
  induction a with
  | nil => rfl
  | cons st rest ih =>
    rw [List.cons_append, execs_cons, execs_cons, LawfulMonad.bind_assoc]
    refine congrArg _ (funext fun f => ?_)
    cases f with
    | next => exact ih
    | brk => rfl
    | cont => rfl
    | ret v => rfl
theorem sw_if {t b e pos rest} {Q : Fl → Loc → Led → Prop} (h : TW g n env m O t fun c O1 => if c = true then SW g n env m O1 (b ++ rest) Q else SW g n env m O1 (e ++ rest) Q) : SW g n env m O (.If t b e pos :: rest) Q := fun F A s ok S L => by
  have eq : execs (.If t b e pos :: rest) env = (do standAt pos; if ← isTrue t env (eval t env) then execs (b ++ rest) env else execs (e ++ rest) env) := by
    rw [execs_cons, exec_If, LawfulMonad.bind_assoc]
    refine congrArg _ (funext fun _ => ?_)
    rw [LawfulMonad.bind_assoc]
    refine congrArg _ (funext fun c => ?_)
    cases c
    · simp only [Bool.false_eq_true, if_false]; rw [execs_append]; rfl
    · simp only [if_true]; rw [execs_append]; rfl
  rw [eq]
  refine wpAny_bind (wpAny_standAt (wpAny_bind (wpAny_mono (h F A s ok S L) (fun c s1 ⟨O1, N1, S1, h1⟩ => ?_) fun _ _ x => x)))
  cases c <;> exact wpAny_mono (h1 F A s1 ok S1 (L.nxt N1)) (fun u s2 h2 => h2.chain L.inF S S1 N1.weak) fun _ _ x => x

/-- a while where it stands -/
noncomputable def WW (g : Gr) (n : Lv) (env : Env) (m : Loc) (O : Led) (t : Expr) (b : List Stmt) (Q : Fl → Loc → Led → Prop) : Prop :=
  ∀ F A s, Ok n A → St g F O s.heap → LR g F O s.heap env m → codeAny (model prg g.w) A (.whileLoop t b [] env) (fun r s' => ∃ f, r = .ok f ∧ SP g F env O s Q f s') s
noncomputable def Turn (W : Loc → Led → (Fl → Loc → Led → Prop) → Prop) (Q : Fl → Loc → Led → Prop) : Fl → Loc → Led → Prop
  | .next, m, O => W m O Q
  | .cont, m, O => W m O Q
  | .brk, m, O => Q .next m O
  | .ret v, m, O => Q (.ret v) m O
theorem ww_step {t b} {Q : Fl → Loc → Led → Prop} (h : TW g n env m O t fun c O1 => if c = true then SW g n env m O1 b (Turn (fun m O => WW g n env m O t b) Q) else Q .next m O1) : WW g n env m O t b Q := fun F A s ok S L => by
  refine codeAny_of_tree ?_
  show wpAny _ A ((whileTurn t b [] env).onRaise (fun x => do noteFrame x env; theTreesLotGoes x)) _ _ s
  refine wpAny_noted ?_
  simp only [whileTurn]
  refine wpAny_bind (wpAny_mono (h F A s ok S L) (fun c s1 ⟨O1, N1, S1, h1⟩ => ?_) fun _ _ x => x.elim)
  cases c with
  | false =>
    simp only [Bool.false_eq_true, if_false] at h1 ⊢
    exact wpAny_bind (wpAny_execs_nil (wpAny_pure ⟨_, rfl, .next, m, O1, N1.weak, S1, L.nxt N1, rfl, h1⟩))
  | true =>
    simp only [if_true] at h1 ⊢
    refine wpAny_bind (wpAny_mono (h1 F A s1 ok S1 (L.nxt N1)) (fun f s2 ⟨fl, m2, O2, N2, S2, L2, R2, h2⟩ => ?_) fun _ _ x => x.elim)
    have N12 := Nxt.stmt L.inF S S1 N1.weak N2
    have go : WW g n env m2 O2 t b Q → codeAny (model prg g.w) A (.whileLoop t b [] env) (fun r s' => ∃ f, r = .ok f ∧ SP g F env O s Q f s') s2 := fun W =>
      codeAny_mono (W F A s2 ok S2 L2) fun r s3 ⟨f, e, q⟩ => ⟨f, e, q.chain L.inF S S2 N12⟩
    cases fl with
    | next => simp only [FlR] at R2; subst R2; exact wpAny_pure ⟨rfl, go h2⟩
    | cont => simp only [FlR] at R2; subst R2; exact wpAny_pure ⟨rfl, go h2⟩
    | brk => simp only [FlR] at R2; subst R2; exact wpAny_pure ⟨_, rfl, .next, m2, O2, N12, S2, L2, rfl, h2⟩
    | ret v => simp only [FlR] at R2; obtain ⟨u, rfl, R⟩ := R2; exact wpAny_pure ⟨_, rfl, .ret v, m2, O2, N12, S2, L2, ⟨u, rfl, R⟩, h2⟩
theorem s1_while {t b pos} {Q : Fl → Loc → Led → Prop} (h : WW g n env m O t b Q) : S1 g n env m O (.While t b [] pos) Q := fun F A s ok S L =>
  wpAny_While (codeAny_mono (h F A s ok S L) fun r s' ⟨f, e, q⟩ => by subst e; exact q)
end
end Mine

-- A3
namespace Mine
open PySem PySem.Calls PySem.W PyProof.Rows

/-- an iterator at I that still has the items l; wr: what it turns -/
structure Itr (g : Gr) (n : Lv) (t : Expr) (I : Addr) (wr : List Addr) (C : List Addr → List V → Heap → Prop) : Prop where
  fr : ∀ {X X' : List Addr} {l : List V} {h h' : Heap}, C X l h → Kept X h h' → (∀ a, a ∈ wr → ∀ o, h.get? a = some o → h'.get? a = some o) → Newly X X' h → C X' l h'
  item : ∀ {A : Around} {X : List Addr} {v : V} {l : List V} {s : Shared} {E : Value → Shared → Prop} {Q : Option Value → Shared → Prop}, Ok n A → (∀ a, a ∈ wr → a ∈ X) → (∀ a, a ∈ X → ∃ o, s.heap.get? a = some o) → C X (v :: l) s.heap →
    (∀ u h1 tk1, wpAny (model prg g.w) A (letOwnedTupleGo t (.ref I) u) (fun _ s2 => (∃ h2 tk2, s2 = { s with heap := h2, toks := tk2 }) ∧ Kept wr s.heap s2.heap ∧ (∀ a, a ∈ wr → ∃ o, s2.heap.get? a = some o) ∧ VR g.w X s2.heap v u ∧ C X l s2.heap) (fun _ _ => False) { s with heap := h1, toks := tk1 } → Q (some u) { s with heap := h1, toks := tk1 }) →
    wpAny (model prg g.w) A (pyNext (.ref I)) Q E s
  done : ∀ {A : Around} {X : List Addr} {s : Shared} {E : Value → Shared → Prop} {Q : Option Value → Shared → Prop}, Ok n A → (∀ a, a ∈ wr → a ∈ X) → C X [] s.heap →
    (∀ h1 tk1, Kept wr s.heap h1 → Q none { s with heap := h1, toks := tk1 }) → wpAny (model prg g.w) A (pyNext (.ref I)) Q E s
  self : ∀ {A : Around} {X : List Addr} {l : List V} {s : Shared} {E : Value → Shared → Prop} {Q : Value → Shared → Prop}, Ok n A → C X l s.heap → Q (.ref I) s → wpAny (model prg g.w) A (pyIter (.ref I)) Q E s

section
variable {g : Gr} {F : List Addr} {O O1 : Led} {s s1 : Shared} {n : Lv} {env : Env} {m m1 : Loc} {t : Expr} {b : List Stmt} {I : Addr} {wr : List Addr} {C : List Addr → List V → Heap → Prop}

/-- the state when some objects of the frame turn -/
theorem St.turnFs {h h' : Heap} (S : St g F O h) (ha : ∀ a, a ∈ wr → a ∈ F) (hk : Kept wr h h') (ht : ∀ a, a ∈ wr → ∃ o, h'.get? a = some o) : St g F O h' := by
  refine ⟨fun b o e => hk b o (fun q => ?_) (S.keep b o e), S.fresh, S.nodup, S.disj, fun b hb => ?_, fun p hp => ?_⟩
  · rw [S.fresh b (List.mem_append.mpr (.inr (ha b q)))] at e; cases e
  · by_cases q : b ∈ wr
    · exact ht b q
    · obtain ⟨o, e⟩ := S.thereF b hb
      exact ⟨o, hk b o q e⟩
  · exact (S.obj p hp).mono (fun b o hb e => hk b o (fun z => hb (List.mem_append.mpr (.inr (ha b z)))) e) .refl fun o e => hk _ _ (fun z => S.disj _ (List.mem_map_of_mem hp) (ha _ z)) e
theorem LR.turnFs {h h' : Heap} (L : LR g F O h env m) (ha : ∀ a, a ∈ wr → a ∈ F) (hk : Kept wr h h') (ho : ∀ a, a ∈ wr → a ∉ ownA env) : LR g F O h' env m := by
  obtain ⟨mc, hn, hv⟩ := L.ns
  have own : ∀ a, a ∈ ownA env → a ∉ wr := fun a q z => ho a z q
  have cl : ∀ c, c ∈ env.cells.map (·.2) → ∀ v, h.IsCell c v → h'.IsCell c v := fun c hc v ⟨o, e, d⟩ => ⟨o, hk _ _ (own c (.tail _ hc)) e, d⟩
  have kX : Kept (dm O ++ F) h h' := fun b o hb e => hk b o (fun z => hb (List.mem_append.mpr (.inr (ha b z)))) e
  refine ⟨L.fn, L.gl, L.bl, L.inF, L.ond, L.nd, fun c hc => let ⟨v0, e⟩ := L.cs c hc; ⟨v0, cl c hc _ e⟩, mc, ?_, fun x v hx => ?_⟩
  · obtain ⟨o, es, ep, e, r⟩ := hn
    exact ⟨o, es, ep, hk _ _ (own _ (.head _)) e, r⟩
  · obtain ⟨u, hu, q⟩ := hv x v hx
    exact ⟨u, hu.mono kX .refl, q.imp id fun ⟨k, c, h1, h2⟩ => ⟨k, c, h1, cl c (List.mem_map.mpr ⟨(x, c), PySem.mem_of_lookup h1, rfl⟩) _ h2⟩⟩

/-- what a loop leaves: the iterator has turned too -/
inductive SPz (g : Gr) (F : List Addr) (wr : List Addr) (env : Env) (O : Led) (s : Shared) (Q : Fl → Loc → Led → Prop) (f : Flow) (s' : Shared) : Prop
  | mk (fl : Fl) (m' : Loc) (O' : Led) (N : Nxt (wr ++ (dm O ++ ownA env)) (dm O ++ F) (dm O' ++ F) s s') (S : St g F O' s'.heap) (L : LR g F O' s'.heap env m') (R : FlR g.w (dm O' ++ F) s'.heap fl f) (q : Q fl m' O')
noncomputable def ForW (g : Gr) (n : Lv) (env : Env) (t : Expr) (b : List Stmt) (I : Addr) (wr : List Addr) (C : List Addr → List V → Heap → Prop) (l : List V) (m : Loc) (O : Led) (Q : Fl → Loc → Led → Prop) : Prop :=
  ∀ F A s, Ok n A → St g (wr ++ F) O s.heap → LR g (wr ++ F) O s.heap env m → (∀ a, a ∈ wr → a ∉ F ∧ a ∉ ownA env) → (∀ a, a ∈ ownA env → a ∈ F) → C (dm O ++ (wr ++ F)) l s.heap →
    codeAny (model prg g.w) A (.forLoop t (.ref I) b [] env) (fun r s' => ∃ f, r = .ok f ∧ SPz g F wr env O s Q f s') s

theorem codeAny_for_step {A : Around} {R : Result → Shared → Prop} {target it body}
    (h : wpAny (model prg g.w) A (pyNext it) (fun r s₁ => match r with
      | none => R (.ok .next) s₁
      | some v => wpAny (model prg g.w) A (letOwnedTupleGo target it v) (fun _ s₁' => wpAny (model prg g.w) A (assign target env v) (fun _ s₂ => wpAny (model prg g.w) A (execs body env) (fun f s₃ => match f with
          | .next | .cont => codeAny (model prg g.w) A (.forLoop target it body [] env) R s₃
          | .brk => R (.ok .next) s₃
          | .ret v => R (.ok (.ret v)) s₃) (fun _ _ => False) s₂) (fun _ _ => False) s₁') (fun _ _ => False) s₁) (fun _ _ => False) s) : codeAny (model prg g.w) A (.forLoop target it body [] env) R s := by
  refine codeAny_of_tree ?_
  show wpAny _ A ((forTurn target it body [] env).onRaise (fun x => do noteFrame x env; theTreesLotGoes x)) _ _ s
  refine wpAny_noted ?_
  simp only [forTurn]
  refine wpAny_bind (wpAny_standAt (wpAny_bind (wpAny_onRaise (wpAny_mono h (fun r s₁ h₁ => ?_) fun _ _ h' => h'.elim))))
  cases r with
  | none => exact wpAny_pure ⟨rfl, codeAny_block (wpAny_execs_nil h₁)⟩
  | some v =>
    refine wpAny_bind (wpAny_mono h₁ (fun _ s1' h1' => ?_) fun _ _ x => x.elim)
    refine wpAny_bind (wpAny_mono h1' (fun _ s₂ h₂ => wpAny_bind (wpAny_mono h₂ (fun f s₃ h₃ => ?_) fun _ _ h' => h'.elim)) fun _ _ h' => h'.elim)
    cases f with
    | next => exact wpAny_pure ⟨rfl, h₃⟩
    | cont => exact wpAny_pure ⟨rfl, h₃⟩
    | brk => exact wpAny_pure h₃
    | ret v => exact wpAny_pure h₃

theorem St.more {h : Heap} (S : St g F O h) (hw : ∀ a, a ∈ wr → g.h.get? a = none ∧ a ∉ dm O ∧ ∃ o, h.get? a = some o) (hX : ∀ p ∈ O, OR g.w (dm O ++ (wr ++ F)) h p.1 p.2) : St g (wr ++ F) O h := by
  refine ⟨S.keep, fun a ha => ?_, S.nodup, fun a ha q => ?_, fun a ha => ?_, hX⟩
  · rcases List.mem_append.mp ha with ha | ha
    · exact S.fresh a (List.mem_append.mpr (.inl ha))
    · rcases List.mem_append.mp ha with ha | ha
      · exact (hw a ha).1
      · exact S.fresh a (List.mem_append.mpr (.inr ha))
  · rcases List.mem_append.mp q with q | q
    · exact (hw a q).2.1 ha
    · exact S.disj a ha q
  · rcases List.mem_append.mp ha with ha | ha
    · exact (hw a ha).2.2
    · exact S.thereF a ha
theorem sub_less {X X' : List Addr} {h : Heap} (hs : ∀ a, a ∈ X' → a ∈ X) : Newly X X' h := fun b hb => .inl (hs b hb)
theorem St.less {h : Heap} (S : St g (wr ++ F) O h) : St g F O h := by
  have hs : ∀ a, a ∈ dm O ++ F → a ∈ dm O ++ (wr ++ F) := fun a ha => by
    rcases List.mem_append.mp ha with ha | ha
    · exact List.mem_append.mpr (.inl ha)
    · exact List.mem_append.mpr (.inr (List.mem_append.mpr (.inr ha)))
  exact ⟨S.keep, fun a ha => S.fresh a (hs a ha), S.nodup, fun a ha q => S.disj a ha (List.mem_append.mpr (.inr q)), fun a ha => S.thereF a (List.mem_append.mpr (.inr ha)), fun p hp => (S.obj p hp).mono .refl (sub_less hs) fun o e => e⟩
theorem LR.less {h : Heap} (L : LR g (wr ++ F) O h env m) (hF : ∀ a, a ∈ ownA env → a ∈ F) : LR g F O h env m := by
  have hs : ∀ a, a ∈ dm O ++ F → a ∈ dm O ++ (wr ++ F) := fun a ha => by
    rcases List.mem_append.mp ha with ha | ha
    · exact List.mem_append.mpr (.inl ha)
    · exact List.mem_append.mpr (.inr (List.mem_append.mpr (.inr ha)))
  obtain ⟨mc, hn, hv⟩ := L.ns
  exact ⟨L.fn, L.gl, L.bl, hF, L.ond, L.nd, L.cs, mc, hn, fun x v hx => let ⟨u, hu, q⟩ := hv x v hx; ⟨u, hu.mono .refl (sub_less hs), q⟩⟩
theorem LR.more {h h' : Heap} (L : LR g F O h env m) (hk : Kept [] h h') (hw : ∀ a, a ∈ wr → h.get? a = none) : LR g (wr ++ F) O h' env m := by
  have nw : Newly (dm O ++ F) (dm O ++ (wr ++ F)) h := fun a ha => by
    rcases List.mem_append.mp ha with ha | ha
    · exact .inl (List.mem_append.mpr (.inl ha))
    · rcases List.mem_append.mp ha with ha | ha
      · exact .inr (hw a ha)
      · exact .inl (List.mem_append.mpr (.inr ha))
  obtain ⟨mc, hn, hv⟩ := L.ns
  exact ⟨L.fn, L.gl, L.bl, fun a ha => List.mem_append.mpr (.inr (L.inF a ha)), L.ond, L.nd, fun c hc => let ⟨v0, e⟩ := L.cs c hc; ⟨v0, e.keeps fun b o e => hk b o (by simp) e⟩, mc, hn.keeps fun b o e => hk b o (by simp) e, fun x v hx => let ⟨u, hu, q⟩ := hv x v hx; ⟨u, hu.mono (kept_of hk) nw, q.imp id fun ⟨k, c, h1, h2⟩ => ⟨k, c, h1, h2.keeps fun b o e => hk b o (by simp) e⟩⟩⟩
theorem FlR.less {h : Heap} {fl : Fl} {f : Flow} (r : FlR g.w (dm O ++ (wr ++ F)) h fl f) : FlR g.w (dm O ++ F) h fl f := by
  have hs : ∀ a, a ∈ dm O ++ F → a ∈ dm O ++ (wr ++ F) := fun a ha => by
    rcases List.mem_append.mp ha with ha | ha
    · exact List.mem_append.mpr (.inl ha)
    · exact List.mem_append.mpr (.inr (List.mem_append.mpr (.inr ha)))
  cases fl with
  | ret v => simp only [FlR] at r ⊢; obtain ⟨u, e, R⟩ := r; exact ⟨u, e, R.mono .refl (sub_less hs)⟩
  | next => exact r
  | brk => exact r
  | cont => exact r



theorem SPz.chain {Q : Fl → Loc → Led → Prop} {f : Flow} {s' : Shared} (hF : ∀ a, a ∈ ownA env → a ∈ F) (S1 : St g (wr ++ F) O1 s1.heap) (N : Nxt (wr ++ (dm O ++ ownA env)) (dm O ++ F) (dm O1 ++ F) s s1) (h : SPz g F wr env O1 s1 Q f s') : SPz g F wr env O s Q f s' := by
  obtain ⟨fl, m', O', N', S', L', R, q⟩ := h
  obtain ⟨h1, t1, rfl⟩ := N.same
  obtain ⟨h2, t2, rfl⟩ := N'.same
  have hx : ∀ x o, x ∉ wr ++ (dm O ++ ownA env) → s.heap.get? x = some o → x ∉ wr ++ (dm O1 ++ ownA env) := fun x o hn e hx => by
    rcases List.mem_append.mp hx with hx | hx
    · exact hn (List.mem_append.mpr (.inl hx))
    · rcases List.mem_append.mp hx with hx | hx
      · rcases N.new x (List.mem_append.mpr (.inl hx)) with q | q
        · rcases List.mem_append.mp q with q | q
          · exact hn (List.mem_append.mpr (.inr (List.mem_append.mpr (.inl q))))
          · exact S1.disj x hx (List.mem_append.mpr (.inr q))
        · rw [e] at q; cases q
      · exact hn (List.mem_append.mpr (.inr (List.mem_append.mpr (.inr hx))))
  refine ⟨fl, m', O', ⟨⟨h2, t2, rfl⟩, fun x o hn e => N'.kept x o (hx x o hn e) (N.kept x o hn e), fun x hm => ?_⟩, S', L', R, q⟩
  rcases N'.new x hm with q | q
  · exact N.new x q
  · by_cases hd : x ∈ dm O ++ F
    · exact .inl hd
    · by_cases hw : x ∈ wr
      · obtain ⟨o, e⟩ := S1.thereF x (List.mem_append.mpr (.inl hw))
        have q' : h1.get? x = none := q
        exact absurd (q'.symm.trans e) (fun z => nomatch z)
      · right
        cases e : s.heap.get? x with
        | none => rfl
        | some o =>
          have : x ∉ wr ++ (dm O ++ ownA env) := fun z => by
            rcases List.mem_append.mp z with z | z
            · exact hw z
            · exact hd (own_in hF x z)
          have e2 := N.kept x o this e
          have q' : h1.get? x = none := q
          rw [q'] at e2; cases e2
theorem forw_nil (T : Itr g n t I wr C) {Q : Fl → Loc → Led → Prop} (q : Q .next m O) : ForW g n env t b I wr C [] m O Q := fun F A s ok S L hw hF hC =>
  codeAny_for_step (T.done ok (fun a ha => List.mem_append.mpr (.inr (List.mem_append.mpr (.inl ha)))) hC fun h1 tk1 hk => by
    have S0 : St g F O h1 := by
      have S' := S.less
      refine ⟨fun b o e => hk b o (fun z => ?_) (S.keep b o e), S'.fresh, S'.nodup, S'.disj, fun a ha => ?_, fun p hp => ?_⟩
      · rw [S.fresh b (List.mem_append.mpr (.inr (List.mem_append.mpr (.inl z))))] at e; cases e
      · obtain ⟨o, e⟩ := S'.thereF a ha
        exact ⟨o, hk a o (fun z => (hw a z).1 ha) e⟩
      · have hs : ∀ a, a ∈ dm O ++ F → a ∈ dm O ++ (wr ++ F) := fun a ha => by
          rcases List.mem_append.mp ha with ha | ha
          · exact List.mem_append.mpr (.inl ha)
          · exact List.mem_append.mpr (.inr (List.mem_append.mpr (.inr ha)))
        exact (S.obj p hp).mono (fun b o hb e => hk b o (fun z => hb (List.mem_append.mpr (.inr (List.mem_append.mpr (.inl z))))) e) (sub_less hs) fun o e => hk _ o (fun z => S.disj _ (List.mem_map_of_mem hp) (List.mem_append.mpr (.inl z))) e
    have L0 : LR g F O h1 env m := (L.turnFs (fun a ha => List.mem_append.mpr (.inl ha)) hk fun a ha => (hw a ha).2).less hF
    exact ⟨.next, rfl, .next, m, O, ⟨⟨_, _, rfl⟩, fun b o hb e => hk b o (fun z => hb (List.mem_append.mpr (.inl z))) e, .refl⟩, S0, L0, rfl, q⟩)
theorem forw_cons (T : Itr g n t I wr C) {v : V} {l : List V} {Q : Fl → Loc → Led → Prop} (h : AsW g n env m O t v fun m1 O1 => SW g n env m1 O1 b (Turn (ForW g n env t b I wr C l) Q)) : ForW g n env t b I wr C (v :: l) m O Q := fun F A s ok S L hw hF hC => by
  have hwF : ∀ a, a ∈ wr → a ∈ wr ++ F := fun a ha => List.mem_append.mpr (.inl ha)
  have hwo : ∀ a, a ∈ wr → a ∉ ownA env := fun a ha => (hw a ha).2
  refine codeAny_for_step (T.item ok (fun a ha => List.mem_append.mpr (.inr (hwF a ha))) S.there hC fun u h1 tk1 hq => ?_)
  refine wpAny_mono hq (fun _ s1 ⟨hs, hk, ht, R, hC1⟩ => ?_) fun _ _ x => x
  have N1 : Nxt (wr ++ (dm O ++ ownA env)) (dm O ++ F) (dm O ++ F) s s1 := ⟨hs, fun b o hb e => hk b o (fun z => hb (List.mem_append.mpr (.inl z))) e, .refl⟩
  have S1 := S.turnFs hwF hk ht
  have L1 := L.turnFs hwF hk hwo
  refine wpAny_mono (h (wr ++ F) A s1 u ok S1 L1 R) (fun _ s2 ⟨m2, O2, N2, S2, L2, h2⟩ => ?_) fun _ _ x => x
  refine wpAny_mono (h2 (wr ++ F) A s2 ok S2 L2) (fun f s3 ⟨fl, m3, O3, N3, S3, L3, R3, h3⟩ => ?_) fun _ _ x => x
  have N23 : Nxt (dm O ++ ownA env) (dm O ++ (wr ++ F)) (dm O3 ++ (wr ++ F)) s1 s3 := Nxt.stmt L.inF S1 S2 N2 N3
  have N23' : Nxt (dm O ++ ownA env) (dm O ++ F) (dm O3 ++ F) s1 s3 := ⟨N23.same, N23.kept, fun x hx => by
    have hx' : x ∈ dm O3 ++ (wr ++ F) := by
      rcases List.mem_append.mp hx with hx | hx
      · exact List.mem_append.mpr (.inl hx)
      · exact List.mem_append.mpr (.inr (List.mem_append.mpr (.inr hx)))
    rcases N23.new x hx' with q | q
    · rcases List.mem_append.mp q with q | q
      · exact .inl (List.mem_append.mpr (.inl q))
      · rcases List.mem_append.mp q with q | q
        · exfalso
          rcases List.mem_append.mp hx with hx | hx
          · exact S3.disj x hx (List.mem_append.mpr (.inl q))
          · exact (hw x q).1 hx
        · exact .inl (List.mem_append.mpr (.inr q))
    · exact .inr q⟩
  have N13 : Nxt (wr ++ (dm O ++ ownA env)) (dm O ++ F) (dm O3 ++ F) s s3 := by
    obtain ⟨ha, ta, rfl⟩ := N1.same
    obtain ⟨hb, tb, rfl⟩ := N23'.same
    refine ⟨⟨hb, tb, rfl⟩, fun x o hn e => N23'.kept x o (fun z => hn (List.mem_append.mpr (.inr z))) (N1.kept x o hn e), fun x hx => ?_⟩
    rcases N23'.new x hx with q | q
    · exact .inl q
    · by_cases hd : x ∈ dm O ++ F
      · exact .inl hd
      · right
        by_cases hww : x ∈ wr
        · obtain ⟨o, e⟩ := ht x hww
          exact absurd ((show ha.get? x = none from q).symm.trans e) (fun z => nomatch z)
        · cases e : s.heap.get? x with
          | none => rfl
          | some o =>
            have := N1.kept x o (fun z => by
              rcases List.mem_append.mp z with z | z
              · exact hww z
              · exact hd (own_in hF x z)) e
            exact absurd ((show ha.get? x = none from q).symm.trans this) (fun z => nomatch z)
  have hC3 : C (dm O3 ++ (wr ++ F)) l s3.heap := T.fr hC1 (fun b o hb e => N23.kept b o (fun z => hb (own_in L.inF b z)) e) (fun a ha o e => N23.kept a o (fun z => ?_) e) N23.new
  · have go : ForW g n env t b I wr C l m3 O3 Q → codeAny (model prg g.w) A (.forLoop t (.ref I) b [] env) (fun r s' => ∃ f, r = .ok f ∧ SPz g F wr env O s Q f s') s3 := fun W =>
      codeAny_mono (W F A s3 ok S3 L3 hw hF hC3) fun r s4 ⟨f, e, q⟩ => ⟨f, e, q.chain hF S3 N13⟩
    cases fl with
    | next => simp only [FlR] at R3; subst R3; exact go h3
    | cont => simp only [FlR] at R3; subst R3; exact go h3
    | brk => simp only [FlR] at R3; subst R3; exact ⟨_, rfl, .next, m3, O3, N13, S3.less, L3.less hF, rfl, h3⟩
    | ret v => simp only [FlR] at R3; obtain ⟨u, rfl, R⟩ := R3; exact ⟨_, rfl, .ret v, m3, O3, N13, S3.less, L3.less hF, FlR.less ⟨u, rfl, R⟩, h3⟩
  · rcases List.mem_append.mp z with z | z
    · exact S1.disj a z (hwF a ha)
    · exact hwo a ha z

theorem new_more {X : List Addr} {h : Heap} (hw : ∀ a, a ∈ wr → h.get? a = none) : Newly (dm O ++ F) (dm O ++ (wr ++ F)) h := fun a ha => by
  rcases List.mem_append.mp ha with ha | ha
  · exact .inl (List.mem_append.mpr (.inl ha))
  · rcases List.mem_append.mp ha with ha | ha
    · exact .inr (hw a ha)
    · exact .inl (List.mem_append.mpr (.inr ha))
/-- objects made for a loop's own use -/
theorem fresh_more {h h' : Heap} (S : St g F O h) (L : LR g F O h env m) (hk : Kept [] h h') (hw : ∀ a, a ∈ wr → h.get? a = none ∧ ∃ o, h'.get? a = some o) : St g (wr ++ F) O h' ∧ LR g (wr ++ F) O h' env m ∧ ∀ a, a ∈ wr → a ∉ F ∧ a ∉ ownA env := by
  have notX : ∀ a, a ∈ wr → a ∉ dm O ++ F := fun a ha q => by
    obtain ⟨o, e⟩ := S.there a q
    rw [(hw a ha).1] at e; cases e
  refine ⟨(S.grow hk).more (fun a ha => ⟨?_, fun q => notX a ha (List.mem_append.mpr (.inl q)), (hw a ha).2⟩) fun p hp => (S.obj p hp).mono (kept_of hk) (new_more (X := []) fun a ha => (hw a ha).1) fun o e => hk _ _ (by simp) e, L.more hk fun a ha => (hw a ha).1, fun a ha => ⟨fun q => notX a ha (List.mem_append.mpr (.inr q)), fun q => notX a ha (List.mem_append.mpr (.inr (L.inF a q)))⟩⟩
  cases e : g.h.get? a with
  | none => rfl
  | some o => exact absurd (S.keep a o e) (by rw [(hw a ha).1]; exact fun z => nomatch z)

/-- what the head of a for gives: an iterator over l -/
noncomputable def IE (g : Gr) (n : Lv) (env : Env) (m : Loc) (O : Led) (t iter : Expr) (K : List V → Led → Prop) : Prop :=
  ∀ F A s (Q : Value → Shared → Prop), Ok n A → St g F O s.heap → LR g F O s.heap env m →
    (∀ I wr C l O1 s1, Itr g n t I wr C → Nxt [] (dm O ++ F) (dm O1 ++ (wr ++ F)) s s1 → St g (wr ++ F) O1 s1.heap → LR g (wr ++ F) O1 s1.heap env m → (∀ a, a ∈ wr → (a ∉ F ∧ a ∉ ownA env) ∧ s.heap.get? a = none) → C (dm O1 ++ (wr ++ F)) l s1.heap → K l O1 → Q (.ref I) s1) →
    wpAny (model prg g.w) A (eval iter env) (fun x s1 => wpAny (model prg g.w) A (pyIter x) Q (fun _ _ => False) s1) (fun _ _ => False) s
/-- a value that is no iterator yet -/
noncomputable def ItW (g : Gr) (n : Lv) (t : Expr) (v : V) (l : List V) (O : Led) : Prop :=
  ∀ F A s u (Q : Value → Shared → Prop), Ok n A → St g F O s.heap → VR g.w (dm O ++ F) s.heap v u →
    (∀ I wr C h' tk, Itr g n t I wr C → Kept [] s.heap h' → (∀ a, a ∈ wr → s.heap.get? a = none ∧ ∃ o, h'.get? a = some o) → C (dm O ++ (wr ++ F)) l h' → Q (.ref I) { s with heap := h', toks := tk }) →
    wpAny (model prg g.w) A (pyIter u) Q (fun _ _ => False) s
theorem ie_value {iter : Expr} {K : List V → Led → Prop} (h : EW g n env m O iter fun v O1 => ∃ l, ItW g n t v l O1 ∧ K l O1) : IE g n env m O t iter K := fun F A s Q ok S L hQ => by
  refine wpAny_mono (h F A s ok S L) (fun u s1 ⟨v, O1, N1, S1, R1, l, hi, k⟩ => ?_) fun _ _ x => x
  refine hi F A s1 u _ ok S1 R1 fun I wr C h' tk T hk hw hC => ?_
  obtain ⟨S2, L2, ow⟩ := fresh_more S1 (L.nxt N1) hk hw
  have N2 : Nxt [] (dm O1 ++ F) (dm O1 ++ (wr ++ F)) s1 { s1 with heap := h', toks := tk } := ⟨⟨_, _, rfl⟩, hk, new_more (X := []) fun a ha => (hw a ha).1⟩
  refine hQ I wr C l O1 _ T (N1.trans N2) S2 L2 (fun a ha => ⟨ow a ha, ?_⟩) hC k
  cases e : s.heap.get? a with
  | none => rfl
  | some o => exact absurd (N1.kept a o (by simp) e) (by rw [(hw a ha).1]; exact fun z => nomatch z)
theorem s1_for {iter : Expr} {pos} {Q : Fl → Loc → Led → Prop} (h : IE g n env m O t iter fun l O1 => ∀ I wr C, Itr g n t I wr C → ForW g n env t b I wr C l m O1 Q)
    (hs : ∀ (env : Env) x, foldedSetIterable iter env x = pure x := by intro _ _; rfl) : S1 g n env m O (.For t iter b [] pos) Q := fun F A s ok S L => by
  refine wpAny_For (h F A s _ ok S L fun I wr C l O1 s1 T N1 S1 L1 ow hC k => ?_) (hs env)
  refine codeAny_mono (k I wr C T F A s1 ok S1 L1 (fun a ha => (ow a ha).1) L.inF hC) fun r s3 ⟨f, e, q⟩ => ?_
  subst e
  obtain ⟨fl, m', O', N', S', L', R', q⟩ := q
  obtain ⟨h1, t1, rfl⟩ := N1.same
  obtain ⟨h3, t3, rfl⟩ := N'.same
  have old : ∀ x, x ∈ dm O1 ++ F → x ∈ dm O ++ F ∨ s.heap.get? x = none := fun x hx => by
    have hx' : x ∈ dm O1 ++ (wr ++ F) := by
      rcases List.mem_append.mp hx with hx | hx
      · exact List.mem_append.mpr (.inl hx)
      · exact List.mem_append.mpr (.inr (List.mem_append.mpr (.inr hx)))
    exact N1.new x hx'
  refine ⟨fl, m', O', ⟨⟨h3, t3, rfl⟩, fun b o hb e => N'.kept b o (fun z => ?_) (N1.kept b o (by simp) e), fun a ha => ?_⟩, S', L', R', q⟩
  · rcases List.mem_append.mp z with z | z
    · have := (ow b z).2; rw [e] at this; cases this
    · rcases List.mem_append.mp z with z | z
      · rcases old b (List.mem_append.mpr (.inl z)) with q | q
        · rcases List.mem_append.mp q with q | q
          · exact hb (List.mem_append.mpr (.inl q))
          · exact S1.disj b z (List.mem_append.mpr (.inr q))
        · rw [e] at q; cases q
      · exact hb (List.mem_append.mpr (.inr z))
  · rcases N'.new a ha with q | q
    · exact old a q
    · right
      cases e : s.heap.get? a with
      | none => rfl
      | some o =>
        have q' : h1.get? a = none := q
        have := N1.kept a o (by simp) e
        rw [q'] at this
        cases this
end
end Mine

-- A4
namespace Mine
open PySem PySem.Calls PySem.W PyProof.Rows

theorem len_two {α : Type} {l : List α} (h : l.length = 2) : ∃ a b, l = [a, b] := by
  cases l with
  | nil => cases h
  | cons a t => obtain ⟨b, hb⟩ := List.length_eq_one_iff.mp (Nat.succ.inj h); exact ⟨a, b, by rw [hb]⟩
theorem len_three {α : Type} {l : List α} (h : l.length = 3) : ∃ a b c, l = [a, b, c] := by
  cases l with
  | nil => cases h
  | cons a t => obtain ⟨b, c, hb⟩ := len_two (Nat.succ.inj h); exact ⟨a, b, c, by rw [hb]⟩
noncomputable def FnAt (g : Gr) (a : Addr) (f : Fn) : Prop :=
  ∃ o pm code doc, g.h.get? a = some o ∧ o.data = .func (docDef f.name f.params f.body f.scope pm code doc) ∧ g.h.CodeRec code f.name

/-- what a list or a dict was is settled: no one turns it any more -/
inductive Frz (O : Led) : V → V → Prop
  | same (v) : Frz O v v
  | list {a l} : (a, AO.list l) ∈ O → Frz O (.ref a) (.lst l)
  | dict {a ks vs} : (a, AO.dict ks vs) ∈ O → Frz O (.ref a) (.dct ks vs)
  | prog {a d nn r ns rs} : (a, AO.inst d) ∈ O → (d, AO.attrs [("numbers", nn), ("rows", r)]) ∈ O → (nn, AO.list ns) ∈ O → (r, AO.list rs) ∈ O → Frz O (.ref a) (.prog ns rs)
  | tup2 {a b a' b'} : Frz O a a' → Frz O b b' → Frz O (.tup [a, b]) (.tup [a', b'])

theorem isProg_of {w : World} {X : List Addr} {h : Heap} {d nn r : Addr} (x : OR w X h d (.attrs [("numbers", nn), ("rows", r)])) : ∃ e1 e2 ep, h.get? d = some (dictOf [e1, e2] ep) ∧ (∃ t, e1.key = .str "numbers" t) ∧ e1.val = .ref nn ∧ (∃ t, e2.key = .str "rows" t) ∧ e2.val = .ref r := by
  obtain ⟨es, ep, e, q⟩ := x
  rcases es with _ | ⟨e1, _ | ⟨e2, t⟩⟩
  · exact False.elim q
  · exact False.elim q.2.2
  · rcases t with _ | ⟨e3, t⟩
    · exact ⟨e1, e2, ep, e, q.1, q.2.1, q.2.2.1, q.2.2.2.1⟩
    · exact False.elim q.2.2.2.2

section
variable {g : Gr} {F : List Addr} {O O1 : Led} {s s1 : Shared} {n : Lv} {env : Env} {m m1 : Loc}

theorem Frz.run {h : Heap} {v v' : V} {u : Value} {X' : List Addr} (S : St g F O h) (z : Frz O v v') (R : VR g.w (dm O ++ F) h v u) (hX : ∀ a, a ∈ X' → a ∈ F) : VR g.w X' h v' u := by
  have sub : Newly (dm O ++ F) X' h := fun a ha => .inl (List.mem_append.mpr (.inr (hX a ha)))
  have out : ∀ {p : Addr × AO}, p ∈ O → p.1 ∉ X' := fun hp q => S.disj _ (List.mem_map_of_mem hp) (hX _ q)
  induction z generalizing u with
  | same v => exact R.mono .refl sub
  | @list a l hp =>
    simp only [VR] at R; subst R
    obtain ⟨us, nn, e, r⟩ := S.obj _ hp
    simp only [VR]
    exact ⟨a, us, rfl, out hp, e.isList, r.mono .refl sub⟩
  | @dict a ks vs hp =>
    simp only [VR] at R; subst R
    obtain ⟨us, ep, hm, hd, hl, r⟩ := S.obj _ hp
    simp only [VR]
    exact ⟨a, us, ep, rfl, out hp, hm, hd, hl, r.mono .refl sub⟩
  | @prog a d nn r ns rs h1 h2 h3 h4 =>
    simp only [VR] at R; subst R
    obtain ⟨us, k1, e1, r1⟩ := S.obj _ h3
    obtain ⟨vs, k2, e2, r2⟩ := S.obj _ h4
    simp only [VR]
    exact ⟨a, d, nn, r, us, vs, rfl, out h1, out h2, out h3, out h4, ⟨S.obj _ h1, isProg_of (S.obj _ h2)⟩, e1.isList, r1.mono .refl sub, e2.isList, r2.mono .refl sub⟩
  | @tup2 a b a' b' _ _ ih1 ih2 =>
    simp only [VR, VRs] at R ⊢
    obtain ⟨t, us, rfl, ht, hT, u1, us1, rfl, R1, u2, us2, rfl, R2, rfl⟩ := R
    exact ⟨t, _, rfl, fun q => ht (List.mem_append.mpr (.inr (hX _ q))), hT, u1, _, rfl, ih1 R1, u2, _, rfl, ih2 R2, rfl⟩

inductive FWP (g : Gr) (F : List Addr) (Q : V → Prop) (s : Shared) (r : Result) (s' : Shared) : Prop
  | mk (u : Value) (v : V) (e : r = .ok (.ret u)) (N : Nxt [] F F s s') (R : VR g.w F s'.heap v u) (q : Q v)
/-- a call that turns nothing that was there -/
noncomputable def FW (g : Gr) (n : Nat) (a : Addr) (vs : List V) (Q : V → Prop) : Prop :=
  ∀ F A s us, Ok ⟨n, none⟩ A → St g F [] s.heap → VRs g.w F s.heap vs us → codeAny (model prg g.w) A (.call (.ref a) ⟨us, []⟩) (FWP g F Q s) s

theorem FW.mono {n : Nat} {a : Addr} {vs : List V} {Q Q' : V → Prop} (h : FW g n a vs Q) (hq : ∀ v, Q v → Q' v) : FW g n a vs Q' := fun F A s us ok S R =>
  codeAny_mono (h F A s us ok S R) fun r s' ⟨u, v, e, N, R', q⟩ => ⟨u, v, e, N, R', hq v q⟩
theorem FW.le {n : Nat} {a : Addr} {vs : List V} {Q : V → Prop} {k : Nat} (h : FW g k a vs Q) (hk : k ≤ n) : FW g n a vs Q := fun F A s us ok S R => h F A s us (ok.le hk) S R

noncomputable def Back (Q : V → Prop) : Fl → Loc → Led → Prop
  | .ret v, _, O => ∃ v', Frz O v v' ∧ Q v'
  | .next, _, _ => Q .none
  | _, _, _ => False

theorem St.lim {h : Heap} (S : St g F O h) : h.NoLimit := g.lim.keeps S.keep

theorem fw_intro {n : Nat} {a : Addr} {f : Fn} {vs : List V} {Q : V → Prop} {binds : List Value → List (Str × Value)} {m0 : Loc} (hf : FnAt g a f)
    (hbind : ∀ us, us.length = vs.length → ∀ pm cd doc, bindArgs (docDef f.name f.params f.body f.scope pm cd doc) ⟨us, []⟩ = pure (binds us))
    (hloc : ∀ us, us.length = vs.length → ∀ x ∈ binds us, f.scope.names.lookup x.1 = some .local)
    (hm : ∀ (X : List Addr) (h : Heap) us, VRs g.w X h vs us → ∀ x v, (x, some v) ∈ m0 → ∃ u, VR g.w X h v u ∧ f.scope.names.lookup x = some .local ∧ (binds us).reverse.lookup x = some u)
    (hnd : (m0.map (·.1)).Nodup) (hk : f.scope.kind = .function) (hco : f.scope.isCoroutine = false) (hgen : f.scope.isGenerator = false) (hcell : ∀ x ∈ f.scope.names, x.2 ≠ .cell)
    (h : ∀ L cd, SW g ⟨n, none⟩ (envOf f.name f.scope L a cd) m0 [] f.body (Back Q)) : FW g (n + 1) a vs Q := fun F A s us ok S R => by
  obtain ⟨o, pm, code, doc, ho, hd, hcd⟩ := hf
  have hl := R.length
  refine call_plain_ret (binds := binds us) (by have := ok.depth; show A.depth < 1000; omega) (S.keep _ _ ho) hd S.lim (hcd.keeps S.keep) (hbind us hl pm code doc) (hloc us hl) (fun h1 Fr1 => ?_) hco hgen hk hcell
  have kp : Kept [] s.heap h1 := fun b o _ e => Fr1.keep b o e
  have hex : ∃ o, h1.get? s.heap.objs.size = some o := let ⟨o, _, _, e, _⟩ := Fr1.ns; ⟨o, e⟩
  have hno : s.heap.get? s.heap.objs.size = none := by
    cases e : s.heap.get? s.heap.objs.size with
    | none => rfl
    | some o => exact absurd (Heap.lt_size e) (Nat.lt_irrefl _)
  have hng : g.h.get? s.heap.objs.size = none := by
    cases e : g.h.get? s.heap.objs.size with
    | none => rfl
    | some o => exact absurd (S.keep _ _ e) (by rw [hno]; exact fun z => nomatch z)
  have S1 : St g (s.heap.objs.size :: F) [] h1 := ⟨fun b o e => kp b o (by simp) (S.keep b o e), fun b hb => by
    rcases List.mem_cons.mp hb with rfl | hb
    · exact hng
    · exact S.fresh b hb, List.nodup_nil, fun b hb => by simp at hb, fun b hb => by
    rcases List.mem_cons.mp hb with rfl | hb
    · exact hex
    · obtain ⟨o, e⟩ := S.thereF b hb; exact ⟨o, kp b o (by simp) e⟩, fun p hp => by simp at hp⟩
  have R1 : VRs g.w (s.heap.objs.size :: F) h1 vs us := R.mono (kept_of kp) fun b hb => by
    rcases List.mem_cons.mp hb with rfl | hb
    · exact .inr hno
    · exact .inl hb
  have L1 : LR g (s.heap.objs.size :: F) [] h1 (envOf f.name f.scope s.heap.objs.size a code) m0 :=
    ⟨hk, rfl, rfl, fun b hb => by simp [ownA, envOf] at hb; rw [hb]; exact .head _, by simp [ownA, envOf], hnd, fun c hc => by simp [envOf] at hc, _, Fr1.ns, fun x v hx => by
      obtain ⟨u, q1, q2, q3⟩ := hm _ _ us R1 x v hx
      exact ⟨u, q1, .inl ⟨q2, q3⟩⟩⟩
  refine wpAny_mono (h s.heap.objs.size code (s.heap.objs.size :: F) _ _ (ok.deeper _) S1 L1) (fun f2 s2 ⟨fl, m2, O2, N2, S2, L2, R2, q⟩ => ?_) fun _ _ x => x
  have N : Nxt [] F F s s2 := by
    obtain ⟨h2, t2, rfl⟩ := N2.same
    refine ⟨⟨h2, t2, rfl⟩, fun b o _ e => N2.kept b o (fun z => ?_) (kp b o (by simp) e), .refl⟩
    have z' : b = s.heap.objs.size := by simpa [ownA, envOf] using z
    rw [z', hno] at e; cases e
  cases fl with
  | next => simp only [FlR] at R2; subst R2; exact ⟨.none, .none, rfl, N, by simp only [VR], q⟩
  | ret v =>
    simp only [FlR] at R2
    obtain ⟨u, rfl, R2⟩ := R2
    obtain ⟨v', z, q⟩ := q
    exact ⟨u, v', rfl, N, z.run S2 R2 fun b hb => .tail _ hb, q⟩
  | brk => exact q.elim
  | cont => exact q.elim

theorem fw1 {n : Nat} {a : Addr} {f : Fn} {v1 : V} {x1 : Str} {rest : List Str} {Q : V → Prop} (hf : FnAt g a f)
    (hbind : ∀ u1 pm cd doc, bindArgs (docDef f.name f.params f.body f.scope pm cd doc) ⟨[u1], []⟩ = pure [(x1, u1)])
    (hl : f.scope.names.lookup x1 = some .local) (hnd : (x1 :: rest).Nodup) (hk : f.scope.kind = .function) (hco : f.scope.isCoroutine = false) (hgen : f.scope.isGenerator = false) (hcell : ∀ x ∈ f.scope.names, x.2 ≠ .cell)
    (h : ∀ L cd, SW g ⟨n, none⟩ (envOf f.name f.scope L a cd) ((x1, some v1) :: rest.map (·, none)) [] f.body (Back Q)) : FW g (n + 1) a [v1] Q := by
  refine fw_intro (binds := fun us => match us with | [u] => [(x1, u)] | _ => []) hf (fun us e pm cd doc => ?_) (fun us e x hx => ?_) (fun X hh us R x v hx => ?_) ?_ hk hco hgen hcell h
  · obtain ⟨u, rfl⟩ := List.length_eq_one_iff.mp e
    exact hbind u pm cd doc
  · obtain ⟨u, rfl⟩ := List.length_eq_one_iff.mp e
    simp at hx; subst hx; exact hl
  · simp only [VRs] at R
    obtain ⟨u, us', rfl, R1, rfl⟩ := R
    rcases List.mem_cons.mp hx with e | hx
    · injection e with e1 e2; injection e2 with e2; subst e1 e2
      exact ⟨u, R1, hl, by simp⟩
    · simp at hx
  · rw [List.map_cons, List.map_map]; simpa [Function.comp_def] using hnd
theorem fw2 {n : Nat} {a : Addr} {f : Fn} {v1 v2 : V} {x1 x2 : Str} {rest : List Str} {Q : V → Prop} (hf : FnAt g a f)
    (hbind : ∀ u1 u2 pm cd doc, bindArgs (docDef f.name f.params f.body f.scope pm cd doc) ⟨[u1, u2], []⟩ = pure [(x1, u1), (x2, u2)])
    (hl : f.scope.names.lookup x1 = some .local ∧ f.scope.names.lookup x2 = some .local) (hnd : (x1 :: x2 :: rest).Nodup) (hk : f.scope.kind = .function) (hco : f.scope.isCoroutine = false) (hgen : f.scope.isGenerator = false) (hcell : ∀ x ∈ f.scope.names, x.2 ≠ .cell)
    (h : ∀ L cd, SW g ⟨n, none⟩ (envOf f.name f.scope L a cd) ((x1, some v1) :: (x2, some v2) :: rest.map (·, none)) [] f.body (Back Q)) : FW g (n + 1) a [v1, v2] Q := by
  have ne : x1 ≠ x2 := fun e => by rw [e] at hnd; simp at hnd
  refine fw_intro (binds := fun us => match us with | [u, v] => [(x1, u), (x2, v)] | _ => []) hf (fun us e pm cd doc => ?_) (fun us e x hx => ?_) (fun X hh us R x v hx => ?_) ?_ hk hco hgen hcell h
  · obtain ⟨u, v, rfl⟩ := len_two e
    exact hbind u v pm cd doc
  · obtain ⟨u, v, rfl⟩ := len_two e
    simp at hx; rcases hx with rfl | rfl; exact hl.1; exact hl.2
  · simp only [VRs] at R
    obtain ⟨u, us', rfl, R1, u', us'', rfl, R2, rfl⟩ := R
    rcases List.mem_cons.mp hx with e | hx
    · injection e with e1 e2; injection e2 with e2; subst e1 e2
      exact ⟨u, R1, hl.1, by simp [List.lookup_cons, beq_eq_false_iff_ne.mpr ne]⟩
    · rcases List.mem_cons.mp hx with e | hx
      · injection e with e1 e2; injection e2 with e2; subst e1 e2
        exact ⟨u', R2, hl.2, by simp⟩
      · simp at hx
  · rw [List.map_cons, List.map_cons, List.map_map]; simpa [Function.comp_def] using hnd
theorem fw3 {n : Nat} {a : Addr} {f : Fn} {v1 v2 v3 : V} {x1 x2 x3 : Str} {rest : List Str} {Q : V → Prop} (hf : FnAt g a f)
    (hbind : ∀ u1 u2 u3 pm cd doc, bindArgs (docDef f.name f.params f.body f.scope pm cd doc) ⟨[u1, u2, u3], []⟩ = pure [(x1, u1), (x2, u2), (x3, u3)])
    (hl : f.scope.names.lookup x1 = some .local ∧ f.scope.names.lookup x2 = some .local ∧ f.scope.names.lookup x3 = some .local) (hnd : (x1 :: x2 :: x3 :: rest).Nodup) (hk : f.scope.kind = .function) (hco : f.scope.isCoroutine = false) (hgen : f.scope.isGenerator = false) (hcell : ∀ x ∈ f.scope.names, x.2 ≠ .cell)
    (h : ∀ L cd, SW g ⟨n, none⟩ (envOf f.name f.scope L a cd) ((x1, some v1) :: (x2, some v2) :: (x3, some v3) :: rest.map (·, none)) [] f.body (Back Q)) : FW g (n + 1) a [v1, v2, v3] Q := by
  have ne : x1 ≠ x2 := fun e => by rw [e] at hnd; simp at hnd
  have ne2 : x1 ≠ x3 := fun e => by rw [e] at hnd; simp at hnd
  have ne3 : x2 ≠ x3 := fun e => by rw [e] at hnd; simp at hnd
  refine fw_intro (binds := fun us => match us with | [u, v, w] => [(x1, u), (x2, v), (x3, w)] | _ => []) hf (fun us e pm cd doc => ?_) (fun us e x hx => ?_) (fun X hh us R x v hx => ?_) ?_ hk hco hgen hcell h
  · obtain ⟨u, v, w, rfl⟩ := len_three e
    exact hbind u v w pm cd doc
  · obtain ⟨u, v, w, rfl⟩ := len_three e
    simp at hx; rcases hx with rfl | rfl | rfl; exact hl.1; exact hl.2.1; exact hl.2.2
  · simp only [VRs] at R
    obtain ⟨u, us', rfl, R1, u', us'', rfl, R2, u'', us3, rfl, R3, rfl⟩ := R
    rcases List.mem_cons.mp hx with e | hx
    · injection e with e1 e2; injection e2 with e2; subst e1 e2
      exact ⟨u, R1, hl.1, by simp [List.lookup_cons, beq_eq_false_iff_ne.mpr ne, beq_eq_false_iff_ne.mpr ne2]⟩
    · rcases List.mem_cons.mp hx with e | hx
      · injection e with e1 e2; injection e2 with e2; subst e1 e2
        exact ⟨u', R2, hl.2.1, by simp [List.lookup_cons, beq_eq_false_iff_ne.mpr ne3]⟩
      · rcases List.mem_cons.mp hx with e | hx
        · injection e with e1 e2; injection e2 with e2; subst e1 e2
          exact ⟨u'', R3, hl.2.2, by simp⟩
        · simp at hx
  · rw [List.map_cons, List.map_cons, List.map_cons, List.map_map]; simpa [Function.comp_def] using hnd

/-- a call of a def of the text -/
theorem ew_callF {x : Str} {np pos : Pos} {e : Expr} {es : List Expr} {a : Addr} {f : Fn} {Q : V → Led → Prop} (hf : FnAt g a f) (hk : env.kindOf x = some .globalImplicit) (hu : g.mg x = some (.ref a))
    (h : LW g n env m O (e :: es) fun vs O1 => FW g n.n a vs fun v => Q v O1) (hd : (x == ("__debug__" : Str)) = false := by decide) (he : ∀ (env : Env), starEach (e :: es) env = (false, eval e env) :: starEach es env := by intro _; rfl) : EW g n env m O (.Call (.Name x np) (e :: es) [] pos) Q := fun F A s ok S L => by
  obtain ⟨o, pm, code, doc, ho, hdat, hcd⟩ := hf
  refine wpAny_Call_ofName (Name_function_global L.fn hk (loadGlobal_global (mg := g.mg) (by rw [L.gl]; exact g.gs.keeps S.keep) hu ?_) hd)
  show wpAny _ A (callWith pos (.ref a) [] (backTo pos (starEach (e :: es) env)) []) _ _ s
  refine callWith_function (o := o) (fd := docDef f.name f.params f.body f.scope pm code doc) ?_
  have h1 := h F A s pos ok S L
  rw [he env] at h1 ⊢
  refine evalArgs_plain (wpAny_mono h1 (fun us s1 ⟨hl, vs, O1, N1, S1, R1, h1⟩ => ?_) fun _ _ x => x)
  refine ⟨⟨S1.keep _ _ ho, hdat⟩, ?_⟩
  have S0 : St g (dm O1 ++ F) [] s1.heap := ⟨S1.keep, S1.fresh, List.nodup_nil, fun a ha => by simp at ha, S1.there, fun p hp => by simp at hp⟩
  refine wpAny_call (codeAny_mono (h1 (dm O1 ++ F) A s1 us ok.plain S0 R1) fun r s2 ⟨u, v, e, N2, R2, q⟩ => ?_)
  subst e
  exact EP.chain N1 ⟨v, O1, N2, S1.grow N2.kept, R2, q⟩
end
end Mine

-- A5
namespace Mine
open PySem PySem.Calls PySem.W PyProof.Rows

section
variable {g : Gr} {F : List Addr} {O O1 : Led} {s s1 : Shared} {n : Lv} {env : Env} {m m1 : Loc}

-- ints
theorem w2_add {a b : Int} {Q : V → Led → Prop} (q : Q (.int (a + b)) O) : W2 g n (binaryOp .Add) (.int a) (.int b) O Q := fun F A s u v ok S R1 R2 => by
  simp only [VR] at R1 R2; obtain ⟨_, rfl⟩ := R1; obtain ⟨_, rfl⟩ := R2
  exact add_int (EP.tok S (by simp only [VR]; exact ⟨_, rfl⟩) q)
theorem w2_sub {a b : Int} {Q : V → Led → Prop} (q : Q (.int (a - b)) O) : W2 g n (binaryOp .Sub) (.int a) (.int b) O Q := fun F A s u v ok S R1 R2 => by
  simp only [VR] at R1 R2; obtain ⟨_, rfl⟩ := R1; obtain ⟨_, rfl⟩ := R2
  exact sub_int (EP.tok S (by simp only [VR]; exact ⟨_, rfl⟩) q)
theorem w2_iadd {a b : Int} {Q : V → Led → Prop} (q : Q (.int (a + b)) O) : W2 g n (inplaceOp .Add) (.int a) (.int b) O Q := fun F A s u v ok S R1 R2 => by
  simp only [VR] at R1 R2; obtain ⟨_, rfl⟩ := R1; obtain ⟨_, rfl⟩ := R2
  exact wpAny_iadd_int (EP.tok S (by simp only [VR]; exact ⟨_, rfl⟩) q)
theorem w2_isub {a b : Int} {Q : V → Led → Prop} (q : Q (.int (a - b)) O) : W2 g n (inplaceOp .Sub) (.int a) (.int b) O Q := fun F A s u v ok S R1 R2 => by
  simp only [VR] at R1 R2; obtain ⟨_, rfl⟩ := R1; obtain ⟨_, rfl⟩ := R2
  exact isub_int (EP.tok S (by simp only [VR]; exact ⟨_, rfl⟩) q)
theorem w2_lt {a b : Int} {Q : V → Led → Prop} (q : Q (.bool (decide (a < b))) O) : W2 g n (compareOp .Lt) (.int a) (.int b) O Q := fun F A s u v ok S R1 R2 => by
  simp only [VR] at R1 R2; obtain ⟨_, rfl⟩ := R1; obtain ⟨_, rfl⟩ := R2
  exact lt_int (EP.same S (by simp only [VR]) q)
theorem w2_le {a b : Int} {Q : V → Led → Prop} (q : Q (.bool (decide (a ≤ b))) O) : W2 g n (compareOp .LtE) (.int a) (.int b) O Q := fun F A s u v ok S R1 R2 => by
  simp only [VR] at R1 R2; obtain ⟨_, rfl⟩ := R1; obtain ⟨_, rfl⟩ := R2
  exact le_int (EP.same S (by simp only [VR]) q)
theorem w2_gt {a b : Int} {Q : V → Led → Prop} (q : Q (.bool (decide (a > b))) O) : W2 g n (compareOp .Gt) (.int a) (.int b) O Q := fun F A s u v ok S R1 R2 => by
  simp only [VR] at R1 R2; obtain ⟨_, rfl⟩ := R1; obtain ⟨_, rfl⟩ := R2
  exact gt_int (EP.same S (by simp only [VR]) q)
theorem w2_ge {a b : Int} {Q : V → Led → Prop} (q : Q (.bool (decide (a ≥ b))) O) : W2 g n (compareOp .GtE) (.int a) (.int b) O Q := fun F A s u v ok S R1 R2 => by
  simp only [VR] at R1 R2; obtain ⟨_, rfl⟩ := R1; obtain ⟨_, rfl⟩ := R2
  exact ge_int (EP.same S (by simp only [VR]) q)
theorem w2_div {a b : Int} {Q : V → Led → Prop} (hb : b ≠ 0) (hp : Builtin.divisionGoesByPylong a b = false) (q : Q (.int (a.fdiv b)) O) : W2 g n (binaryOp .FloorDiv) (.int a) (.int b) O Q := fun F A s u v ok S R1 R2 => by
  simp only [VR] at R1 R2; obtain ⟨_, rfl⟩ := R1; obtain ⟨_, rfl⟩ := R2
  exact floordiv_int hb (EP.tok S (by simp only [VR]; exact ⟨_, rfl⟩) q) (.inl hp)
theorem w2_mod {a b : Int} {Q : V → Led → Prop} (hb : b ≠ 0) (q : Q (.int (a.fmod b)) O) : W2 g n (binaryOp .Mod) (.int a) (.int b) O Q := fun F A s u v ok S R1 R2 => by
  simp only [VR] at R1 R2; obtain ⟨_, rfl⟩ := R1; obtain ⟨_, rfl⟩ := R2
  exact mod_int' hb (EP.tok S (by simp only [VR]; exact ⟨_, rfl⟩) q)
noncomputable def isNone : V → Bool
  | .none => true
  | _ => false
theorem w2_isnone {a : V} {Q : V → Led → Prop} (q : Q (.bool (isNone a)) O) (ha : ∀ u, a ≠ .fix u) : W2 g n (compareOp .Is) a .none O Q := fun F A s u v ok S R1 R2 => by
  simp only [VR] at R2; subst R2
  refine is_none (EP.same S (v := .bool (isNone a)) ?_ q)
  cases a <;> simp only [VR] at R1 ⊢
  case none => subst R1; rfl
  case bool => subst R1; rfl
  case int => obtain ⟨_, rfl⟩ := R1; rfl
  case str => obtain ⟨_, rfl⟩ := R1; rfl
  case ref => subst R1; rfl
  case tup => obtain ⟨_, _, rfl, _⟩ := R1; rfl
  case lst => obtain ⟨_, _, rfl, _⟩ := R1; rfl
  case prog => obtain ⟨_, _, _, _, _, _, rfl, _⟩ := R1; rfl
  case dct => obtain ⟨_, _, _, rfl, _⟩ := R1; rfl
  case fix => exact absurd rfl (ha _)

-- data compared
mutual
noncomputable def toPy : V → PyData
  | .none => .none
  | .bool b => .bool b
  | .int i => .int i
  | .str x => .str x
  | .tup l => .tuple (toPys l)
  | .lst l => .list (toPys l)
  | _ => .none
noncomputable def toPys : List V → List PyData
  | [] => []
  | v :: vs => toPy v :: toPys vs
end
mutual
noncomputable def isPy : V → Bool
  | .none | .bool _ | .int _ | .str _ => true
  | .tup l => isPys l
  | .lst l => isPys l
  | _ => false
noncomputable def isPys : List V → Bool
  | [] => true
  | v :: vs => isPy v && isPys vs
end
mutual
theorem reads_of {w : World} {X : List Addr} {h : Heap} : ∀ (v : V) {u : Value}, isPy v = true → VR w X h v u → ∃ as, Reads h u (toPy v) as
  | .none, _, _, r => by simp only [VR] at r; subst r; exact ⟨_, .none⟩
  | .bool _, _, _, r => by simp only [VR] at r; subst r; exact ⟨_, .bool _⟩
  | .int _, _, _, r => by simp only [VR] at r; obtain ⟨_, rfl⟩ := r; exact ⟨_, .int _ _⟩
  | .str _, _, _, r => by simp only [VR] at r; obtain ⟨_, rfl⟩ := r; exact ⟨_, .str _ _⟩
  | .tup l, _, p, r => by
    simp only [VR] at r; obtain ⟨a, us, rfl, _, ⟨o, e, c, k, d⟩, q⟩ := r
    obtain ⟨as, ra⟩ := readsAll_of l (by simpa only [isPy] using p) q
    exact ⟨as, by simp only [toPy]; exact .tuple e c d (by simpa using ra)⟩
  | .lst l, _, p, r => by
    simp only [VR] at r; obtain ⟨a, us, rfl, _, ⟨o, e, c, k, d⟩, q⟩ := r
    obtain ⟨as, ra⟩ := readsAll_of l (by simpa only [isPy] using p) q
    exact ⟨a :: as, by simp only [toPy]; exact .list e c d (by simpa using ra)⟩
  | .ref _, _, p, _ => by simp [isPy] at p
  | .prog _ _, _, p, _ => by simp [isPy] at p
  | .dct _ _, _, p, _ => by simp [isPy] at p
  | .fix _, _, p, _ => by simp [isPy] at p
theorem readsAll_of {w : World} {X : List Addr} {h : Heap} : ∀ (l : List V) {us : List Value}, isPys l = true → VRs w X h l us → ∃ as, ReadsAll h us (toPys l) as
  | [], _, _, r => by simp only [VRs] at r; subst r; exact ⟨_, .nil⟩
  | v :: vs, _, p, r => by
    simp only [VRs] at r; obtain ⟨u, us', rfl, r1, r2⟩ := r
    simp only [isPys, Bool.and_eq_true] at p
    obtain ⟨as, e1⟩ := reads_of v p.1 r1
    obtain ⟨bs, e2⟩ := readsAll_of vs p.2 r2
    exact ⟨as ++ bs, by simp only [toPys]; exact .cons e1 e2⟩
end
theorem w2_eq {a b : V} {Q : V → Led → Prop} (ha : isPy a = true) (hb : isPy b = true) (la : (toPy a).canLay0 = true) (lb : (toPy b).canLay0 = true) (hd : min (toPy a).depth (toPy b).depth ≤ 30) (q : Q (.bool (PyData.eqv (toPy a) (toPy b))) O) : W2 g n (compareOp .Eq) a b O Q := fun F A s u v ok S R1 R2 => by
  obtain ⟨as, r1⟩ := reads_of a ha R1
  obtain ⟨bs, r2⟩ := reads_of b hb R2
  exact PySem.SeqAt.compareEq_reads r1 r2 la lb (by have := ok.units; show A.units + _ < 9900; omega) (EP.same S (by simp only [VR]) q)
theorem w2_ne {a b : V} {Q : V → Led → Prop} (ha : isPy a = true) (hb : isPy b = true) (la : (toPy a).canLay0 = true) (lb : (toPy b).canLay0 = true) (hd : min (toPy a).depth (toPy b).depth ≤ 30) (q : Q (.bool (!PyData.eqv (toPy a) (toPy b))) O) : W2 g n (compareOp .NotEq) a b O Q := fun F A s u v ok S R1 R2 => by
  obtain ⟨as, r1⟩ := reads_of a ha R1
  obtain ⟨bs, r2⟩ := reads_of b hb R2
  exact PySem.SeqAt.compareNe_reads r1 r2 la lb (by have := ok.units; show A.units + _ < 9900; omega) (EP.same S (by simp only [VR]) q)
-- items
theorem ew_sub {value slice : Expr} {pos} {Q : V → Led → Prop} (h : EW g n env m O value fun a O1 => EW g n env m O1 slice fun b O2 => W2 g n (subscriptTail value slice) a b O2 Q) : EW g n env m O (.Subscript value slice pos) Q := fun F A s ok S L => by
  refine Subscript_ (wpAny_mono (h F A s ok S L) (fun a s1 ⟨va, O1, N1, S1, R1, h1⟩ => ?_) fun _ _ x => x)
  refine wpAny_mono (h1 F A s1 ok S1 (L.nxt N1)) (fun b s2 ⟨vb, O2, N2, S2, R2, h2⟩ => ?_) fun _ _ x => x
  exact wpAny_mono (h2 F A s2 a b ok S2 (R1.nxt N2) R2) (fun u s3 h3 => h3.chain (N1.trans N2)) fun _ _ x => x
theorem w2_item_lst {value slice : Expr} {l : List V} {i : Int} {v : V} {Q : V → Led → Prop} (h0 : 0 ≤ i) (hi : i < 2 ^ 63) (hv : l[i.toNat]? = some v) (q : Q v O)
    (hs : ∀ (o i : Value), subscripted slice false o i = operate [o, i] (getItem o i) := by intro _ _; with_unfolding_all rfl) : W2 g n (subscriptTail value slice) (.lst l) (.int i) O Q := fun F A s u v ok S R1 R2 => by
  simp only [VR] at R1 R2; obtain ⟨a, us, rfl, _, hl, r⟩ := R1; obtain ⟨_, rfl⟩ := R2
  obtain ⟨x, hx, rx⟩ := r.get? hv
  exact tail_any hl.typeIs slot_list_getitem.lookup (wpAny_getItem_list hl h0 hi (by simpa using hx) (EP.same S rx q)) (hs _ _)
theorem w2_item_tup {value slice : Expr} {l : List V} {i : Int} {j : Nat} {v : V} {Q : V → Led → Prop} (hi : -2 ^ 63 ≤ i ∧ i < 2 ^ 63) (hj : seqIndex? i l.length = some j) (hv : l[j]? = some v) (q : Q v O)
    (hs : ∀ (o i : Value), subscripted slice false o i = operate [o, i] (getItem o i) := by intro _ _; with_unfolding_all rfl) : W2 g n (subscriptTail value slice) (.tup l) (.int i) O Q := fun F A s u v ok S R1 R2 => by
  simp only [VR] at R1 R2; obtain ⟨a, us, rfl, _, hl, r⟩ := R1; obtain ⟨_, rfl⟩ := R2
  obtain ⟨x, hx, rx⟩ := r.get? hv
  exact item_tupleT hl hi.1 hi.2 (by rw [r.length]; exact hj) hx (EP.same S rx q) (hs _ _)

-- calls of built-ins
theorem ew_callB {x : Str} {np pos : Pos} {e : Expr} {es : List Expr} {id : String} {Q : V → Led → Prop} (hk : env.kindOf x = some .globalImplicit) (hu : g.mg x = none) (hn : x ≠ "__name__") (hb : bootBuiltins x = some (.builtin id))
    (h : LW g n env m O (e :: es) fun vs O1 => WL g n (fun us => call (.builtin id) us) vs O1 Q) (hd : (x == ("__debug__" : Str)) = false := by decide) (he : ∀ (env : Env), starEach (e :: es) env = (false, eval e env) :: starEach es env := by intro _; rfl)
    (hp : ∀ (env : Env) pos, (backTo pos (starEach (e :: es) env)).any (·.1) = false := by intro _ _; rfl) : EW g n env m O (.Call (.Name x np) (e :: es) [] pos) Q := fun F A s ok S L => by
  refine wpAny_Call_ofName (Name_function_global L.fn hk (loadGlobal_builtin (mg := g.mg) (mb := g.mb) (by rw [L.gl]; exact g.gs.keeps S.keep) hu (by rw [L.bl]; exact g.bs.keeps S.keep) ((g.hb x hn).trans hb) ?_) hd)
  show wpAny _ A (callWith pos (.builtin id) [] (backTo pos (starEach (e :: es) env)) []) _ _ s
  refine callWith_builtin (hp env pos) ?_
  have h1 := h F A s pos ok S L
  rw [he env] at h1 ⊢
  refine evalArgs_plain (wpAny_mono h1 (fun us s1 ⟨hl, vs, O1, N1, S1, R1, h1⟩ => ?_) fun _ _ x => x)
  exact wpAny_mono (h1 F A s1 us ok S1 R1) (fun u s2 q => q.chain N1) fun _ _ x => x
theorem wl_len_lst {l : List V} {Q : V → Led → Prop} (hl : l.length < 2 ^ 62) (q : Q (.int l.length) O) : WL g n (fun us => call (.builtin "len") us) [.lst l] O Q := fun F A s us ok S R => by
  simp only [VRs, VR] at R
  obtain ⟨u, us', rfl, ⟨a, vs, rfl, _, hL, r⟩, rfl⟩ := R
  refine call_len_list hL (by rw [List.size_toArray, r.length]; omega) ?_
  rw [List.size_toArray, r.length]
  exact EP.tok S (by simp only [VR]; exact ⟨_, rfl⟩) q

-- a list, its items in turn
theorem itw_lst {x : Str} {p : Pos} {l : List V} : ItW g n (.Name x p) (.lst l) l O := fun F A s u Q ok S R hQ => by
  simp only [VR] at R
  obtain ⟨a, us, rfl, ha, hL, r⟩ := R
  refine wpAny_pyIter_list hL ?_
  have lt : a < s.heap.objs.size := let ⟨o, e, _⟩ := hL; Heap.lt_size e
  refine hQ s.heap.objs.size [s.heap.objs.size] (fun X l' h => ∃ i us, h.IsListIter s.heap.objs.size a i ∧ h.IsList a (List.toArray us) ∧ a ∉ X ∧ a ≠ s.heap.objs.size ∧ VRs g.w X h (l') (us.drop i)) _ s.toks ⟨?_, ?_, ?_, fun _ ⟨i, us, hi, _⟩ hq => wpAny_pyIter_listiter hi hq⟩ (kept_push _) ?_ ?_
  · rintro X X' l' h h' ⟨i, us, hi, hl, hx, hne, hr⟩ hk hw hX
    obtain ⟨o, e, q⟩ := hi
    obtain ⟨o2, e2, q2⟩ := hl
    exact ⟨i, us, ⟨o, hw _ (.head _) _ e, q⟩, ⟨o2, hk _ _ hx e2, q2⟩, out_of hX hx e2, hne, hr.mono hk hX⟩
  · rintro A X v l' s1 E Q1 ok hwX hXt ⟨i, us, hi, hl, hx, hne, hr⟩ hq
    have hlt : ∃ u, us[i]? = some u ∧ VR g.w X s1.heap v u ∧ VRs g.w X s1.heap l' (us.drop (i + 1)) := by
      simp only [VRs] at hr
      obtain ⟨u, us', e, r1, r2⟩ := hr
      have hlt : i < us.length := by
        rcases Nat.lt_or_ge i us.length with q | q
        · exact q
        · rw [List.drop_of_length_le q] at e; cases e
      rw [List.drop_eq_getElem_cons hlt] at e
      injection e with e1 e2
      exact ⟨u, by rw [List.getElem?_eq_getElem hlt, e1], r1, by rw [e2]; exact r2⟩
    obtain ⟨u, hu, r1, r2⟩ := hlt
    refine wpAny_pyNext_list_item hi hl (x := u) (by simpa using hu) fun h1 hi1 hs1 => hq u h1 s1.toks ?_
    have kp : Kept [s.heap.objs.size] s1.heap h1 := kept_same hs1
    have kX : Kept X s1.heap h1 := fun b o hb e => kp b o (fun z => hb (by rw [List.mem_singleton.mp z]; exact hwX _ (.head _))) e
    refine wpAny_pure ⟨⟨h1, s1.toks, rfl⟩, kp, fun b hb => ?_, r1.mono kX .refl, i + 1, us, hi1, hl.extBut hs1.extBut hne, hx, hne, r2.mono kX .refl⟩
    rw [List.mem_singleton.mp hb]; obtain ⟨o, e, _⟩ := hi1; exact ⟨o, e⟩
  · rintro A X s1 E Q1 ok hwX ⟨i, us, hi, hl, hx, hne, hr⟩ hq
    simp only [VRs] at hr
    have hge : us.length ≤ i := by simpa using hr
    exact wpAny_pyNext_list_end ok.handled hi hl (by simpa using hge) fun h1 he1 => hq h1 s1.toks fun b o hb e => he1 b o (fun z => hb (by rw [z]; exact .head _)) e
  · intro b hb
    rw [List.mem_singleton.mp hb]
    exact ⟨by cases e : s.heap.get? s.heap.objs.size with | none => rfl | some o => exact absurd (Heap.lt_size e) (Nat.lt_irrefl _), _, Heap.get?_push_size _ rfl⟩
  · refine ⟨0, us, ⟨_, Heap.get?_push_size _ rfl, rfl, rfl⟩, hL.push _, fun q => ?_, Nat.ne_of_lt lt, ?_⟩
    · rcases List.mem_append.mp q with q | q
      · exact ha (List.mem_append.mpr (.inl q))
      · rcases List.mem_append.mp q with q | q
        · exact Nat.ne_of_lt lt (List.mem_singleton.mp q)
        · exact ha (List.mem_append.mpr (.inr q))
    · refine r.mono (kept_of (kept_push _)) (new_more (X := []) fun b hb => ?_)
      rw [List.mem_singleton.mp hb]
      cases e : s.heap.get? s.heap.objs.size with
      | none => rfl
      | some o => exact absurd (Heap.lt_size e) (Nat.lt_irrefl _)
end
end Mine

-- A6
namespace Mine
open PySem PySem.Calls PySem.W PyProof.Rows

section
variable {g : Gr} {F : List Addr} {O O1 : Led} {s s1 : Shared} {n : Lv} {env : Env} {m m1 : Loc}

theorem w2_in_tup {a : V} {l : List V} {Q : V → Led → Prop} (ha : isPy a = true) (hb : isPys l = true) (la : (toPy a).canLay0 = true) (lb : PyData.canLayAll0 (toPys l) = true) (hd : (toPy a).depth ≤ 30) (q : Q (.bool ((toPys l).any fun y => PyData.eqv y (toPy a))) O) : W2 g n (compareOp .In) a (.tup l) O Q := fun F A s u v ok S R1 R2 => by
  obtain ⟨as, r1⟩ := reads_of a ha R1
  obtain ⟨bs, r2⟩ := reads_of (.tup l) (by simpa only [isPy] using hb) R2
  simp only [toPy] at r2
  exact PySem.SeqAt.in_tuple_reads r2 r1 lb la (by have := ok.units; show A.units + 1 + _ < 9900; omega) (EP.same S (by simp only [VR]) q)
theorem w2_notin_tup {a : V} {l : List V} {Q : V → Led → Prop} (ha : isPy a = true) (hb : isPys l = true) (la : (toPy a).canLay0 = true) (lb : PyData.canLayAll0 (toPys l) = true) (hd : (toPy a).depth ≤ 30) (q : Q (.bool (!(toPys l).any fun y => PyData.eqv y (toPy a))) O) : W2 g n (compareOp .NotIn) a (.tup l) O Q := fun F A s u v ok S R1 R2 => by
  obtain ⟨as, r1⟩ := reads_of a ha R1
  obtain ⟨bs, r2⟩ := reads_of (.tup l) (by simpa only [isPy] using hb) R2
  simp only [toPy] at r2
  exact PySem.SeqAt.notIn_tuple_reads r2 r1 lb la (by have := ok.units; show A.units + 1 + _ < 9900; omega) (EP.same S (by simp only [VR]) q)

-- and | or as values, of bools
noncomputable def BL (g : Gr) (n : Lv) (env : Env) (m : Loc) (O : Led) (op : PySem.BoolOp) (es : List Expr) (Q : V → Led → Prop) : Prop :=
  ∀ F A s pos, Ok n A → St g F O s.heap → LR g F O s.heap env m → wpAny (model prg g.w) A (boolOp pos op (evalEach es env)) (EP g F O s Q) (fun _ _ => False) s
theorem ew_boolop {op es pos} {Q : V → Led → Prop} (h : BL g n env m O op es Q) : EW g n env m O (.BoolOp op es pos) Q := fun F A s ok S L => by
  show wpAny _ A (boolOp pos op (evalEach es env)) _ _ s
  exact h F A s pos ok S L
theorem bl_last {op e} {Q : V → Led → Prop} (h : EW g n env m O e Q) : BL g n env m O op [e] Q := fun F A s pos ok S L => by
  show wpAny _ A (boolOp pos op [eval e env]) _ _ s
  unfold boolOp
  exact h F A s ok S L
theorem bl_or {e e' es} {Q : V → Led → Prop} (h : EW g n env m O e fun v O1 => ∃ b, v = .bool b ∧ if b = true then Q (.bool true) O1 else BL g n env m O1 .Or (e' :: es) Q) : BL g n env m O .Or (e :: e' :: es) Q := fun F A s pos ok S L => by
  show wpAny _ A (do
    let v ← eval e env
    standAt pos
    let t ← holding [v] (truthy v)
    match BoolOp.Or, t with
    | .And, false | .Or, true => pure v
    | _, _ => boolOp pos .Or (evalEach (e' :: es) env)) _ _ s
  refine wpAny_bind (wpAny_mono (h F A s ok S L) (fun u s1 ⟨v, O1, N1, S1, R1, b, hv, h1⟩ => ?_) fun _ _ x => x)
  subst hv
  simp only [VR] at R1; subst R1
  refine wpAny_bind (wpAny_standAt (wpAny_bind (wpAny_holding (wpAny_truthy_bool ?_))))
  cases b with
  | true => exact wpAny_pure ⟨.bool true, O1, N1, S1, by simp only [VR], h1⟩
  | false => exact wpAny_mono (h1 F A s1 pos ok S1 (L.nxt N1)) (fun u s2 q => q.chain N1) fun _ _ x => x
theorem bl_and {e e' es} {Q : V → Led → Prop} (h : EW g n env m O e fun v O1 => ∃ b, v = .bool b ∧ if b = true then BL g n env m O1 .And (e' :: es) Q else Q (.bool false) O1) : BL g n env m O .And (e :: e' :: es) Q := fun F A s pos ok S L => by
  show wpAny _ A (do
    let v ← eval e env
    standAt pos
    let t ← holding [v] (truthy v)
    match BoolOp.And, t with
    | .And, false | .Or, true => pure v
    | _, _ => boolOp pos .And (evalEach (e' :: es) env)) _ _ s
  refine wpAny_bind (wpAny_mono (h F A s ok S L) (fun u s1 ⟨v, O1, N1, S1, R1, b, hv, h1⟩ => ?_) fun _ _ x => x)
  subst hv
  simp only [VR] at R1; subst R1
  refine wpAny_bind (wpAny_standAt (wpAny_bind (wpAny_holding (wpAny_truthy_bool ?_))))
  cases b with
  | false => exact wpAny_pure ⟨.bool false, O1, N1, S1, by simp only [VR], h1⟩
  | true => exact wpAny_mono (h1 F A s1 pos ok S1 (L.nxt N1)) (fun u s2 q => q.chain N1) fun _ _ x => x
theorem ew_unary {op e pos} {Q : V → Led → Prop} (h : EW g n env m O e fun v O1 => W1 g n (unaryOp op) v O1 Q) : EW g n env m O (.UnaryOp op e pos) Q := fun F A s ok S L => by
  refine wpAny_UnaryOp (wpAny_mono (h F A s ok S L) (fun u s1 ⟨v, O1, N1, S1, R1, h1⟩ => ?_) fun _ _ x => x)
  exact wpAny_mono (h1 F A s1 u ok S1 R1) (fun u s2 q => q.chain N1) fun _ _ x => x
theorem w1_neg {a : Int} {Q : V → Led → Prop} (q : Q (.int (-a)) O) : W1 g n (unaryOp .USub) (.int a) O Q := fun F A s u ok S R => by
  simp only [VR] at R; obtain ⟨_, rfl⟩ := R
  exact neg_int (EP.tok S (by simp only [VR]; exact ⟨_, rfl⟩) q)

-- lists glued
theorem w2_addl {a b : List V} {Q : V → Led → Prop} (hl : a.length + b.length ≤ 100000) (q : Q (.lst (a ++ b)) O) : W2 g n (binaryOp .Add) (.lst a) (.lst b) O Q := fun F A s u v ok S R1 R2 => by
  simp only [VR] at R1 R2
  obtain ⟨x, us, rfl, _, ⟨⟨cls, dd, data, sl⟩, ho, hc, k, hd⟩, r1⟩ := R1
  obtain ⟨y, vs, rfl, _, ⟨⟨cls2, dd2, data2, sl2⟩, ho2, hc2, k2, hd2⟩, r2⟩ := R2
  simp only at hc hd hc2 hd2
  subst hc hd hc2 hd2
  have e : us.toArray ++ vs.toArray = (us ++ vs).toArray := by simp
  refine concat_meets ⟨_, ho, rfl⟩ ⟨_, ho2, rfl⟩ noFill_list_add seq_list_add PySem.F.slot_list_add PySem.F.entry_list_add (PySem.F.args_list_add_2 _ _) (list_addW x y us.toArray vs.toArray k k2 dd dd2 sl sl2 (by rw [sizeLine_eq]; simp only [List.size_toArray, r1.length, r2.length]; omega)) ⟨ho, ho2, ?_⟩
  rw [e]
  exact EP.push (t := s.toks) S (vr_lst S (r1.append r2)) q
/-- one side still turns -/
theorem w2_addl_ref {x : Addr} {a b : List V} {Q : V → Led → Prop} (hx : (x, AO.list a) ∈ O) (hl : a.length + b.length ≤ 100000) (q : Q (.lst (a ++ b)) O) : W2 g n (binaryOp .Add) (.ref x) (.lst b) O Q := fun F A s u v ok S R1 R2 => by
  simp only [VR] at R1 R2
  subst R1
  obtain ⟨us, k, ho, r1⟩ := S.obj _ hx
  obtain ⟨y, vs, rfl, _, ⟨⟨cls2, dd2, data2, sl2⟩, ho2, hc2, k2, hd2⟩, r2⟩ := R2
  simp only at hc2 hd2
  subst hc2 hd2
  have e : us.toArray ++ vs.toArray = (us ++ vs).toArray := by simp
  refine concat_meets ⟨_, ho, rfl⟩ ⟨_, ho2, rfl⟩ noFill_list_add seq_list_add PySem.F.slot_list_add PySem.F.entry_list_add (PySem.F.args_list_add_2 _ _) (list_addW x y us.toArray vs.toArray k k2 _ dd2 _ sl2 (by rw [sizeLine_eq]; simp only [List.size_toArray, r1.length, r2.length]; omega)) ⟨ho, ho2, ?_⟩
  rw [e]
  exact EP.push (t := s.toks) S (vr_lst S (r1.append r2)) q
/-- the new list is to turn -/
theorem w2_addlN {a : V} {al : List V} {b : List V} {Q : V → Led → Prop} (ha : a = .lst al ∨ ∃ x, a = .ref x ∧ (x, AO.list al) ∈ O) (hl : al.length + b.length ≤ 100000) (q : ∀ x, Q (.ref x) ((x, .list (al ++ b)) :: O)) : W2 g n (binaryOp .Add) a (.lst b) O Q := fun F A s u v ok S R1 R2 => by
  have hR : ∃ x us k dd sl, u = .ref x ∧ s.heap.get? x = some { cls := .type "list", dict := dd, data := .seq us.toArray k, slots := sl } ∧ VRs g.w (dm O ++ F) s.heap al us := by
    rcases ha with rfl | ⟨x, rfl, hx⟩
    · simp only [VR] at R1
      obtain ⟨x, us, rfl, _, ⟨⟨cls, dd, data, sl⟩, ho, hc, k, hd⟩, r1⟩ := R1
      simp only at hc hd
      subst hc hd
      exact ⟨x, us, k, dd, sl, rfl, ho, r1⟩
    · simp only [VR] at R1; subst R1
      obtain ⟨us, k, ho, r1⟩ := S.obj _ hx
      exact ⟨x, us, k, _, _, rfl, ho, r1⟩
  obtain ⟨x, us, k, dd, sl, rfl, ho, r1⟩ := hR
  simp only [VR] at R2
  obtain ⟨y, vs, rfl, _, ⟨⟨cls2, dd2, data2, sl2⟩, ho2, hc2, k2, hd2⟩, r2⟩ := R2
  simp only at hc2 hd2
  subst hc2 hd2
  have e : us.toArray ++ vs.toArray = (us ++ vs).toArray := by simp
  refine concat_meets ⟨_, ho, rfl⟩ ⟨_, ho2, rfl⟩ noFill_list_add seq_list_add PySem.F.slot_list_add PySem.F.entry_list_add (PySem.F.args_list_add_2 _ _) (list_addW x y us.toArray vs.toArray k k2 dd dd2 sl sl2 (by rw [sizeLine_eq]; simp only [List.size_toArray, r1.length, r2.length]; omega)) ⟨ho, ho2, ?_⟩
  rw [e]
  exact EP.new (t := s.toks) S (or_list (r1.append r2)) q
-- slices
inductive PWP (g : Gr) (F : List Addr) (O : Led) (Q : Option Int → Led → Prop) (s : Shared) (u : Value) (s' : Shared) : Prop
  | mk (k : Option Int) (O' : Led) (N : Nxt [] (dm O ++ F) (dm O' ++ F) s s') (S : St g F O' s'.heap) (e : match k with | none => u = .none | some i => ∃ t, u = .int i t) (q : Q k O')
noncomputable def PW (g : Gr) (n : Lv) (env : Env) (m : Loc) (O : Led) (e : Option Expr) (Q : Option Int → Led → Prop) : Prop :=
  ∀ F A s, Ok n A → St g F O s.heap → LR g F O s.heap env m → wpAny (model prg g.w) A (evalPart e env) (PWP g F O Q s) (fun _ _ => False) s
theorem pw_none {Q : Option Int → Led → Prop} (q : Q none O) : PW g n env m O none Q := fun F A s ok S L => wpAny_pure ⟨none, O, Nxt.refl, S, rfl, q⟩
theorem pw_some {e : Expr} {Q : Option Int → Led → Prop} (h : EW g n env m O e fun v O1 => ∃ i, v = .int i ∧ Q (some i) O1) : PW g n env m O (some e) Q := fun F A s ok S L =>
  wpAny_mono (h F A s ok S L) (fun u s1 ⟨v, O1, N1, S1, R1, i, hv, q⟩ => by subst hv; simp only [VR] at R1; exact ⟨some i, O1, N1, S1, R1, q⟩) fun _ _ x => x
theorem isPart_of {k : Option Int} {u : Value} (h : match k with | none => u = .none | some i => ∃ t, u = .int i t) : IsPart u k := by
  cases k with
  | none => subst h; exact .none
  | some i => obtain ⟨t, rfl⟩ := h; exact .int i t

noncomputable def slV {α : Type} (l : List α) (lo hi : Option Int) : List α := (l.drop (lo.elim 0 (clipAt l.length))).take (hi.elim l.length (clipAt l.length) - lo.elim 0 (clipAt l.length))
theorem VRs.slV {w : World} {X : List Addr} {h : Heap} {l : List V} {us : List Value} {lo hi : Option Int} (r : VRs w X h l us) : VRs w X h (slV l lo hi) (slV us lo hi) := by
  unfold Mine.slV
  rw [r.length]
  exact (r.drop _).take _
theorem ew_slice {value : Expr} {lo hi : Option Expr} {p pos} {Q : V → Led → Prop} (h : EW g n env m O value fun v O1 => ∃ l, v = .lst l ∧ l.length ≤ 100000 ∧ PW g n env m O1 lo fun a O2 => PW g n env m O2 hi fun b O3 => Q (.lst (slV l a b)) O3)
    (ht : ∀ o r, letTemporaryGo value o r = pure () := by intro _ _; rfl) : EW g n env m O (.Subscript value (.Slice lo hi none p) pos) Q := fun F A s ok S L => by
  refine wpAny_Subscript_list_slice (wpAny_mono (h F A s ok S L) (fun u s1 ⟨v, O1, N1, S1, R1, l, hv, hl, h1⟩ => ?_) fun _ _ x => x) ht
  subst hv
  refine wpAny_mono (h1 F A s1 ok S1 (L.nxt N1)) (fun ua s2 ⟨a, O2, N2, S2, pa, h2⟩ => ?_) fun _ _ x => x
  refine wpAny_mono (h2 F A s2 ok S2 ((L.nxt N1).nxt N2)) (fun ub s3 ⟨b, O3, N3, S3, pb, h3⟩ => ?_) fun _ _ x => x
  have R3 := (R1.nxt N2).nxt N3
  simp only [VR] at R3
  obtain ⟨x, us, rfl, hx, hL, r⟩ := R3
  refine ⟨x, us.toArray, a, b, rfl, hL, by rw [sizeLine_eq, List.size_toArray, r.length]; omega, isPart_of pa, isPart_of pb, ?_⟩
  rw [slicePick_plain]
  simp only [List.size_toArray, r.length]
  have e : (us.drop (a.elim 0 (clipAt l.length))).take (b.elim l.length (clipAt l.length) - a.elim 0 (clipAt l.length)) = slV us a b := by unfold slV; rw [r.length]
  rw [e]
  have N4 : Nxt [] (dm O3 ++ F) (dm O3 ++ F) s3 { s3 with heap := s3.heap.push { cls := .type "slice", data := .fields #[ua, ub, .none] } } := ⟨⟨_, _, rfl⟩, kept_push _, .refl⟩
  have S4 := S3.grow N4.kept
  have := EP.chain (Q := Q) ((N1.trans N2).trans N3) (EP.chain N4 (EP.push (t := s3.toks) S4 (vr_lst S4 (r.slV.nxt N4)) h3))
  rw [Heap.size_push] at this
  exact this
/-- the whole list from behind -/
theorem ew_rev {value st : Expr} {p pos} {Q : V → Led → Prop} (h : EW g n env m O value fun v O1 => ∃ l, v = .lst l ∧ l.length ≤ 100000 ∧ EW g n env m O1 st fun c O2 => c = .int (-1) ∧ Q (.lst l.reverse) O2)
    (ht : ∀ o r, letTemporaryGo value o r = pure () := by intro _ _; rfl) : EW g n env m O (.Subscript value (.Slice none none (some st) p) pos) Q := fun F A s ok S L => by
  refine wpAny_Subscript_Slice_step (T := "list") list_getitem_lookup (wpAny_mono (h F A s ok S L) (fun u s1 ⟨v, O1, N1, S1, R1, l, hv, hl, h1⟩ => ?_) fun _ _ x => x) ht
  subst hv
  refine wpAny_Slice ?_
  rw [evalPart_none]
  refine wpAny_pure (wpAny_pure ?_)
  refine wpAny_mono (h1 F A s1 ok S1 (L.nxt N1)) (fun uc s2 ⟨c, O2, N2, S2, R2, hc, q⟩ => ?_) fun _ _ x => x
  subst hc
  simp only [VR] at R2
  obtain ⟨t, rfl⟩ := R2
  have R3 := R1.nxt N2
  simp only [VR] at R3
  obtain ⟨x, us, rfl, hx, hL, r⟩ := R3
  refine ⟨(hL.push _).typeIs, wpAny_getItem_list_slice (hL.push _) (Heap.IsSliceOf.new ..) .none .none (.int (-1) t) (by decide) ?_ (by rw [sizeLine_eq, List.size_toArray, r.length]; omega)⟩
  rw [krv_pick]
  have N4 : Nxt [] (dm O2 ++ F) (dm O2 ++ F) s2 { s2 with heap := s2.heap.push { cls := .type "slice", data := .fields #[.none, .none, .int (-1) t] } } := ⟨⟨_, _, rfl⟩, kept_push _, .refl⟩
  have S4 := S2.grow N4.kept
  exact EP.chain (Q := Q) (N1.trans N2) (EP.chain N4 (EP.push (t := s2.toks) S4 (vr_lst S4 (r.reverse.nxt N4)) q))

-- texts
theorem w2_adds {x y : Str} {Q : V → Led → Prop} (hl : x.length + y.length ≤ 100000) (q : Q (.str (x ++ y)) O) : W2 g n (binaryOp .Add) (.str x) (.str y) O Q := fun F A s u v ok S R1 R2 => by
  simp only [VR] at R1 R2; obtain ⟨_, rfl⟩ := R1; obtain ⟨_, rfl⟩ := R2
  exact PyProof.Rows.add_str (fun t' tk => EP.tok S (by simp only [VR]; exact ⟨_, rfl⟩) q) (by rw [sizeLine_eq]; omega)
theorem wl_len_str {x : Str} {Q : V → Led → Prop} (hl : x.length < 2 ^ 62) (q : Q (.int x.length) O) : WL g n (fun us => call (.builtin "len") us) [.str x] O Q := fun F A s us ok S R => by
  simp only [VRs, VR] at R
  obtain ⟨u, us', rfl, ⟨t, rfl⟩, rfl⟩ := R
  exact PyProof.Rows.len_str (by omega) (EP.tok S (by simp only [VR]; exact ⟨_, rfl⟩) q)
theorem w2_les {x y : Str} {Q : V → Led → Prop} (q : Q (.bool (!(y.cps.toList < x.cps.toList))) O) : W2 g n (compareOp .LtE) (.str x) (.str y) O Q := fun F A s u v ok S R1 R2 => by
  simp only [VR] at R1 R2; obtain ⟨_, rfl⟩ := R1; obtain ⟨_, rfl⟩ := R2
  exact PySem.P.le_str (EP.same S (by simp only [VR]) q)
theorem w2_ins {x y : Str} {Q : V → Led → Prop} (q : Q (.bool !(Builtin.Str.occurrences x y 0 x.length 1).isEmpty) O) : W2 g n (compareOp .In) (.str y) (.str x) O Q := fun F A s u v ok S R1 R2 => by
  simp only [VR] at R1 R2; obtain ⟨_, rfl⟩ := R1; obtain ⟨_, rfl⟩ := R2
  exact PyProof.Rows.in_str (EP.same S (by simp only [VR]) q)
theorem w2_notins {x y : Str} {Q : V → Led → Prop} (q : Q (.bool (!(!(Builtin.Str.occurrences x y 0 x.length 1).isEmpty))) O) : W2 g n (compareOp .NotIn) (.str y) (.str x) O Q := fun F A s u v ok S R1 R2 => by
  simp only [VR] at R1 R2; obtain ⟨_, rfl⟩ := R1; obtain ⟨_, rfl⟩ := R2
  exact PyProof.Rows.notIn_str (EP.same S (by simp only [VR]) q)
theorem wl_ord {x : Str} {Q : V → Led → Prop} (hx : x.length = 1) (q : Q (.int (x.cps.getD 0 0)) O) : WL g n (fun us => call (.builtin "ord") us) [.str x] O Q := fun F A s us ok S R => by
  simp only [VRs, VR] at R
  obtain ⟨u, us', rfl, ⟨t, rfl⟩, rfl⟩ := R
  exact ord_of_one hx (EP.tok S (by simp only [VR]; exact ⟨_, rfl⟩) q)
theorem w2_item_str {value slice : Expr} {x : Str} {i : Int} {c : Nat} {Q : V → Led → Prop} (h0 : 0 ≤ i) (hi : i < 2 ^ 63) (hc : x.cps[i.toNat]? = some c) (q : Q (.str ⟨#[c]⟩) O)
    (hs : ∀ (o i : Value), subscripted slice false o i = operate [o, i] (getItem o i) := by intro _ _; with_unfolding_all rfl) : W2 g n (subscriptTail value slice) (.str x) (.int i) O Q := fun F A s u v ok S R1 R2 => by
  simp only [VR] at R1 R2; obtain ⟨t, rfl⟩ := R1; obtain ⟨t2, rfl⟩ := R2
  have hlt : i.toNat < x.length := by
    have := (Array.getElem?_eq_some_iff.mp hc).1
    exact this
  have hs' : seqIndex? i x.length = some i.toNat := by
    unfold seqIndex?
    simp only [show ¬ i < 0 by omega, if_false]
    simp <;> omega
  exact tail_any (typeIs_str s x t) PySem.F.slot_str_getitem.lookup (PySem.P.getItem_str (c := c) (by simp; omega) (by rw [hs']; exact hc) (EP.tok S (by simp only [VR]; exact ⟨_, rfl⟩) q)) (hs _ _)
theorem str_pick (x : Str) (lo hi : Option Int) : (Builtin.Str.strSliceIndices lo hi 1 x.length).filterMap (x.cps[·]?) = slV x.cps.toList lo hi := by
  have e : Builtin.Str.strSliceIndices lo hi 1 x.length = sliceRange (sliceBounds lo hi none x.length).1 (sliceBounds lo hi none x.length).2.1 (sliceBounds lo hi none x.length).2.2 := by
    cases lo <;> cases hi <;> rfl
  rw [e, sliceBounds_plain]
  simp only [sliceRange_one, pick_run]
  unfold slV
  have : x.length = x.cps.toList.length := by simp [Str.length]
  rw [this]
theorem str_picked_len (x : Str) (lo hi : Option Int) (h : (Builtin.Str.strSliceIndices lo hi 1 x.length).length = x.length) : slV x.cps.toList lo hi = x.cps.toList := by
  have e : Builtin.Str.strSliceIndices lo hi 1 x.length = sliceRange (sliceBounds lo hi none x.length).1 (sliceBounds lo hi none x.length).2.1 (sliceBounds lo hi none x.length).2.2 := by
    cases lo <;> cases hi <;> rfl
  rw [e, sliceBounds_plain] at h
  simp only [sliceRange_one, List.length_map, List.length_range] at h
  have cl : ∀ i, clipAt x.length i ≤ x.length := fun i => by have := clipAt_cast x.length i; omega
  have hx : x.cps.toList.length = x.length := by simp [Str.length]
  have hh : hi.elim x.length (clipAt x.length) ≤ x.length := by cases hi <;> simp [cl]
  unfold slV
  rw [hx]
  generalize hi.elim x.length (clipAt x.length) = b at *
  generalize lo.elim 0 (clipAt x.length) = a at *
  rcases Nat.eq_zero_or_pos x.length with h0 | h0
  · have : x.cps.toList = [] := List.eq_nil_of_length_eq_zero (hx.trans h0)
    rw [this]; simp
  · have : a = 0 := by omega
    subst this
    rw [List.drop_zero, List.take_of_length_le (by omega)]
theorem ew_slice_str {value : Expr} {lo hi : Option Expr} {p pos} {Q : V → Led → Prop} (h : EW g n env m O value fun v O1 => ∃ x, v = .str x ∧ x.length ≤ 100000 ∧ PW g n env m O1 lo fun a O2 => PW g n env m O2 hi fun b O3 => Q (.str ⟨(slV x.cps.toList a b).toArray⟩) O3)
    (ht : ∀ o r, letTemporaryGo value o r = pure () := by intro _ _; rfl) : EW g n env m O (.Subscript value (.Slice lo hi none p) pos) Q := fun F A s ok S L => by
  refine wpAny_Subscript_str_slice (wpAny_mono (h F A s ok S L) (fun u s1 ⟨v, O1, N1, S1, R1, x, hv, hl, h1⟩ => ?_) fun _ _ x => x) ht
  subst hv
  refine wpAny_mono (h1 F A s1 ok S1 (L.nxt N1)) (fun ua s2 ⟨a, O2, N2, S2, pa, h2⟩ => ?_) fun _ _ x => x
  refine wpAny_mono (h2 F A s2 ok S2 ((L.nxt N1).nxt N2)) (fun ub s3 ⟨b, O3, N3, S3, pb, q⟩ => ?_) fun _ _ x => x
  simp only [VR] at R1
  obtain ⟨t, rfl⟩ := R1
  have part : ∀ {k : Option Int} {u : Value}, (match k with | none => u = .none | some i => ∃ t, u = .int i t) → ∃ k' : Option (Int × Nat), u = partValue k' ∧ k'.map (·.1) = k := fun {k u} h => by
    cases k with
    | none => subst h; exact ⟨none, rfl, rfl⟩
    | some i => obtain ⟨t, rfl⟩ := h; exact ⟨some (i, t), rfl, rfl⟩
  obtain ⟨a', ea, ea'⟩ := part pa
  obtain ⟨b', eb, eb'⟩ := part pb
  refine ⟨x, t, a', b', rfl, ea, eb, ?_⟩
  have N4 : Nxt [] (dm O3 ++ F) (dm O3 ++ F) s3 { s3 with heap := s3.heap.push { cls := .type "slice", data := .fields #[ua, ub, .none] } } := ⟨⟨_, _, rfl⟩, kept_push _, .refl⟩
  have S4 := S3.grow N4.kept
  have e0 : slicePicked x a' b' none = Builtin.Str.strSliceIndices a b 1 x.length := by unfold slicePicked; rw [ea', eb']; rfl
  have e1 : ((slicePicked x a' b' none).filterMap (x.cps[·]?)) = slV x.cps.toList a b := by rw [e0, str_pick]
  have len : (slV x.cps.toList a b).length ≤ x.length := by
    unfold slV
    have : x.cps.toList.length = x.length := by simp [Str.length]
    rw [List.length_take, List.length_drop, this]; exact Nat.le_trans (Nat.min_le_right _ _) (Nat.sub_le _ _)
  have fin : ∀ u s', EP g F O3 { s3 with heap := s3.heap.push { cls := .type "slice", data := .fields #[ua, ub, .none] } } Q u s' → EP g F O s Q u s' := fun u s' q => EP.chain ((N1.trans N2).trans N3) (EP.chain N4 q)
  unfold sliceMade
  split
  · rename_i hc
    have hc' : (slicePicked x a' b' none).length = x.length := by simpa using hc
    have whole : slV x.cps.toList a b = x.cps.toList := str_picked_len x a b (by rw [← e0]; exact hc')
    show EP g F O s Q (.str x t) _
    exact fin _ _ (EP.same S4 (v := .str ⟨(slV x.cps.toList a b).toArray⟩) (by simp only [VR]; exact ⟨t, by rw [whole]⟩) q)
  · show _ ∧ _
    refine ⟨by rw [e1, sizeLine_eq]; show (slV x.cps.toList a b).toArray.size ≤ _; rw [List.size_toArray]; omega, fin _ _ (EP.tok S4 (by simp only [VR]; exact ⟨_, by rw [e1]⟩) q)⟩

-- methods
/-- a method of a built-in type, met on a value -/
noncomputable def MG (g : Gr) (n : Lv) (v : V) (name : Str) (id : String) (O : Led) : Prop :=
  ∀ F A s u pl (Q : Value × List Value → Shared → Prop), Ok n A → St g F O s.heap → VR g.w (dm O ++ F) s.heap v u → Q (.builtin id, [u]) s → wpAny (model prg g.w) A (getMethod u name pl) Q (fun _ _ => False) s
theorem mg_str {x : Str} {name : Str} {id : String} (slot : Slot "str" name id) (ty : typeOf (.builtin id) = pure (.type "method_descriptor")) : MG g n (.str x) name id O := fun F A s u pl Q ok S R hq => by
  simp only [VR] at R; obtain ⟨t, rfl⟩ := R
  exact getMethod_builtin (typeIs_str s x t) PySem.F.plainAttrs_str slot ty (fun a e => by cases e) hq
theorem ew_meth {pl : Env → Sem Bool} {o : Expr} {name : Str} {apos pos : Pos} {e : Expr} {es : List Expr} {id : String} {Q : V → Led → Prop}
    (h : EW g n env m O o fun ov O1 => MG g n ov name id O1 ∧ LW g n env m O1 (e :: es) fun vs O2 => WL g n (fun us => call (.builtin id) us) (ov :: vs) O2 Q)
    (he : ∀ env : Env, eval (.Call (.Attribute o name apos) (e :: es) [] pos) env = (do
      let ov ← eval o env
      standAt apos.atName
      let (f, first) ← holding [ov] (getMethod ov name (pl env))
      callWith pos f first (backTo pos (starEach (e :: es) env)) []) := by intro _; rfl)
    (hs : ∀ (env : Env), starEach (e :: es) env = (false, eval e env) :: starEach es env := by intro _; rfl)
    (hp : ∀ (env : Env) pos, (backTo pos (starEach es env)).any (·.1) = false := by intro _ _; rfl) : EW g n env m O (.Call (.Attribute o name apos) (e :: es) [] pos) Q := fun F A s ok S L => by
  refine MethodCall_ (pl := pl env) (wpAny_mono (h F A s ok S L) (fun u s1 ⟨ov, O1, N1, S1, R1, hm, h1⟩ => ?_) fun _ _ x => x) (he env)
  refine hm F A s1 u _ _ ok S1 R1 ?_
  refine callWith_method1 (wpAny_mono (h1 F A s1 pos ok S1 (L.nxt N1)) (fun us s2 ⟨hl, vs, O2, N2, S2, R2, h2⟩ => ?_) fun _ _ x => x) (hs env) (hp env pos)
  exact wpAny_mono (h2 F A s2 _ ok S2 (.cons (R1.nxt N2) R2)) (fun u s3 q => q.chain (N1.trans N2)) fun _ _ x => x
theorem wl_find3 {x y : Str} {i : Int} {Q : V → Led → Prop} (q : Q (.int (Txt.find3 x y i)) O) : WL g n (fun us => call (.builtin "str.find") us) [.str x, .str y, .int i] O Q := fun F A s us ok S R => by
  simp only [VRs, VR] at R
  obtain ⟨_, _, rfl, ⟨_, rfl⟩, _, _, rfl, ⟨_, rfl⟩, _, _, rfl, ⟨_, rfl⟩, rfl⟩ := R
  exact SC.find3 (EP.tok S (by simp only [VR]; exact ⟨_, rfl⟩) q)
theorem strsAre_of {w : World} {X : List Addr} {h : Heap} : ∀ {ys : List Str} {us : List Value}, VRs w X h (ys.map .str) us → StrsAre us ys
  | [], us, r => by simp only [List.map_nil, VRs] at r; subst r; exact .nil
  | y :: ys, us, r => by
    simp only [List.map_cons, VRs, VR] at r
    obtain ⟨_, us', rfl, ⟨t, rfl⟩, r⟩ := r
    exact .cons y t (strsAre_of r)
theorem wl_join {x : Str} {ys : List Str} {Q : V → Led → Prop} (hl : (ys.map (·.length)).sum + ys.length * x.length ≤ 16777216) (q : Q (.str (Txt.join x ys)) O) : WL g n (fun us => call (.builtin "str.join") us) [.str x, .lst (ys.map .str)] O Q := fun F A s us ok S R => by
  simp only [VRs, VR] at R
  obtain ⟨_, _, rfl, ⟨_, rfl⟩, _, _, rfl, ⟨a, us, rfl, _, hL, r⟩, rfl⟩ := R
  exact join_list hL (by simpa using strsAre_of r) hl fun t' k => EP.tok S (by simp only [VR]; exact ⟨_, rfl⟩) q
end
end Mine

-- A7
namespace Mine
open PySem PySem.Calls PySem.W PyProof.Rows

/-- one object of the ledger turns -/
inductive UpdO : Led → Addr → AO → AO → Led → Prop
  | here {O a ao ao'} : UpdO ((a, ao) :: O) a ao ao' ((a, ao') :: O)
  | there {O O' a ao ao' p} : UpdO O a ao ao' O' → UpdO (p :: O) a ao ao' (p :: O')
theorem UpdO.dm {O O' : Led} {a ao ao'} (h : UpdO O a ao ao' O') : dm O' = dm O := by
  induction h with
  | here => rfl
  | there _ ih => simp only [Mine.dm, List.map_cons] at ih ⊢; rw [ih]
theorem UpdO.mem {O O' : Led} {a ao ao'} (h : UpdO O a ao ao' O') : (a, ao) ∈ O := by
  induction h with
  | here => exact .head _
  | there _ ih => exact .tail _ ih
theorem UpdO.cases {O O' : Led} {a ao ao'} (h : UpdO O a ao ao' O') (hd : (Mine.dm O).Nodup) : ∀ p ∈ O', p = (a, ao') ∨ (p ∈ O ∧ p.1 ≠ a) := by
  induction h with
  | @here O a ao ao' =>
    intro p hp
    rcases List.mem_cons.mp hp with rfl | hp
    · exact .inl rfl
    · refine .inr ⟨.tail _ hp, fun e => ?_⟩
      have h0 : a ∉ Mine.dm O := (List.nodup_cons.mp hd).1
      exact h0 (List.mem_map.mpr ⟨p, hp, e⟩)
  | @there O O' a ao ao' q hu ih =>
    intro p hp
    have hd' := List.nodup_cons.mp hd
    rcases List.mem_cons.mp hp with rfl | hp
    · exact .inr ⟨.head _, fun e => hd'.1 (List.mem_map.mpr ⟨_, hu.mem, e.symm⟩)⟩
    · exact (ih hd'.2 p hp).imp id fun ⟨x, y⟩ => ⟨.tail _ x, y⟩

section
variable {g : Gr} {F : List Addr} {O O1 O' : Led} {s s1 : Shared} {n : Lv} {env : Env} {m m1 : Loc}

theorem St.mut {h h' : Heap} {a ao ao'} (S : St g F O h) (hu : UpdO O a ao ao' O') (hk : Kept [a] h h') (r : OR g.w (dm O ++ F) h' a ao') : St g F O' h' := by
  have ha : a ∈ dm O := List.mem_map_of_mem hu.mem
  have kX : Kept (dm O ++ F) h h' := fun b o hb e => hk b o (fun z => hb (by rw [List.mem_singleton.mp z]; exact List.mem_append.mpr (.inl ha))) e
  refine ⟨fun b o e => hk b o (fun z => ?_) (S.keep b o e), by rw [hu.dm]; exact S.fresh, by rw [hu.dm]; exact S.nodup, by rw [hu.dm]; exact S.disj, fun b hb => ?_, fun p hp => ?_⟩
  · rw [List.mem_singleton.mp z, S.fresh a (List.mem_append.mpr (.inl ha))] at e; cases e
  · obtain ⟨o, e⟩ := S.thereF b hb
    exact ⟨o, hk b o (fun z => S.disj a ha (by rw [← List.mem_singleton.mp z]; exact hb)) e⟩
  · rw [hu.dm]
    rcases hu.cases S.nodup p hp with rfl | ⟨h1, h2⟩
    · exact r
    · exact (S.obj p h1).mono kX .refl fun o e => hk _ o (fun z => h2 (List.mem_singleton.mp z)) e
theorem SP.mut {Q : Fl → Loc → Led → Prop} {h' : Heap} {tk : Nat} {a ao ao'} (S : St g F O s.heap) (L : LR g F O s.heap env m) (hu : UpdO O a ao ao' O') (hk : Kept [a] s.heap h') (r : OR g.w (dm O ++ F) h' a ao') (q : Q .next m O') : SP g F env O s Q .next { s with heap := h', toks := tk } := by
  have ha : a ∈ dm O := List.mem_map_of_mem hu.mem
  have kX : Kept (dm O ++ F) s.heap h' := fun b o hb e => hk b o (fun z => hb (by rw [List.mem_singleton.mp z]; exact List.mem_append.mpr (.inl ha))) e
  have ow : ∀ b, b ∈ ownA env → b ∉ [a] := fun b hb z => S.disj a ha (L.inF a (by rw [← List.mem_singleton.mp z]; exact hb))
  refine ⟨.next, m, O', ⟨⟨_, _, rfl⟩, fun b o hb e => hk b o (fun z => hb (by rw [List.mem_singleton.mp z]; exact List.mem_append.mpr (.inl ha))) e, by rw [hu.dm]; exact .refl⟩, S.mut hu hk r, ?_, rfl, q⟩
  obtain ⟨mc, hn, hv⟩ := L.ns
  have cl : ∀ c, c ∈ env.cells.map (·.2) → ∀ v, s.heap.IsCell c v → h'.IsCell c v := fun c hc v ⟨o, e, d⟩ => ⟨o, hk _ _ (ow c (.tail _ hc)) e, d⟩
  refine ⟨L.fn, L.gl, L.bl, L.inF, L.ond, L.nd, fun c hc => let ⟨v0, e⟩ := L.cs c hc; ⟨v0, cl c hc _ e⟩, mc, ?_, fun x v hx => ?_⟩
  · obtain ⟨o, es, ep, e, r⟩ := hn
    exact ⟨o, es, ep, hk _ _ (ow _ (.head _)) e, r⟩
  · obtain ⟨u, hu', q⟩ := hv x v hx
    rw [hu.dm]
    exact ⟨u, hu'.mono kX .refl, q.imp id fun ⟨k, c, h1, h2⟩ => ⟨k, c, h1, cl c (List.mem_map.mpr ⟨(x, c), PySem.mem_of_lookup h1, rfl⟩) _ h2⟩⟩

/-- a list's method for its own sake: append at the end, or insert there -/
theorem s1_lmeth {pl : Env → Sem Bool} {o : Expr} {name : Str} {apos pos epos : Pos} {e : Expr} {es : List Expr} {id : String} {Q : Fl → Loc → Led → Prop}
    (slot : Slot "list" name id) (ty : typeOf (.builtin id) = pure (.type "method_descriptor"))
    (h : EW g n env m O o fun ov O1 => ∃ a l, ov = .ref a ∧ (a, AO.list l) ∈ O1 ∧ LW g n env m O1 (e :: es) fun vs O2 => ∃ v l' O3, UpdO O2 a (.list l') (.list (l' ++ [v])) O3 ∧ l'.length ≤ 100000 ∧ Q .next m O3 ∧
      ((id = "list.append" ∧ vs = [v]) ∨ (id = "list.insert" ∧ vs = [.int l'.length, v])))
    (hi : ∀ env : Env, env.scope.kind = .function → interactive env = false := by intro env h; unfold interactive; rw [h]; rfl)
    (hw : ∀ env : Env, swapsWith (.Call (.Attribute o name apos) (e :: es) [] pos) none epos.line env = pure false := by intro _; rfl)
    (he : ∀ env : Env, eval (.Call (.Attribute o name apos) (e :: es) [] pos) env = (do
      let ov ← eval o env
      standAt apos.atName
      let (f, first) ← holding [ov] (getMethod ov name (pl env))
      callWith pos f first (backTo pos (starEach (e :: es) env)) []) := by intro _; rfl)
    (hs : ∀ (env : Env), starEach (e :: es) env = (false, eval e env) :: starEach es env := by intro _; rfl)
    (hp : ∀ (env : Env) pos, (backTo pos (starEach es env)).any (·.1) = false := by intro _ _; rfl) : S1 g n env m O (.Expr (.Call (.Attribute o name apos) (e :: es) [] pos) epos) Q := fun F A s ok S L => by
  refine wpAny_Expr ?_ (hi env L.fn) (hw env)
  refine MethodCall_ (pl := pl env) (wpAny_mono (h F A s ok S L) (fun u s1 ⟨ov, O1, N1, S1, R1, a, l, hv, hx, h1⟩ => ?_) fun _ _ x => x) (he env)
  subst hv
  simp only [VR] at R1; subst R1
  obtain ⟨us0, k0, ho0, r0⟩ := S1.obj _ hx
  refine getMethod_builtin ho0.isList.typeIs PySem.F.plainAttrs_list slot ty (fun a e => by cases e; exact ⟨_, ho0, rfl⟩) ?_
  refine callWith_method1 (wpAny_mono (h1 F A s1 pos ok S1 (L.nxt N1)) (fun us s2 ⟨hl, vs, O2, N2, S2, R2, v, l', O3, hu, hlen, q, hid⟩ => ?_) fun _ _ x => x) (hs env) (hp env pos)
  obtain ⟨us', k, ho, r⟩ := S2.obj _ hu.mem
  have L2 := (L.nxt N1).nxt N2
  have fin : ∀ u', VR g.w (dm O2 ++ F) s2.heap v u' → ∀ (f : Array Value → Array Value), f us'.toArray = (us' ++ [u']).toArray →
      SP g F env O s Q .next { s2 with heap := s2.heap.update a (Obj.mapSeq f), toks := s2.toks } := fun u' rv f hf => by
    refine SP.chain L.inF S S2 (N1.trans N2).weak (SP.mut S2 L2 hu (kept_same (Heap.SameBut.update ..)) ⟨us' ++ [u'], _, by rw [← hf]; exact IsL.update ho f, ?_⟩ q)
    exact (r.append (.cons rv .nil)).mono (fun b o hb e => kept_same (Heap.SameBut.update ..) b o (fun z => hb (by rw [List.mem_singleton.mp z]; exact List.mem_append.mpr (.inl (List.mem_map_of_mem hu.mem)))) e) .refl
  have hsz : us'.toArray.size ≤ sizeLine := by rw [sizeLine_eq, List.size_toArray, r.length]; omega
  rcases hid with ⟨rfl, rfl⟩ | ⟨rfl, rfl⟩
  · simp only [VRs] at R2
    obtain ⟨u', _, rfl, rv, rfl⟩ := R2
    refine call_meets PySem.F.slot_list_append ho.isList.typeIs PySem.F.entry_list_append (PySem.F.args_list_append_2 _ _) (PySem.list_append a us'.toArray k u' hsz) ⟨ho, ?_⟩
    exact fin u' rv _ (List.push_toArray ..)
  · simp only [VRs, VR] at R2
    obtain ⟨_, _, rfl, ⟨t, rfl⟩, u', _, rfl, rv, rfl⟩ := R2
    have hf : ¬ (!Builtin.List.listFitsIndex (l'.length : Int)) = true := by
      have : Builtin.List.listFitsIndex (l'.length : Int) = true := by
        unfold Builtin.List.listFitsIndex
        simp <;> omega
      rw [this]; decide
    have go : ∀ x : Int, x = l'.length → ¬ (!Builtin.List.listFitsIndex x) = true → wpAny (model prg g.w) A (call (.builtin "list.insert") [.ref a, .int x t, u']) (fun v s' => match v with | .ref _ => False | _ => SP g F env O s Q .next s') (fun _ _ => False) s2 := fun x hx hf => by
      refine call_meets PySem.F.slot_list_insert ho.isList.typeIs PySem.F.entry_list_insert (PySem.F.args_list_insert_3 _ _ _) (AutoSeq1.list_insert_list_int_val_1 a us'.toArray k x t u' hf hsz) ⟨ho, fin u' rv _ ?_⟩
      have hk : min x.toNat us'.toArray.size = us'.length := by
        have e := r.length
        rw [List.size_toArray, hx, Int.toNat_natCast, e, Nat.min_self]
      simp only [show ¬ (x < 0) by omega, if_false, hk]
      apply Array.toList_inj.mp
      simp
    exact go _ rfl hf
end
end Mine

-- A8
namespace Mine
open PySem PySem.Calls PySem.W PyProof.Rows

theorem zip_keys {α : Type} : ∀ {ks : List Int} {us : List α}, ks.length = us.length → (ks.zip us).map (·.1) = ks
  | [], [], _ => rfl
  | k :: ks, u :: us, h => by rw [List.zip_cons_cons, List.map_cons, zip_keys (by simpa using h)]
  | [], _ :: _, h => by simp at h
  | _ :: _, [], h => by simp at h
theorem stored_new {ks : List Int} {us : List Value} {k : Int} {u : Value} (h : ks.length = us.length) (hk : k ∉ ks) : stored (ks.zip us) k u = (ks ++ [k]).zip (us ++ [u]) := by
  unfold stored
  rw [if_neg, List.zip_append h]
  · rfl
  · intro q
    obtain ⟨kv, h1, h2⟩ := List.any_eq_true.mp q
    have : kv.1 ∈ (ks.zip us).map (·.1) := List.mem_map_of_mem h1
    rw [zip_keys h] at this
    have h3 : kv.1 = k := by simpa using h2
    exact hk (h3 ▸ this)
theorem stored_map : ∀ {ks : List Int} {us : List Value} {k : Int} {u : Value} {i : Nat}, ks.length = us.length → ks.Nodup → ks[i]? = some k → (ks.zip us).map (fun kv => if kv.1 = k then (kv.1, u) else kv) = ks.zip (us.set i u)
  | [], _, _, _, i, _, _, h => by simp at h
  | k0 :: ks, [], _, _, _, h, _, _ => by simp at h
  | k0 :: ks, u0 :: us, k, u, 0, h, hn, hk => by
    simp at hk; subst hk
    have hn' := List.nodup_cons.mp hn
    rw [List.zip_cons_cons, List.map_cons, if_pos rfl, List.set_cons_zero, List.zip_cons_cons]
    congr 1
    have : ∀ kv ∈ ks.zip us, (if kv.1 = k0 then (kv.1, u) else kv) = kv := fun kv hkv => by
      rw [if_neg]
      intro e
      have hm : kv.1 ∈ (ks.zip us).map (·.1) := List.mem_map_of_mem hkv
      rw [zip_keys (by simpa using h)] at hm
      exact hn'.1 (e ▸ hm)
    rw [List.map_congr_left this, List.map_id']
  | k0 :: ks, u0 :: us, k, u, i + 1, h, hn, hk => by
    have hn' := List.nodup_cons.mp hn
    have hk' : ks[i]? = some k := by simpa using hk
    have ne : ¬ k0 = k := fun e => hn'.1 (e ▸ List.mem_of_getElem? hk')
    rw [List.zip_cons_cons, List.map_cons, if_neg ne, List.set_cons_succ, List.zip_cons_cons, stored_map (by simpa using h) hn'.2 hk']
theorem stored_old {ks : List Int} {us : List Value} {k : Int} {u : Value} {i : Nat} (h : ks.length = us.length) (hn : ks.Nodup) (hk : ks[i]? = some k) : stored (ks.zip us) k u = ks.zip (us.set i u) := by
  unfold stored
  rw [if_pos, stored_map h hn hk]
  have hm : k ∈ (ks.zip us).map (·.1) := by rw [zip_keys h]; exact List.mem_of_getElem? hk
  obtain ⟨kv, h1, h2⟩ := List.mem_map.mp hm
  exact List.any_eq_true.mpr ⟨kv, h1, by simpa using h2⟩
theorem valueAt_zip : ∀ {ks : List Int} {us : List Value} {k : Int} {u : Value} {i : Nat}, ks.Nodup → ks[i]? = some k → us[i]? = some u → valueAt (ks.zip us) k = some u
  | [], _, _, _, i, _, h, _ => by simp at h
  | k0 :: ks, [], _, _, _, _, _, h => by simp at h
  | k0 :: ks, u0 :: us, k, u, 0, hn, hk, hu => by
    simp at hk hu; subst hk hu
    simp [valueAt]
  | k0 :: ks, u0 :: us, k, u, i + 1, hn, hk, hu => by
    have hn' := List.nodup_cons.mp hn
    have hk' : ks[i]? = some k := by simpa using hk
    have ne : ¬ k0 = k := fun e => hn'.1 (e ▸ List.mem_of_getElem? hk')
    have := valueAt_zip (us := us) (u := u) hn'.2 hk' (by simpa using hu)
    simp only [valueAt] at this ⊢
    rw [List.zip_cons_cons, List.find?_cons_of_neg (by simpa using ne)]
    exact this

section
variable {g : Gr} {F : List Addr} {O O1 O' : Led} {s s1 : Shared} {n : Lv} {env : Env} {m m1 : Loc}

theorem size_big (S : St g F O s.heap) : s.heap.objs.size ≠ sysModules := fun e => by
  have h := Heap.lt_size (S.keep 22 _ (g.kin 22 _ rfl))
  rw [e] at h
  exact absurd h (by decide)
theorem ew_dict {pos} {Q : V → Led → Prop} (q : ∀ a, Q (.ref a) ((a, .dict [] []) :: O)) : EW g n env m O (.Dict [] [] pos) Q := fun F A s ok S L =>
  wpAny_Dict_empty (EP.new (ao := .dict [] []) (t := s.toks) S ⟨[], 0, size_big S, ⟨_, #[], Heap.get?_push_size _ rfl, ⟨rfl, rfl, rfl⟩, rfl, fun e he => by simp at he, .nil, List.nodup_nil⟩, rfl, .nil⟩ q)
theorem dict_keys {w : World} {X : List Addr} {h : Heap} {a : Addr} {ks : List Int} {vs : List V} {us : List Value} {ep : Nat} (hd : Heap.DictAt (intKind prg w) h a (ks.zip us) ep) (hl : ks.length = us.length) : ks.Nodup := by
  have := hd.nodup
  rwa [zip_keys hl] at this
/-- a store under a key that is an int -/
inductive StQ (m : Loc) (Q : Fl → Loc → Led → Prop) (a : Addr) (v kv : V) (O3 : Led) : Prop
  | mk (k : Int) (ks : List Int) (vs : List V) (ks' : List Int) (vs' : List V) (O4 : Led) (e : kv = .int k) (u : UpdO O3 a (.dict ks vs) (.dict ks' vs') O4) (l : ks.length ≤ 100000) (q : Q .next m O4)
      (c : (k ∉ ks ∧ ks' = ks ++ [k] ∧ vs' = vs ++ [v]) ∨ ∃ j, ks[j]? = some k ∧ ks' = ks ∧ vs' = vs.set j v)
theorem s1_store {o i e : Expr} {pos' pos : Pos} {Q : Fl → Loc → Led → Prop}
    (h : EW g n env m O e fun v O1 => EW g n env m O1 o fun ov O2 => ∃ a, ov = .ref a ∧ EW g n env m O2 i fun kv O3 => StQ m Q a v kv O3)
    (hs : ∀ env : Env, swapsWith e (some (o.Subscript i pos')) pos.line env = pure false := by intro _; rfl) : S1 g n env m O (.Assign [.Subscript o i pos'] e pos) Q := fun F A s ok S L => by
  refine wpAny_Assign_Subscript (wpAny_mono (h F A s ok S L) (fun u s1 ⟨v, O1, N1, S1, R1, h1⟩ => ?_) fun _ _ x => x) (hs env)
  refine wpAny_mono (h1 F A s1 ok S1 (L.nxt N1)) (fun uo s2 ⟨ov, O2, N2, S2, R2, a, hv, h2⟩ => ?_) fun _ _ x => x
  refine wpAny_mono (h2 F A s2 ok S2 ((L.nxt N1).nxt N2)) (fun uk s3 ⟨kv, O3, N3, S3, R3, k, ks, vs, ks', vs', O4, hkv, hu, hlen, q, hcase⟩ => ?_) fun _ _ x => x
  subst hv hkv
  simp only [VR] at R2 R3; subst R2; obtain ⟨t, rfl⟩ := R3
  obtain ⟨us, ep, hm, hd, hl, r⟩ := S3.obj _ hu.mem
  have hl' : ks.length = us.length := hl.trans r.length.symm
  have hn : ks.Nodup := dict_keys (w := g.w) (X := []) (vs := vs) hd hl'
  have Rv := (R1.nxt N2).nxt N3
  have L3 := ((L.nxt N1).nxt N2).nxt N3
  refine wpAny_setItem_pairs (k := k) (intKind_is prg g.w k t) hd.dictOf (fun h' hd' hs' => ?_) (by rw [List.length_zip, sizeLine_eq]; omega)
  have kp := kept_same hs'
  have kX : Kept (dm O3 ++ F) s3.heap h' := fun b o hb e => kp b o (fun z => hb (by rw [List.mem_singleton.mp z]; exact List.mem_append.mpr (.inl (List.mem_map_of_mem hu.mem)))) e
  refine SP.chain L.inF S S3 ((N1.trans N2).trans N3).weak (SP.mut S3 L3 hu kp ?_ q)
  obtain ⟨ep', hd''⟩ := hd'.dictAt
  rcases hcase with ⟨hk, rfl, rfl⟩ | ⟨j, hj, rfl, rfl⟩
  · rw [stored_new hl' hk] at hd''
    exact ⟨us ++ [u], ep', hm, hd'', by simp [hl], (r.append (.cons Rv .nil)).mono kX .refl⟩
  · rw [stored_old hl' hn hj] at hd''
    exact ⟨us.set j u, ep', hm, hd'', by simp [hl], (r.set j Rv).mono kX .refl⟩
theorem w2_item_dict {value slice : Expr} {a : Addr} {ks : List Int} {vs : List V} {k : Int} {j : Nat} {v : V} {Q : V → Led → Prop} (ha : (a, AO.dict ks vs) ∈ O) (hk : ks[j]? = some k) (hv : vs[j]? = some v) (q : Q v O)
    (hs : ∀ (o i : Value), subscripted slice false o i = operate [o, i] (getItem o i) := by intro _ _; with_unfolding_all rfl) : W2 g n (subscriptTail value slice) (.ref a) (.int k) O Q := fun F A s u v' ok S R1 R2 => by
  simp only [VR] at R1 R2; subst R1; obtain ⟨t, rfl⟩ := R2
  obtain ⟨us, ep, hm, hd, hl, r⟩ := S.obj _ ha
  obtain ⟨x, hx, rx⟩ := r.get? hv
  have hn : ks.Nodup := dict_keys (w := g.w) (X := []) (vs := vs) hd (hl.trans r.length.symm)
  exact tail_any hd.dictOf.typeIs slot_dict_getitem.lookup (wpAny_getItem_of (intKind_is prg g.w k t) hd.dictOf.mapOf (valueAt_zip hn hk hx) (EP.tok S rx q)) (hs _ _)
theorem w2_item_dct {value slice : Expr} {ks : List Int} {vs : List V} {k : Int} {j : Nat} {v : V} {Q : V → Led → Prop} (hk : ks[j]? = some k) (hv : vs[j]? = some v) (q : Q v O)
    (hs : ∀ (o i : Value), subscripted slice false o i = operate [o, i] (getItem o i) := by intro _ _; with_unfolding_all rfl) : W2 g n (subscriptTail value slice) (.dct ks vs) (.int k) O Q := fun F A s u v' ok S R1 R2 => by
  simp only [VR] at R1 R2; obtain ⟨a, us, ep, rfl, ha, hm, hd, hl, r⟩ := R1; obtain ⟨t, rfl⟩ := R2
  obtain ⟨x, hx, rx⟩ := r.get? hv
  have hn : ks.Nodup := dict_keys (w := g.w) (X := []) (vs := vs) hd (hl.trans r.length.symm)
  exact tail_any hd.dictOf.typeIs slot_dict_getitem.lookup (wpAny_getItem_of (intKind_is prg g.w k t) hd.dictOf.mapOf (valueAt_zip hn hk hx) (EP.tok S rx q)) (hs _ _)

-- iterators
theorem none_size {h : Heap} : h.get? h.objs.size = none := by
  cases e : h.get? h.objs.size with
  | none => rfl
  | some o => exact absurd (Heap.lt_size e) (Nat.lt_irrefl _)
theorem base_none {h : Heap} (S : St g F O h) {a : Addr} (ha : h.get? a = none) : g.h.get? a = none := by
  cases e : g.h.get? a with
  | none => rfl
  | some o => rw [S.keep a o e] at ha; cases ha

/-- an iterator that the library tells by Walks, of items without an address -/
theorem itr_walk {x : Str} {p : Pos} {I : Addr} {N : Nat} {P : Nat → Value → Prop} {T : Nat → Heap → Prop} {vs : Nat → V}
    (W : ∀ A : Around, A.handled = none → Walks prg g.w A I [I] [I] N P T) (hP : ∀ i u, P i u → ∀ X h, VR g.w X h (vs i) u) (ht : ∀ i h, T i h → ∃ o, h.get? I = some o) :
    Itr g n (.Name x p) I [I] (fun X l h => ∃ i : Nat, T i h ∧ i ≤ N ∧ l = (List.range' i (N - i)).map vs) := by
  refine ⟨?_, ?_, ?_, fun {A X l s E Q} ok ⟨i, h1, _⟩ hq => (W A ok.handled).self i s Q E h1 hq⟩
  · rintro X X' l h h' ⟨i, h1, h2, h3⟩ hk hw hX
    obtain ⟨o, e⟩ := ht i h h1
    refine ⟨i, (W { } rfl).frame i h h' h1 (fun b hb o' e' => ?_), h2, h3⟩
    exact hw b hb o' e'
  · rintro A X v l s E Q ok hwX hXt ⟨i, h1, h2, h3⟩ hq
    have hlt : i < N := by
      rcases Nat.lt_or_ge i N with q | q
      · exact q
      · have : N - i = 0 := Nat.sub_eq_zero_of_le q
        rw [this] at h3; cases h3
    have e : N - i = (N - (i + 1)) + 1 := by rw [← Nat.sub_sub, Nat.sub_add_cancel (Nat.sub_pos_of_lt hlt)]
    rw [e, List.range'_succ, List.map_cons] at h3
    injection h3 with h3 h4
    refine (W A ok.handled).item i s _ _ hlt h1 fun u h' tk hu hT hk => hq u h' tk ?_
    refine wpAny_pure ⟨⟨h', tk, rfl⟩, fun b o hb e => hk b o hb e, fun a ha => by rw [List.mem_singleton.mp ha]; exact ht _ _ hT, h3 ▸ hP i u hu _ _, i + 1, hT, hlt, h4⟩
  · rintro A X s E Q ok hwX ⟨i, h1, h2, h3⟩ hq
    have hi : i = N := by
      rcases Nat.eq_zero_or_pos (N - i) with q | q
      · exact Nat.le_antisymm h2 (Nat.le_of_sub_eq_zero q)
      · have e : N - i = (N - i - 1) + 1 := (Nat.sub_add_cancel q).symm
        rw [e, List.range'_succ, List.map_cons] at h3; cases h3
    subst hi
    exact (W A ok.handled).done s _ _ h1 fun h' tk hk => hq h' tk fun b o hb e => hk b o hb e

noncomputable def intsFrom (a : Int) (k : Nat) : List V := (List.range' 0 k).map fun (i : Nat) => .int (a + (i : Int) * 1)
/-- for x in range(..) -/
theorem itw_range_run {x : Str} {p : Pos} {a b : Int} (ha : -(2 ^ 62) ≤ a ∧ a < 2 ^ 62) (hb : -(2 ^ 62) ≤ b ∧ b < 2 ^ 62) {A : Around} {Q : Value → Shared → Prop} {r : Addr} {t1 t2 t3 : Tok} (hr : IsRange s.heap r a b 1 t1 t2 t3)
    (hQ : ∀ I wr C h', Itr g n (.Name x p) I wr C → Kept [] s.heap h' → (∀ c, c ∈ wr → s.heap.get? c = none ∧ ∃ o, h'.get? c = some o) → (∀ X, C X (intsFrom a (b - a).toNat) h') → Q (.ref I) { s with heap := h' }) :
    wpAny (model prg g.w) A (pyIter (.ref r)) Q (fun _ _ => False) s := by
  refine wpAny_pyIter_range hr (small_one ha.1 ha.2 hb.1 hb.2) ?_
  have hsz : Builtin.Range.rangeSize a b 1 = ((b - a).toNat : Int) := by
    rw [rangeSize_one]; split <;> omega
  rw [hsz]
  refine hQ s.heap.objs.size [s.heap.objs.size] _ _ (itr_walk (N := (b - a).toNat) (vs := fun i => .int (a + (i : Int) * 1)) (P := fun i v => ∃ t, v = Value.int (a + (i : Int) * 1) t) (T := fun i h => IsRangeIter h s.heap.objs.size (a + (i : Int) * 1) (((b - a).toNat : Int) - (i : Int)) 1) (fun A hh => Walks.range hh _ a 1 _) (fun i u hu X h => by simp only [VR]; exact hu) (fun i h hT => ⟨_, hT⟩)) (kept_push _) (fun c hc => ?_) fun X => ⟨0, ?_, Nat.zero_le _, rfl⟩
  · rw [List.mem_singleton.mp hc]; exact ⟨none_size, _, Heap.get?_push_size _ rfl⟩
  · show IsRangeIter _ _ _ _ _
    simpa using Heap.get?_push_size _ rfl
end
end Mine

-- A9
namespace Mine
open PySem PySem.Calls PySem.W PyProof.Rows

section
variable {g : Gr} {F : List Addr} {O O1 O' : Led} {s s1 : Shared} {n : Lv} {env : Env} {m m1 : Loc} {t : Expr}

/-- a call of a type that gives what a loop goes over -/
noncomputable def IC (g : Gr) (n : Lv) (t : Expr) (T : String) (vs : List V) (O : Led) (K : List V → Led → Prop) : Prop :=
  ∀ F A s us (Q : Value → Shared → Prop), Ok n A → St g F O s.heap → VRs g.w (dm O ++ F) s.heap vs us →
    (∀ I wr C l h' tk, Itr g n t I wr C → Kept [] s.heap h' → (∀ a, a ∈ wr → s.heap.get? a = none ∧ ∃ o, h'.get? a = some o) → C (dm O ++ (wr ++ F)) l h' → K l O → Q (.ref I) { s with heap := h', toks := tk }) →
    wpAny (model prg g.w) A (call (.type T) us) (fun x s1 => wpAny (model prg g.w) A (pyIter x) Q (fun _ _ => False) s1) (fun _ _ => False) s
theorem ie_callT {x : Str} {np pos : Pos} {e : Expr} {es : List Expr} {T : String} {K : List V → Led → Prop} (hk : env.kindOf x = some .globalImplicit) (hu : g.mg x = none) (hn : x ≠ "__name__") (hb : bootBuiltins x = some (.type T))
    (h : LW g n env m O (e :: es) fun vs O1 => IC g n t T vs O1 K) (hd : (x == ("__debug__" : Str)) = false := by decide) (he : ∀ (env : Env), starEach (e :: es) env = (false, eval e env) :: starEach es env := by intro _; rfl)
    (hp : ∀ (env : Env) pos, (backTo pos (starEach (e :: es) env)).any (·.1) = false := by intro _ _; rfl) : IE g n env m O t (.Call (.Name x np) (e :: es) [] pos) K := fun F A s Q ok S L hQ => by
  refine wpAny_Call_ofName (Name_function_global L.fn hk (loadGlobal_builtin (mg := g.mg) (mb := g.mb) (by rw [L.gl]; exact g.gs.keeps S.keep) hu (by rw [L.bl]; exact g.bs.keeps S.keep) ((g.hb x hn).trans hb) ?_) hd)
  show wpAny _ A (callWith pos (.type T) [] (backTo pos (starEach (e :: es) env)) []) _ _ s
  refine PyProof.Rows.callWith_type (hp env pos) ?_
  have h1 := h F A s pos ok S L
  rw [he env] at h1 ⊢
  refine evalArgs_plain (wpAny_mono h1 (fun us s1 ⟨hl, vs, O1, N1, S1, R1, h1⟩ => ?_) fun _ _ x => x)
  refine h1 F A s1 us Q ok S1 R1 fun I wr C l h' tk Ti hk hw hC k => ?_
  obtain ⟨S2, L2, ow⟩ := fresh_more S1 (L.nxt N1) hk hw
  have N2 : Nxt [] (dm O1 ++ F) (dm O1 ++ (wr ++ F)) s1 { s1 with heap := h', toks := tk } := ⟨⟨_, _, rfl⟩, hk, new_more (X := []) fun a ha => (hw a ha).1⟩
  refine hQ I wr C l O1 _ Ti (N1.trans N2) S2 L2 (fun a ha => ⟨ow a ha, ?_⟩) hC k
  cases e : s.heap.get? a with
  | none => rfl
  | some o => exact absurd (N1.kept a o (by simp) e) (by rw [(hw a ha).1]; exact fun z => nomatch z)

theorem none_up {h h' : Heap} (hk : Kept [] h h') {a : Addr} (e : h'.get? a = none) : h.get? a = none := by
  cases q : h.get? a with
  | none => rfl
  | some o => rw [hk a o (by simp) q] at e; cases e
theorem ic_range2 {x : Str} {p : Pos} {a b : Int} {K : List V → Led → Prop} (ha : -(2 ^ 62) ≤ a ∧ a < 2 ^ 62) (hb : -(2 ^ 62) ≤ b ∧ b < 2 ^ 62) (k : K (intsFrom a (b - a).toNat) O) : IC g n (.Name x p) "range" [.int a, .int b] O K := fun F A s us Q ok S R hQ => by
  simp only [VRs, VR] at R
  obtain ⟨_, _, rfl, ⟨t1, rfl⟩, _, _, rfl, ⟨t2, rfl⟩, rfl⟩ := R
  refine call_range_2 (itw_range_run (n := n) (x := x) (p := p) ha hb (IsRange.new ..) fun I wr C h' Ti hk hw hC => ?_)
  have k1 : Kept [] s.heap h' := (kept_push _).trans hk
  exact hQ I wr C _ h' _ Ti k1 (fun c hc => ⟨none_up (kept_push _) (hw c hc).1, (hw c hc).2⟩) (hC _) k
theorem ic_range1 {x : Str} {p : Pos} {b : Int} {K : List V → Led → Prop} (hb : -(2 ^ 62) ≤ b ∧ b < 2 ^ 62) (k : K (intsFrom 0 b.toNat) O) : IC g n (.Name x p) "range" [.int b] O K := fun F A s us Q ok S R hQ => by
  simp only [VRs, VR] at R
  obtain ⟨_, _, rfl, ⟨t1, rfl⟩, rfl⟩ := R
  refine call_range_1 (itw_range_run (n := n) (x := x) (p := p) (by decide) hb (IsRange.new ..) fun I wr C h' Ti hk hw hC => ?_)
  have k1 : Kept [] s.heap h' := (kept_push _).trans hk
  exact hQ I wr C _ h' _ Ti k1 (fun c hc => ⟨none_up (kept_push _) (hw c hc).1, (hw c hc).2⟩) (hC _) (by simpa using k)

noncomputable def enumV (i : Nat) : List V → List V
  | [] => []
  | v :: vs => .tup [.int i, v] :: enumV (i + 1) vs
inductive EInv (w : World) (z y a : Addr) (X : List Addr) (l' : List V) (h : Heap) : Prop
  | mk (i : Nat) (us : List Value) (old : _) (l0 : List V) (h1 : IsEnum h z y (i : Nat) old) (h2 : h.IsListIter y a i) (h3 : h.IsList a (List.toArray us)) (hx : a ∉ X) (r : VRs w X h l0 (us.drop i)) (e : l' = enumV i l0)
theorem ic_enum {ts : List Expr} {x1} {p : Pos} {l : List V} {K : List V → Led → Prop} (k : K (enumV 0 l) O) : IC g n (.Tuple ts x1 p) "enumerate" [.lst l] O K := fun F A s us Q ok S R hQ => by
  simp only [VRs, VR] at R
  obtain ⟨_, _, rfl, ⟨a, us, rfl, ha, hL, r⟩, rfl⟩ := R
  have lt : a < s.heap.objs.size := let ⟨o, e, _⟩ := hL; Heap.lt_size e
  have ne : s.heap.objs.size + 1 ≠ s.heap.objs.size := Nat.ne_of_gt (Nat.lt_succ_self _)
  have fr : ∀ c, c ∈ [s.heap.objs.size + 1, s.heap.objs.size] → s.heap.get? c = none := fun c hc => by
    cases e : s.heap.get? c with
    | none => rfl
    | some o =>
      have q := Heap.lt_size e
      rcases List.mem_cons.mp hc with hc | hc
      · rw [hc] at q; exact absurd (Nat.lt_of_succ_lt q) (Nat.lt_irrefl _)
      · rw [List.mem_singleton.mp hc] at q; exact absurd q (Nat.lt_irrefl _)
  refine call_enumerate_list hL fun h' he hi hz hk => ?_
  refine wpAny_pyIter_enum he ?_
  refine hQ (s.heap.objs.size + 1) [s.heap.objs.size + 1, s.heap.objs.size] (EInv g.w (s.heap.objs.size + 1) s.heap.objs.size a) _ h' s.toks ⟨?_, ?_, ?_, fun _ ⟨i, us, old, l0, h1, _, _, _, _, _⟩ hq => wpAny_pyIter_enum h1 hq⟩ (fun b o _ e => hk b o e) (fun c hc => ⟨fr c hc, ?_⟩) ⟨0, us, _, l, he, hi, let ⟨o, e, q⟩ := hL; ⟨o, hk _ _ e, q⟩, ?_, ?_, rfl⟩ k
  · rintro X X' l' h h' ⟨i, us, old, l0, h1, ⟨o, e, q⟩, ⟨o2, e2, q2⟩, hx, hr, he'⟩ hk hw hX
    exact ⟨i, us, old, l0, hw _ (.head _) _ h1, ⟨o, hw _ (.tail _ (.head _)) _ e, q⟩, ⟨o2, hk _ _ hx e2, q2⟩, out_of hX hx e2, hr.mono hk hX, he'⟩
  · rintro A X v l' s1 E Q1 ok hwX hXt ⟨i, us, old, l0, h1, h2, h3, hx, hr, he'⟩ hq
    cases l0 with
    | nil => cases he'
    | cons v0 l0 =>
      simp only [enumV] at he'
      injection he' with e1 e2
      simp only [VRs] at hr
      obtain ⟨u, us', e, r1, r2⟩ := hr
      have hlt : i < us.length := by
        rcases Nat.lt_or_ge i us.length with q | q
        · exact q
        · rw [List.drop_of_length_le q] at e; cases e
      rw [List.drop_eq_getElem_cons hlt] at e
      injection e with e3 e4
      refine wpAny_pyNext_enum_item h1 h2 h3 (x := u) (by simpa [hlt] using e3) ne fun h4 o4 i4 t4 z4 k4 => ?_
      refine hq (.ref s1.heap.objs.size) h4 (s1.toks + 1) ?_
      have T1 : s1.heap.objs.size ∉ X := fun hm => by obtain ⟨o, e⟩ := hXt _ hm; exact absurd (Heap.lt_size e) (Nat.lt_irrefl _)
      refine wpAny_letOwnedTupleGo_enum (i := (i : Int) + 1) o4 fun h5 e5 s5 => ?_
      have T2 : s1.heap.objs.size ≠ s.heap.objs.size + 1 := fun q => T1 (by rw [q]; exact hwX _ (.head _))
      have kk : Kept [s.heap.objs.size + 1, s.heap.objs.size] s1.heap h5 := fun b o hb e => s5.extBut b o (fun z => hb (by rw [z]; exact .head _)) (k4 b o (fun z => hb (by rw [z]; exact .head _)) (fun z => hb (by rw [z]; exact .tail _ (.head _))) e)
      have kX : Kept X s1.heap h5 := fun b o hb e => kk b o (fun z => hb (hwX _ z)) e
      refine ⟨⟨h5, _, rfl⟩, kk, fun c hc => ?_, ?_, i + 1, us, _, l0, by simpa using e5, i4.extBut s5.extBut (Ne.symm ne), ?_, hx, ?_, e2⟩
      · rcases List.mem_cons.mp hc with rfl | hc
        · exact ⟨_, e5⟩
        · rw [List.mem_singleton.mp hc]
          obtain ⟨o, e, _⟩ := i4.extBut s5.extBut (Ne.symm ne)
          exact ⟨o, e⟩
      · rw [e1]
        simp only [VR, VRs]
        refine ⟨_, [_, u], rfl, T1, ⟨_, s5.extBut _ _ T2 t4, rfl, 0, rfl⟩, _, _, rfl, ⟨_, rfl⟩, _, _, rfl, r1.mono kX .refl, rfl⟩
      · obtain ⟨o, e, q⟩ := h3
        exact ⟨o, kX _ _ hx e, q⟩
      · rw [← e4] at r2; exact r2.mono kX .refl
  · rintro A X s1 E Q1 ok hwX ⟨i, us, old, l0, h1, h2, h3, hx, hr, he'⟩ hq
    cases l0 with
    | cons v0 l0 => cases he'
    | nil =>
      simp only [VRs] at hr
      have hge : us.length ≤ i := by simpa using hr
      exact wpAny_pyNext_enum_end ok.handled h1 h2 h3 (by simpa using hge) fun h4 e4 => hq h4 s1.toks fun b o hb e => e4 b o (fun z => hb (by rw [z]; exact .tail _ (.head _))) e
  · rcases List.mem_cons.mp hc with rfl | hc
    · exact ⟨_, he⟩
    · rw [List.mem_singleton.mp hc]; obtain ⟨o, e, _⟩ := hi; exact ⟨o, e⟩
  · intro hm
    rcases List.mem_append.mp hm with q | q
    · exact ha (List.mem_append.mpr (.inl q))
    · rcases List.mem_append.mp q with q | q
      · obtain ⟨o, e, _⟩ := hL
        rw [fr a q] at e; cases e
      · exact ha (List.mem_append.mpr (.inr q))
  · exact r.mono (fun b o _ e => hk b o e) (new_more (X := []) fun b hb => fr b hb)

/-- the signs of a text -/
theorem itw_str {x : Str} {p : Pos} {y : Str} (ha : y.cps.all (· < 128) = true) : ItW g n (.Name x p) (.str y) (y.cps.toList.map fun c => .str ⟨#[c]⟩) O := fun F A s u Q ok S R hQ => by
  simp only [VR] at R
  obtain ⟨t, rfl⟩ := R
  refine wpAny_pyIter_ascii ha ?_
  refine hQ s.heap.objs.size [s.heap.objs.size] _ _ s.toks (itr_walk (N := y.cps.size) (vs := fun i => .str ⟨#[y.cps.getD i 0]⟩) (P := SignAt y) (T := fun i h => h.IsStrIter s.heap.objs.size "str_ascii_iterator" y t i) (fun A hh => Walks.strAscii hh _ y t) (fun i u hu X h => ?_) (fun i h ⟨o, e, _⟩ => ⟨o, e⟩)) (kept_push _) (fun c hc => ?_) ⟨0, ⟨_, Heap.get?_push_size _ rfl, rfl, rfl⟩, Nat.zero_le _, ?_⟩
  · obtain ⟨c, u', hc, rfl⟩ := hu
    simp only [VR]
    exact ⟨u', by rw [Array.getD_eq_getD_getElem?, hc]; rfl⟩
  · rw [List.mem_singleton.mp hc]; exact ⟨none_size, _, Heap.get?_push_size _ rfl⟩
  · apply List.ext_getElem
    · simp
    · intro i h1 h2
      simp at h1 h2
      simp [h1]
/-- a dict's keys -/
inductive KInv (w : World) (z a : Addr) (ks : List Int) (us : List Value) (ep : _) (X : List Addr) (l' : List V) (h : Heap) : Prop
  | mk (i : Nat) (h1 : h.IsKeyIter z a i (ks.zip us).length ep) (h2 : Heap.DictAt (intKind prg w) h a (ks.zip us) ep) (hx : a ∉ X) (hi : i ≤ ks.length) (e : l' = (List.range' i (ks.length - i)).map fun j => .int (ks.getD j 0))
theorem itw_dct {x : Str} {p : Pos} {ks : List Int} {vs : List V} : ItW g n (.Name x p) (.dct ks vs) (ks.map .int) O := fun F A s u Q ok S R hQ => by
  simp only [VR] at R
  obtain ⟨a, us, ep, rfl, ha, hm, hd, hl, r⟩ := R
  have hl' : ks.length = us.length := hl.trans r.length.symm
  refine wpAny_pyIter_dict (by simpa using hm) hd ?_
  have lt : a < s.heap.objs.size := hd.lt_size
  have hz : (ks.zip us).length = ks.length := by rw [List.length_zip, ← hl', Nat.min_self]
  have key : ∀ i v, (∃ k x, (ks.zip us)[i]? = some (k, x) ∧ (intKind prg g.w).is k v = true) → ∃ t, ks[i]? = some (ks.getD i 0) ∧ v = .int (ks.getD i 0) t := fun i v ⟨k, x, h1, h2⟩ => by
    have h3 : ((ks.zip us).map (·.1))[i]? = some k := by rw [List.getElem?_map, h1]; rfl
    rw [zip_keys hl'] at h3
    obtain ⟨t, rfl⟩ := Value.isInt_shape h2
    have : ks.getD i 0 = k := by rw [List.getD_eq_getElem?_getD, h3]; rfl
    rw [this]
    exact ⟨t, h3, rfl⟩
  refine hQ s.heap.objs.size [s.heap.objs.size] (KInv g.w s.heap.objs.size a ks us ep) _ s.toks ⟨?_, ?_, ?_, fun _ ⟨i, h1, _, _, _, _⟩ hq => wpAny_pyIter_keyiter h1 hq⟩ (kept_push _) (fun c hc => ?_) ⟨0, ⟨_, Heap.get?_push_size _ rfl, rfl, rfl⟩, hd.push _, ?_, Nat.zero_le _, ?_⟩
  · rintro X X' l' h h' ⟨i, ⟨o, e, q⟩, ⟨o2, es, e2, q2⟩, hx, hle, he⟩ hk hw hX
    exact ⟨i, ⟨o, hw _ (.head _) _ e, q⟩, ⟨o2, es, hk _ _ hx e2, q2⟩, out_of hX hx e2, hle, he⟩
  · rintro A X v l' s1 E Q1 ok hwX hXt ⟨i, h1, h2, hx, hle, he⟩ hq
    have hlt : i < ks.length := by
      rcases Nat.lt_or_ge i ks.length with q | q
      · exact q
      · have : ks.length - i = 0 := Nat.sub_eq_zero_of_le q
        rw [this] at he; cases he
    have e : ks.length - i = (ks.length - (i + 1)) + 1 := by rw [← Nat.sub_sub, Nat.sub_add_cancel (Nat.sub_pos_of_lt hlt)]
    rw [e, List.range'_succ, List.map_cons] at he
    injection he with e3 e4
    obtain ⟨⟨k, y⟩, hy⟩ : ∃ p, (ks.zip us)[i]? = some p := ⟨_, List.getElem?_eq_getElem (by rw [hz]; exact hlt)⟩
    refine wpAny_pyNext_dict_item h1 h2 hy fun u h4 hu i4 s4 => hq u h4 s1.toks ?_
    obtain ⟨t, _, rfl⟩ := key i u ⟨k, y, hy, hu⟩
    have kp := kept_same s4
    have hx2 : a ∉ [s.heap.objs.size] := fun z => Nat.ne_of_lt lt (List.mem_singleton.mp z)
    have hd4 : Heap.DictAt (intKind prg g.w) h4 a (ks.zip us) ep := let ⟨o, es, e, q⟩ := h2; ⟨o, es, kp _ _ hx2 e, q⟩
    refine wpAny_pure ⟨⟨h4, s1.toks, rfl⟩, kp, fun c hc => ?_, by rw [e3]; simp only [VR]; exact ⟨t, rfl⟩, i + 1, i4, hd4, hx, hlt, e4⟩
    rw [List.mem_singleton.mp hc]; obtain ⟨o, e, _⟩ := i4; exact ⟨o, e⟩
  · rintro A X s1 E Q1 ok hwX ⟨i, h1, h2, hx, hle, he⟩ hq
    have hi : i = ks.length := by
      rcases Nat.eq_zero_or_pos (ks.length - i) with q | q
      · exact Nat.le_antisymm hle (Nat.le_of_sub_eq_zero q)
      · have e : ks.length - i = (ks.length - i - 1) + 1 := (Nat.sub_add_cancel q).symm
        rw [e, List.range'_succ, List.map_cons] at he; cases he
    exact wpAny_pyNext_dict_end ok.handled h1 h2 (by rw [List.getElem?_eq_none (by omega)]) fun h4 e4 => hq h4 s1.toks fun b o hb e => e4 b o (fun z => hb (by rw [z]; exact .head _)) e
  · rw [List.mem_singleton.mp hc]; exact ⟨none_size, _, Heap.get?_push_size _ rfl⟩
  · intro hm
    rcases List.mem_append.mp hm with q | q
    · exact ha (List.mem_append.mpr (.inl q))
    · rcases List.mem_append.mp q with q | q
      · exact Nat.ne_of_lt lt (List.mem_singleton.mp q)
      · exact ha (List.mem_append.mpr (.inr q))
  · apply List.ext_getElem
    · simp
    · intro i h1 h2
      simp at h1 h2
      simp [h1]
end
end Mine

-- A10
namespace Mine
open PySem PySem.Calls PySem.W PyProof.Rows

theorem codeAny_comp_step {w : World} {A : Around} {R : Result → Shared → Prop} {elt target iter : Expr} {ifs : List Expr} {scope : Scope} {pos : Pos} {it acc : Value} {env : Env} {s : Shared}
    (h : wpAny (model prg w) A (pyNext it) (fun r s₁ => match r with
      | none => R (.ok .next) s₁
      | some v => wpAny (model prg w) A (letOwnedTupleGo target it v) (fun _ s₁' => wpAny (model prg w) A (assign target env v) (fun _ s₂ =>
          wpAny (model prg w) A (forIn ifs true fun c r => if r = true then do let ok ← isTrue c env (eval c env); pure (ForInStep.yield ok) else pure (ForInStep.yield r)) (fun ok s₃ =>
            if ok = true then wpAny (model prg w) A (eval elt env) (fun x s₄ =>
              wpAny (model prg w) A (call (.builtin "list.append") [acc, x]) (fun _ s₅ => codeAny (model prg w) A (.compLoop (.ListComp elt [⟨target, iter, ifs, 0⟩] scope pos) 0 it acc env) R s₅) (fun _ _ => False) s₄) (fun _ _ => False) s₃
            else codeAny (model prg w) A (.compLoop (.ListComp elt [⟨target, iter, ifs, 0⟩] scope pos) 0 it acc env) R s₃) (fun _ _ => False) s₂) (fun _ _ => False) s₁') (fun _ _ => False) s₁) (fun _ _ => False) s) :
    codeAny (model prg w) A (.compLoop (.ListComp elt [⟨target, iter, ifs, 0⟩] scope pos) 0 it acc env) R s := by
  refine codeAny_of_tree ?_
  show wpAny _ A ((compTurn (.ListComp elt [⟨target, iter, ifs, 0⟩] scope pos) 0 it acc env).onRaise (fun x => do noteFrame x env; theTreesLotGoes x)) _ _ s
  refine wpAny_noted ?_
  rw [compTurn_list]
  refine wpAny_bind (wpAny_standAt (wpAny_bind (wpAny_mono h (fun r s₁ h₁ => ?_) fun _ _ h' => h'.elim)))
  cases r with
  | none => exact wpAny_pure h₁
  | some v =>
    refine wpAny_bind (wpAny_mono h₁ (fun _ s₁' h₁' => ?_) fun _ _ h' => h'.elim)
    refine wpAny_bind (wpAny_mono h₁' (fun _ s₂ h₂ => wpAny_bind (wpAny_mono h₂ (fun ok s₃ h₃ => ?_) fun _ _ h' => h'.elim)) fun _ _ h' => h'.elim)
    cases ok with
    | false => exact wpAny_pure ⟨rfl, h₃⟩
    | true =>
      exact wpAny_bind (wpAny_bind (wpAny_mono h₃ (fun x s₄ h₄ => wpAny_bind (wpAny_mono h₄ (fun _ s₅ h₅ => wpAny_pure (wpAny_pure ⟨rfl, h₅⟩)) fun _ _ h' => h'.elim)) fun _ _ h' => h'.elim))

section
variable {g : Gr} {F : List Addr} {O O1 O' : Led} {s s1 : Shared} {n : Lv} {env : Env} {m m1 : Loc}

/-- the tests of a comprehension -/
noncomputable def CT (g : Gr) (n : Lv) (env : Env) (m : Loc) (O : Led) (ifs : List Expr) (b : Bool) : Prop :=
  ∀ F A s, Ok n A → St g F O s.heap → LR g F O s.heap env m →
    wpAny (model prg g.w) A (forIn ifs true fun c r => if r = true then do let ok ← isTrue c env (eval c env); pure (ForInStep.yield ok) else pure (ForInStep.yield r)) (fun ok s' => ok = b ∧ Nxt [] (dm O ++ F) (dm O ++ F) s s' ∧ St g F O s'.heap) (fun _ _ => False) s
theorem ct_nil : CT g n env m O [] true := fun F A s ok S L => wpAny_pure ⟨rfl, Nxt.refl, S⟩
theorem ct_one {c : Expr} {b : Bool} (h : TW g n env m O c fun b' O' => O' = O ∧ b' = b) : CT g n env m O [c] b := fun F A s ok S L => by
  simp only [List.forIn_cons, List.forIn_nil, if_true]
  exact wpAny_bind (wpAny_bind (wpAny_mono (h F A s ok S L) (fun b' s' ⟨O', N, S', e, q⟩ => by subst e; exact wpAny_pure (wpAny_pure ⟨q, N, S'⟩)) fun _ _ x => x))

theorem nm_localK {x : Str} {v : V} {m' : Loc} (hk : env.kindOf x = some .local) (hu : Upd m x v m') {A : Around} {u : Value} (S : St g F O s.heap) (L : LR g F O s.heap env m) (R : VR g.w (dm O ++ F) s.heap v u) :
    wpAny (model prg g.w) A (storeName env x u) (fun _ s' => (∃ h' tk, s' = { s with heap := h', toks := tk }) ∧ Kept [env.locals] s.heap s'.heap ∧ St g F O s'.heap ∧ LR g F O s'.heap env m') (fun _ _ => False) s := by
  obtain ⟨mc, hn, hv⟩ := L.ns
  have hLF : env.locals ∈ F := L.inF _ (.head _)
  refine wpAny_storeName_local hk hn (fun h' hn' hs => ?_) (by rw [L.fn]; rfl)
  have kp : Kept [env.locals] s.heap h' := kept_same hs
  have kX : Kept (dm O ++ F) s.heap h' := fun b o hb e => kp b o (fun z => hb (by rw [List.mem_singleton.mp z]; exact List.mem_append.mpr (.inr hLF))) e
  have ht : ∃ o, h'.get? env.locals = some o := let ⟨o, _, _, e, _⟩ := hn'; ⟨o, e⟩
  refine ⟨⟨_, _, rfl⟩, kp, S.turnF hLF kp ht, ?_⟩
  have cne : ∀ c, c ∈ env.cells.map (·.2) → c ≠ env.locals := fun c hc e => (List.nodup_cons.mp L.ond).1 (e ▸ hc)
  refine ⟨L.fn, L.gl, L.bl, L.inF, L.ond, by rw [hu.keys]; exact L.nd, fun c hc => let ⟨v0, e⟩ := L.cs c hc; ⟨v0, e.sameBut hs (cne c hc)⟩, _, hn', fun y w hy => ?_⟩
  rcases hu.mem L.nd _ hy with e | ⟨hm, hne⟩
  · injection e with e1 e2
    injection e2 with e2
    subst e1 e2
    exact ⟨u, R.mono kX .refl, .inl ⟨hk, by simp⟩⟩
  · obtain ⟨u', hu', q'⟩ := hv y w hm
    refine ⟨u', hu'.mono kX .refl, q'.imp (fun ⟨a, b⟩ => ⟨a, by simp only [hne, if_false]; exact b⟩) fun ⟨a, c, h1, h2⟩ => ⟨a, c, h1, h2.sameBut hs (cne c ?_)⟩⟩
    exact List.mem_map.mpr ⟨(y, c), PySem.mem_of_lookup h1, rfl⟩

variable {elt iter : Expr} {x : Str} {px : Pos} {ifs : List Expr} {scope : Scope} {pos : Pos} {I D : Addr} {wr : List Addr} {C : List Addr → List V → Heap → Prop}

inductive CLP (g : Gr) (F0 : List Addr) (O : Led) (D : Addr) (Z : List Addr) (L : Addr) (vs : List V) (s : Shared) (r : Result) (s' : Shared) : Prop
  | mk (us' : List Value) (e : r = .ok .next) (sm : ∃ h' tk, s' = { s with heap := h', toks := tk }) (kp : Kept Z s.heap s'.heap) (S : St g F0 O s'.heap) (ns : ∃ mc, s'.heap.Ns L mc) (pl : s'.heap.PlainList D us'.toArray) (R : VRs g.w (dm O ++ F0) s'.heap vs us')
theorem comp_loop {cenv : Env} {F0 : List Addr} (T : Itr g n (.Name x px) I wr C) (p : V → Bool) (f : V → V) (hk : cenv.kindOf x = some .local) {mf : Loc}
    (hDF : D ∈ F0) (hDw : D ∉ wr) (hDo : D ∉ ownA cenv) (hwo : ∀ a, a ∈ wr → a ∉ ownA cenv) (hw0 : ∀ a, a ∈ wr → a ∉ F0) {l : List V} :
    ∀ {done : List V} {us : List Value} {vx : Option V} {s : Shared} {A : Around}, Ok n A → St g (wr ++ F0) O s.heap → LR g (wr ++ F0) O s.heap cenv ((x, vx) :: mf) → C (dm O ++ (wr ++ F0)) l s.heap → s.heap.PlainList D us.toArray → VRs g.w (dm O ++ (wr ++ F0)) s.heap done us → done.length + l.length ≤ 100000 →
    (∀ v ∈ l, CT g n cenv ((x, some v) :: mf) O ifs (p v)) → (∀ v ∈ l, p v = true → EW g n cenv ((x, some v) :: mf) O elt fun w O2 => O2 = O ∧ w = f v) →
    codeAny (model prg g.w) A (.compLoop (.ListComp elt [⟨.Name x px, iter, ifs, 0⟩] scope pos) 0 (.ref I) (.ref D) cenv)
      (CLP g F0 O D (D :: cenv.locals :: wr) cenv.locals (done ++ (l.filter p).map f) s) s := by
  have hwF : ∀ a, a ∈ wr → a ∈ wr ++ F0 := fun a ha => List.mem_append.mpr (.inl ha)
  have sub0 : ∀ a, a ∈ dm O ++ F0 → a ∈ dm O ++ (wr ++ F0) := fun a ha => by
    rcases List.mem_append.mp ha with ha | ha
    · exact List.mem_append.mpr (.inl ha)
    · exact List.mem_append.mpr (.inr (List.mem_append.mpr (.inr ha)))
  induction l with
  | nil =>
    intro done us vx s A ok S L hC hD R hlen _ _
    refine codeAny_comp_step (T.done ok (fun a ha => List.mem_append.mpr (.inr (hwF a ha))) hC fun h1 tk1 hk1 => ?_)
    have kX : Kept (dm O ++ (wr ++ F0)) s.heap h1 := fun b o hb e => hk1 b o (fun z => hb (List.mem_append.mpr (.inr (hwF b z)))) e
    obtain ⟨nn, eD⟩ := hD
    obtain ⟨mc, ⟨o, es, ep, e, rr⟩, _⟩ := L.ns
    refine ⟨us, rfl, ⟨_, _, rfl⟩, fun b o hb e => hk1 b o (fun z => hb (.tail _ (.tail _ z))) e, ?_, ⟨mc, o, es, ep, hk1 _ _ (fun z => hwo _ z (.head _)) e, rr⟩, ⟨nn, hk1 _ _ hDw eD⟩, by simpa using R.mono kX (sub_less sub0)⟩
    have S' := S.less
    refine ⟨fun b o e => hk1 b o (fun z => ?_) (S.keep b o e), S'.fresh, S'.nodup, S'.disj, fun a ha => ?_, fun p hp => (S.obj p hp).mono kX (sub_less sub0) fun o e => hk1 _ o (fun z => S.disj _ (List.mem_map_of_mem hp) (hwF _ z)) e⟩
    · rw [S.fresh b (List.mem_append.mpr (.inr (hwF b z)))] at e; cases e
    · obtain ⟨o, e⟩ := S'.thereF a ha
      exact ⟨o, hk1 a o (fun z => hw0 a z ha) e⟩
  | cons v l ih =>
    intro done us vx s A ok S L hC hD R hlen hct hel
    refine codeAny_comp_step (T.item ok (fun a ha => List.mem_append.mpr (.inr (hwF a ha))) S.there hC fun u h1 tk1 hq => ?_)
    refine wpAny_mono hq (fun _ s1 ⟨⟨h1, tk1, e1⟩, hk1, ht1, Rv, hC1⟩ => ?_) fun _ _ x => x
    subst e1
    have S1 := S.turnFs hwF hk1 ht1
    have L1 := L.turnFs hwF hk1 hwo
    have kX1 : Kept (dm O ++ (wr ++ F0)) s.heap h1 := fun b o hb e => hk1 b o (fun z => hb (List.mem_append.mpr (.inr (hwF b z)))) e
    refine wpAny_assign_Name (wpAny_mono (nm_localK (s := { s with heap := h1, toks := tk1 }) hk (.here (v := v)) S1 L1 Rv) (fun _ s2 ⟨⟨h2, t2, e2⟩, hk2, S2, L2⟩ => ?_) fun _ _ x => x)
    subst e2
    have hKF : cenv.locals ∈ wr ++ F0 := L.inF _ (.head _)
    have kX2 : Kept (dm O ++ (wr ++ F0)) h1 h2 := fun b o hb e => hk2 b o (fun z => hb (by rw [List.mem_singleton.mp z]; exact List.mem_append.mpr (.inr hKF))) e
    have hC2 : C (dm O ++ (wr ++ F0)) l h2 := T.fr hC1 kX2 (fun a ha o e => hk2 a o (fun z => hwo a ha (by rw [List.mem_singleton.mp z]; exact .head _)) e) .refl
    have R2 := (R.mono kX1 .refl).mono kX2 .refl
    have hD2 : h2.PlainList D us.toArray := let ⟨nn, e⟩ := hD; ⟨nn, hk2 _ _ (fun z => hDo (by rw [List.mem_singleton.mp z]; exact .head _)) (hk1 _ _ hDw e)⟩
    have k02 : Kept (D :: cenv.locals :: wr) s.heap h2 := fun b o hb e => hk2 b o (fun z => hb (.tail _ (by rw [List.mem_singleton.mp z]; exact .head _))) (hk1 b o (fun z => hb (.tail _ (.tail _ z))) e)
    refine wpAny_mono (hct v (.head _) _ A _ ok S2 L2) (fun b s3 ⟨eb, N3, S3⟩ => ?_) fun _ _ x => x
    subst eb
    have L3 := L2.nxt N3
    have R3 := R2.nxt N3
    obtain ⟨h3, t3, rfl⟩ := N3.same
    have k03 : Kept (D :: cenv.locals :: wr) s.heap h3 := fun b o hb e => N3.kept b o (by simp) (k02 b o hb e)
    have hC3 : C (dm O ++ (wr ++ F0)) l h3 := T.fr hC2 (kept_of N3.kept) (fun a ha o e => N3.kept a o (by simp) e) .refl
    have hD3 : h3.PlainList D us.toArray := let ⟨nn, e⟩ := hD2; ⟨nn, N3.kept _ _ (by simp) e⟩
    cases hp : p v with
    | false =>
      simp only [Bool.false_eq_true, if_false]
      refine codeAny_mono (ih ok S3 L3 hC3 hD3 R3 (by simp at hlen; omega) (fun w hw => hct w (.tail _ hw)) fun w hw => hel w (.tail _ hw)) fun r s' ⟨us', e, ⟨h', tk, es⟩, kk, St', Ns', Pl', R'⟩ => ?_
      subst es
      exact ⟨us', e, ⟨_, _, rfl⟩, fun b o hb e => kk b o hb (k03 b o hb e), St', Ns', Pl', by simpa [hp] using R'⟩
    | true =>
      simp only [if_true]
      refine wpAny_mono (hel v (.head _) hp _ A _ ok S3 L3) (fun y s4 ⟨w, O4, N4, S4, Rw, eO, ew⟩ => ?_) fun _ _ x => x
      subst eO ew
      have L4 := L3.nxt N4
      have R4 := R3.nxt N4
      obtain ⟨h4, t4, rfl⟩ := N4.same
      have hC4 := T.fr hC3 (kept_of N4.kept) (fun a ha o e => N4.kept a o (by simp) e) .refl
      have hD4 : h4.PlainList D us.toArray := let ⟨nn, e⟩ := hD3; ⟨nn, N4.kept _ _ (by simp) e⟩
      refine wpAny_list_append_plain (hsz := by rw [sizeLine_eq, List.size_toArray, R4.length]; simp at hlen; omega) hD4 fun h5 hD5 hs5 => ?_
      have hDF' : D ∈ wr ++ F0 := List.mem_append.mpr (.inr hDF)
      have kp5 : Kept [D] h4 h5 := kept_same hs5
      have kX5 : Kept (dm O4 ++ (wr ++ F0)) h4 h5 := fun b o hb e => kp5 b o (fun z => hb (by rw [List.mem_singleton.mp z]; exact List.mem_append.mpr (.inr hDF'))) e
      have S5 : St g (wr ++ F0) O4 h5 := S4.turnF hDF' kp5 (let ⟨nn, e⟩ := hD5; ⟨_, e⟩)
      have L5 := LR.turnFs (wr := [D]) L4 (fun a ha => by rw [List.mem_singleton.mp ha]; exact hDF') kp5 (fun a ha => by rw [List.mem_singleton.mp ha]; exact hDo)
      have hC5 := T.fr hC4 kX5 (fun a ha o e => kp5 a o (fun z => hDw (by rw [← List.mem_singleton.mp z]; exact ha)) e) .refl
      have R5 : VRs g.w (dm O4 ++ (wr ++ F0)) h5 (done ++ [f v]) (us ++ [y]) := (R4.append (.cons Rw .nil)).mono kX5 .refl
      refine codeAny_mono (ih (done := done ++ [f v]) (us := us ++ [y]) ok S5 L5 hC5 (by simpa using hD5) R5 (by simp at hlen ⊢; omega) (fun w hw => hct w (.tail _ hw)) fun w hw => hel w (.tail _ hw)) fun r s' ⟨us', e, ⟨h', tk, es⟩, kk, St', Ns', Pl', R'⟩ => ?_
      subst es
      refine ⟨us', e, ⟨_, _, rfl⟩, fun b o hb e => kk b o hb (kp5 b o (fun z => hb (by rw [List.mem_singleton.mp z]; exact .head _)) (N4.kept b o (by simp) (k03 b o hb e))), St', Ns', Pl', by simpa [hp] using R'⟩
theorem St.perm {F' : List Addr} {h : Heap} (S : St g F O h) (hp : ∀ a, a ∈ F' ↔ a ∈ F) : St g F' O h := by
  have hs : ∀ a, a ∈ dm O ++ F' → a ∈ dm O ++ F := fun a ha => by
    rcases List.mem_append.mp ha with ha | ha
    · exact List.mem_append.mpr (.inl ha)
    · exact List.mem_append.mpr (.inr ((hp a).mp ha))
  exact ⟨S.keep, fun a ha => S.fresh a (hs a ha), S.nodup, fun a ha q => S.disj a ha ((hp a).mp q), fun a ha => S.thereF a ((hp a).mp ha), fun p hp' => (S.obj p hp').mono .refl (sub_less hs) fun o e => e⟩

theorem ew_comp {cl : List (Str × Addr)} {mf : Loc} {Q : V → Led → Prop}
    (h : IE g n env m O (.Name x px) iter fun l O1 => l.length ≤ 100000 ∧ ∃ p f, (∀ v ∈ l, ∀ C, CT g n (compEnvC scope cl C env) ((x, some v) :: mf) O1 ifs (p v)) ∧
      (∀ v ∈ l, p v = true → ∀ C, EW g n (compEnvC scope cl C env) ((x, some v) :: mf) O1 elt fun w O2 => O2 = O1 ∧ w = f v) ∧ Q (.lst ((l.filter p).map f)) O1)
    (hclos : closureFor scope env = pure cl) (hcell : ∀ y ∈ scope.names, y.2 ≠ .cell) (hkind : scope.kind = .function)
    (hnames : ∀ y ∈ scope.names, y.2 = .local → scope.names.lookup y.1 = some .local) (hx : scope.names.lookup x = some .local)
    (hcl : ∀ a, a ∈ cl.map (·.2) → a ∈ env.cells.map (·.2)) (hclnd : (cl.map (·.2)).Nodup) (hmf : (x :: mf.map (·.1)).Nodup)
    (hfr : ∀ y w, (y, some w) ∈ mf → (y, some w) ∈ m ∧ env.kindOf y = some .cell ∧ (∀ C, (compEnvC scope cl C env).kindOf y = some .cell) ∧ ∀ c, env.cells.lookup y = some c → cl.lookup y = some c)
    (hs : ∀ u, foldedSetIterable iter env u = pure u := by intro _; rfl) : EW g n env m O (.ListComp elt [⟨.Name x px, iter, ifs, 0⟩] scope pos) Q := fun F A s ok S L => by
  rw [eval_ListComp]
  refine wpAny_comprehension_free (use := none) rfl hs hclos hkind hnames ?_
  refine h F A s _ ok S L fun I wr C l O1 s1 T N1 S1 L1 ow hC ⟨hlen, p, f, hct, hel, hq⟩ => ?_
  refine wpAny_newObj_type (wpAny_newFunctionEnv hcell (by intro y hy; simp at hy) (fun h₁ hns₁ hsb₁ => ?_) hkind)
  dsimp only at hns₁ hsb₁ ⊢
  generalize hH2 : s1.heap.push { cls := .type "list", dict := none, data := .seq ([] : List Value).toArray } = H2 at hns₁ hsb₁ ⊢
  have hK : H2.objs.size = s1.heap.objs.size + 1 := by rw [← hH2, Heap.size_push]
  have hDK : s1.heap.objs.size ≠ H2.objs.size := by rw [hK]; exact Nat.ne_of_lt (Nat.lt_succ_self _)
  have fresh : ∀ a, s1.heap.objs.size ≤ a → s1.heap.get? a = none := fun a ha => by
    cases e : s1.heap.get? a with
    | none => rfl
    | some o' => exact absurd (Heap.lt_size e) (Nat.not_lt.mpr ha)
  have old : Kept [] s1.heap h₁ := fun b o _ e => hsb₁.extBut b o (fun z => by rw [z, fresh _ (by rw [hK]; exact Nat.le_succ _)] at e; cases e) (Heap.get?_push_of_some _ (hH2 ▸ Heap.get?_push_of_some _ e))
  have hacc : h₁.PlainList s1.heap.objs.size #[] := ⟨_, hsb₁.extBut _ _ hDK (Heap.get?_push_of_some _ (hH2 ▸ Heap.get?_push_size _ rfl))⟩
  have nD := fresh _ (Nat.le_refl s1.heap.objs.size)
  have nK := fresh H2.objs.size (by rw [hK]; exact Nat.le_succ _)
  generalize s1.heap.objs.size = D at *
  generalize hKK : H2.objs.size = K at *
  have hw2 : ∀ a, a ∈ [D, K] → s1.heap.get? a = none ∧ ∃ o, h₁.get? a = some o := fun a ha => by
    rcases List.mem_cons.mp ha with e | ha
    · rw [e]; exact ⟨nD, let ⟨nn, e⟩ := hacc; ⟨_, e⟩⟩
    · rw [List.mem_singleton.mp ha]; exact ⟨nK, let ⟨o, _, _, e, _⟩ := hns₁; ⟨o, e⟩⟩
  obtain ⟨S2, L2, ow2⟩ := fresh_more S1 L1 old hw2
  have pm : ∀ a, a ∈ wr ++ ([D, K] ++ F) ↔ a ∈ [D, K] ++ (wr ++ F) := fun a => by simp only [List.mem_append]; constructor <;> (rintro (q | q | q) <;> simp [q])
  have S3 : St g (wr ++ ([D, K] ++ F)) O1 h₁ := S2.perm pm
  have nXX : Newly (dm O1 ++ (wr ++ F)) (dm O1 ++ (wr ++ ([D, K] ++ F))) s1.heap := fun a ha => by
    rcases List.mem_append.mp ha with ha | ha
    · exact .inl (List.mem_append.mpr (.inl ha))
    · rcases List.mem_append.mp ((pm a).mp ha) with ha | ha
      · exact .inr (hw2 a ha).1
      · exact .inl (List.mem_append.mpr (.inr ha))
  have hC3 : C (dm O1 ++ (wr ++ ([D, K] ++ F))) l h₁ := T.fr hC (kept_of old) (fun a _ o e => old a o (by simp) e) nXX
  have cenvL : LR g (wr ++ ([D, K] ++ F)) O1 h₁ (compEnvC scope cl K env) ((x, none) :: mf) := by
    refine ⟨hkind, L.gl, L.bl, fun a ha => ?_, ?_, hmf, fun c hc => ?_, _, hns₁, fun y w hy => ?_⟩
    · rcases List.mem_cons.mp ha with e | ha
      · rw [e]; exact (pm _).mpr (by simp [compEnvC])
      · exact (pm a).mpr (List.mem_append.mpr (.inr (L1.inF a (.tail _ (hcl a ha)))))
    · refine List.nodup_cons.mpr ⟨fun hm => ?_, hclnd⟩
      obtain ⟨v0, o, e, _⟩ := L1.cs _ (hcl _ hm)
      have e' : s1.heap.get? K = some o := e
      rw [nK] at e'; cases e'
    · obtain ⟨v0, o, e, r⟩ := L1.cs _ (hcl _ hc)
      exact ⟨v0, o, old _ _ (by simp) e, r⟩
    · rcases List.mem_cons.mp hy with e | hy
      · injection e with e1 e2; cases e2
      · obtain ⟨h1, h2, h3, h4⟩ := hfr y w hy
        obtain ⟨mc, hn, hv⟩ := L1.ns
        obtain ⟨u, hu, q | ⟨q, c, q1, o, q2, q3⟩⟩ := hv y w h1
        · rw [h2] at q; exact absurd q.1 (by simp)
        · exact ⟨u, hu.mono (kept_of old) nXX, .inr ⟨h3 K, c, h4 c q1, o, old _ _ (by simp) q2, q3⟩⟩
  have hDo : D ∉ ownA (compEnvC scope cl K env) := fun hm => by
    rcases List.mem_cons.mp hm with e | hm
    · exact hDK e
    · obtain ⟨v0, o, e, _⟩ := L1.cs _ (hcl _ hm)
      rw [nD] at e; cases e
  have wrn : ∀ a, a ∈ wr → a ≠ D ∧ a ≠ K := fun a ha => by
    obtain ⟨o, e⟩ := S1.thereF a (List.mem_append.mpr (.inl ha))
    exact ⟨fun z => (by rw [z, nD] at e; cases e), fun z => (by rw [z, nK] at e; cases e)⟩
  have hwo : ∀ a, a ∈ wr → a ∉ ownA (compEnvC scope cl K env) := fun a ha hm => by
    rcases List.mem_cons.mp hm with e | hm
    · exact (wrn a ha).2 e
    · exact (ow a ha).1.2 (.tail _ (hcl a hm))
  have hw0 : ∀ a, a ∈ wr → a ∉ [D, K] ++ F := fun a ha hm => by
    rcases List.mem_append.mp hm with q | q
    · rcases List.mem_cons.mp q with e | q
      · exact (wrn a ha).1 e
      · exact (wrn a ha).2 (List.mem_singleton.mp q)
    · exact (ow a ha).1.1 q
  have loop := comp_loop (cenv := compEnvC scope cl K env) (elt := elt) (iter := iter) (px := px) (ifs := ifs) (scope := scope) (pos := pos) (s := { s1 with heap := h₁, toks := s1.toks + ([] : List (Str × Value)).length }) (vx := none) (done := []) (us := []) T p f (lookup_relabel_local hx) (by simp) (fun hm => (wrn D hm).1 rfl) hDo hwo hw0 ok S3 cenvL hC3 hacc .nil (by simpa using hlen) (fun v hv => hct v hv K) fun v hv hp => hel v hv hp K
  have fin : ∀ (r : Result) (s' : Shared), (CLP g ([D, K] ++ F) O1 D (D :: K :: wr) K ((l.filter p).map f) { s1 with heap := h₁, toks := s1.toks + ([] : List (Str × Value)).length } r s') →
      compPost (model prg g.w) A (fun _ _ => False) none (EP g F O s Q) (.ref D) K r s' := by
    rintro r s' ⟨us', rfl, ⟨h', tk, rfl⟩, kk, St', ⟨mc, hN⟩, Pl', R'⟩
    refine ⟨mc, hN, fun h'' hs'' => ?_⟩
    have k2 : Kept [K] h' h'' := kept_same hs''
    have kL : ∀ b o, b ∉ [K] → h'.get? b = some o → h''.get? b = some o := k2
    have kX : Kept (dm O1 ++ ([D, K] ++ F)) h' h'' := fun b o hb e => k2 b o (fun z => hb (by rw [List.mem_singleton.mp z]; simp)) e
    have R2 := R'.mono kX .refl
    have notF : ∀ a, a ∈ [D, K] → a ∉ dm O1 ++ F := fun a ha q => by
      rcases List.mem_append.mp q with q | q
      · obtain ⟨o, e⟩ := S1.there a (List.mem_append.mpr (.inl q)); rw [(hw2 a ha).1] at e; cases e
      · exact (ow2 a ha).1 (List.mem_append.mpr (.inr q))
    have sub0 : ∀ a, a ∈ dm O1 ++ F → a ∈ dm O1 ++ ([D, K] ++ F) := fun a ha => by
      rcases List.mem_append.mp ha with ha | ha
      · exact List.mem_append.mpr (.inl ha)
      · exact List.mem_append.mpr (.inr (List.mem_append.mpr (.inr ha)))
    have St3 : St g F O1 h'' := by
      have S' : St g F O1 h' := St'.less
      have KF : K ∉ dm O1 ++ F := notF K (.tail _ (.head _))
      refine ⟨fun b o e => k2 b o (fun z => ?_) (St'.keep b o e), S'.fresh, S'.nodup, S'.disj, fun a ha => ?_, fun p hp => (St'.obj p hp).mono kX (sub_less sub0) fun o e => k2 _ o (fun z => KF (by rw [← List.mem_singleton.mp z]; exact List.mem_append.mpr (.inl (List.mem_map_of_mem hp)))) e⟩
      · rw [List.mem_singleton.mp z, St'.fresh K (by simp)] at e; cases e
      · obtain ⟨o, e⟩ := S'.thereF a ha
        exact ⟨o, k2 a o (fun z => KF (by rw [← List.mem_singleton.mp z]; exact List.mem_append.mpr (.inr ha))) e⟩
    obtain ⟨h1, t1, rfl⟩ := N1.same
    refine ⟨_, O1, ⟨⟨_, _, rfl⟩, fun b o _ e => ?_, fun a ha => ?_⟩, St3, ?_, hq⟩
    · have e1 : h1.get? b = some o := N1.kept b o (by simp) e
      refine k2 b o (fun z => ?_) (kk b o (fun z => ?_) (old b o (by simp) e1))
      · rw [List.mem_singleton.mp z] at e1; exact absurd (nK.symm.trans e1) (fun z => nomatch z)
      · rcases List.mem_cons.mp z with z | z
        · rw [z] at e1; exact absurd (nD.symm.trans e1) (fun z => nomatch z)
        · rcases List.mem_cons.mp z with z | z
          · rw [z] at e1; exact absurd (nK.symm.trans e1) (fun z => nomatch z)
          · have := (ow b z).2; rw [e] at this; cases this
    · refine N1.new a ?_
      rcases List.mem_append.mp ha with ha | ha
      · exact List.mem_append.mpr (.inl ha)
      · exact List.mem_append.mpr (.inr (List.mem_append.mpr (.inr ha)))
    · simp only [VR]
      refine ⟨D, us', rfl, notF D (.head _), ?_, R2.mono .refl (sub_less sub0)⟩
      obtain ⟨nn, e⟩ := Pl'
      exact ⟨_, k2 _ _ (fun z => hDK (List.mem_singleton.mp z)) e, rfl, nn, rfl⟩
  have go : ∀ s₃ : Shared, s₃ = { s1 with heap := h₁, toks := s1.toks + ([] : List (Str × Value)).length } →
      codeAny (model prg g.w) A (.compLoop (.ListComp elt [⟨.Name x px, iter, ifs, 0⟩] scope pos) 0 (.ref I) (.ref D) (compEnvC scope cl K env)) (compPost (model prg g.w) A (fun _ _ => False) none (EP g F O s Q) (.ref D) K) s₃ := by
    rintro s₃ rfl
    exact codeAny_mono loop fun r s' hh => fin r s' hh
  exact codeAny_compStart_list (go _ rfl) (T.self ok hC3 (go _ rfl))
end
end Mine

-- A11
namespace Mine
open PySem PySem.Calls PySem.W PyProof.Rows

theorem intsAre_of {w : World} {X : List Addr} {h : Heap} : ∀ {ys : List Int} {us : List Value}, VRs w X h (ys.map .int) us → IntsAre us ys
  | [], us, r => by simp only [List.map_nil, VRs] at r; subst r; exact .nil
  | y :: ys, us, r => by
    simp only [List.map_cons, VRs, VR] at r
    obtain ⟨_, us', rfl, ⟨t, rfl⟩, r⟩ := r
    exact .cons y t (intsAre_of r)

section
variable {g : Gr} {F : List Addr} {O O1 O' : Led} {s s1 : Shared} {n : Lv} {env : Env} {m m1 : Loc}

theorem wl_sum {ns : List Int} {Q : V → Led → Prop} (q : Q (.int ns.sum) O) : WL g n (fun us => call (.builtin "sum") us) [.lst (ns.map .int)] O Q := fun F A s us ok S R => by
  simp only [VRs, VR] at R
  obtain ⟨_, _, rfl, ⟨a, vs, rfl, ha, hL, r⟩, rfl⟩ := R
  have hi := intsAre_of r
  obtain ⟨xs, hx⟩ := hi.allInts.items
  rw [hx] at hL
  refine sum_intListG ok.handled hL fun h' tk t' hk => ?_
  have e : preSum (numAt xs) xs.size = ns.sum := by
    have h1 := hi.numsOf
    have h2 : numsOf (intItems xs).toList = ns := by rw [← hx]; exact h1
    rw [nums_intItems] at h2
    rw [preSum_eq, h2, List.take_of_length_le (by rw [← h2]; simp)]
  have hk' : Kept [] s.heap h' := fun b o _ e => hk b o e
  exact ⟨.int ns.sum, O, ⟨⟨_, _, rfl⟩, hk', .refl⟩, S.grow hk', by simp only [VR]; exact ⟨t', by rw [e]⟩, q⟩
theorem wl_abs {i : Int} {Q : V → Led → Prop} (q : Q (.int (if i < 0 then -i else i)) O) : WL g n (fun us => call (.builtin "abs") us) [.int i] O Q := fun F A s us ok S R => by
  simp only [VRs, VR] at R
  obtain ⟨_, _, rfl, ⟨t, rfl⟩, rfl⟩ := R
  exact call_abs_int fun u tk => ⟨_, O, ⟨⟨_, _, rfl⟩, .refl, .refl⟩, S, by simp only [VR]; exact ⟨u, rfl⟩, q⟩
theorem w2_pow {b : Nat} (hb : b ≤ 2) {Q : V → Led → Prop} (q : Q (.int ((8 ^ b : Nat) : Int)) O) : W2 g n (binaryOp .Pow) (.int 8) (.int b) O Q := fun F A s u v ok S R1 R2 => by
  simp only [VR] at R1 R2; obtain ⟨_, rfl⟩ := R1; obtain ⟨_, rfl⟩ := R2
  have : b = 0 ∨ b = 1 ∨ b = 2 := by omega
  rcases this with rfl | rfl | rfl
  · exact PySem.AutoIntOps.pow_0 (by decide) (by decide) (EP.tok S (by simp only [VR]; exact ⟨_, rfl⟩) q)
  · exact PySem.AutoIntOps.pow_4 (by decide) (by decide) (by decide) (by decide) (by decide) (EP.tok S (by simp only [VR]; exact ⟨_, rfl⟩) q)
  · exact PySem.AutoIntOps.pow_4 (by decide) (by decide) (by decide) (by decide) (by decide) (EP.tok S (by simp only [VR]; exact ⟨_, rfl⟩) q)
end
end Mine

-- A12
namespace Mine
open PySem PySem.Calls PySem.W PyProof.Rows

section
variable {g : Gr} {F : List Addr} {O O1 O' : Led} {s s1 : Shared} {n : Lv} {env : Env} {m m1 : Loc}

/-- x, y = a, b where both are locals: the last is stored first -/
theorem s1_assign_swap {x y : Str} {p1 p2 p pos : Pos} {k : Nat} {e : Expr} {Q : Fl → Loc → Led → Prop}
    (h : EW g n env m O e fun v O1 => ∃ a b, v = .tup [a, b] ∧ NmW g n env m O1 y b fun m1 O2 => NmW g n env m1 O2 x a (Q .next))
    (hw : swappedStores [.Tuple [.Name x p1, .Name y p2] k p] e env = pure (some [x, y]) := by rfl) (hs : ∀ env : Env, swapsWithSole [.Tuple [.Name x p1, .Name y p2] k p] e pos.line env = pure false := by intro _; rfl) :
    S1 g n env m O (.Assign [.Tuple [.Name x p1, .Name y p2] k p] e pos) Q := fun F A s ok S L => by
  refine Assign_Tuple_swapped (names := [x, y]) (wpAny_mono (h F A s ok S L) (fun u s1 ⟨v, O1, N1, S1, R1, a, b, hv, h1⟩ => ?_) fun _ _ x => x) (hs env) hw
  subst hv
  simp only [VR] at R1
  obtain ⟨t, us, rfl, ht, hT, hr⟩ := R1
  have hlen : us.length = 2 := hr.length
  rw [show ([x, y] : List Str).length = us.toArray.size by rw [List.size_toArray, hlen]; rfl]
  refine unpackItems_tuple ok.handled hT fun h' he => ?_
  have N : Nxt [] (dm O1 ++ F) (dm O1 ++ F) s1 { s1 with heap := h' } := ⟨⟨h', s1.toks, rfl⟩, kept_ext he, .refl⟩
  have R := hr.nxt N
  simp only [VRs] at R
  obtain ⟨ua, us1, rfl, Ra, ub, us2, rfl, Rb, rfl⟩ := R
  have L1 := (L.nxt N1).nxt N
  have S2 := S1.grow N.kept
  show wpAny _ A (do holding [ua] (bindName env y ub); assignInOrder [bindName env x] [ua]) _ _ _
  refine wpAny_bind (wpAny_holding (bindName_ (wpAny_mono (h1 F A _ ub ok S2 L1 Rb) (fun _ s2 ⟨m2, O2, N2, S2', L2, h2⟩ => ?_) fun _ _ x => x)))
  show wpAny _ A (do holding [] (bindName env x ua); assignInOrder [] []) _ _ _
  refine wpAny_bind (wpAny_holding (bindName_ (wpAny_mono (h2 F A s2 ua ok S2' L2 (Ra.stm L1.inF N2)) (fun _ s3 q => ?_) fun _ _ x => x)))
  have q2 := (q.chain L2.inF S2 S2' N2).chain L.inF S S2 (N1.trans N).weak
  obtain ⟨m', O', N', S', L', q3⟩ := q2
  exact wpAny_pure ⟨.next, m', O', N', S', L', rfl, q3⟩
end
end Mine

-- A13
namespace Mine
open PySem PySem.Calls PySem.W PyProof.Rows

theorem St.kin {g : Gr} {F : List Addr} {O : Led} {h : Heap} (S : St g F O h) : (hd.heap_39 g.w.params).In h := fun a o e => S.keep a o (g.kin a o e)

theorem AttrsAre.find : ∀ {es : List DictEntry} {l : List (Str × Addr)} {x : Str} {r : Addr}, AttrsAre es l → (l.map (·.1)).Nodup → (x, r) ∈ l → getL x es = some (some (.ref r))
  | [], [], _, _, _, _, hm => nomatch hm
  | e :: es, p :: ps, x, r, ⟨⟨t, hk⟩, hv, ht⟩, hn, hm => by
    have hn' := List.nodup_cons.mp hn
    unfold getL
    rw [List.find?_cons]
    have hs : e.key.isStr x = (p.1 == x) := by rw [hk]; rfl
    rcases List.mem_cons.mp hm with rfl | hm
    · rw [hs, beq_self_eq_true]
      simp only
      rw [hv]
    · have ne : (p.1 == x) = false := by
        rw [beq_eq_false_iff_ne]
        intro q
        exact hn'.1 (by show p.1 ∈ _; rw [q]; exact List.mem_map_of_mem (f := fun p : Str × Addr => p.1) hm)
      rw [hs, ne]
      have := AttrsAre.find ht hn'.2 hm
      unfold getL at this
      simp only
      split at this
      · exact this
      · split at this <;> cases this
theorem AttrsAre.put {x : Str} {r : Addr} {t : Tok} {hsh : Int} : ∀ {es : List DictEntry} {l : List (Str × Addr)}, AttrsAre es l → x ∉ l.map (·.1) → AttrsAre (putL x hsh (.str x t) (.ref r) es) (l ++ [(x, r)])
  | [], [], _, _ => ⟨⟨t, rfl⟩, rfl, trivial⟩
  | e :: es, p :: ps, ⟨⟨t', hk⟩, hv, ht⟩, hn => by
    have hs : e.key.isStr x = false := by
      rw [hk]
      show (p.1 == x) = false
      rw [beq_eq_false_iff_ne]
      intro q
      exact hn (by rw [← q]; exact .head _)
    unfold putL
    rw [hs]
    exact ⟨⟨t', hk⟩, hv, AttrsAre.put ht fun q => hn (.tail _ q)⟩
theorem AttrsAre.length : ∀ {es : List DictEntry} {l : List (Str × Addr)}, AttrsAre es l → es.length = l.length
  | [], [], _ => rfl
  | _ :: _, _ :: _, ⟨_, _, h⟩ => by simp [AttrsAre.length h]
theorem AttrsAre.look : ∀ {es : List DictEntry} {l : List (Str × Addr)} (x : Str), AttrsAre es l → (getL x es).isSome = true
  | [], [], _, _ => rfl
  | e :: es, p :: ps, x, ⟨⟨t, hk⟩, hv, ht⟩ => by
    have ih := AttrsAre.look x ht
    unfold getL at ih ⊢
    rw [List.find?_cons]
    cases h : e.key.isStr x with
    | true => rfl
    | false =>
      simp only
      split
      · rfl
      · rename_i hn
        rw [hn] at ih
        simp only at ih
        split at ih
        · cases ih
        · rename_i hq
          have : e.refKey = false := by
            unfold DictEntry.refKey
            rw [hk]
          rw [List.any_cons, this, Bool.false_or]
          rw [if_neg hq]; rfl
section
variable {g : Gr} {F : List Addr} {O O1 O' : Led} {s s1 : Shared} {n : Lv} {env : Env} {m m1 : Loc}

theorem inst_of {h : Heap} {X : List Addr} {w : World} {a d : Addr} {l : List (Str × Addr)} (h1 : OR w X h a (.inst d)) (h2 : OR w X h d (.attrs l)) : ∃ es ep, AttrsAre es l ∧ InstAt h a (instObj 134 d) 134 (some (dictOf es ep)) ∧ h.get? d = some (dictOf es ep) := by
  obtain ⟨es, ep, e, q⟩ := h2
  exact ⟨es, ep, q, ⟨h1, rfl, rfl, e⟩, e⟩
/-- program.numbers, program.rows -/
theorem ew_attr {x attr : Str} {p pos : Pos} {a d r : Addr} {l : List (Str × Addr)} {Q : V → Led → Prop} (hg : Get m x (.ref a)) (ha : (a, AO.inst d) ∈ O) (hda : (d, AO.attrs l) ∈ O) (hr : (attr, r) ∈ l) (hn : (l.map (·.1)).Nodup) (q : Q (.ref r) O)
    (hf : ∀ w : World, findIn (hd.heap_39 w.params) (.ref 134) attr = some none) (hx : (x == ("__debug__" : Str)) = false := by decide) : EW g n env m O (.Attribute (.Name x p) attr pos) Q := fun F A s ok S L => by
  refine Attribute_any_ (wpAny_mono (ew_name (n := n) hg (Q := fun v O' => v = .ref a ∧ O' = O) ⟨rfl, rfl⟩ hx F A s ok S L) (fun u s1 ⟨v, O1, N1, S1, R1, hv, hO⟩ => ?_) fun _ _ x => x)
  subst hv hO
  simp only [VR] at R1; subst R1
  obtain ⟨es, ep, at_, I, e⟩ := inst_of (S1.obj _ ha) (S1.obj _ hda)
  refine get_value S1.kin I (by kernel_rfl) (findObj_own (by kernel_rfl) (hf _) (by kernel_rfl) (AttrsAre.find at_ hn hr)) (by rfl) ?_
  exact EP.chain N1 (EP.tok S1 (by simp only [VR]) q)
theorem ew_attr_num {x : Str} {p pos : Pos} {ns rs : List V} {Q : V → Led → Prop} (hg : Get m x (.prog ns rs)) (q : Q (.lst ns) O) (hx : (x == ("__debug__" : Str)) = false := by decide) : EW g n env m O (.Attribute (.Name x p) "numbers" pos) Q := fun F A s ok S L => by
  refine Attribute_any_ (wpAny_mono (ew_name (n := n) hg (Q := fun v O' => v = .prog ns rs ∧ O' = O) ⟨rfl, rfl⟩ hx F A s ok S L) (fun u s1 ⟨v, O1, N1, S1, R1, hv, hO⟩ => ?_) fun _ _ x => x)
  subst hv hO
  simp only [VR] at R1
  obtain ⟨a, d, n', r', us, vs, rfl, xa, xd, xn, xr, ⟨P1, e1, e2, ep, P2, ⟨t1, k1⟩, v1, ⟨t2, k2⟩, v2⟩, hL, hus, hR, hvs⟩ := R1
  have I : InstAt s1.heap a (instObj 134 d) 134 (some (dictOf [e1, e2] ep)) := ⟨P1, rfl, rfl, P2⟩
  refine get_value S1.kin I (by kernel_rfl) (findObj_own (v := .ref n') (by kernel_rfl) (attr := none) (by kernel_rfl) (by kernel_rfl) ?_) (by rfl) ?_
  · exact AttrsAre.find (l := [("numbers", n'), ("rows", r')]) (es := [e1, e2]) ⟨⟨t1, k1⟩, v1, ⟨t2, k2⟩, v2, trivial⟩ (by show ([("numbers" : Str), "rows"]).Nodup; decide) (.head _)
  · exact EP.chain N1 (EP.tok S1 (by simp only [VR]; exact ⟨n', us, rfl, xn, hL, hus⟩) q)
theorem ew_attr_rows {x : Str} {p pos : Pos} {ns rs : List V} {Q : V → Led → Prop} (hg : Get m x (.prog ns rs)) (q : Q (.lst rs) O) (hx : (x == ("__debug__" : Str)) = false := by decide) : EW g n env m O (.Attribute (.Name x p) "rows" pos) Q := fun F A s ok S L => by
  refine Attribute_any_ (wpAny_mono (ew_name (n := n) hg (Q := fun v O' => v = .prog ns rs ∧ O' = O) ⟨rfl, rfl⟩ hx F A s ok S L) (fun u s1 ⟨v, O1, N1, S1, R1, hv, hO⟩ => ?_) fun _ _ x => x)
  subst hv hO
  simp only [VR] at R1
  obtain ⟨a, d, n', r', us, vs, rfl, xa, xd, xn, xr, ⟨P1, e1, e2, ep, P2, ⟨t1, k1⟩, v1, ⟨t2, k2⟩, v2⟩, hL, hus, hR, hvs⟩ := R1
  have I : InstAt s1.heap a (instObj 134 d) 134 (some (dictOf [e1, e2] ep)) := ⟨P1, rfl, rfl, P2⟩
  refine get_value S1.kin I (by kernel_rfl) (findObj_own (v := .ref r') (by kernel_rfl) (attr := none) (by kernel_rfl) (by kernel_rfl) ?_) (by rfl) ?_
  · exact AttrsAre.find (l := [("numbers", n'), ("rows", r')]) (es := [e1, e2]) ⟨⟨t1, k1⟩, v1, ⟨t2, k2⟩, v2, trivial⟩ (by show ([("numbers" : Str), "rows"]).Nodup; decide) (.tail _ (.head _))
  · exact EP.chain N1 (EP.tok S1 (by simp only [VR]; exact ⟨r', vs, rfl, xr, hR, hvs⟩) q)

/-- all that is there but d and L -/
noncomputable def others (h : Heap) (d L : Addr) : List (Addr × Obj) := (List.range h.objs.size).filterMap fun b => if b = d ∨ b = L then none else (h.get? b).map (b, ·)
theorem others_mem {h : Heap} {d L b : Addr} {o : Obj} (hb : b ≠ d) (hL : b ≠ L) (e : h.get? b = some o) : (b, o) ∈ others h d L :=
  List.mem_filterMap.mpr ⟨b, List.mem_range.mpr (Heap.lt_size e), by rw [if_neg (by rintro (q | q); exact hb q; exact hL q), e]; rfl⟩
theorem others_get {h : Heap} {d L : Addr} {p : Addr × Obj} (hm : p ∈ others h d L) : p.1 ≠ d ∧ p.1 ≠ L ∧ h.get? p.1 = some p.2 := by
  obtain ⟨b, _, e⟩ := List.mem_filterMap.mp hm
  split at e
  · cases e
  · rename_i q
    obtain ⟨o, e1, rfl⟩ := Option.map_eq_some_iff.mp e
    exact ⟨fun z => q (.inl z), fun z => q (.inr z), e1⟩
theorem get_empty (a : Addr) : (default : Heap).get? a = none := by
  cases e : (default : Heap).get? a with
  | none => rfl
  | some o => exact absurd (Heap.lt_size e) (Nat.not_lt_zero _)
/-- a field is stored: a new one -/
inductive SaQ (m : Loc) (x attr : Str) (Q : Fl → Loc → Led → Prop) (v : V) (O1 : Led) : Prop
  | mk (a d : Addr) (l : List (Str × Addr)) (r : Addr) (O2 : Led) (e : v = .ref r) (hg : Get m x (.ref a)) (ha : (a, AO.inst d) ∈ O1) (u : UpdO O1 d (.attrs l) (.attrs (l ++ [(attr, r)])) O2) (hn : attr ∉ l.map (·.1)) (hl : l.length ≤ 10) (q : Q .next m O2)
theorem s1_setattr {x attr : Str} {p pos' pos : Pos} {e : Expr} {Q : Fl → Loc → Led → Prop}
    (h : EW g n env m O e fun v O1 => SaQ m x attr Q v O1)
    (ht : ∀ w : World, takerIn (hd.heap_39 w.params) 134 attr = some none) (hx : (x == ("__debug__" : Str)) = false := by decide)
    (hs : ∀ env : Env, swapsWith e (some (.Attribute (.Name x p) attr pos')) pos.line env = pure false := by intro _; rfl) : S1 g n env m O (.Assign [.Attribute (.Name x p) attr pos'] e pos) Q := fun F A s ok S L => by
  refine plainObj_wpAny_Assign_Attribute (wpAny_mono (h F A s ok S L) (fun u s1 ⟨v, O1, N1, S1, R1, a, d, l, r, O2, hv, hg, ha, hu, hn, hl, q⟩ => ?_) fun _ _ x => x) (hs env)
  subst hv
  simp only [VR] at R1; subst R1
  refine wpAny_mono (ew_name (n := n) hg (Q := fun v O' => v = .ref a ∧ O' = O1) ⟨rfl, rfl⟩ hx F A s1 ok S1 (L.nxt N1)) (fun u s2 ⟨v, O', N2, S2, R2, hv, hO⟩ => ?_) fun _ _ x => x
  subst hv hO
  simp only [VR] at R2; subst R2
  obtain ⟨es, ep, at_, I, e⟩ := inst_of (S2.obj _ ha) (S2.obj _ hu.mem)
  have L2 := (L.nxt N1).nxt N2
  obtain ⟨mc, hns, hv⟩ := L2.ns
  have dL : d ≠ env.locals := fun z => S2.disj d (List.mem_map_of_mem hu.mem) (by rw [z]; exact L2.inF _ (.head _))
  have F0 : Fr default env.locals s2.heap mc := ⟨hns, fun b o e => (by rw [get_empty] at e; cases e), Nat.zero_le _⟩
  have N0 : News default env.locals s2.heap ([] ++ (d, dictOf es ep) :: others s2.heap d env.locals) := fun p hp => by
    rcases List.mem_cons.mp hp with rfl | hp
    · exact ⟨e, dL, get_empty _⟩
    · obtain ⟨h1, h2, h3⟩ := others_get hp
      exact ⟨h3, h2, get_empty _⟩
  refine set_plain S2.kin I (by kernel_rfl) (osa_dict (s := { s2 with toks := s2.toks + 1 }) F0 N0 S2.kin I rfl (by kernel_rfl) (ht _) (by kernel_rfl) (AttrsAre.look attr at_) (by simp) (fun p hp => (others_get hp).1) (putName_dict ..) rfl ?_ fun h' F' N' => ?_)
  · have : (putL attr (PyData.keyHash g.w.params attr) (.str attr (s2.toks + 1)) (.ref r) es).length = l.length + 1 := by
      rw [AttrsAre.length (at_.put (r := r) hn), List.length_append]; rfl
    rw [this]; omega
  have kp : Kept [d, env.locals] s2.heap h' := fun b o hb e => (N' (b, o) (List.mem_cons_of_mem _ (others_mem (fun z => hb (by rw [z]; exact .head _)) (fun z => hb (by rw [z]; exact .tail _ (.head _))) e))).1
  have hdd := (N' _ (.head _)).1
  have dd : d ∈ dm O' := List.mem_map_of_mem hu.mem
  have LF : env.locals ∈ F := L2.inF _ (.head _)
  have kX : Kept (dm O' ++ F) s2.heap h' := fun b o hb e => kp b o (fun z => hb (by
    rcases List.mem_cons.mp z with z | z
    · rw [z]; exact List.mem_append.mpr (.inl dd)
    · rw [List.mem_singleton.mp z]; exact List.mem_append.mpr (.inr LF))) e
  have S3 : St g F O2 h' := by
    refine ⟨fun b o e => kp b o (fun z => ?_) (S2.keep b o e), by rw [hu.dm]; exact S2.fresh, by rw [hu.dm]; exact S2.nodup, by rw [hu.dm]; exact S2.disj, fun b hb => ?_, fun p hp => ?_⟩
    · have : g.h.get? b = none := by
        rcases List.mem_cons.mp z with z | z
        · rw [z]; exact S2.fresh d (List.mem_append.mpr (.inl dd))
        · rw [List.mem_singleton.mp z]; exact S2.fresh _ (List.mem_append.mpr (.inr LF))
      rw [this] at e; cases e
    · by_cases hbl : b = env.locals
      · rw [hbl]; obtain ⟨o, _, _, e, _⟩ := F'.ns; exact ⟨o, e⟩
      · obtain ⟨o, e⟩ := S2.thereF b hb
        exact ⟨o, kp b o (fun z => by
          rcases List.mem_cons.mp z with z | z
          · exact S2.disj d dd (by rw [← z]; exact hb)
          · exact hbl (List.mem_singleton.mp z)) e⟩
    · rw [hu.dm]
      rcases hu.cases S2.nodup p hp with rfl | ⟨h1, h2⟩
      · exact ⟨_, _, hdd, at_.put hn⟩
      · exact (S2.obj p h1).mono kX .refl fun o e => kp _ o (fun z => by
          rcases List.mem_cons.mp z with z | z
          · exact h2 z
          · exact S2.disj _ (List.mem_map_of_mem h1) (by rw [List.mem_singleton.mp z]; exact LF)) e
  have cl : ∀ c, c ∈ env.cells.map (·.2) → ∀ v, s2.heap.IsCell c v → h'.IsCell c v := fun c hc v ⟨o, e, dt⟩ => ⟨o, kp c o (fun z => by
    rcases List.mem_cons.mp z with z | z
    · exact S2.disj d dd (by rw [← z]; exact L2.inF _ (.tail _ hc))
    · exact (List.nodup_cons.mp L2.ond).1 (by rw [← List.mem_singleton.mp z]; exact hc)) e, dt⟩
  have L3 : LR g F O2 h' env m := ⟨L2.fn, L2.gl, L2.bl, L2.inF, L2.ond, L2.nd, fun c hc => let ⟨v0, e⟩ := L2.cs c hc; ⟨v0, cl c hc _ e⟩, mc, F'.ns, fun y w hy => by
    obtain ⟨u', hu', q'⟩ := hv y w hy
    rw [hu.dm]
    exact ⟨u', hu'.mono kX .refl, q'.imp id fun ⟨k, c, h1, h2⟩ => ⟨k, c, h1, cl c (List.mem_map.mpr ⟨(y, c), PySem.mem_of_lookup h1, rfl⟩) _ h2⟩⟩⟩
  refine SP.chain L.inF S S2 (N1.trans N2).weak ⟨.next, m, O2, ⟨⟨_, _, rfl⟩, fun b o hb e => kp b o (fun z => hb (by
    rcases List.mem_cons.mp z with z | z
    · rw [z]; exact List.mem_append.mpr (.inl dd)
    · rw [List.mem_singleton.mp z]; exact List.mem_append.mpr (.inr (.head _)))) e, by rw [hu.dm]; exact .refl⟩, S3, L3, rfl, q⟩

-- calls that turn what the caller made
inductive FMP (g : Gr) (F : List Addr) (O : Led) (Q : V → Led → Prop) (s : Shared) (r : Result) (s' : Shared) : Prop
  | mk (u : Value) (v : V) (O' : Led) (e : r = .ok (.ret u)) (N : Nxt (dm O) (dm O ++ F) (dm O' ++ F) s s') (S : St g F O' s'.heap) (R : VR g.w (dm O' ++ F) s'.heap v u) (q : Q v O')
noncomputable def FM (g : Gr) (n : Nat) (a : Addr) (vs : List V) (O : Led) (Q : V → Led → Prop) : Prop :=
  ∀ F A s us, Ok ⟨n, none⟩ A → St g F O s.heap → VRs g.w (dm O ++ F) s.heap vs us → codeAny (model prg g.w) A (.call (.ref a) ⟨us, []⟩) (FMP g F O Q s) s
noncomputable def BackM (Q : V → Led → Prop) : Fl → Loc → Led → Prop
  | .ret v, _, O => Q v O
  | .next, _, O => Q .none O
  | _, _, _ => False
theorem fm_intro {n : Nat} {a : Addr} {f : Fn} {vs : List V} {Q : V → Led → Prop} {binds : List Value → List (Str × Value)} {m0 : Loc} (hf : FnAt g a f)
    (hbind : ∀ us, us.length = vs.length → ∀ pm cd doc, bindArgs (docDef f.name f.params f.body f.scope pm cd doc) ⟨us, []⟩ = pure (binds us))
    (hloc : ∀ us, us.length = vs.length → ∀ x ∈ binds us, f.scope.names.lookup x.1 = some .local)
    (hm : ∀ (X : List Addr) (h : Heap) us, VRs g.w X h vs us → ∀ x v, (x, some v) ∈ m0 → ∃ u, VR g.w X h v u ∧ f.scope.names.lookup x = some .local ∧ (binds us).reverse.lookup x = some u)
    (hnd : (m0.map (·.1)).Nodup) (hk : f.scope.kind = .function) (hco : f.scope.isCoroutine = false) (hgen : f.scope.isGenerator = false) (hcell : ∀ x ∈ f.scope.names, x.2 ≠ .cell)
    (h : ∀ L cd, SW g ⟨n, none⟩ (envOf f.name f.scope L a cd) m0 O f.body (BackM Q)) : FM g (n + 1) a vs O Q := fun F A s us ok S R => by
  obtain ⟨o, pm, code, doc, ho, hdt, hcd⟩ := hf
  have hl := R.length
  refine call_plain_ret (binds := binds us) (by have := ok.depth; show A.depth < 1000; simp only at this; omega) (S.keep _ _ ho) hdt S.lim (hcd.keeps S.keep) (hbind us hl pm code doc) (hloc us hl) (fun h1 Fr1 => ?_) hco hgen hk hcell
  have kp : Kept [] s.heap h1 := fun b o _ e => Fr1.keep b o e
  have hex : ∃ o, h1.get? s.heap.objs.size = some o := let ⟨o, _, _, e, _⟩ := Fr1.ns; ⟨o, e⟩
  have hno : s.heap.get? s.heap.objs.size = none := none_size
  have hw : ∀ b, b ∈ [s.heap.objs.size] → s.heap.get? b = none ∧ ∃ o, h1.get? b = some o := fun b hb => by rw [List.mem_singleton.mp hb]; exact ⟨hno, hex⟩
  have nX : Newly (dm O ++ F) (dm O ++ ([s.heap.objs.size] ++ F)) s.heap := new_more (X := []) fun b hb => (hw b hb).1
  have notX : s.heap.objs.size ∉ dm O ++ F := notIn_size S
  have S1 : St g ([s.heap.objs.size] ++ F) O h1 := (S.grow kp).more (fun b hb => by
    rw [List.mem_singleton.mp hb]
    exact ⟨base_none S hno, fun q => notX (List.mem_append.mpr (.inl q)), hex⟩) fun p hp => (S.obj p hp).mono (kept_of kp) nX fun o e => kp _ _ (by simp) e
  have R1 : VRs g.w (dm O ++ ([s.heap.objs.size] ++ F)) h1 vs us := R.mono (kept_of kp) nX
  have L1 : LR g ([s.heap.objs.size] ++ F) O h1 (envOf f.name f.scope s.heap.objs.size a code) m0 :=
    ⟨hk, rfl, rfl, fun b hb => by simp [ownA, envOf] at hb; rw [hb]; exact .head _, by simp [ownA, envOf], hnd, fun c hc => by simp [envOf] at hc, _, Fr1.ns, fun x v hx => by
      obtain ⟨u, q1, q2, q3⟩ := hm _ _ us R1 x v hx
      exact ⟨u, q1, .inl ⟨q2, q3⟩⟩⟩
  refine wpAny_mono (h s.heap.objs.size code ([s.heap.objs.size] ++ F) _ _ (ok.deeper _) S1 L1) (fun f2 s2 ⟨fl, m2, O2, N2, S2, L2, R2, q⟩ => ?_) fun _ _ x => x
  have subs : ∀ b, b ∈ dm O2 ++ F → b ∈ dm O2 ++ ([s.heap.objs.size] ++ F) := fun b hb => by
    rcases List.mem_append.mp hb with hb | hb
    · exact List.mem_append.mpr (.inl hb)
    · exact List.mem_append.mpr (.inr (.tail _ hb))
  have N : Nxt (dm O) (dm O ++ F) (dm O2 ++ F) s s2 := by
    obtain ⟨h2, t2, rfl⟩ := N2.same
    refine ⟨⟨h2, t2, rfl⟩, fun b o hb e => N2.kept b o (fun z => ?_) (kp b o (by simp) e), fun b hb => ?_⟩
    · rcases List.mem_append.mp z with z | z
      · exact hb z
      · have z' : b = s.heap.objs.size := by simpa [ownA, envOf] using z
        rw [z', hno] at e; cases e
    · rcases N2.new b (subs b hb) with q | q
      · rcases List.mem_append.mp q with q | q
        · exact .inl (List.mem_append.mpr (.inl q))
        · rcases List.mem_cons.mp q with q | q
          · right; rw [q]; exact hno
          · exact .inl (List.mem_append.mpr (.inr q))
      · right; exact none_up kp q
  cases fl with
  | next => simp only [FlR] at R2; subst R2; exact ⟨.none, .none, O2, rfl, N, S2.less, by simp only [VR], q⟩
  | ret v =>
    simp only [FlR] at R2
    obtain ⟨u, rfl, R2⟩ := R2
    exact ⟨u, v, O2, rfl, N, S2.less, R2.mono .refl (sub_less subs), q⟩
  | brk => exact q.elim
  | cont => exact q.elim
end
end Mine

-- A14
namespace Mine
open PySem PySem.Calls PySem.W PyProof.Rows

section
variable {g : Gr} {F : List Addr} {O O1 O' : Led} {s s1 : Shared} {n : Lv} {env : Env} {m m1 : Loc}

theorem fm3 {n : Nat} {a : Addr} {f : Fn} {v1 v2 v3 : V} {x1 x2 x3 : Str} {rest : List Str} {Q : V → Led → Prop} (hf : FnAt g a f)
    (hbind : ∀ u1 u2 u3 pm cd doc, bindArgs (docDef f.name f.params f.body f.scope pm cd doc) ⟨[u1, u2, u3], []⟩ = pure [(x1, u1), (x2, u2), (x3, u3)])
    (hl : f.scope.names.lookup x1 = some .local ∧ f.scope.names.lookup x2 = some .local ∧ f.scope.names.lookup x3 = some .local) (hnd : (x1 :: x2 :: x3 :: rest).Nodup) (hk : f.scope.kind = .function) (hco : f.scope.isCoroutine = false) (hgen : f.scope.isGenerator = false) (hcell : ∀ x ∈ f.scope.names, x.2 ≠ .cell)
    (h : ∀ L cd, SW g ⟨n, none⟩ (envOf f.name f.scope L a cd) ((x1, some v1) :: (x2, some v2) :: (x3, some v3) :: rest.map (·, none)) O f.body (BackM Q)) : FM g (n + 1) a [v1, v2, v3] O Q := by
  have ne : x1 ≠ x2 := fun e => by rw [e] at hnd; simp at hnd
  have ne2 : x1 ≠ x3 := fun e => by rw [e] at hnd; simp at hnd
  have ne3 : x2 ≠ x3 := fun e => by rw [e] at hnd; simp at hnd
  refine fm_intro (binds := fun us => match us with | [u, v, w] => [(x1, u), (x2, v), (x3, w)] | _ => []) hf (fun us e pm cd doc => ?_) (fun us e x hx => ?_) (fun X hh us R x v hx => ?_) ?_ hk hco hgen hcell h
  · obtain ⟨u, v, w, rfl⟩ := len_three e
    exact hbind u v w pm cd doc
  · obtain ⟨u, v, w, rfl⟩ := len_three e
    simp at hx; rcases hx with rfl | rfl | rfl; exact hl.1; exact hl.2.1; exact hl.2.2
  · simp only [VRs] at R
    obtain ⟨u, us', rfl, R1, u', us'', rfl, R2, u'', us3, rfl, R3, rfl⟩ := R
    rcases List.mem_cons.mp hx with e | hx
    · injection e with e1 e2; injection e2 with e2; subst e1 e2
      exact ⟨u, R1, hl.1, by simp [List.lookup_cons, beq_eq_false_iff_ne.mpr ne, beq_eq_false_iff_ne.mpr ne2]⟩
    · rcases List.mem_cons.mp hx with e | hx
      · injection e with e1 e2; injection e2 with e2; subst e1 e2
        exact ⟨u', R2, hl.2.1, by simp [List.lookup_cons, beq_eq_false_iff_ne.mpr ne3]⟩
      · rcases List.mem_cons.mp hx with e | hx
        · injection e with e1 e2; injection e2 with e2; subst e1 e2
          exact ⟨u'', R3, hl.2.2, by simp⟩
        · simp at hx
  · rw [List.map_cons, List.map_cons, List.map_cons, List.map_map]; simpa [Function.comp_def] using hnd


theorem FM.le {n k : Nat} {a : Addr} {vs : List V} {Q : V → Led → Prop} (h : FM g k a vs O Q) (hk : k ≤ n) : FM g n a vs O Q := fun F A s us ok S R => h F A s us (ok.le hk) S R
theorem FM.mono {n : Nat} {a : Addr} {vs : List V} {Q Q' : V → Led → Prop} (h : FM g n a vs O Q) (hq : ∀ v O, Q v O → Q' v O) : FM g n a vs O Q' := fun F A s us ok S R =>
  codeAny_mono (h F A s us ok S R) fun r s' ⟨u, v, O', e, N, S', R', q⟩ => ⟨u, v, O', e, N, S', R', hq v O' q⟩

theorem LR.mutd (L : LR g F O s.heap env m) (S : St g F O s.heap) (N : Nxt (dm O) (dm O ++ F) (dm O' ++ F) s s1) : LR g F O' s1.heap env m := by
  obtain ⟨mc, hn, hv⟩ := L.ns
  have own : ∀ b, b ∈ ownA env → b ∉ dm O := fun b hb z => S.disj b z (L.inF b hb)
  have kX : Kept (dm O ++ F) s.heap s1.heap := fun b o hb e => N.kept b o (fun z => hb (List.mem_append.mpr (.inl z))) e
  have cl : ∀ c, c ∈ env.cells.map (·.2) → ∀ v, s.heap.IsCell c v → s1.heap.IsCell c v := fun c hc v ⟨o, e, d⟩ => ⟨o, N.kept _ _ (own c (.tail _ hc)) e, d⟩
  refine ⟨L.fn, L.gl, L.bl, L.inF, L.ond, L.nd, fun c hc => let ⟨v0, e⟩ := L.cs c hc; ⟨v0, cl c hc _ e⟩, mc, ?_, fun x v hx => ?_⟩
  · obtain ⟨o, es, ep, e, r⟩ := hn
    exact ⟨o, es, ep, N.kept _ _ (own _ (.head _)) e, r⟩
  · obtain ⟨u, hu, q⟩ := hv x v hx
    exact ⟨u, hu.mono kX N.new, q.imp id fun ⟨k, c, h1, h2⟩ => ⟨k, c, h1, cl c (List.mem_map.mpr ⟨(x, c), PySem.mem_of_lookup h1, rfl⟩) _ h2⟩⟩
/-- f(..) for its own sake, where f turns what is here -/
theorem s1_callM {x : Str} {np pos epos : Pos} {e : Expr} {es : List Expr} {a : Addr} {f : Fn} {Q : Fl → Loc → Led → Prop} (hf : FnAt g a f) (hk : env.kindOf x = some .globalImplicit) (hu : g.mg x = some (.ref a))
    (h : LW g n env m O (e :: es) fun vs O1 => FM g n.n a vs O1 fun v O2 => v = .none ∧ Q .next m O2) (hd : (x == ("__debug__" : Str)) = false := by decide) (he : ∀ (env : Env), starEach (e :: es) env = (false, eval e env) :: starEach es env := by intro _; rfl)
    (hi : ∀ env : Env, env.scope.kind = .function → interactive env = false := by intro env h; unfold interactive; rw [h]; rfl)
    (hw : ∀ env : Env, swapsWith (.Call (.Name x np) (e :: es) [] pos) none epos.line env = pure false := by intro _; rfl) : S1 g n env m O (.Expr (.Call (.Name x np) (e :: es) [] pos) epos) Q := fun F A s ok S L => by
  obtain ⟨o, pm, code, doc, ho, hdat, hcd⟩ := hf
  refine wpAny_Expr ?_ (hi env L.fn) (hw env)
  refine wpAny_Call_ofName (Name_function_global L.fn hk (loadGlobal_global (mg := g.mg) (by rw [L.gl]; exact g.gs.keeps S.keep) hu ?_) hd)
  show wpAny _ A (callWith pos (.ref a) [] (backTo pos (starEach (e :: es) env)) []) _ _ s
  refine callWith_function (o := o) (fd := docDef f.name f.params f.body f.scope pm code doc) ?_
  have h1 := h F A s pos ok S L
  rw [he env] at h1 ⊢
  refine evalArgs_plain (wpAny_mono h1 (fun us s1 ⟨hl, vs, O1, N1, S1, R1, h1⟩ => ?_) fun _ _ x => x)
  refine ⟨⟨S1.keep _ _ ho, hdat⟩, ?_⟩
  have L1 := L.nxt N1
  refine wpAny_call (codeAny_mono (h1 F A s1 us ok.plain S1 R1) fun r s2 ⟨u, v, O2, e, N2, S2, R2, hv, q⟩ => ?_)
  subst e hv
  simp only [VR] at R2; subst R2
  have N2' : Nxt (dm O1 ++ ownA env) (dm O1 ++ F) (dm O2 ++ F) s1 s2 := ⟨N2.same, fun b o hb e => N2.kept b o (fun z => hb (List.mem_append.mpr (.inl z))) e, N2.new⟩
  exact SP.chain L.inF S S1 N1.weak ⟨.next, m, O2, N2', S2, L1.mutd S1 N2, rfl, q⟩

/-- what is made here is settled from here on -/
theorem sw_freeze {m' : Loc} {ss : List Stmt} {Q : Fl → Loc → Led → Prop} (h : SW g n env m' [] ss Q) (hm : ∀ x v', (x, some v') ∈ m' → ∃ v, (x, some v) ∈ m ∧ Frz O v v') (hn : (m'.map (·.1)).Nodup) : SW g n env m O ss Q := fun F A s ok S L => by
  have S0 : St g F [] s.heap := ⟨S.keep, fun a ha => S.fresh a (List.mem_append.mpr (.inr ha)), List.nodup_nil, fun a ha => by simp at ha, S.thereF, fun p hp => by simp at hp⟩
  have L0 : LR g F [] s.heap env m' := by
    obtain ⟨mc, hns, hv⟩ := L.ns
    refine ⟨L.fn, L.gl, L.bl, L.inF, L.ond, hn, L.cs, mc, hns, fun x v' hx => ?_⟩
    obtain ⟨v, h1, z⟩ := hm x v' hx
    obtain ⟨u, hu, q⟩ := hv x v h1
    exact ⟨u, z.run S hu fun a ha => ha, q⟩
  refine wpAny_mono (h F A s ok S0 L0) (fun f s2 ⟨fl, m2, O2, N2, S2, L2, R2, q⟩ => ?_) fun _ _ x => x
  refine ⟨fl, m2, O2, ⟨N2.same, fun b o hb e => N2.kept b o (fun z => hb (List.mem_append.mpr (.inr (by simpa using z)))) e, fun b hb => ?_⟩, S2, L2, R2, q⟩
  rcases N2.new b hb with q | q
  · exact .inl (List.mem_append.mpr (.inr (by simpa using q)))
  · exact .inr q

-- a chain of two comparisons, as a test
theorem tw_chain {l r1 r2 : Expr} {op1 op2 pos} {Q : Bool → Led → Prop}
    (h : EW g n env m O l fun a O1 => EW g n env m O1 r1 fun b O2 => W2 g n (compareOp op1) a b O2 fun c O3 => ∃ t, c = .bool t ∧ if t = true then EW g n env m O3 r2 fun d O4 => W2 g n (compareOp op2) b d O4 fun e O5 => ∃ t', e = .bool t' ∧ Q t' O5 else Q false O3)
    (hm : lastMarks [op1, op2] [r1, r2] = false := by with_unfolding_all rfl) : TW g n env m O (.Compare l [op1, op2] [r1, r2] pos) Q := fun F A s ok S L => by
  refine isTrue_chain (wpAny_mono (h F A s ok S L) (fun ua s1 ⟨a, O1, N1, S1, R1, h1⟩ => ?_) fun _ _ x => x) hm
  refine test_link (wpAny_mono (h1 F A s1 ok S1 (L.nxt N1)) (fun ub s2 ⟨b, O2, N2, S2, R2, h2⟩ => ?_) fun _ _ x => x)
  refine wpAny_mono (h2 F A s2 ua ub ok S2 (R1.nxt N2) R2) (fun uc s3 ⟨c, O3, N3, S3, R3, t, hc, h3⟩ => ?_) fun _ _ x => x
  subst hc
  simp only [VR] at R3; subst R3
  refine wpAny_truthy_bool ?_
  have N13 := (N1.trans N2).trans N3
  cases t with
  | false => exact ⟨O3, N13, S3, h3⟩
  | true =>
    simp only [if_true] at h3 ⊢
    refine test_last (wpAny_mono (h3 F A s3 ok S3 (L.nxt N13)) (fun ud s4 ⟨d, O4, N4, S4, R4, h4⟩ => ?_) fun _ _ x => x)
    refine wpAny_mono (h4 F A s4 ub ud ok S4 ((R2.nxt N3).nxt N4) R4) (fun ue s5 ⟨e, O5, N5, S5, R5, t', he, q⟩ => ?_) fun _ _ x => x
    subst he
    simp only [VR] at R5; subst R5
    exact wpAny_truthy_bool ⟨O5, (N13.trans N4).trans N5, S5, q⟩
end
end Mine

-- A15
namespace Mine
open PySem PySem.Calls PySem.W PyProof.Rows

noncomputable def FnAtQ (g : Gr) (a : Addr) (f : Fn) (q : Str) : Prop :=
  ∃ o pm code doc, g.h.get? a = some o ∧ o.data = .func (methDef f.name q f.params f.body f.scope pm code doc) ∧ g.h.CodeRec code q
noncomputable abbrev f_prog : Fn := fnOfCls 21
theorem at_prog (g : Gr) : FnAtQ g 131 f_prog "Program.__init__" := ⟨_, _, _, _, g.kin 131 _ rfl, rfl, ⟨130, _, _, _, rfl, g.kin 130 _ rfl, rfl, rfl⟩⟩
theorem mg_Program (g : Gr) : g.mg "Program" = some (.ref 134) := mg_of g.kin g.gs (by kernel_rfl)

section
variable {g : Gr} {F : List Addr} {O O1 O' : Led} {s s1 : Shared} {n : Lv} {env : Env} {m m1 : Loc}

theorem fm_introQ {n : Nat} {a : Addr} {f : Fn} {vs : List V} {Q : V → Led → Prop} {binds : List Value → List (Str × Value)} {m0 : Loc} {q : Str} (hf : FnAtQ g a f q)
    (hbind : ∀ us, us.length = vs.length → ∀ pm cd doc, bindArgs (methDef f.name q f.params f.body f.scope pm cd doc) ⟨us, []⟩ = pure (binds us))
    (hloc : ∀ us, us.length = vs.length → ∀ x ∈ binds us, f.scope.names.lookup x.1 = some .local)
    (hm : ∀ (X : List Addr) (h : Heap) us, VRs g.w X h vs us → ∀ x v, (x, some v) ∈ m0 → ∃ u, VR g.w X h v u ∧ f.scope.names.lookup x = some .local ∧ (binds us).reverse.lookup x = some u)
    (hnd : (m0.map (·.1)).Nodup) (hk : f.scope.kind = .function) (hco : f.scope.isCoroutine = false) (hgen : f.scope.isGenerator = false) (hcell : ∀ x ∈ f.scope.names, x.2 ≠ .cell)
    (h : ∀ L cd, SW g ⟨n, none⟩ (envOf q f.scope L a cd) m0 O f.body (BackM Q)) : FM g (n + 1) a vs O Q := fun F A s us ok S R => by
  obtain ⟨o, pm, code, doc, ho, hdt, hcd⟩ := hf
  have hl := R.length
  refine codeAny_call_plain (fd := methDef f.name q f.params f.body f.scope pm code doc) (binds := binds us) (by have := ok.depth; show A.depth < 1000; simp only at this; omega) (S.keep _ _ ho) hdt S.lim (hcd.keeps S.keep) rfl (hbind us hl pm code doc) hcell (hloc us hl) (fun h1 ns1 keep1 => ?_) hco hgen hk
  have kp : Kept [] s.heap h1 := fun b o _ e => keep1 b o e
  have hex : ∃ o, h1.get? s.heap.objs.size = some o := let ⟨o, _, _, e, _⟩ := ns1; ⟨o, e⟩
  have hno : s.heap.get? s.heap.objs.size = none := none_size
  have hw : ∀ b, b ∈ [s.heap.objs.size] → s.heap.get? b = none ∧ ∃ o, h1.get? b = some o := fun b hb => by rw [List.mem_singleton.mp hb]; exact ⟨hno, hex⟩
  have nX : Newly (dm O ++ F) (dm O ++ ([s.heap.objs.size] ++ F)) s.heap := new_more (X := []) fun b hb => (hw b hb).1
  have notX : s.heap.objs.size ∉ dm O ++ F := notIn_size S
  have S1 : St g ([s.heap.objs.size] ++ F) O h1 := (S.grow kp).more (fun b hb => by
    rw [List.mem_singleton.mp hb]
    exact ⟨base_none S hno, fun q => notX (List.mem_append.mpr (.inl q)), hex⟩) fun p hp => (S.obj p hp).mono (kept_of kp) nX fun o e => kp _ _ (by simp) e
  have R1 : VRs g.w (dm O ++ ([s.heap.objs.size] ++ F)) h1 vs us := R.mono (kept_of kp) nX
  have L1 : LR g ([s.heap.objs.size] ++ F) O h1 (envOf q f.scope s.heap.objs.size a code) m0 :=
    ⟨hk, rfl, rfl, fun b hb => by simp [ownA, envOf] at hb; rw [hb]; exact .head _, by simp [ownA, envOf], hnd, fun c hc => by simp [envOf] at hc, _, ns1, fun x v hx => by
      obtain ⟨u, q1, q2, q3⟩ := hm _ _ us R1 x v hx
      exact ⟨u, q1, .inl ⟨q2, q3⟩⟩⟩
  refine wpAny_mono (h s.heap.objs.size code ([s.heap.objs.size] ++ F) _ _ (ok.deeper _) S1 L1) (fun f2 s2 ⟨fl, m2, O2, N2, S2, L2, R2, q⟩ => ?_) fun _ _ x => x.elim
  have subs : ∀ b, b ∈ dm O2 ++ F → b ∈ dm O2 ++ ([s.heap.objs.size] ++ F) := fun b hb => by
    rcases List.mem_append.mp hb with hb | hb
    · exact List.mem_append.mpr (.inl hb)
    · exact List.mem_append.mpr (.inr (.tail _ hb))
  have N : Nxt (dm O) (dm O ++ F) (dm O2 ++ F) s s2 := by
    obtain ⟨h2, t2, rfl⟩ := N2.same
    refine ⟨⟨h2, t2, rfl⟩, fun b o hb e => N2.kept b o (fun z => ?_) (kp b o (by simp) e), fun b hb => ?_⟩
    · rcases List.mem_append.mp z with z | z
      · exact hb z
      · have z' : b = s.heap.objs.size := by simpa [ownA, envOf] using z
        rw [z', hno] at e; cases e
    · rcases N2.new b (subs b hb) with q | q
      · rcases List.mem_append.mp q with q | q
        · exact .inl (List.mem_append.mpr (.inl q))
        · rcases List.mem_cons.mp q with q | q
          · right; rw [q]; exact hno
          · exact .inl (List.mem_append.mpr (.inr q))
      · right; exact none_up kp q
  cases fl with
  | next => simp only [FlR] at R2; subst R2; exact ⟨.none, .none, O2, rfl, N, S2.less, by simp only [VR], q⟩
  | ret v =>
    simp only [FlR] at R2
    obtain ⟨u, rfl, R2⟩ := R2
    exact ⟨u, v, O2, rfl, N, S2.less, R2.mono .refl (sub_less subs), q⟩
  | brk => exact q.elim
  | cont => exact q.elim

noncomputable def progO (x d a b : Addr) : Led := [(b, .list []), (a, .list []), (x, .inst d), (d, .attrs [("numbers", a), ("rows", b)])]
theorem c_init (g : Gr) (n : Nat) (x d : Addr) : FM g (n + 1) 131 [.ref x] [(x, .inst d), (d, .attrs [])] (fun v O => v = .none ∧ ∃ a b, O = progO x d a b) := by
  refine fm_introQ (binds := fun us => match us with | [u] => [("self", u)] | _ => []) (m0 := [("self", some (.ref x))]) (at_prog g) (fun us e pm cd doc => ?_) (fun us e y hy => ?_) (fun X h us R y v hy => ?_) (by simp) rfl rfl rfl (by decide) fun L cd => ?_
  · obtain ⟨u, rfl⟩ := List.length_eq_one_iff.mp e
    rfl
  · obtain ⟨u, rfl⟩ := List.length_eq_one_iff.mp e
    simp at hy; subst hy; rfl
  · simp only [VRs] at R
    obtain ⟨u, us', rfl, R1, rfl⟩ := R
    simp at hy
    obtain ⟨rfl, rfl⟩ := hy
    exact ⟨u, R1, rfl, by simp⟩
  · refine sw_cons (s1_setattr (ew_listN (lw_nil fun a => ⟨x, d, _, a, _, rfl, .here, .tail _ (.head _), .there (.there .here), by simp, by simp, ?_⟩)) (fun w => by kernel_rfl))
    refine sw_cons (s1_setattr (ew_listN (lw_nil fun b => ⟨x, d, _, b, _, rfl, .here, .tail _ (.tail _ (.head _)), .there (.there (.there .here)), by show ("rows" : Str) ∉ [("numbers" : Str)]; decide, by simp, ?_⟩)) (fun w => by kernel_rfl))
    exact sw_nil ⟨rfl, a, b, rfl⟩
end
end Mine

-- A16
namespace Mine
open PySem PySem.Calls PySem.W PyProof.Rows

section
variable {g : Gr} {F : List Addr} {O O1 O' : Led} {s s1 : Shared} {n : Lv} {env : Env} {m m1 : Loc}

theorem St.join {Oc : Led} {h h' : Heap} (S0 : St g F O h) (S : St g (dm O ++ F) Oc h') (hk : Kept [] h h') (hnew : ∀ a, a ∈ dm Oc → h.get? a = none) : St g F (Oc ++ O) h' := by
  have ed : dm (Oc ++ O) = dm Oc ++ dm O := List.map_append ..
  have sub : ∀ a, a ∈ dm (Oc ++ O) ++ F → a ∈ dm Oc ++ (dm O ++ F) := fun a ha => by rw [ed, List.append_assoc] at ha; exact ha
  refine ⟨S.keep, fun a ha => S.fresh a (sub a ha), ?_, fun a ha => ?_, fun a ha => S.thereF a (List.mem_append.mpr (.inr ha)), fun p hp => ?_⟩
  · rw [ed]
    exact List.nodup_append.mpr ⟨S.nodup, S0.nodup, fun a ha b hb e => S.disj a ha (List.mem_append.mpr (.inl (e ▸ hb)))⟩
  · rw [ed] at ha
    rcases List.mem_append.mp ha with ha | ha
    · exact fun q => S.disj a ha (List.mem_append.mpr (.inr q))
    · exact S0.disj a ha
  · rcases List.mem_append.mp hp with hp | hp
    · exact (S.obj p hp).mono .refl (sub_less sub) fun o e => e
    · refine (S0.obj p hp).mono (kept_of hk) (fun a ha => ?_) fun o e => hk _ _ (by simp) e
      rcases List.mem_append.mp (sub a ha) with q | q
      · exact .inr (hnew a q)
      · exact .inl q
theorem Ok.under {k : Lv} {A : Around} (ok : Ok k A) (hn : 2 ≤ k.n) (C : Addr) : Ok ⟨1, none⟩ (A.under (.builtin "type.__call__" ⟨[.ref C], []⟩)) := by
  have d : (A.under (.builtin "type.__call__" ⟨[.ref C], []⟩)).depth = A.depth + 1 := rfl
  have u : (A.under (.builtin "type.__call__" ⟨[.ref C], []⟩)).units = A.units + 1 := rfl
  have gd : (A.under (.builtin "type.__call__" ⟨[.ref C], []⟩)).guards = A.guards := rfl
  have fr : (A.under (.builtin "type.__call__" ⟨[.ref C], []⟩)).frames = A.frames := rfl
  exact ⟨ok.handled, by have := ok.depth; rw [d]; simp only; omega, by have := ok.units; rw [u]; simp only; omega, by rw [gd]; exact ok.guards, by rw [fr]; exact ok.frames, fun l h => by cases h⟩
/-- Program() -/
theorem ew_make {np pos : Pos} {Q : V → Led → Prop} (hk : env.kindOf "Program" = some .globalImplicit) (hn : 2 ≤ n.n) (q : ∀ x d a b, Q (.ref x) (progO x d a b ++ O)) : EW g n env m O (.Call (.Name "Program" np) [] [] pos) Q := fun F A s ok S L => by
  refine wpAny_Call_ofName (Name_function_global L.fn hk (loadGlobal_global (mg := g.mg) (by rw [L.gl]; exact g.gs.keeps S.keep) (mg_Program g) ?_) (by decide))
  show wpAny _ A (callWith pos (.ref 134) [] (backTo pos (starEach [] env)) []) _ _ s
  refine callWith_K0 S.kin (by kernel_rfl) (wpAny_call ?_)
  obtain ⟨h0, gg, dd, tk, os⟩ := s
  refine make_core (makes_of S.kin (by kernel_rfl)) (init := .ref 131) (looks_findIn S.kin (by kernel_rfl)) (fun self => bind_fn S.kin self (by kernel_rfl)) (.inl rfl) ?_
  have S : St g F O h0 := S
  have nD : h0.get? h0.objs.size = none := none_size
  have sz : (h0.push emptyDict).objs.size = h0.objs.size + 1 := Heap.size_push ..
  have nX : h0.get? (h0.objs.size + 1) = none := by
    cases e : h0.get? (h0.objs.size + 1) with
    | none => rfl
    | some o => exact absurd (Heap.lt_size e) (Nat.not_lt.mpr (Nat.le_succ _))
  have kp : Kept [] h0 ((h0.push emptyDict).push (instObj 134 h0.objs.size)) := fun b o hb e => Heap.get?_push_of_some _ (Heap.get?_push_of_some _ e)
  have gD : ((h0.push emptyDict).push (instObj 134 h0.objs.size)).get? h0.objs.size = some emptyDict := Heap.get?_push_of_some _ (Heap.get?_push_size _ rfl)
  have gX : ((h0.push emptyDict).push (instObj 134 h0.objs.size)).get? (h0.objs.size + 1) = some (instObj 134 h0.objs.size) := by rw [← sz]; exact Heap.get?_push_size _ rfl
  have ne : h0.objs.size + 1 ≠ h0.objs.size := Nat.ne_of_gt (Nat.lt_succ_self _)
  generalize h0.objs.size + 1 = x at *
  generalize hdd : h0.objs.size = d at *
  generalize (h0.push emptyDict).push (instObj 134 d) = h2 at *
  have two : ∀ a, a ∈ [x, d] → h0.get? a = none := fun a ha => by
    rcases List.mem_cons.mp ha with e | ha
    · rw [e]; exact nX
    · rw [List.mem_singleton.mp ha]; exact nD
  have notin : ∀ a, a ∈ [x, d] → a ∉ dm O ++ F := fun a ha q => by
    obtain ⟨o, e⟩ := S.there a q
    rw [two a ha] at e; cases e
  have S2 : St g (dm O ++ F) [(x, .inst d), (d, .attrs [])] h2 := by
    refine ⟨fun b o e => kp b o (by simp) (S.keep b o e), fun a ha => ?_, ?_, fun a ha => notin a ha, fun a ha => let ⟨o, e⟩ := S.there a ha; ⟨o, kp _ _ (by simp) e⟩, fun p hp => ?_⟩
    · rcases List.mem_append.mp ha with ha | ha
      · exact base_none S (two a ha)
      · exact S.fresh a ha
    · exact List.nodup_cons.mpr ⟨fun q => ne (List.mem_singleton.mp q), List.nodup_cons.mpr ⟨by simp, List.nodup_nil⟩⟩
    · rcases List.mem_cons.mp hp with rfl | hp
      · exact gX
      · rw [List.mem_singleton.mp hp]
        exact ⟨[], 0, gD, trivial⟩
  refine codeAny_mono (c_init g 0 x d (dm O ++ F) _ _ [.ref x] (ok.under hn 134) S2 (by simp only [VRs, VR]; exact ⟨_, _, rfl, rfl, rfl⟩)) fun r s2 ⟨u, v, O2, e, N2, S3, R2, hv, a, b, hO⟩ => ?_
  subst e hv hO
  simp only [VR] at R2; subst R2
  obtain ⟨h3, t3, rfl⟩ := N2.same
  have kp3 : Kept [] h0 h3 := fun c o _ e => N2.kept c o (fun z => by rw [two c z] at e; cases e) (kp c o (by simp) e)
  have new3 : ∀ c, c ∈ dm (progO x d a b) → h0.get? c = none := fun c hc => by
    rcases N2.new c (List.mem_append.mpr (.inl hc)) with q | q
    · rcases List.mem_append.mp q with q | q
      · exact two c q
      · exact absurd q (S3.disj c hc)
    · exact none_up kp q
  refine ⟨rfl, .ref x, progO x d a b ++ O, ⟨⟨h3, t3, rfl⟩, kp3, fun c hc => ?_⟩, S.join S3 kp3 new3, by simp only [VR], q x d a b⟩
  rw [show dm (progO x d a b ++ O) = dm (progO x d a b) ++ dm O from List.map_append .., List.append_assoc] at hc
  rcases List.mem_append.mp hc with hc | hc
  · exact .inr (new3 c hc)
  · exact .inl hc
end
end Mine

-- A17
namespace Mine
open PySem PySem.Calls PySem.W PyProof.Rows

noncomputable def flat : V → Bool
  | .none | .bool _ | .int _ | .str _ => true
  | _ => false
theorem flat_vr {w : World} {X X' : List Addr} {h : Heap} {v : V} {u : Value} (hf : flat v = true) (r : VR w X h v u) : VR w X' h v u := by
  cases v <;> simp only [flat, Bool.false_eq_true] at hf <;> simpa only [VR] using r
inductive FrzL (O : Led) : List V → List V → Prop
  | nil : FrzL O [] []
  | cons {v v' vs vs'} : Frz O v v' → FrzL O vs vs' → FrzL O (v :: vs) (v' :: vs')

section
variable {g : Gr} {F : List Addr} {O O1 O' : Led} {s s1 : Shared} {n : Lv} {env : Env} {m m1 : Loc}

theorem FrzL.run {h : Heap} {vs vs' : List V} (S : St g F O h) (z : FrzL O vs vs') : ∀ {us : List Value}, VRs g.w (dm O ++ F) h vs us → VRs g.w F h vs' us := by
  induction z with
  | nil => intro us R; simp only [VRs] at R ⊢; exact R
  | cons z _ ih =>
    intro us R
    simp only [VRs] at R ⊢
    obtain ⟨u, us', rfl, r1, r2⟩ := R
    exact ⟨u, us', rfl, z.run S r1 fun a ha => ha, ih r2⟩
/-- a call that only reads what turns here; its answer has no address -/
theorem ew_callZ {x : Str} {np pos : Pos} {e : Expr} {es : List Expr} {a : Addr} {f : Fn} {Q : V → Led → Prop} (hf : FnAt g a f) (hk : env.kindOf x = some .globalImplicit) (hu : g.mg x = some (.ref a))
    (h : LW g n env m O (e :: es) fun vs O1 => ∃ vs', FrzL O1 vs vs' ∧ FW g n.n a vs' fun v => flat v = true ∧ Q v O1) (hd : (x == ("__debug__" : Str)) = false := by decide) (he : ∀ (env : Env), starEach (e :: es) env = (false, eval e env) :: starEach es env := by intro _; rfl) : EW g n env m O (.Call (.Name x np) (e :: es) [] pos) Q := fun F A s ok S L => by
  obtain ⟨o, pm, code, doc, ho, hdat, hcd⟩ := hf
  refine wpAny_Call_ofName (Name_function_global L.fn hk (loadGlobal_global (mg := g.mg) (by rw [L.gl]; exact g.gs.keeps S.keep) hu ?_) hd)
  show wpAny _ A (callWith pos (.ref a) [] (backTo pos (starEach (e :: es) env)) []) _ _ s
  refine callWith_function (o := o) (fd := docDef f.name f.params f.body f.scope pm code doc) ?_
  have h1 := h F A s pos ok S L
  rw [he env] at h1 ⊢
  refine evalArgs_plain (wpAny_mono h1 (fun us s1 ⟨hl, vs, O1, N1, S1, R1, vs', z, h1⟩ => ?_) fun _ _ x => x)
  refine ⟨⟨S1.keep _ _ ho, hdat⟩, ?_⟩
  have S0 : St g F [] s1.heap := ⟨S1.keep, fun a ha => S1.fresh a (List.mem_append.mpr (.inr ha)), List.nodup_nil, fun a ha => by simp at ha, S1.thereF, fun p hp => by simp at hp⟩
  refine wpAny_call (codeAny_mono (h1 F A s1 us ok.plain S0 (z.run S1 R1)) fun r s2 ⟨u, v, e, N2, R2, hfl, q⟩ => ?_)
  subst e
  exact EP.chain N1 ⟨v, O1, ⟨N2.same, N2.kept, .refl⟩, S1.grow N2.kept, flat_vr hfl R2, q⟩
end
end Mine

-- A18
namespace Mine
open PySem PySem.Calls PySem.W PyProof.Rows

section
variable {g : Gr} {F : List Addr} {O O1 O' : Led} {s s1 : Shared} {n : Lv} {env : Env} {m m1 : Loc}

theorem owned_list {A : Around} {E : Value → Shared → Prop} {ts : List Expr} {k : Nat} {p : Pos} {I l : Addr} {u : Value} {i : Nat} {Q : Unit → Shared → Prop} {w : World} (hit : s.heap.IsListIter I l i) (hQ : Q () s) :
    wpAny (model prg w) A (letOwnedTupleGo (.Tuple ts k p) (.ref I) u) Q E s := by
  cases u with
  | ref T => exact wpAny_letOwnedTupleGo_listiter hit hQ
  | _ => exact wpAny_pure hQ

/-- the tuples of a list -/
theorem itw_lstT {ts : List Expr} {k : Nat} {p : Pos} {l : List V} : ItW g n (.Tuple ts k p) (.lst l) l O := fun F A s u Q ok S R hQ => by
  simp only [VR] at R
  obtain ⟨a, us, rfl, ha, hL, r⟩ := R
  refine wpAny_pyIter_list hL ?_
  have lt : a < s.heap.objs.size := let ⟨o, e, _⟩ := hL; Heap.lt_size e
  refine hQ s.heap.objs.size [s.heap.objs.size] (fun X l' h => ∃ i us, h.IsListIter s.heap.objs.size a i ∧ h.IsList a (List.toArray us) ∧ a ∉ X ∧ a ≠ s.heap.objs.size ∧ VRs g.w X h (l') (us.drop i)) _ s.toks ⟨?_, ?_, ?_, fun _ ⟨i, us, hi, _⟩ hq => wpAny_pyIter_listiter hi hq⟩ (kept_push _) ?_ ?_
  · rintro X X' l' h h' ⟨i, us, hi, hl, hx, hne, hr⟩ hk hw hX
    obtain ⟨o, e, q⟩ := hi
    obtain ⟨o2, e2, q2⟩ := hl
    exact ⟨i, us, ⟨o, hw _ (.head _) _ e, q⟩, ⟨o2, hk _ _ hx e2, q2⟩, out_of hX hx e2, hne, hr.mono hk hX⟩
  · rintro A X v l' s1 E Q1 ok hwX hXt ⟨i, us, hi, hl, hx, hne, hr⟩ hq
    have hlt : ∃ u, us[i]? = some u ∧ VR g.w X s1.heap v u ∧ VRs g.w X s1.heap l' (us.drop (i + 1)) := by
      simp only [VRs] at hr
      obtain ⟨u, us', e, r1, r2⟩ := hr
      have hlt : i < us.length := by
        rcases Nat.lt_or_ge i us.length with q | q
        · exact q
        · rw [List.drop_of_length_le q] at e; cases e
      rw [List.drop_eq_getElem_cons hlt] at e
      injection e with e1 e2
      exact ⟨u, by rw [List.getElem?_eq_getElem hlt, e1], r1, by rw [e2]; exact r2⟩
    obtain ⟨u, hu, r1, r2⟩ := hlt
    refine wpAny_pyNext_list_item hi hl (x := u) (by simpa using hu) fun h1 hi1 hs1 => hq u h1 s1.toks ?_
    have kp : Kept [s.heap.objs.size] s1.heap h1 := kept_same hs1
    have kX : Kept X s1.heap h1 := fun b o hb e => kp b o (fun z => hb (by rw [List.mem_singleton.mp z]; exact hwX _ (.head _))) e
    refine owned_list hi1 ⟨⟨h1, s1.toks, rfl⟩, kp, fun b hb => ?_, r1.mono kX .refl, i + 1, us, hi1, hl.extBut hs1.extBut hne, hx, hne, r2.mono kX .refl⟩
    rw [List.mem_singleton.mp hb]; obtain ⟨o, e, _⟩ := hi1; exact ⟨o, e⟩
  · rintro A X s1 E Q1 ok hwX ⟨i, us, hi, hl, hx, hne, hr⟩ hq
    simp only [VRs] at hr
    have hge : us.length ≤ i := by simpa using hr
    exact wpAny_pyNext_list_end ok.handled hi hl (by simpa using hge) fun h1 he1 => hq h1 s1.toks fun b o hb e => he1 b o (fun z => hb (by rw [z]; exact .head _)) e
  · intro b hb
    rw [List.mem_singleton.mp hb]
    exact ⟨none_size, _, Heap.get?_push_size _ rfl⟩
  · refine ⟨0, us, ⟨_, Heap.get?_push_size _ rfl, rfl, rfl⟩, hL.push _, fun q => ?_, Nat.ne_of_lt lt, ?_⟩
    · rcases List.mem_append.mp q with q | q
      · exact ha (List.mem_append.mpr (.inl q))
      · rcases List.mem_append.mp q with q | q
        · exact Nat.ne_of_lt lt (List.mem_singleton.mp q)
        · exact ha (List.mem_append.mpr (.inr q))
    · refine r.mono (kept_of (kept_push _)) (new_more (X := []) fun b hb => ?_)
      rw [List.mem_singleton.mp hb]
      exact none_size

noncomputable def zipV : List V → List V → List V
  | a :: as, b :: bs => .tup [a, b] :: zipV as bs
  | _, _ => []
inductive ZInv (w : World) (z TI TO i1 i2 a b : Addr) (X : List Addr) (l : List V) (h : Heap) : Prop
  | mk (i : Nat) (us ws : List Value) (m1 m2 : List V) (h1 : IsZip h z TI TO .none) (h2 : IsPair h TI (.ref i1) (.ref i2)) (h3 : ∃ x y, IsPair h TO x y) (h4 : h.IsListIter i1 a i) (h5 : h.IsListIter i2 b i) (h6 : h.IsList a (List.toArray us)) (h7 : h.IsList b (List.toArray ws)) (hx : a ∉ X) (hy : b ∉ X) (r1 : VRs w X h m1 (us.drop i)) (r2 : VRs w X h m2 (ws.drop i)) (hl : m1.length = m2.length) (e : l = zipV m1 m2)
theorem ic_zip {ts : List Expr} {k : Nat} {p : Pos} {l1 l2 : List V} {K : List V → Led → Prop} (hlen : l1.length = l2.length) (kk : K (zipV l1 l2) O) : IC g n (.Tuple ts k p) "zip" [.lst l1, .lst l2] O K := fun F A s us Q ok S R hQ => by
  simp only [VRs, VR] at R
  obtain ⟨_, _, rfl, ⟨a, us, rfl, ha, hL, r⟩, _, _, rfl, ⟨b, ws, rfl, hb, hM, rr⟩, rfl⟩ := R
  have a1 : a < s.heap.objs.size := let ⟨o, e, _⟩ := hL; Heap.lt_size e
  have a2 : b < s.heap.objs.size := let ⟨o, e, _⟩ := hM; Heap.lt_size e
  have D := zipApart_new a1 a2
  have fr : ∀ c, s.heap.objs.size ≤ c → s.heap.get? c = none := fun c hc => by
    cases e : s.heap.get? c with
    | none => rfl
    | some o => exact absurd (Heap.lt_size e) (Nat.not_lt.mpr hc)
  refine call_zip_2 hL hM fun h' hz hTI hTO hi1 hi2 hsz hk => ?_
  refine wpAny_pyIter_zip hz ?_
  have fr4 := fr (s.heap.objs.size + 4) (Nat.le_add_right _ _)
  have fr2 := fr (s.heap.objs.size + 2) (Nat.le_add_right _ _)
  have fr3 := fr (s.heap.objs.size + 3) (Nat.le_add_right _ _)
  have fr1 := fr (s.heap.objs.size + 1) (Nat.le_add_right _ _)
  have fr0 := fr (s.heap.objs.size) (Nat.le_refl _)
  generalize s.heap.objs.size + 4 = z at *
  generalize s.heap.objs.size + 2 = TI at *
  generalize s.heap.objs.size + 3 = TO at *
  generalize s.heap.objs.size + 1 = i2 at *
  generalize s.heap.objs.size = i1 at *
  have mem : ∀ c, c ∈ [z, TI, TO, i1, i2] → c = z ∨ c = TI ∨ c = TO ∨ c = i1 ∨ c = i2 := fun c hc => by simpa using hc
  have memz : z ∈ [z, TI, TO, i1, i2] := by simp
  have memTI : TI ∈ [z, TI, TO, i1, i2] := by simp
  have memTO : TO ∈ [z, TI, TO, i1, i2] := by simp
  have mem1 : i1 ∈ [z, TI, TO, i1, i2] := by simp
  have mem2 : i2 ∈ [z, TI, TO, i1, i2] := by simp
  have frs : ∀ c, c ∈ [z, TI, TO, i1, i2] → s.heap.get? c = none := fun c hc => by
    rcases mem c hc with rfl | rfl | rfl | rfl | rfl
    · exact fr4
    · exact fr2
    · exact fr3
    · exact fr0
    · exact fr1
  refine hQ z [z, TI, TO, i1, i2] (ZInv g.w z TI TO i1 i2 a b) _ h' s.toks ⟨?_, ?_, ?_, fun _ ⟨i, us, ws, m1, m2, h1, _, _, _, _, _, _, _, _, _, _, _, _⟩ hq => wpAny_pyIter_zip h1 hq⟩ (fun b o _ e => hk b o e) (fun c hc => ⟨frs c hc, ?_⟩) ⟨0, us, ws, l1, l2, hz, hTI, ⟨_, _, hTO⟩, hi1, hi2, hL.at (fun o e => hk _ o e), hM.at (fun o e => hk _ o e), ?_, ?_, ?_, ?_, hlen, rfl⟩ kk
  · rintro X X' l' h h' ⟨i, us, ws, m1, m2, h1, h2, ⟨x, y, h3⟩, ⟨o4, e4, q4⟩, ⟨o5, e5, q5⟩, ⟨o6, e6, q6⟩, ⟨o7, e7, q7⟩, hx, hy, hr1, hr2, hl, he'⟩ hk hw hX
    exact ⟨i, us, ws, m1, m2, hw _ memz _ h1, hw _ memTI _ h2, ⟨x, y, hw _ memTO _ h3⟩, ⟨o4, hw _ mem1 _ e4, q4⟩, ⟨o5, hw _ mem2 _ e5, q5⟩, ⟨o6, hk _ _ hx e6, q6⟩, ⟨o7, hk _ _ hy e7, q7⟩, out_of hX hx e6, out_of hX hy e7, hr1.mono hk hX, hr2.mono hk hX, hl, he'⟩
  · rintro A X v l' s1 E Q1 ok hwX hXt ⟨i, us, ws, m1, m2, h1, h2, ⟨x, y, h3⟩, h4, h5, h6, h7, hx, hy, hr1, hr2, hl, he'⟩ hq
    cases m1 with
    | nil => simp [zipV] at he'
    | cons v1 m1 =>
    cases m2 with
    | nil => simp at hl
    | cons v2 m2 =>
      simp only [zipV] at he'
      injection he' with e1 e2
      simp only [VRs] at hr1 hr2
      obtain ⟨u1, us1, eu, r1, r1'⟩ := hr1
      obtain ⟨u2, us2, ew, r2, r2'⟩ := hr2
      have get : ∀ {l : List Value} {u : Value} {l' : List Value}, l.drop i = u :: l' → l[i]? = some u ∧ l.drop (i + 1) = l' := fun {l u l'} e => by
        have hlt : i < l.length := by
          rcases Nat.lt_or_ge i l.length with q | q
          · exact q
          · rw [List.drop_of_length_le q] at e; cases e
        rw [List.drop_eq_getElem_cons hlt] at e
        injection e with e3 e4
        exact ⟨by rw [List.getElem?_eq_getElem hlt, e3], e4⟩
      obtain ⟨g1, d1⟩ := get eu
      obtain ⟨g2, d2⟩ := get ew
      refine wpAny_pyNext_zip_item D h1 h2 h3 h4 h5 h6 h7 (x := u1) (y := u2) (by simpa using g1) (by simpa using g2) fun h8 z8 p8 i8 j8 t8 sz8 k8 => ?_
      refine hq (.ref s1.heap.objs.size) h8 s1.toks ?_
      have T1 : s1.heap.objs.size ∉ X := fun hm => by obtain ⟨o, e⟩ := hXt _ hm; exact absurd (Heap.lt_size e) (Nat.lt_irrefl _)
      have T2 : s1.heap.objs.size ≠ z := fun q => T1 (by rw [q]; exact hwX _ memz)
      refine wpAny_letOwnedTupleGo_zip z8 fun h9 z9 s9 => ?_
      have kk : Kept [z, TI, TO, i1, i2] s1.heap h9 := fun b o hb e => by
        have nn : b ≠ z ∧ b ≠ TO ∧ b ≠ i1 ∧ b ≠ i2 := by simp at hb; exact ⟨hb.1, hb.2.2.1, hb.2.2.2.1, hb.2.2.2.2⟩
        exact s9.extBut b o nn.1 (k8 b o nn.1 nn.2.1 nn.2.2.1 nn.2.2.2 e)
      have kX : Kept X s1.heap h9 := fun b o hb e => kk b o (fun z => hb (hwX _ z)) e
      have hTI9 : IsPair h9 TI (.ref i1) (.ref i2) := s9.extBut _ _ D.TIz (k8 _ _ D.TIz D.TITO D.TIi1 D.TIi2 h2)
      have hTO9 : IsPair h9 TO u1 u2 := s9.extBut _ _ D.TOz p8
      have h49 := i8.extBut s9.extBut D.i1z
      have h59 := j8.extBut s9.extBut D.i2z
      refine ⟨⟨h9, _, rfl⟩, kk, fun c hc => ?_, ?_, i + 1, us, ws, m1, m2, z9, hTI9, ⟨_, _, hTO9⟩, h49, h59, ?_, ?_, hx, hy, ?_, ?_, by simpa using hl, e2⟩
      · rcases mem c hc with rfl | rfl | rfl | rfl | rfl
        · exact ⟨_, z9⟩
        · exact ⟨_, hTI9⟩
        · exact ⟨_, hTO9⟩
        · obtain ⟨o, e, _⟩ := h49; exact ⟨o, e⟩
        · obtain ⟨o, e, _⟩ := h59; exact ⟨o, e⟩
      · rw [e1]
        simp only [VR, VRs]
        exact ⟨_, [u1, u2], rfl, T1, ⟨_, s9.extBut _ _ T2 t8, rfl, 0, rfl⟩, _, _, rfl, r1.mono kX .refl, _, _, rfl, r2.mono kX .refl, rfl⟩
      · obtain ⟨o, e, q⟩ := h6; exact ⟨o, kX _ _ hx e, q⟩
      · obtain ⟨o, e, q⟩ := h7; exact ⟨o, kX _ _ hy e, q⟩
      · rw [d1]; exact r1'.mono kX .refl
      · rw [d2]; exact r2'.mono kX .refl
  · rintro A X s1 E Q1 ok hwX ⟨i, us, ws, m1, m2, h1, h2, ⟨x, y, h3⟩, h4, h5, h6, h7, hx, hy, hr1, hr2, hl, he'⟩ hq
    cases m1 with
    | cons v1 m1 => cases m2 with
      | nil => simp at hl
      | cons v2 m2 => simp [zipV] at he'
    | nil =>
      simp only [VRs] at hr1
      have hge : us.length ≤ i := by simpa using hr1
      exact wpAny_pyNext_zip_end ok.handled D h1 h2 h3 h4 h5 h6 h7 (.inl (by simpa using hge)) fun h4 e4 => hq h4 s1.toks fun b o hb e => by
        have nn : b ≠ z ∧ b ≠ TO ∧ b ≠ i1 ∧ b ≠ i2 := by simp at hb; exact ⟨hb.1, hb.2.2.1, hb.2.2.2.1, hb.2.2.2.2⟩
        exact e4 b o nn.1 nn.2.1 nn.2.2.1 nn.2.2.2 e
  · rcases mem c hc with rfl | rfl | rfl | rfl | rfl
    · exact ⟨_, hz⟩
    · exact ⟨_, hTI⟩
    · exact ⟨_, hTO⟩
    · obtain ⟨o, e, _⟩ := hi1; exact ⟨o, e⟩
    · obtain ⟨o, e, _⟩ := hi2; exact ⟨o, e⟩
  · intro hm
    rcases List.mem_append.mp hm with q | q
    · exact ha (List.mem_append.mpr (.inl q))
    · rcases List.mem_append.mp q with q | q
      · obtain ⟨o, e, _⟩ := hL
        rw [frs a q] at e; cases e
      · exact ha (List.mem_append.mpr (.inr q))
  · intro hm
    rcases List.mem_append.mp hm with q | q
    · exact hb (List.mem_append.mpr (.inl q))
    · rcases List.mem_append.mp q with q | q
      · obtain ⟨o, e, _⟩ := hM
        rw [frs b q] at e; cases e
      · exact hb (List.mem_append.mpr (.inr q))
  · exact r.mono (fun b o _ e => hk b o e) (new_more (X := []) fun b hb => frs b hb)
  · exact rr.mono (fun b o _ e => hk b o e) (new_more (X := []) fun b hb => frs b hb)
end
end Mine

-- A19
namespace Mine
open PySem PySem.Calls PySem.W PyProof.Rows

section
variable {g : Gr} {F : List Addr} {O O1 O' : Led} {s s1 : Shared} {n : Lv} {env : Env} {m m1 : Loc}

/-- a call of a def with two names that an inner scope takes -/
theorem fw1C {n : Nat} {a : Addr} {f : Fn} {v1 : V} {x1 y1 y2 : Str} {rest : List Str} {Q : V → Prop} (hf : FnAt g a f)
    (hbind : ∀ u1 pm cd doc, bindArgs (docDef f.name f.params f.body f.scope pm cd doc) ⟨[u1], []⟩ = pure [(x1, u1)])
    (hl : f.scope.names.lookup x1 = some .local) (hnd : (x1 :: rest).Nodup) (hk : f.scope.kind = .function) (hco : f.scope.isCoroutine = false) (hgen : f.scope.isGenerator = false)
    (hcs : ∀ L, cellsFrom L f.scope.names [] = [(y2, L + 1), (y1, L)]) (hy : (y1 == y2) = false)
    (h : ∀ L cd, SW g ⟨n, none⟩ (envOfC f.name f.scope L a cd) ((x1, some v1) :: rest.map (·, none)) [] f.body (Back Q)) : FW g (n + 1) a [v1] Q := fun F A s us ok S R => by
  obtain ⟨o, pm, code, doc, ho, hd, hcd⟩ := hf
  simp only [VRs] at R
  obtain ⟨u, us', rfl, R1, rfl⟩ := R
  refine codeAny_call_cells (fd := docDef f.name f.params f.body f.scope pm code doc) (binds := [(x1, u)]) (by have := ok.depth; show A.depth < 1000; omega) (S.keep _ _ ho) hd S.lim (hcd.keeps S.keep) rfl (hbind u pm code doc) rfl (fun x hx => by rw [List.mem_singleton.mp hx]; exact .inl hl) (fun s1 X => ?_) hco hgen hk
  have henv : callEnvC (docDef f.name f.params f.body f.scope pm code doc) s.heap.objs.size a = envOfC f.name f.scope s.heap.objs.size a code := rfl
  rw [henv] at X ⊢
  obtain ⟨⟨⟨h1, tk1, rfl⟩, hns, kp1, hfr⟩, hcell, hap, hab⟩ := X
  have kp : Kept [] s.heap h1 := fun b o _ e => kp1 b o e
  have hns : h1.Ns s.heap.objs.size (bindL (envOfC f.name f.scope s.heap.objs.size a code).kindOf [(x1, u)] fun _ => none) := hns
  have hcells : (envOfC f.name f.scope s.heap.objs.size a code).cells = [(y2, s.heap.objs.size + 1 + 1), (y1, s.heap.objs.size + 1)] := hcs _
  have c1 : h1.IsCell (s.heap.objs.size + 1) ((bindC (envOfC f.name f.scope s.heap.objs.size a code).kindOf [(x1, u)] fun _ => none) y1) := hcell y1 _ (by rw [hcells, List.lookup_cons, hy]; simp)
  have c2 : h1.IsCell (s.heap.objs.size + 1 + 1) ((bindC (envOfC f.name f.scope s.heap.objs.size a code).kindOf [(x1, u)] fun _ => none) y2) := hcell y2 _ (by rw [hcells, List.lookup_cons]; simp)
  have hno : ∀ c, s.heap.objs.size ≤ c → s.heap.get? c = none := fun c hc => by
    cases e : s.heap.get? c with
    | none => rfl
    | some o => exact absurd (Heap.lt_size e) (Nat.not_lt.mpr hc)
  have hown : ownA (envOfC f.name f.scope s.heap.objs.size a code) = [s.heap.objs.size, s.heap.objs.size + 1 + 1, s.heap.objs.size + 1] := by
    show s.heap.objs.size :: (envOfC f.name f.scope s.heap.objs.size a code).cells.map (·.2) = _
    rw [hcells]; rfl
  generalize hW : ownA (envOfC f.name f.scope s.heap.objs.size a code) = W at hown
  have hw : ∀ b, b ∈ W → s.heap.get? b = none ∧ ∃ o, h1.get? b = some o := fun b hb => by
    rw [hown] at hb
    rcases List.mem_cons.mp hb with rfl | hb
    · exact ⟨hno _ (Nat.le_refl _), let ⟨o, _, _, e, _⟩ := hns; ⟨o, e⟩⟩
    · rcases List.mem_cons.mp hb with rfl | hb
      · exact ⟨hno _ (Nat.le_add_right _ 2), let ⟨o, e, _⟩ := c2; ⟨o, e⟩⟩
      · rw [List.mem_singleton.mp hb]
        exact ⟨hno _ (Nat.le_add_right _ 1), let ⟨o, e, _⟩ := c1; ⟨o, e⟩⟩
  have nX : Newly F (W ++ F) s.heap := fun b hb => by
    rcases List.mem_append.mp hb with q | q
    · exact .inr (hw b q).1
    · exact .inl q
  have S1 : St g (W ++ F) [] h1 := ⟨fun b o e => kp b o (by simp) (S.keep b o e), fun b hb => by
    rcases List.mem_append.mp (List.mem_append.mp hb |>.resolve_left (by simp)) with q | q
    · exact base_none S (hw b q).1
    · exact S.fresh b (List.mem_append.mpr (.inr q)), List.nodup_nil, fun b hb => by simp at hb, fun b hb => by
    rcases List.mem_append.mp hb with q | q
    · exact (hw b q).2
    · obtain ⟨o, e⟩ := S.thereF b q; exact ⟨o, kp b o (by simp) e⟩, fun p hp => by simp at hp⟩
  have R2 : VR g.w (W ++ F) h1 v1 u := R1.mono (kept_of kp) nX
  have hk1 : (envOfC f.name f.scope s.heap.objs.size a code).kindOf x1 = some .local := hl
  have L1 : LR g (W ++ F) [] h1 (envOfC f.name f.scope s.heap.objs.size a code) ((x1, some v1) :: rest.map (·, none)) :=
    ⟨hk, rfl, rfl, fun b hb => List.mem_append.mpr (.inl (hW ▸ hb)), by rw [hW, hown]; exact List.nodup_cons.mpr ⟨by simp; exact Nat.ne_of_lt (Nat.lt_add_of_pos_right (by decide : 0 < 1 + 1)), List.nodup_cons.mpr ⟨by simp, by simp⟩⟩, by rw [List.map_cons, List.map_map]; simpa [Function.comp_def] using hnd, fun c hc => by
      have hc' : c ∈ W := by rw [← hW]; exact .tail _ hc
      rw [hcells] at hc
      simp at hc
      rcases hc with rfl | rfl
      · exact ⟨_, c2⟩
      · exact ⟨_, c1⟩, _, hns, fun x v hx => by
      rcases List.mem_cons.mp hx with e | hx
      · injection e with e1 e2; injection e2 with e2; subst e1 e2
        refine ⟨u, R2, .inl ⟨hl, ?_⟩⟩
        unfold bindL bindL
        rw [if_pos hk1, if_pos rfl]
      · simp at hx⟩
  refine wpAny_mono (h s.heap.objs.size code (W ++ F) _ _ (ok.deeper _) S1 L1) (fun f2 s2 ⟨fl, m2, O2, N2, S2, L2, R2, q⟩ => ?_) fun _ _ x => x.elim
  have N : Nxt [] F F s s2 := by
    obtain ⟨h2, t2, rfl⟩ := N2.same
    refine ⟨⟨h2, t2, rfl⟩, fun b o _ e => N2.kept b o (fun z => ?_) (kp b o (by simp) e), .refl⟩
    have z' : b ∈ W := by rw [← hW]; simpa using z
    rw [(hw b z').1] at e; cases e
  cases fl with
  | next => simp only [FlR] at R2; subst R2; exact ⟨.none, .none, rfl, N, by simp only [VR], q⟩
  | ret v =>
    simp only [FlR] at R2
    obtain ⟨u, rfl, R2⟩ := R2
    obtain ⟨v', z, q⟩ := q
    exact ⟨u, v', rfl, N, z.run S2 R2 fun b hb => List.mem_append.mpr (.inr hb), q⟩
  | brk => exact q.elim
  | cont => exact q.elim
end
end Mine

-- A20
namespace Mine
open PySem PySem.Calls PySem.W PyProof.Rows

section
variable {g : Gr} {F : List Addr} {O O1 O' : Led} {s s1 : Shared} {n : Lv} {env : Env} {m m1 : Loc}
variable {elt iter : Expr} {x : Str} {px : Pos} {ifs : List Expr} {scope : Scope} {pos : Pos} {I D : Addr} {wr : List Addr} {C : List Addr → List V → Heap → Prop}

theorem St.drop {K : Addr} {h h' : Heap} (S : St g ([K] ++ F) O h) (k : Kept [K] h h') (hK : K ∉ dm O ++ F) : St g F O h' := by
  have kX : Kept (dm O ++ ([K] ++ F)) h h' := fun b o hb e => k b o (fun z => hb (by rw [List.mem_singleton.mp z]; simp)) e
  have sub0 : ∀ a, a ∈ dm O ++ F → a ∈ dm O ++ ([K] ++ F) := fun a ha => by
    rcases List.mem_append.mp ha with ha | ha
    · exact List.mem_append.mpr (.inl ha)
    · exact List.mem_append.mpr (.inr (.tail _ ha))
  have S' : St g F O h := St.less (wr := [K]) S
  refine ⟨fun b o e => k b o (fun z => ?_) (S.keep b o e), S'.fresh, S'.nodup, S'.disj, fun a ha => ?_, fun p hp => (S.obj p hp).mono kX (sub_less sub0) fun o e => k _ o (fun z => hK (by rw [← List.mem_singleton.mp z]; exact List.mem_append.mpr (.inl (List.mem_map_of_mem hp)))) e⟩
  · rw [List.mem_singleton.mp z, S.fresh K (by simp)] at e; cases e
  · obtain ⟨o, e⟩ := S'.thereF a ha
    exact ⟨o, k a o (fun z => hK (by rw [← List.mem_singleton.mp z]; exact List.mem_append.mpr (.inr ha))) e⟩
theorem LR.drop {K : Addr} {h h' : Heap} (L : LR g ([K] ++ F) O h env m) (k : Kept [K] h h') (hK : K ∉ ownA env) (hF : ∀ a, a ∈ ownA env → a ∈ F) : LR g F O h' env m := by
  have kX : Kept (dm O ++ ([K] ++ F)) h h' := fun b o hb e => k b o (fun z => hb (by rw [List.mem_singleton.mp z]; simp)) e
  have sub0 : ∀ a, a ∈ dm O ++ F → a ∈ dm O ++ ([K] ++ F) := fun a ha => by
    rcases List.mem_append.mp ha with ha | ha
    · exact List.mem_append.mpr (.inl ha)
    · exact List.mem_append.mpr (.inr (.tail _ ha))
  have own : ∀ a, a ∈ ownA env → a ∉ [K] := fun a q z => hK (by rw [← List.mem_singleton.mp z]; exact q)
  have cl : ∀ c, c ∈ env.cells.map (·.2) → ∀ v, h.IsCell c v → h'.IsCell c v := fun c hc v ⟨o, e, d⟩ => ⟨o, k _ _ (own c (.tail _ hc)) e, d⟩
  obtain ⟨mc, hn, hv⟩ := L.ns
  refine ⟨L.fn, L.gl, L.bl, hF, L.ond, L.nd, fun c hc => let ⟨v0, e⟩ := L.cs c hc; ⟨v0, cl c hc _ e⟩, mc, ?_, fun x v hx => ?_⟩
  · obtain ⟨o, es, ep, e, r⟩ := hn
    exact ⟨o, es, ep, k _ _ (own _ (.head _)) e, r⟩
  · obtain ⟨u, hu, q⟩ := hv x v hx
    exact ⟨u, hu.mono kX (sub_less sub0), q.imp id fun ⟨kk, c, h1, h2⟩ => ⟨kk, c, h1, cl c (List.mem_map.mpr ⟨(x, c), PySem.mem_of_lookup h1, rfl⟩) _ h2⟩⟩

/-- name = [.. for ..], the name stored before the comprehension's names go -/
theorem s1_assign_comp {cl : List (Str × Addr)} {mf : Loc} {y : Str} {py spos : Pos} {Q : Fl → Loc → Led → Prop}
    (h : IE g n env m O (.Name x px) iter fun l O1 => l.length ≤ 100000 ∧ ∃ p f, (∀ v ∈ l, ∀ C, CT g n (compEnvC scope cl C env) ((x, some v) :: mf) O1 ifs (p v)) ∧
      (∀ v ∈ l, p v = true → ∀ C, EW g n (compEnvC scope cl C env) ((x, some v) :: mf) O1 elt fun w O2 => O2 = O1 ∧ w = f v) ∧ ∃ m', Upd m y (.lst ((l.filter p).map f)) m' ∧ Q .next m' O1)
    (hclos : closureFor scope env = pure cl) (hcell : ∀ y ∈ scope.names, y.2 ≠ .cell) (hkind : scope.kind = .function)
    (hnames : ∀ y ∈ scope.names, y.2 = .local → scope.names.lookup y.1 = some .local) (hx : scope.names.lookup x = some .local)
    (hcl : ∀ a, a ∈ cl.map (·.2) → a ∈ env.cells.map (·.2)) (hclnd : (cl.map (·.2)).Nodup) (hmf : (x :: mf.map (·.1)).Nodup)
    (hfr : ∀ y w, (y, some w) ∈ mf → (y, some w) ∈ m ∧ env.kindOf y = some .cell ∧ (∀ C, (compEnvC scope cl C env).kindOf y = some .cell) ∧ ∀ c, env.cells.lookup y = some c → cl.lookup y = some c)
    (hy : env.kindOf y = some .local) (hsw : swapsWith (.ListComp elt [⟨.Name x px, iter, ifs, 0⟩] scope pos) (some (.Name y py)) spos.line env = pure true)
    (hs : ∀ u, foldedSetIterable iter env u = pure u := by intro _; rfl) : S1 g n env m O (.Assign [.Name y py] (.ListComp elt [⟨.Name x px, iter, ifs, 0⟩] scope pos) spos) Q := fun F A s ok S L => by
  rw [exec_Assign_Name_used _ _ _ _ hsw]
  refine wpAny_bind (wpAny_standAt (wpAny_bind ?_))
  show wpAny _ A (do let _ ← comprehension (.ListComp elt [⟨.Name x px, iter, ifs, 0⟩] scope pos) scope env _ (newList []) false (eval iter env) (some (assign (.Name y py) env))) _ _ s
  refine wpAny_bind (wpAny_mono (wpAny_comprehension_free (use := some (assign (.Name y py) env)) (Q := fun _ s' => SP g F env O s Q .next s') rfl hs hclos hkind hnames ?_) (fun _ s' hq => wpAny_pure (wpAny_pure hq)) fun _ _ e => e)
  refine h F A s _ ok S L fun I wr C l O1 s1 T N1 S1 L1 ow hC ⟨hlen, p, f, hct, hel, m', hu, hq⟩ => ?_
  refine wpAny_newObj_type (wpAny_newFunctionEnv hcell (by intro y hy; simp at hy) (fun h₁ hns₁ hsb₁ => ?_) hkind)
  dsimp only at hns₁ hsb₁ ⊢
  generalize hH2 : s1.heap.push { cls := .type "list", dict := none, data := .seq ([] : List Value).toArray } = H2 at hns₁ hsb₁ ⊢
  have hK : H2.objs.size = s1.heap.objs.size + 1 := by rw [← hH2, Heap.size_push]
  have hDK : s1.heap.objs.size ≠ H2.objs.size := by rw [hK]; exact Nat.ne_of_lt (Nat.lt_succ_self _)
  have fresh : ∀ a, s1.heap.objs.size ≤ a → s1.heap.get? a = none := fun a ha => by
    cases e : s1.heap.get? a with
    | none => rfl
    | some o' => exact absurd (Heap.lt_size e) (Nat.not_lt.mpr ha)
  have old : Kept [] s1.heap h₁ := fun b o _ e => hsb₁.extBut b o (fun z => by rw [z, fresh _ (by rw [hK]; exact Nat.le_succ _)] at e; cases e) (Heap.get?_push_of_some _ (hH2 ▸ Heap.get?_push_of_some _ e))
  have hacc : h₁.PlainList s1.heap.objs.size #[] := ⟨_, hsb₁.extBut _ _ hDK (Heap.get?_push_of_some _ (hH2 ▸ Heap.get?_push_size _ rfl))⟩
  have nD := fresh _ (Nat.le_refl s1.heap.objs.size)
  have nK := fresh H2.objs.size (by rw [hK]; exact Nat.le_succ _)
  generalize s1.heap.objs.size = D at *
  generalize hKK : H2.objs.size = K at *
  have hw2 : ∀ a, a ∈ [D, K] → s1.heap.get? a = none ∧ ∃ o, h₁.get? a = some o := fun a ha => by
    rcases List.mem_cons.mp ha with e | ha
    · rw [e]; exact ⟨nD, let ⟨nn, e⟩ := hacc; ⟨_, e⟩⟩
    · rw [List.mem_singleton.mp ha]; exact ⟨nK, let ⟨o, _, _, e, _⟩ := hns₁; ⟨o, e⟩⟩
  obtain ⟨S2, L2, ow2⟩ := fresh_more S1 L1 old hw2
  have pm : ∀ a, a ∈ wr ++ ([D, K] ++ F) ↔ a ∈ [D, K] ++ (wr ++ F) := fun a => by simp only [List.mem_append]; constructor <;> (rintro (q | q | q) <;> simp [q])
  have S3 : St g (wr ++ ([D, K] ++ F)) O1 h₁ := S2.perm pm
  have nXX : Newly (dm O1 ++ (wr ++ F)) (dm O1 ++ (wr ++ ([D, K] ++ F))) s1.heap := fun a ha => by
    rcases List.mem_append.mp ha with ha | ha
    · exact .inl (List.mem_append.mpr (.inl ha))
    · rcases List.mem_append.mp ((pm a).mp ha) with ha | ha
      · exact .inr (hw2 a ha).1
      · exact .inl (List.mem_append.mpr (.inr ha))
  have hC3 : C (dm O1 ++ (wr ++ ([D, K] ++ F))) l h₁ := T.fr hC (kept_of old) (fun a _ o e => old a o (by simp) e) nXX
  have cenvL : LR g (wr ++ ([D, K] ++ F)) O1 h₁ (compEnvC scope cl K env) ((x, none) :: mf) := by
    refine ⟨hkind, L.gl, L.bl, fun a ha => ?_, ?_, hmf, fun c hc => ?_, _, hns₁, fun y w hy => ?_⟩
    · rcases List.mem_cons.mp ha with e | ha
      · rw [e]; exact (pm _).mpr (by simp [compEnvC])
      · exact (pm a).mpr (List.mem_append.mpr (.inr (L1.inF a (.tail _ (hcl a ha)))))
    · refine List.nodup_cons.mpr ⟨fun hm => ?_, hclnd⟩
      obtain ⟨v0, o, e, _⟩ := L1.cs _ (hcl _ hm)
      have e' : s1.heap.get? K = some o := e
      rw [nK] at e'; cases e'
    · obtain ⟨v0, o, e, r⟩ := L1.cs _ (hcl _ hc)
      exact ⟨v0, o, old _ _ (by simp) e, r⟩
    · rcases List.mem_cons.mp hy with e | hy
      · injection e with e1 e2; cases e2
      · obtain ⟨h1, h2, h3, h4⟩ := hfr y w hy
        obtain ⟨mc, hn, hv⟩ := L1.ns
        obtain ⟨u, hu, q | ⟨q, c, q1, o, q2, q3⟩⟩ := hv y w h1
        · rw [h2] at q; exact absurd q.1 (by simp)
        · exact ⟨u, hu.mono (kept_of old) nXX, .inr ⟨h3 K, c, h4 c q1, o, old _ _ (by simp) q2, q3⟩⟩
  have hDo : D ∉ ownA (compEnvC scope cl K env) := fun hm => by
    rcases List.mem_cons.mp hm with e | hm
    · exact hDK e
    · obtain ⟨v0, o, e, _⟩ := L1.cs _ (hcl _ hm)
      rw [nD] at e; cases e
  have wrn : ∀ a, a ∈ wr → a ≠ D ∧ a ≠ K := fun a ha => by
    obtain ⟨o, e⟩ := S1.thereF a (List.mem_append.mpr (.inl ha))
    exact ⟨fun z => (by rw [z, nD] at e; cases e), fun z => (by rw [z, nK] at e; cases e)⟩
  have hwo : ∀ a, a ∈ wr → a ∉ ownA (compEnvC scope cl K env) := fun a ha hm => by
    rcases List.mem_cons.mp hm with e | hm
    · exact (wrn a ha).2 e
    · exact (ow a ha).1.2 (.tail _ (hcl a hm))
  have hw0 : ∀ a, a ∈ wr → a ∉ [D, K] ++ F := fun a ha hm => by
    rcases List.mem_append.mp hm with q | q
    · rcases List.mem_cons.mp q with e | q
      · exact (wrn a ha).1 e
      · exact (wrn a ha).2 (List.mem_singleton.mp q)
    · exact (ow a ha).1.1 q
  have loop := comp_loop (cenv := compEnvC scope cl K env) (elt := elt) (iter := iter) (px := px) (ifs := ifs) (scope := scope) (pos := pos) (s := { s1 with heap := h₁, toks := s1.toks + ([] : List (Str × Value)).length }) (vx := none) (done := []) (us := []) T p f (lookup_relabel_local hx) (by simp) (fun hm => (wrn D hm).1 rfl) hDo hwo hw0 ok S3 cenvL hC3 hacc .nil (by simpa using hlen) (fun v hv => hct v hv K) fun v hv hp => hel v hv hp K
  have fin : ∀ (r : Result) (s' : Shared), (CLP g ([D, K] ++ F) O1 D (D :: K :: wr) K ((l.filter p).map f) { s1 with heap := h₁, toks := s1.toks + ([] : List (Str × Value)).length } r s') →
      compPost (model prg g.w) A (fun _ _ => False) (some (assign (.Name y py) env)) (fun _ s' => SP g F env O s Q .next s') (.ref D) K r s' := by
    rintro r s' ⟨us', rfl, ⟨h', tk, rfl⟩, kk, St', ⟨mc, hN⟩, Pl', R'⟩
    have notF : ∀ a, a ∈ [D, K] → a ∉ dm O1 ++ F := fun a ha q => by
      rcases List.mem_append.mp q with q | q
      · obtain ⟨o, e⟩ := S1.there a (List.mem_append.mpr (.inl q)); rw [(hw2 a ha).1] at e; cases e
      · exact (ow2 a ha).1 (List.mem_append.mpr (.inr q))
    obtain ⟨h1, t1, rfl⟩ := N1.same
    have old0 : Kept [] s.heap h' := fun b o _ e => by
      have e1 : h1.get? b = some o := N1.kept b o (by simp) e
      refine kk b o (fun z => ?_) (old b o (by simp) e1)
      rcases List.mem_cons.mp z with z | z
      · rw [z] at e1; exact absurd (nD.symm.trans e1) (fun z => nomatch z)
      · rcases List.mem_cons.mp z with z | z
        · rw [z] at e1; exact absurd (nK.symm.trans e1) (fun z => nomatch z)
        · have := (ow b z).2; rw [e] at this; cases this
    have noneS : ∀ a, a ∈ [D, K] → s.heap.get? a = none := fun a ha => by
      cases e : s.heap.get? a with
      | none => rfl
      | some o => exact absurd (N1.kept a o (by simp) e) (by rw [(hw2 a ha).1]; exact fun z => nomatch z)
    have newX : Newly (dm O ++ F) (dm O1 ++ F) s.heap := fun a ha => N1.new a (by
      rcases List.mem_append.mp ha with ha | ha
      · exact List.mem_append.mpr (.inl ha)
      · exact List.mem_append.mpr (.inr (List.mem_append.mpr (.inr ha))))
    have newK : Newly (dm O ++ F) (dm O1 ++ ([K] ++ F)) s.heap := fun a ha => by
      rcases List.mem_append.mp ha with ha | ha
      · exact newX a (List.mem_append.mpr (.inl ha))
      · rcases List.mem_append.mp ha with ha | ha
        · rw [List.mem_singleton.mp ha]; exact .inr (noneS K (.tail _ (.head _)))
        · exact newX a (List.mem_append.mpr (.inr ha))
    have LK : LR g ([K] ++ F) O1 h' env m := by
      obtain ⟨mc, hn, hv⟩ := L.ns
      refine ⟨L.fn, L.gl, L.bl, fun a ha => List.mem_append.mpr (.inr (L.inF a ha)), L.ond, L.nd, fun c hc => let ⟨v0, e⟩ := L.cs c hc; ⟨v0, e.keeps fun b o e => old0 b o (by simp) e⟩, mc, hn.keeps fun b o e => old0 b o (by simp) e, fun x v hx => ?_⟩
      obtain ⟨u, hu, q⟩ := hv x v hx
      refine ⟨u, hu.mono (kept_of old0) newK, q.imp id fun ⟨k, c, h1, h2⟩ => ⟨k, c, h1, h2.keeps fun b o e => old0 b o (by simp) e⟩⟩
    have SK : St g ([K] ++ F) O1 h' := St.less (wr := [D]) St'
    have DX : D ∉ dm O1 ++ ([K] ++ F) := fun q => by
      rcases List.mem_append.mp q with q | q
      · exact notF D (.head _) (List.mem_append.mpr (.inl q))
      · rcases List.mem_append.mp q with q | q
        · exact hDK (List.mem_singleton.mp q)
        · exact notF D (.head _) (List.mem_append.mpr (.inr q))
    have RD : VR g.w (dm O1 ++ ([K] ++ F)) h' (.lst ((l.filter p).map f)) (.ref D) := by
      simp only [VR]
      obtain ⟨nn, e⟩ := Pl'
      exact ⟨D, us', rfl, DX, ⟨_, e, rfl, nn, rfl⟩, R'.mono .refl (sub_less fun a ha => by
        rcases List.mem_append.mp ha with ha | ha
        · exact List.mem_append.mpr (.inl ha)
        · exact List.mem_append.mpr (.inr (.tail _ ha)))⟩
    have KL : K ∉ ownA env := fun z => notF K (.tail _ (.head _)) (List.mem_append.mpr (.inr (L.inF K z)))
    show wpAny _ A (assign (.Name y py) env (.ref D)) _ _ _
    refine wpAny_assign_Name (wpAny_mono (nm_localK (s := { s with heap := h', toks := tk }) hy hu SK LK RD) (fun _ s2 ⟨⟨h2, t2, e2⟩, hk2, S2, L2⟩ => ?_) fun _ _ x => x)
    subst e2
    refine ⟨mc, ?_, fun h3 hs3 => ?_⟩
    · obtain ⟨o, es, ep, e, rr⟩ := hN
      exact ⟨o, es, ep, hk2 _ _ (fun z => KL (by rw [List.mem_singleton.mp z]; exact .head _)) e, rr⟩
    · have k3 : Kept [K] h2 h3 := kept_same hs3
      have S3 := St.drop S2 k3 (notF K (.tail _ (.head _)))
      have L3 := LR.drop L2 k3 KL L.inF
      refine ⟨.next, m', O1, ⟨⟨_, _, rfl⟩, fun b o hb e => ?_, newX⟩, S3, L3, rfl, hq⟩
      refine k3 b o (fun z => ?_) (hk2 b o (fun z => hb (by rw [List.mem_singleton.mp z]; exact List.mem_append.mpr (.inr (.head _)))) (old0 b o (by simp) e))
      rw [List.mem_singleton.mp z, noneS K (.tail _ (.head _))] at e; cases e
  have go : ∀ s₃ : Shared, s₃ = { s1 with heap := h₁, toks := s1.toks + ([] : List (Str × Value)).length } →
      codeAny (model prg g.w) A (.compLoop (.ListComp elt [⟨.Name x px, iter, ifs, 0⟩] scope pos) 0 (.ref I) (.ref D) (compEnvC scope cl K env)) (compPost (model prg g.w) A (fun _ _ => False) (some (assign (.Name y py) env)) (fun _ s' => SP g F env O s Q .next s') (.ref D) K) s₃ := by
    rintro s₃ rfl
    exact codeAny_mono loop fun r s' hh => fin r s' hh
  exact codeAny_compStart_list (go _ rfl) (T.self ok hC3 (go _ rfl))
end
end Mine

-- B1
namespace Mine
open PySem PySem.Calls PySem.W PyProof.Rows

/-- an exception on its way: where it is, its fields' dict, its trace's head, whose frame holds it -/
inductive Trc (base h : Heap) (e d : Addr) (fl : Value) : Prop
  | mk (oe : Obj) (vs : Array Value) (T : Addr) (oT : Obj) (ts : Array Value) (he : h.get? e = some oe) (hc : oe.cls = .ref 39) (hd : oe.dict = some d) (hv : oe.data = .fields vs) (h1 : vs[1]? = some (.ref T)) (hb : base.get? T = none) (hn : T ≠ e) (hT : h.get? T = some oT) (ht : oT.data = .fields ts) (h3 : ts[3]? = some fl)
structure Fly (base : Heap) (l : List Env) (e d : Addr) (fl : Value) (h : Heap) : Prop where
  stays : base.StaysIn h
  new : base.get? e = none
  frames : h.FunFrames base l
  trc : Trc base h e d fl

section
variable {M : Model} {A : Around} {E : Value → Shared → Prop} {s : Shared} {base : Heap} {env : Env} {outer : List Env} {L e d : Addr}

/-- one entry more at the head of the trace -/
theorem my_entry {oe : Obj} {vs : Array Value} {head : Value} {b : Bool} {Q : Unit → Shared → Prop} (hfr : A.frames = some (env :: outer)) (hl : s.heap.FunFrames base (env :: outer)) (hf : env.frame = some L) (hkb : base.StaysIn s.heap) (hen : base.get? e = none)
    (he : s.heap.get? e = some oe) (hc : oe.cls = .ref 39) (hdd : oe.dict = some d) (hd : oe.data = .fields vs) (hz : 1 < vs.size) (hQ : ∀ h', Fly base (env :: outer) e d (rawInt L) h' → s.heap.UpToSlots h' → Q () { s with heap := h' }) :
    wpAny M A (do let a ← frameOf env; let pl ← entryPlaceOf L b; let t ← EntryCells.newEntry head a .none (rawInt L) .none pl; setField (.ref e) 1 t) Q E s := by
  refine wpAny_bind (wpAny_frameOf_fun hfr hl hf fun h1 ⟨hz1, hout, hall⟩ => ?_)
  have eF : e ∉ (env :: outer).filterMap (·.frame) := fun q => by
    obtain ⟨_, o, ho, hn⟩ := hl.mem q
    rw [he] at ho; cases ho; exact hn vs hd
  have he1 : h1.get? e = some oe := (hout e eF).trans he
  have kb1 : base.StaysIn h1 := fun c o hc => (hout c fun q => by rw [(hl.mem q).1] at hc; cases hc).trans (hkb c o hc)
  refine wpAny_bind (wpAny_entryPlaceOf fun pl hpl => ?_)
  unfold EntryCells.newEntry newFields
  refine wpAny_bind (wpAny_newObj_type ?_ (hpl.sizeOk5 _ _ _ _ _))
  generalize hT : ({ cls := .type "traceback", dict := none, data := .fields ([head, .ref L, .none, rawInt L, .none] ++ (if pl.isEmpty then List.replicate 6 Value.none else pl)).toArray } : Obj) = oT
  have hTd : oT.data = .fields ([head, .ref L, .none, rawInt L, .none] ++ (if pl.isEmpty then List.replicate 6 Value.none else pl)).toArray := by rw [← hT]
  have ne : h1.objs.size ≠ e := Nat.ne_of_gt (Heap.lt_size he1)
  refine wpAny_setField (Heap.get?_push_of_some _ he1) hd hz (hQ _ ?_ fun c o hc hn => ?_)
  · have dm := Obj.data_mapFields hd (·.setIfInBounds 1 (Value.ref h1.objs.size))
    refine ⟨fun c o hc => ?_, hen, hl.of_keeps fun c o hc hn => ?_, _, _, h1.objs.size, oT, _, Heap.get?_update_self _ (Heap.get?_push_of_some _ he1) (Obj.isFreed_of_fields dm), (Obj.cls_mapFields _ _).trans hc, ?_, dm, by simp [hz], kb1.fresh, ne, ?_, hTd, ?_⟩
    · rw [Heap.get?_update_other _ _ (fun q => by rw [← q, hen] at hc; cases hc)]
      exact Heap.get?_push_of_some _ (kb1 c o hc)
    · obtain ⟨sl, e1⟩ := hall c o hc
      refine ⟨({ o with slots := sl } : Obj), ?_, rfl⟩
      rw [Heap.get?_update_other _ _ (fun q => by rw [← q, he] at hc; cases hc; exact hn vs hd)]
      exact Heap.get?_push_of_some _ e1
    · obtain ⟨c, dd, dt, sl⟩ := oe
      simp only at hd; subst hd; exact hdd
    · rw [Heap.get?_update_other _ _ (Ne.symm ne)]
      exact Heap.get?_push_size _ (Obj.isFreed_of_fields hTd)
    · simp
  · obtain ⟨sl, e1⟩ := hall c o hc
    refine ⟨sl, ?_⟩
    rw [Heap.get?_update_other _ _ (fun q => by rw [← q, he] at hc; cases hc; exact hn vs hd)]
    exact Heap.get?_push_of_some _ e1

theorem my_note_new {oe : Obj} {vs : Array Value} {Q : Unit → Shared → Prop} (hfr : A.frames = some (env :: outer)) (hl : s.heap.FunFrames base (env :: outer)) (hf : env.frame = some L) (hkb : base.StaysIn s.heap) (hen : base.get? e = none)
    (he : s.heap.get? e = some oe) (hc : oe.cls = .ref 39) (hdd : oe.dict = some d) (hd : oe.data = .fields vs) (h1 : vs[1]? = some .none) (hQ : ∀ h', Fly base (env :: outer) e d (rawInt L) h' → s.heap.UpToSlots h' → Q () { s with heap := h' }) : wpAny M A (noteFrame (.ref e) env) Q E s := by
  unfold noteFrame
  simp only [hf]
  refine wpAny_bind (wpAny_field he hd h1 ?_)
  rw [if_neg (by decide)]
  exact my_entry hfr hl hf hkb hen he hc hdd hd (Array.getElem?_eq_some_iff.mp h1).1 hQ

/-- a field of the trace's head is set -/
theorem Fly.put {h : Heap} {l : List Env} {fl x : Value} (hh : Fly base l e d fl h) : ∃ T oT ts, T ≠ e ∧ h.get? T = some oT ∧ oT.data = .fields ts ∧ 3 < ts.size ∧ ts[3]? = some fl ∧ (∃ oe vs, h.get? e = some oe ∧ oe.data = .fields vs ∧ vs[1]? = some (.ref T)) ∧
    Fly base l e d x (h.update T (Obj.mapFields (·.setIfInBounds 3 x))) ∧ h.UpToSlots (h.update T (Obj.mapFields (·.setIfInBounds 3 x))) := by
  obtain ⟨k1, k2, k3, oe, vs, T, oT, ts, he, hc, hdd, hd, h1, hb, ne, hT, hTd, h3⟩ := hh
  have hz := (Array.getElem?_eq_some_iff.mp h3).1
  have oth : ∀ c o, h.get? c = some o → (∀ vs, o.data ≠ .fields vs) → (h.update T (Obj.mapFields (·.setIfInBounds 3 x))).get? c = some o := fun c o hc hn => by
    rw [Heap.get?_update_other _ _ (fun q => by rw [← q, hT] at hc; cases hc; exact hn ts hTd)]; exact hc
  have dm := Obj.data_mapFields hTd (·.setIfInBounds 3 x)
  refine ⟨T, oT, ts, ne, hT, hTd, hz, h3, ⟨oe, vs, he, hd, h1⟩, ⟨fun c o hc => ?_, k2, k3.of_keeps fun c o hc hn => ⟨o, oth c o hc hn, rfl⟩, oe, vs, T, _, _, ?_, hc, hdd, hd, h1, hb, ne, Heap.get?_update_self _ hT (Obj.isFreed_of_fields dm), dm, by simp [hz]⟩, fun c o hc hn => ⟨o.slots, oth c o hc hn⟩⟩
  · rw [Heap.get?_update_other _ _ (fun q => by rw [← q, hb] at hc; cases hc)]; exact k1 c o hc
  · rw [Heap.get?_update_other _ _ ne]; exact he

theorem my_flight {l : List Env} {fl : Value} {Q : Unit → Shared → Prop} (hh : Fly base l e d fl s.heap) (hQ : ∀ h', Fly base l e d .none h' → s.heap.UpToSlots h' → Q () { s with heap := h' }) : wpAny M A (setFlight (.ref e) none) Q E s := by
  obtain ⟨T, oT, ts, ne, hT, hTd, hz, h3, ⟨oe, vs, he, hd, h1⟩, F, U⟩ := hh.put (x := (none : Option Addr).elim Value.none fun f => rawInt f)
  unfold setFlight
  refine wpAny_bind (wpAny_field he hd h1 ?_)
  rw [if_pos (by simp)]
  exact wpAny_setField hT hTd hz (hQ _ F U)

theorem my_note_next {Q : Unit → Shared → Prop} (hfr : A.frames = some (env :: outer)) (hf : env.frame = some L) (hh : Fly base (env :: outer) e d .none s.heap) (hQ : ∀ h', Fly base (env :: outer) e d (rawInt L) h' → s.heap.UpToSlots h' → Q () { s with heap := h' }) : wpAny M A (noteFrame (.ref e) env) Q E s := by
  obtain ⟨T, oT, ts, ne, hT, hTd, hz, h3, ⟨oe, vs, he, hd, h1⟩, F, U⟩ := hh.put (x := Value.none)
  unfold noteFrame
  simp only [hf]
  refine wpAny_bind (wpAny_field he hd h1 ?_)
  rw [if_pos (by simp)]
  refine wpAny_bind (wpAny_field hT hTd h3 ?_)
  rw [if_neg (by simp [rawInt])]
  refine wpAny_bind (wpAny_setField hT hTd hz ?_)
  obtain ⟨oe2, vs2, T2, oT2, ts2, he2, hc2, hdd2, hd2, h12, _⟩ := F.trc
  exact my_entry hfr F.frames hf F.stays F.new he2 hc2 hdd2 hd2 (Array.getElem?_eq_some_iff.mp h12).1 fun h' F' U' => hQ h' F' (U.trans U')
theorem my_leave {oe : Obj} {vs : Array Value} {Q : Unit → Shared → Prop} (hfr : A.frames = some (env :: outer)) (hl : s.heap.FunFrames base (env :: outer)) (hf : env.frame = some L) (hkb : base.StaysIn s.heap) (hen : base.get? e = none)
    (he : s.heap.get? e = some oe) (hc : oe.cls = .ref 39) (hdd : oe.dict = some d) (hd : oe.data = .fields vs) (h1 : vs[1]? = some .none) (hQ : ∀ h', Fly base outer e d .none h' → s.heap.UpToSlots h' → Q () { s with heap := h' }) : wpAny M A (leaving env (.ref e)) Q E s := by
  unfold leaving
  refine wpAny_bind (my_note_new hfr hl hf hkb hen he hc hdd hd h1 fun h1 F1 U1 => ?_)
  exact my_flight F1 fun h2 F2 U2 => hQ h2 ⟨F2.stays, F2.new, F2.frames.2.2, F2.trc⟩ (U1.trans U2)
end
end Mine

-- B2
namespace Mine
open PySem PySem.Calls PySem.W PyProof.Rows

theorem nsAt_some {K : Frag} {h : Heap} {N : Addr} {mg : Str → Option Value} {n : Str} {v : Value} (X : K.In h) (G : h.Ns N mg) (e : nsIn K N n = some (some v)) : mg n = some v := by
  obtain ⟨o, es, ep, ho, hd, _, hf⟩ := G
  unfold nsIn at e
  split at e
  · rename_i c d es' n' sl q
    have := X _ _ q
    rw [ho] at this
    cases this
    cases hd
    split at e
    · rename_i en he
      cases e
      rw [← hf]
      unfold nsFind findBy
      rw [← Array.find?_toList, he]
      rfl
    · split at e <;> cases e
  · cases e

theorem cls39 (g : Gr) : ∃ nm q bs sn sub ab col dd k0 k1 k2 k3 k5, g.h.get? 39 = some (excClassObj nm q 39 38 bs [.type "Exception", .type "BaseException", .type "object"] true sn sub ab col dd k0 k1 k2 k3 k5 "Exception.__new__") :=
  ⟨_, _, _, _, _, _, _, _, _, _, _, _, _, g.kin 39 _ rfl⟩
theorem ns38 (g : Gr) : g.h.Ns 38 (g.h.nsMap 38) := .of_isNs (isNs_of_in g.kin (by kernel_rfl))
theorem ns38_init (g : Gr) : g.h.nsMap 38 "__init__" = some (.ref 36) := nsAt_some g.kin (ns38 g) (by kernel_rfl)
theorem ns38_none (g : Gr) {x : Str} (q : nsIn (hd.heap_39 g.w.params) 38 x = some none) : g.h.nsMap 38 x = none := nsMap_none_of_in g.kin (by kernel_rfl) q
noncomputable abbrev f_exc : Fn := fnOfCls 5
theorem at_exc (g : Gr) : FnAtQ g 36 f_exc "BasicError.__init__" := ⟨_, _, _, _, g.kin 36 _ rfl, rfl, ⟨35, _, _, _, rfl, g.kin 35 _ rfl, rfl, rfl⟩⟩
theorem mg_BasicError (g : Gr) : g.mg "BasicError" = some (.ref 39) := mg_of g.kin g.gs (by kernel_rfl)
theorem fn36 (g : Gr) : ∃ o, g.h.get? 36 = some o ∧ o.cls = .type "function" := ⟨_, g.kin 36 _ rfl, rfl⟩
theorem lk_kind : typeLookup (.type "Exception") "kind" = pure none := by rw [typeLookup_type, builtinLookup_eq_fast]; kernel_rfl

/-- self.kind = kind -/
theorem c_excinit (g : Gr) {A : Around} {s : Shared} {e : Addr} {vs : Array Value} {k : Str} {t : Tok} (hroom : A.depth < 1000) (keep : ∀ b o, g.h.get? b = some o → s.heap.get? b = some o)
    (he : s.heap.get? e = some { cls := .ref 39, data := .fields vs }) (hen : g.h.get? e = none) :
    codeAny (model prg g.w) A (.call (.ref 36) ⟨[.ref e, .str k t], []⟩) (fun r s' => r = .ok (.ret .none) ∧ ∃ h' tk d, s' = { s with heap := h', toks := tk } ∧ (∀ b o, b ≠ e → s.heap.get? b = some o → h'.get? b = some o) ∧
      h'.get? e = some { cls := .ref 39, dict := some d, data := .fields vs } ∧ h'.Ns d (fun y => if y = "kind" then some (.str k t) else none)) s := by
  obtain ⟨o, pm, code, doc, ho, hdt, hcd⟩ := at_exc g
  refine codeAny_call_plain (fd := methDef f_exc.name "BasicError.__init__" f_exc.params f_exc.body f_exc.scope pm code doc) (binds := [("self", .ref e), ("kind", .str k t)]) hroom (keep _ _ ho) hdt (g.lim.keeps keep) (hcd.keeps keep) rfl rfl (show ∀ x ∈ f_exc.scope.names, x.2 ≠ .cell by decide) (fun x hx => by simp at hx; rcases hx with rfl | rfl <;> rfl) (fun h1 ns1 keep1 => ?_) rfl rfl rfl
  have k1 : ∀ b o, g.h.get? b = some o → h1.get? b = some o := fun b o e => keep1 b o (keep b o e)
  obtain ⟨nm, q, bs, sn, sub, ab, col, dd, k0, k1', k2, k3, k5, hC⟩ := cls39 g
  have en : e ≠ 39 := fun q => by rw [q, hC] at hen; cases hen
  have hno : s.heap.get? s.heap.objs.size = none := none_size
  show wpAny _ _ (execs [_] _) _ _ _
  refine wpAny_execs_cons ?_
  refine plainObj_wpAny_Assign_Attribute (wpAny_Name (wpAny_loadName_local rfl rfl ns1 (v := .str k t) rfl ?_) (by decide)) rfl
  refine wpAny_Name (wpAny_loadName_local rfl rfl ns1 (v := .ref e) rfl ?_) (by decide)
  refine store_attr (mA := fun _ => none) (ns := []) PySem.F.store_Exception (k1 _ _ hC) (N := 38) (mN := g.h.nsMap 38) ((ns38 g).keeps k1) (ns38_none g (by kernel_rfl)) (ns38_none g (by kernel_rfl)) lk_kind en ⟨_, keep1 _ _ he, rfl, (fun c z => by cases z), .inl ⟨rfl, fun _ => rfl⟩⟩ (fun h' tk' I hk hsame => ?_)
  refine wpAny_execs_nil ?_
  obtain ⟨o1, he1, hc1, hd1, hs1, _⟩ := hsame _ (keep1 _ _ he)
  obtain ⟨o2, he2, _, _, hdict⟩ := I
  rw [he1] at he2; cases he2
  rcases hdict with ⟨_, q⟩ | ⟨d, q1, q2, q3⟩
  · have := q "kind"; simp at this
  obtain ⟨c, dd', dt, sl⟩ := o1
  simp only at hc1 hd1 hs1 q1
  subst hc1 hd1 hs1 q1
  refine ⟨rfl, h', _, d, rfl, fun b o hb e => hk b o hb (fun o0 dx z1 z2 => ?_) (keep1 b o e), he1, q3.ns⟩
  rw [keep1 _ _ he] at z1; cases z1; cases z2

/-- what a raise leaves: the exception at e, its dict at d -/
inductive Exc (s s' : Shared) (e d : Addr) (k : Str) (t : Tok) : Prop
  | mk (h' : Heap) (tk : Nat) (vs : Array Value) (es : s' = { s with heap := h', toks := tk }) (kp : ∀ b o, s.heap.get? b = some o → h'.get? b = some o) (he : s.heap.get? e = none) (hh : h'.get? e = some { cls := .ref 39, dict := some d, data := .fields vs }) (h1 : vs[1]? = some .none) (hn : h'.Ns d (fun y => if y = "kind" then some (.str k t) else none))

theorem call_exc (g : Gr) {A : Around} {s : Shared} {k : Str} {t : Tok} {Q : Value → Shared → Prop} {E : Value → Shared → Prop} (hroom : A.depth < 998) (keep : ∀ b o, g.h.get? b = some o → s.heap.get? b = some o)
    (hq : ∀ e s' d h' tk u, s' = { s with heap := h', toks := tk } → (∀ b o, s.heap.get? b = some o → h'.get? b = some o) → s.heap.get? e = none → h'.get? e = some { cls := .ref 39, dict := some d, data := .fields #[.ref u, .none, .none, .none, .bool false, .none] } → h'.Ns d (fun y => if y = "kind" then some (.str k t) else none) → Q (.ref e) s') :
    wpAny (model prg g.w) A (call (.ref 39) [.str k t]) Q E s := by
  obtain ⟨nm, q, bs, sn, sub, ab, col, dd, k0, k1, k2, k3, k5, hC⟩ := cls39 g
  obtain ⟨oI, hI, hIc⟩ := fn36 g
  obtain ⟨h0, gg, ddr, tk, os⟩ := s
  refine wpAny_call_exc_init (oI := oI) PySem.F.excBase_Exception (keep _ _ hC) ((ns38 g).keeps keep) (ns38_init g) (keep _ _ hI) hIc (fun h1 e hm => ?_) (by rw [sizeLine_eq]; simp)
  obtain ⟨u, he, hu, hut⟩ := hm.there
  have keep1 : ∀ b o, g.h.get? b = some o → h1.get? b = some o := fun b o e => hm.keeps b o (keep b o e)
  have hen : g.h.get? e = none := by
    cases z : g.h.get? e with
    | none => rfl
    | some o => have := keep e o z; rw [hm.new] at this; cases this
  refine wpAny_call (codeAny_mono (c_excinit g (s := ⟨h1, gg, ddr, tk, os⟩) (k := k) (t := t) ?_ keep1 he hen) fun r s2 ⟨er, h2, tk2, d, es, kp, he2, hns⟩ => ?_)
  · show A.depth + 1 < 1000; omega
  subst er es
  refine ⟨rfl, hq e _ d h2 tk2 u rfl (fun b o hb => kp b o (fun z => ?_) (hm.keeps b o hb)) hm.new he2 hns⟩
  rw [z, hm.new] at hb; cases hb

theorem raise_exc (g : Gr) {A : Around} {s : Shared} {env : Env} {k : Str} {kk : Nat} {np cpos pos ppos : Pos} {Q : Flow → Shared → Prop} {E : Value → Shared → Prop} (hroom : A.depth < 998) (hh : A.handled = none) (keep : ∀ b o, g.h.get? b = some o → s.heap.get? b = some o)
    (hf : env.scope.kind = .function) (hg : env.globals = mainGlobals) (hk : env.kindOf "BasicError" = some .globalImplicit)
    (hE : ∀ e d t s', Exc s s' e d k t → E (.ref e) s') : wpAny (model prg g.w) A (exec (.Raise (some (.Call (.Name "BasicError" np) [.Constant (.str k) kk ppos] [] cpos)) none pos) env) Q E s := by
  obtain ⟨nm, q, bs, sn, sub, ab, col, dd, k0, k1, k2, k3, k5, hC⟩ := cls39 g
  rw [arm_exec_Raise]
  refine wpAny_bind (wpAny_standAt ?_)
  simp only [evalOpt, Option.map]
  unfold raiseStmt
  refine wpAny_bind (wpAny_bind (wpAny_Call_ofName (Name_function_global hf hk (loadGlobal_global (mg := g.mg) (by rw [hg]; exact g.gs.keeps keep) (mg_BasicError g) ?_) (by decide))))
  unfold callWith
  refine wpAny_bind (wpAny_holding ?_)
  refine evalArgs_plain (wpAny_items_cons (wpAny_Constant_str (wpAny_items_nil ?_)) rfl)
  refine wpAny_bind (wpAny_standAt ?_)
  rw [show (backTo cpos (starEach [Expr.Constant (Const.str k) kk ppos] env)).any (·.1) = false from rfl]
  obtain ⟨h0, gg, ddr, tk, os⟩ := s
  refine wpAny_bind (wpAny_keeperOf_exc (keep _ _ hC) ?_)
  refine wpAny_bind (call_exc g (k := k) (t := tk) (s := ⟨h0, gg, ddr, tk + 1, os⟩) hroom keep fun e s2 d h2 tk2 u es kp hn he hns => ?_)
  subst es
  refine wpAny_bind (wpAny_holding (wpAny_point (wpAny_pure (wpAny_bind (wpAny_standAt (wpAny_pure ?_))))))
  have hC2 : h2.get? 39 = _ := kp _ _ (keep _ _ hC)
  have hcB : (Value.ref 39 :: [Value.type "Exception", .type "BaseException", .type "object"]).contains (.type "BaseException") = true := by decide
  repeat (first | with_reducible refine wpAny_loadPart_at he ?_ | with_reducible refine wpAny_loadPart_at hC2 ?_ | (with_reducible refine wpAny_isSubtype_exc hC2 ?_; rw [hcB]) | wp_step)
  exact wpAny_raiseNew_none hh (hE e d tk _ ⟨h2, tk2, _, rfl, kp, hn, he, rfl, hns⟩)
end Mine

-- B3
namespace Mine
open PySem PySem.Calls PySem.W PyProof.Rows
open Builtin Builtin.ObjectAttr

section
variable {g : Gr} {A : Around} {E : Value → Shared → Prop} {h : Heap} {gg : Array GenState} {ddr : Drawn} {t : Nat} {os : OsState} {e d : Addr} {vs : Array Value} {oe : Obj} {v : Value} {md : Str → Option Value}

theorem kind_entry {tk : Tok} {Q : Fin → Shared → Prop} (keep : ∀ b o, g.h.get? b = some o → h.get? b = some o) (he : h.get? e = some oe) (hc : oe.cls = .ref 39) (hdd : oe.dict = some d) (hdt : oe.data = .fields vs) (hns : h.Ns d md) (hv : md "kind" = some v) (hq : Q (.done (.ret v)) ⟨h, gg, ddr, t, os⟩) :
    wpAny (model prg g.w) A (Builtin.«object.__getattribute__» ⟨[.ref e, .str "kind" tk], []⟩) Q E ⟨h, gg, ddr, t, os⟩ := by
  obtain ⟨nm, q, bs, sn, sub, ab, col, dd, k0, k1, k2, k3, k5, hC0⟩ := cls39 g
  have hC := keep _ _ hC0
  have hn := (ns38 g).keeps keep
  have hno := ns38_none g (x := "kind") (by kernel_rfl)
  unfold Builtin.«object.__getattribute__»
  repeat (any_goals (first | assumption | (with_reducible refine wpAny_loadPart_at he ?_; rw [hc]) | (with_reducible refine wpAny_typeLookup_exc hC hn PySem.F.excBase_Exception.mroIs lk_kind ?_; rw [hno]) | wp_step))
  rw [hdt]
  show wpAny _ _ (instanceDict e false) _ _ _
  unfold instanceDict
  repeat (first | (with_reducible refine wpAny_loadPart_at he ?_; rw [hc]) | with_reducible refine wpAny_loadPart_at hC ?_ | wp_step)
  rw [hdd]
  repeat (first | (with_reducible refine wpAny_nsGet hns ?_; rw [hv]) | wp_step)
  exact hq
theorem check_ga {M : Model} {nameV : Value} {Q : Unit → Shared → Prop} (keep : ∀ b o, g.h.get? b = some o → h.get? b = some o) (he : h.get? e = some oe) (hc : oe.cls = .ref 39) (hq : Q () ⟨h, gg, ddr, t, os⟩) : wpAny M A (checkBuiltinCall "BaseException.__getattribute__" ⟨[.ref e, nameV], []⟩) Q E ⟨h, gg, ddr, t, os⟩ := by
  obtain ⟨nm, q, bs, sn, sub, ab, col, dd, k0, k1, k2, k3, k5, hC0⟩ := cls39 g
  exact wpAny_check_ga_own PySem.F.attrBase_Exception (keep _ _ hC0) .base he hc hq
theorem kind_get {Q : Value → Shared → Prop} (keep : ∀ b o, g.h.get? b = some o → h.get? b = some o) (he : h.get? e = some oe) (hc : oe.cls = .ref 39) (hdd : oe.dict = some d) (hdt : oe.data = .fields vs) (hns : h.Ns d md) (hv : md "kind" = some v) (hh : handedOut v = pure v) {ex : Bool} (hq : Q v ⟨h, gg, ddr, t + 1, os⟩) :
    wpAny (model prg g.w) A (getAttr (.ref e) "kind" ex) Q E ⟨h, gg, ddr, t, os⟩ := by
  obtain ⟨nm, q, bs, sn, sub, ab, col, dd, k0, k1, k2, k3, k5, hC0⟩ := cls39 g
  have hC := keep _ _ hC0
  have hn := (ns38 g).keeps keep
  have n1 := ns38_none g (x := "__getattribute__") (by kernel_rfl)
  have n2 := ns38_none g (x := "__getattr__") (by kernel_rfl)
  have f3 := PySem.F.attrBase_Exception.ga.bind (.ref e)
  have hx0 : (ex && onTheHeap (Value.builtin "BaseException.__getattribute__")) = false := by cases ex <;> rfl
  have hx2 : (Value.builtin "BaseException.__getattribute__" == Value.builtin "object.__getattribute__") = false := by decide +kernel
  have hx1 : (onTheHeap (Value.ref 39) && Value.builtin "BaseException.__getattribute__" == Value.builtin "object.__getattribute__") = false := by rw [hx2]; rfl
  unfold getAttr
  repeat (any_goals (first | assumption | (with_reducible refine wpAny_loadPart_at he ?_; rw [hc]) | (with_reducible refine wpAny_typeLookup_exc hC hn PySem.F.excBase_Exception.mroIs PySem.F.attrBase_Exception.ga.lookup ?_; rw [n1]) | (with_reducible refine wpAny_typeLookup_exc hC hn PySem.F.excBase_Exception.mroIs PySem.F.attrBase_Exception.noGetattr ?_; rw [n2]) | wp_step))
  refine codeAny_call_builtin PySem.F.attrBase_Exception.ga.plain PySem.F.entry_bexc_ga (check_ga keep he hc (kind_entry keep he hc hdd hdt hns hv ?_))
  show wpAny _ _ (handedOut v) _ _ _
  rw [hh]
  exact wpAny_pure hq
end
end Mine

-- B4
namespace Mine
open PySem PySem.Calls PySem.W PyProof.Rows

noncomputable abbrev framesOf (l : List Env) : List Addr := l.filterMap (·.frame)
noncomputable def kindNs (k : Str) (t : Tok) : Str → Option Value := fun y => if y = "kind" then some (.str k t) else none
/-- an exception that has left a call, above the frames l -/
inductive XPost (k : Str) (l : List Env) (s : Shared) (x : Value) (s' : Shared) : Prop
  | mk (e d : Addr) (t : Tok) (base : Heap) (ex : x = .ref e) (sm : ∃ h' tk, s' = { s with heap := h', toks := tk }) (hb : ∀ b o, b ∉ framesOf l → s.heap.get? b = some o → base.get? b = some o) (Fl : Fly base l e d .none s'.heap) (U : s.heap.UpToSlots s'.heap) (hn : s'.heap.Ns d (kindNs k t))
noncomputable def FramesIn (l : List Env) (F : List Addr) (h : Heap) : Prop := ∀ env ∈ l, env.scope.kind = .function ∧ ∃ L mc, env.frame = some L ∧ L ∈ F ∧ h.Ns L mc
/-- a call that gives back a value or lets an exception go -/
noncomputable def FX (g : Gr) (n : Nat) (a : Addr) (vs : List V) (Q : V → Prop) (k : Str) (Qx : Prop) : Prop :=
  ∀ F A s us l, Ok ⟨n, some l⟩ A → St g F [] s.heap → VRs g.w F s.heap vs us → FramesIn l F s.heap →
    codeAny (model prg g.w) A (.call (.ref a) ⟨us, []⟩) (fun r s' => (∃ u v, r = .ok (.ret u) ∧ Nxt [] F F s s' ∧ VR g.w F s'.heap v u ∧ Q v) ∨ (∃ x, r = .error x ∧ XPost k l s x s' ∧ Qx)) s
inductive SXP (g : Gr) (F : List Addr) (env : Env) (O : Led) (s : Shared) (k : Str) (Qx : Prop) (x : Value) (s' : Shared) : Prop
  | mk (s1 : Shared) (O1 : Led) (e d : Addr) (t : Tok) (ex : x = .ref e) (N : Nxt (dm O ++ ownA env) (dm O ++ F) (dm O1 ++ F) s s1) (S : St g F O1 s1.heap) (L : ∃ m1, LR g F O1 s1.heap env m1) (X : Exc s1 s' e d k t) (q : Qx)
/-- statements of which one may raise -/
noncomputable def SX (g : Gr) (n : Lv) (env : Env) (m : Loc) (O : Led) (ss : List Stmt) (Q : Fl → Loc → Led → Prop) (k : Str) (Qx : Prop) : Prop :=
  ∀ F A s, Ok n A → St g F O s.heap → LR g F O s.heap env m → wpAny (model prg g.w) A (execs ss env) (SP g F env O s Q)
    (SXP g F env O s k Qx) s
noncomputable def SeqX (g : Gr) (n : Lv) (env : Env) (rest : List Stmt) (Q : Fl → Loc → Led → Prop) (k : Str) (Qx : Prop) : Fl → Loc → Led → Prop
  | .next, m, O => SX g n env m O rest Q k Qx
  | .brk, m, O => Q .brk m O
  | .cont, m, O => Q .cont m O
  | .ret v, m, O => Q (.ret v) m O

section
variable {g : Gr} {F : List Addr} {O O1 O' : Led} {s s1 : Shared} {n : Lv} {env : Env} {m m1 : Loc} {k : Str} {Qx : Prop}

theorem sx_cons {st rest} {Q : Fl → Loc → Led → Prop} (h : S1 g n env m O st (SeqX g n env rest Q k Qx)) : SX g n env m O (st :: rest) Q k Qx := fun F A s ok S L => by
  refine wpAny_execs_cons (wpAny_mono (h F A s ok S L) (fun f s1 ⟨fl, m1, O1, N1, S1, L1, R1, h1⟩ => ?_) fun _ _ x => x.elim)
  cases fl with
  | next =>
    simp only [FlR] at R1; subst R1
    exact wpAny_mono (h1 F A s1 ok S1 L1) (fun _ s2 q => q.chain L.inF S S1 N1) fun x s2 ⟨s3, O3, e, d, t, ex, N3, S3, L3, X, q⟩ => ⟨s3, O3, e, d, t, ex, Nxt.stmt L.inF S S1 N1 N3, S3, L3, X, q⟩
  | brk => simp only [FlR] at R1; subst R1; exact ⟨.brk, m1, O1, N1, S1, L1, rfl, h1⟩
  | cont => simp only [FlR] at R1; subst R1; exact ⟨.cont, m1, O1, N1, S1, L1, rfl, h1⟩
  | ret v => simp only [FlR] at R1; obtain ⟨u, rfl, R⟩ := R1; exact ⟨.ret v, m1, O1, N1, S1, L1, ⟨u, rfl, R⟩, h1⟩
theorem sx_raise {kk : Nat} {np cpos pos ppos : Pos} {Q : Fl → Loc → Led → Prop} (hk : env.kindOf "BasicError" = some .globalImplicit) (q : Qx) :
    SX g n env m O [.Raise (some (.Call (.Name "BasicError" np) [.Constant (.str k) kk ppos] [] cpos)) none pos] Q k Qx := fun F A s ok S L =>
  wpAny_execs_cons (raise_exc g (k := k) (by have := ok.depth; omega) ok.handled S.keep L.fn L.gl hk fun e d t s' X => ⟨s, O, e, d, t, rfl, Nxt.refl, S, ⟨m, L⟩, X, q⟩)

theorem fx3 {n : Nat} {a : Addr} {f : Fn} {v1 v2 v3 : V} {x1 x2 x3 : Str} {rest : List Str} {Q : V → Prop} (hf : FnAt g a f)
    (hbind : ∀ u1 u2 u3 pm cd doc, bindArgs (docDef f.name f.params f.body f.scope pm cd doc) ⟨[u1, u2, u3], []⟩ = pure [(x1, u1), (x2, u2), (x3, u3)])
    (hl : f.scope.names.lookup x1 = some .local ∧ f.scope.names.lookup x2 = some .local ∧ f.scope.names.lookup x3 = some .local) (hnd : (x1 :: x2 :: x3 :: rest).Nodup) (hk : f.scope.kind = .function) (hco : f.scope.isCoroutine = false) (hgen : f.scope.isGenerator = false) (hcell : ∀ x ∈ f.scope.names, x.2 ≠ .cell)
    (h : ∀ L cd, SX g ⟨n, none⟩ (envOf f.name f.scope L a cd) ((x1, some v1) :: (x2, some v2) :: (x3, some v3) :: rest.map (·, none)) [] f.body (Back Q) k Qx) : FX g (n + 1) a [v1, v2, v3] Q k Qx := fun F A s us l ok S R HF => by
  have ne : x1 ≠ x2 := fun e => by rw [e] at hnd; simp at hnd
  have ne2 : x1 ≠ x3 := fun e => by rw [e] at hnd; simp at hnd
  have ne3 : x2 ≠ x3 := fun e => by rw [e] at hnd; simp at hnd
  obtain ⟨o, pm, code, doc, ho, hd, hcd⟩ := hf
  simp only [VRs] at R
  obtain ⟨u, us', rfl, R1, u', us'', rfl, R2, u'', us3, rfl, R3, rfl⟩ := R
  refine call_plain (binds := [(x1, u), (x2, u'), (x3, u'')]) (by have := ok.depth; show A.depth < 1000; simp only at this; omega) (S.keep _ _ ho) hd S.lim (hcd.keeps S.keep) (hbind u u' u'' pm code doc) (fun x hx => by simp at hx; rcases hx with rfl | rfl | rfl; exact hl.1; exact hl.2.1; exact hl.2.2) (fun h1 Fr1 => ?_) hco hgen hk hcell
  have kp : Kept [] s.heap h1 := fun b o _ e => Fr1.keep b o e
  have hex : ∃ o, h1.get? s.heap.objs.size = some o := let ⟨o, _, _, e, _⟩ := Fr1.ns; ⟨o, e⟩
  have hno : s.heap.get? s.heap.objs.size = none := none_size
  have nX : Newly F (s.heap.objs.size :: F) s.heap := fun b hb => by
    rcases List.mem_cons.mp hb with rfl | hb
    · exact .inr hno
    · exact .inl hb
  have S1 : St g (s.heap.objs.size :: F) [] h1 := ⟨fun b o e => kp b o (by simp) (S.keep b o e), fun b hb => by
    rcases List.mem_cons.mp hb with rfl | hb
    · exact base_none S hno
    · exact S.fresh b hb, List.nodup_nil, fun b hb => by simp at hb, fun b hb => by
    rcases List.mem_cons.mp hb with rfl | hb
    · exact hex
    · obtain ⟨o, e⟩ := S.thereF b hb; exact ⟨o, kp b o (by simp) e⟩, fun p hp => by simp at hp⟩
  have L1 : LR g (s.heap.objs.size :: F) [] h1 (envOf f.name f.scope s.heap.objs.size a code) ((x1, some v1) :: (x2, some v2) :: (x3, some v3) :: rest.map (·, none)) :=
    ⟨hk, rfl, rfl, fun b hb => by simp [ownA, envOf] at hb; rw [hb]; exact .head _, by simp [ownA, envOf], by rw [List.map_cons, List.map_cons, List.map_cons, List.map_map]; simpa [Function.comp_def] using hnd, fun c hc => by simp [envOf] at hc, _, Fr1.ns, fun x v hx => by
      rcases List.mem_cons.mp hx with e | hx
      · injection e with e1 e2; injection e2 with e2; subst e1 e2
        exact ⟨u, R1.mono (kept_of kp) nX, .inl ⟨hl.1, by simp [List.lookup_cons, beq_eq_false_iff_ne.mpr ne, beq_eq_false_iff_ne.mpr ne2]⟩⟩
      · rcases List.mem_cons.mp hx with e | hx
        · injection e with e1 e2; injection e2 with e2; subst e1 e2
          exact ⟨u', R2.mono (kept_of kp) nX, .inl ⟨hl.2.1, by simp [List.lookup_cons, beq_eq_false_iff_ne.mpr ne3]⟩⟩
        · rcases List.mem_cons.mp hx with e | hx
          · injection e with e1 e2; injection e2 with e2; subst e1 e2
            exact ⟨u'', R3.mono (kept_of kp) nX, .inl ⟨hl.2.2, by simp⟩⟩
          · simp at hx⟩
  refine wpAny_mono (h s.heap.objs.size code (s.heap.objs.size :: F) _ _ (Ok.deeper (fr := some l) _ ok) S1 L1) (fun f2 s2 ⟨fl, m2, O2, N2, S2, L2, R2, q⟩ => ?_) fun x s2 ⟨s3, O3, e, d, t, ex, N3, S3, L3, X, qx⟩ => ?_
  · left
    have N : Nxt [] F F s s2 := by
      obtain ⟨h2, t2, rfl⟩ := N2.same
      refine ⟨⟨h2, t2, rfl⟩, fun b o _ e => N2.kept b o (fun z => ?_) (kp b o (by simp) e), .refl⟩
      have z' : b = s.heap.objs.size := by simpa [ownA, envOf] using z
      rw [z', hno] at e; cases e
    cases fl with
    | next => simp only [FlR] at R2; subst R2; exact ⟨.none, .none, rfl, N, by simp only [VR], q⟩
    | ret v =>
      simp only [FlR] at R2
      obtain ⟨u, rfl, R2⟩ := R2
      obtain ⟨v', z, q⟩ := q
      exact ⟨u, v', rfl, N, z.run S2 R2 fun b hb => .tail _ hb, q⟩
    | brk => exact q.elim
    | cont => exact q.elim
  · subst ex
    obtain ⟨h3, t3, rfl⟩ := N3.same
    obtain ⟨h4, t4, vs, rfl, kp4, new4, he4, hv4, ns4⟩ := X
    have kp3 : Kept [] s.heap h3 := fun b o _ q => N3.kept b o (fun z => by
      have z' : b = s.heap.objs.size := by simpa [ownA, envOf] using z
      rw [z', hno] at q; cases q) (kp b o (by simp) q)
    have kp5 : ∀ b o, s.heap.get? b = some o → h4.get? b = some o := fun b o q => kp4 b o (kp3 b o (by simp) q)
    obtain ⟨m3, L3⟩ := L3
    obtain ⟨mc, ⟨oL, es, ep, eL, dL, _⟩, _⟩ := L3.ns
    have frs : ∀ l' : List Env, (∀ en, en ∈ l' → en ∈ l) → h4.FunFrames (hideAll h4 (e :: framesOf (envOf f.name f.scope s.heap.objs.size a code :: l))) l' := by
      intro l'
      induction l' with
      | nil => intro _; trivial
      | cons en l' ih =>
        intro hin
        obtain ⟨hkk, L, mc, hfr, hLF, ⟨o, es, ep, ho, hd, _⟩⟩ := HF en (hin en (.head _))
        refine ⟨by rw [hkk]; decide, ⟨L, o, hfr, hideAll_none _ (.tail _ (List.mem_filterMap.mpr ⟨en, .tail _ (hin en (.head _)), hfr⟩)), kp5 _ _ ho, fun vs q => by rw [hd] at q; cases q⟩, ih fun en' h' => hin en' (.tail _ h')⟩
    refine my_leave (env := envOf f.name f.scope s.heap.objs.size a code) (outer := l) (L := s.heap.objs.size) (e := e) (d := d) (base := hideAll h4 (e :: framesOf (envOf f.name f.scope s.heap.objs.size a code :: l))) ?_ ?_ rfl (fun b o q => of_hideAll _ q) (hideAll_none _ (.head _)) he4 rfl rfl rfl hv4 fun h6 F6 U6 => .inr ⟨_, rfl, ⟨e, d, t, _, rfl, ⟨_, _, rfl⟩, fun b o hb q => ?_, F6, (Heap.UpToSlots.of_keeps kp5).trans U6, U6.ns ns4⟩, qx⟩
    · show A.frames.map _ = _
      rw [ok.here l rfl]; rfl
    · exact ⟨by rw [show (envOf f.name f.scope s.heap.objs.size a code).scope.kind = .function from hk]; decide, ⟨s.heap.objs.size, oL, rfl, hideAll_none _ (.tail _ (.head _)), kp4 _ _ eL, fun vs q => by rw [dL] at q; cases q⟩, frs l fun en h => h⟩
    · refine hideAll_get _ (kp5 b o q) fun z => ?_
      rcases List.mem_cons.mp z with z | z
      · have := kp3 b o (by simp) q
        rw [z] at this; exact absurd (new4.symm.trans this) (fun z => nomatch z)
      · rcases List.mem_cons.mp z with z | z
        · rw [z, hno] at q; cases q
        · exact hb z
end
end Mine

-- B5
namespace Mine
open PySem PySem.Calls PySem.W PyProof.Rows

theorem ns_ne {h : Heap} {a b : Addr} {m m' : Str → Option Value} {x : Str} (h1 : h.Ns a m) (h2 : h.Ns b m') (hx : m x ≠ m' x) : a ≠ b := fun e => by
  subst e
  obtain ⟨o, es, ep, ho, hd, _, hf⟩ := h1
  obtain ⟨o', es', ep', ho', hd', _, hf'⟩ := h2
  rw [ho] at ho'; cases ho'
  rw [hd] at hd'; cases hd'
  exact hx ((hf x).symm.trans (hf' x))

section
variable {g : Gr} {F : List Addr} {O O1 O' : Led} {s s1 : Shared} {n : Lv} {env : Env} {m m1 : Loc}

/-- the frames' slots turn, and what the own frame's names mean -/
theorem SP.frames {Q : Fl → Loc → Led → Prop} {outer : List Env} {h' : Heap} {tk : Nat} {mc mc' : Str → Option Value} {x0 : Str} {v0 : V} {m' : Loc} (S : St g F O s.heap) (L : LR g F O s.heap env m) (hcells : env.cells = [])
    (hout : ∀ en ∈ outer, ∃ L mc, en.frame = some L ∧ (L, AO.frm mc) ∈ O)
    (hk : ∀ b o, b ∉ env.locals :: framesOf outer → s.heap.get? b = some o → h'.get? b = some o) (hns : h'.Ns env.locals mc') (ho : ∀ en ∈ outer, ∀ L mc, en.frame = some L → s.heap.Ns L mc → h'.Ns L mc)
    (hu : Upd m x0 v0 m') (hv0 : ∃ u, VR g.w (dm O ++ F) s.heap v0 u ∧ env.kindOf x0 = some .local ∧ mc' x0 = some u) (hmc : s.heap.Ns env.locals mc) (hsame : ∀ x, x ≠ x0 → x ∈ m.map (·.1) → mc' x = mc x) (q : Q .next m' O) :
    SP g F env O s Q .next { s with heap := h', toks := tk } := by
  have hLF : env.locals ∈ F := L.inF _ (.head _)
  have ofr : ∀ b, b ∈ framesOf outer → ∃ en ∈ outer, en.frame = some b ∧ ∃ mc, (b, AO.frm mc) ∈ O := fun b hb => by
    obtain ⟨en, h1, h2⟩ := List.mem_filterMap.mp hb
    obtain ⟨L, mc, h3, h4⟩ := hout en h1
    rw [h3] at h2; cases h2
    exact ⟨en, h1, h3, mc, h4⟩
  have frX : ∀ b, b ∈ env.locals :: framesOf outer → b ∈ dm O ++ ownA env := fun b hb => by
    rcases List.mem_cons.mp hb with rfl | hb
    · exact List.mem_append.mpr (.inr (.head _))
    · obtain ⟨en, _, _, mc, h4⟩ := ofr b hb
      exact List.mem_append.mpr (.inl (List.mem_map_of_mem h4))
  have frF : ∀ b, b ∈ env.locals :: framesOf outer → b ∈ dm O ++ F := fun b hb => own_in L.inF b (frX b hb)
  have kX : Kept (dm O ++ F) s.heap h' := fun b o hb e => hk b o (fun z => hb (frF b z)) e
  refine ⟨.next, m', O, ⟨⟨_, _, rfl⟩, fun b o hb e => hk b o (fun z => hb (frX b z)) e, .refl⟩, ?_, ?_, rfl, q⟩
  · refine ⟨fun b o e => hk b o (fun z => ?_) (S.keep b o e), S.fresh, S.nodup, S.disj, fun a ha => ?_, fun p hp => ?_⟩
    · rw [S.fresh b (frF b z)] at e; cases e
    · by_cases z : a = env.locals
      · rw [z]; obtain ⟨o, _, _, e, _⟩ := hns; exact ⟨o, e⟩
      · obtain ⟨o, e⟩ := S.thereF a ha
        refine ⟨o, hk a o (fun q => ?_) e⟩
        rcases List.mem_cons.mp q with q | q
        · exact z q
        · obtain ⟨en, _, _, mc, h4⟩ := ofr a q
          exact S.disj a (List.mem_map_of_mem h4) ha
    · by_cases z : p.1 ∈ framesOf outer
      · obtain ⟨en, hen, h3, mc, h4⟩ := ofr p.1 z
        have hp' : p = (p.1, AO.frm mc) := by
          have hd := S.nodup
          rw [List.Nodup, List.pairwise_map] at hd
          exact eq_of_nodup hd hp h4
        rw [hp']
        have := S.obj _ h4
        exact ho en hen p.1 mc h3 this
      · exact (S.obj p hp).mono kX .refl fun o e => hk _ _ (fun q => by
          rcases List.mem_cons.mp q with q | q
          · exact S.disj p.1 (List.mem_map_of_mem hp) (by rw [q]; exact hLF)
          · exact z q) e
  · obtain ⟨mc0, hn0, hv⟩ := L.ns
    have em : ∀ x, mc0 x = mc x := fun x => by
      by_cases e : mc0 x = mc x
      · exact e
      · exact absurd rfl (ns_ne hn0 hmc e)
    refine ⟨L.fn, L.gl, L.bl, L.inF, L.ond, by rw [hu.keys]; exact L.nd, fun c hc => by rw [hcells] at hc; simp at hc, mc', hns, fun y w hy => ?_⟩
    rcases hu.mem L.nd _ hy with e | ⟨hm, hne⟩
    · injection e with e1 e2
      injection e2 with e2
      subst e1 e2
      obtain ⟨u, r, k1, k2⟩ := hv0
      exact ⟨u, r.mono kX .refl, .inl ⟨k1, k2⟩⟩
    · obtain ⟨u', hu', q' | ⟨q1, c, q2, q3⟩⟩ := hv y w hm
      · refine ⟨u', hu'.mono kX .refl, .inl ⟨q'.1, ?_⟩⟩
        rw [hsame y hne (List.mem_map_of_mem (f := fun p : Str × Option V => p.1) hm), ← em]; exact q'.2
      · rw [hcells] at q2; simp at q2
where
  eq_of_nodup {l : Led} (hd : l.Pairwise fun a b => a.1 ≠ b.1) {p : Addr × AO} {mc : Str → Option Value} (hp : p ∈ l) (hq : (p.1, AO.frm mc) ∈ l) : p = (p.1, AO.frm mc) := by
    induction l with
    | nil => nomatch hp
    | cons x l ih =>
      rw [List.pairwise_cons] at hd
      rcases List.mem_cons.mp hp with rfl | hp
      · rcases List.mem_cons.mp hq with e | hq
        · exact e.symm
        · exact (hd.1 _ hq rfl).elim
      · rcases List.mem_cons.mp hq with e | hq
        · exact absurd (by rw [← e]) (hd.1 _ hp)
        · exact ih hd.2 hp hq

noncomputable abbrev tp1 : Pos := ⟨226, 16, 226, 21⟩
noncomputable abbrev tp2 : Pos := ⟨226, 24, 226, 34⟩
noncomputable abbrev tp3 : Pos := ⟨226, 24, 226, 59⟩
noncomputable abbrev tp4 : Pos := ⟨226, 16, 226, 59⟩
noncomputable abbrev tp5 : Pos := ⟨227, 19, 227, 29⟩
noncomputable abbrev tp6 : Pos := ⟨228, 16, 228, 21⟩
noncomputable abbrev tp7 : Pos := ⟨228, 32, 228, 38⟩
noncomputable abbrev tp8 : Pos := ⟨228, 32, 228, 43⟩
noncomputable abbrev tp9 : Pos := ⟨228, 47, 228, 51⟩
noncomputable abbrev tp10 : Pos := ⟨228, 32, 228, 51⟩
noncomputable abbrev tp11 : Pos := ⟨228, 24, 228, 28⟩
noncomputable abbrev tp12 : Pos := ⟨228, 57, 228, 60⟩
noncomputable abbrev tp13 : Pos := ⟨228, 24, 228, 60⟩
noncomputable abbrev tp14 : Pos := ⟨228, 16, 228, 60⟩
noncomputable abbrev tp15 : Pos := ⟨227, 12, 228, 60⟩
noncomputable abbrev tp16 : Pos := ⟨225, 12, 228, 60⟩
noncomputable abbrev tx : Str := "next_place"
noncomputable abbrev te1 : Expr := .Name "program" ⟨226, 35, 226, 42⟩
noncomputable abbrev tes : List Expr := [.Subscript (.Name "one" ⟨226, 44, 226, 47⟩) (.Constant (.int 1) 0 ⟨226, 48, 226, 49⟩) ⟨226, 44, 226, 50⟩, .Subscript (.Name "one" ⟨226, 52, 226, 55⟩) (.Constant (.int 2) 0 ⟨226, 56, 226, 57⟩) ⟨226, 52, 226, 58⟩]
theorem s1_try {a : Addr} {f : Fn} {outer : List Env} {Q : Fl → Loc → Led → Prop}
    (hf : FnAt g a f) (hk : env.kindOf tx = some .globalImplicit) (hu : g.mg tx = some (.ref a))
    (hfr : n.fr = some (env :: outer)) (hframe : env.frame = some env.locals) (hcells : env.cells = [])
    (hout : ∀ en ∈ outer, en.scope.kind = .function ∧ ∃ L mc, en.frame = some L ∧ (L, AO.frm mc) ∈ O)
    (hkB : env.kindOf "BasicError" = some .globalImplicit) (hkc : env.kindOf "caught" = some .local) (hkf : env.kindOf "found" = some .local)
    (hca : ("caught" : Str) ∉ m.map (·.1)) (hsome : ∃ y v, (y, some v) ∈ m ∧ y ≠ ("kind" : Str))
    (h : LW g n env m O (te1 :: tes) fun vs O1 => O1 = O ∧ FX g n.n a vs (fun v => ∃ m', Upd m "found" v m' ∧ Q .next m' O) "FN" (∃ m', Upd m "found" .none m' ∧ Q .next m' O))
    (hd : (tx == ("__debug__" : Str)) = false := by decide) (he : ∀ (env : Env), starEach (te1 :: tes) env = (false, eval e1 env) :: starEach es env := by intro _; rfl)
    (hs : ∀ env : Env, env.scope.kind = .function → swapsWith (.Call (.Name tx tp2) (te1 :: tes) [] tp3) (some (.Name "found" tp1)) tp4.line env = pure false := by intro _ _; rfl) :
    S1 g n env m O (.Try [.Assign [.Name "found" tp1] (.Call (.Name tx tp2) (te1 :: tes) [] tp3) tp4] [.ExceptHandler (some (.Name "BasicError" tp5)) (some "caught") [.Assign [.Name "found" tp6] (.IfExp (.Compare (.Attribute (.Name "caught" tp7) "kind" tp8) [.Eq] [.Constant (.str "FN") 0 tp9] tp10) (.Constant .none 0 tp11) (.Constant (.str "?") 0 tp12) tp13) tp14] tp15] [] [] tp16) Q := fun F A s ok S L => by
  have afr : A.frames = some (env :: outer) := ok.here _ hfr
  refine wpAny_Try_except (wpAny_execs_cons (wpAny_Assign_Name ?_ (hs env L.fn)))
  obtain ⟨o, pm, code, doc, ho, hdat, hcd⟩ := hf
  refine wpAny_Call_ofName (Name_function_global L.fn hk (loadGlobal_global (mg := g.mg) (by rw [L.gl]; exact g.gs.keeps S.keep) hu ?_) hd)
  show wpAny _ A (callWith tp3 (.ref a) [] (backTo tp3 (starEach (te1 :: tes) env)) []) _ _ s
  refine callWith_function (o := o) (fd := docDef f.name f.params f.body f.scope pm code doc) ?_
  have h1 := h F A s tp3 ok S L
  rw [he env] at h1 ⊢
  refine evalArgs_plain (wpAny_mono h1 (fun us s1 ⟨hl, vs, O1, N1, S1, R1, eO, h1⟩ => ?_) fun _ _ x => x.elim)
  subst eO
  refine ⟨⟨S1.keep _ _ ho, hdat⟩, ?_⟩
  have L1 := L.nxt N1
  have S0 : St g (dm O1 ++ F) [] s1.heap := ⟨S1.keep, S1.fresh, List.nodup_nil, fun a ha => by simp at ha, S1.there, fun p hp => by simp at hp⟩
  obtain ⟨mc, hmc, hvm⟩ := L1.ns
  have fin : FramesIn (env :: outer) (dm O1 ++ F) s1.heap := fun en hen => by
    rcases List.mem_cons.mp hen with rfl | hen
    · exact ⟨L.fn, _, mc, hframe, List.mem_append.mpr (.inr (L.inF _ (.head _))), hmc⟩
    · obtain ⟨k1, Lo, mo, k2, k3⟩ := hout en hen
      exact ⟨k1, Lo, mo, k2, List.mem_append.mpr (.inl (List.mem_map_of_mem k3)), S1.obj _ k3⟩
  have okx : Ok ⟨n.n, some (env :: outer)⟩ A := ⟨ok.handled, ok.depth, ok.units, ok.guards, ok.frames, fun l e => by cases e; exact afr⟩
  refine wpAny_call (codeAny_mono (h1 (dm O1 ++ F) A s1 us (env :: outer) okx S0 R1 fin) fun r s2 hh => ?_)
  rcases hh with ⟨u, v, rfl, N2, R2, m', hum, q⟩ | ⟨xx, rfl, ⟨e, d, t, base, rfl, ⟨h2, tk2, rfl⟩, hbase, Fl, U, hnd⟩, m', hum, q⟩
  · -- it gave back
    have S2 : St g F O1 s2.heap := S1.grow N2.kept
    have L2 : LR g F O1 s2.heap env m := L1.grow N2.kept .refl
    refine wpAny_mono (nm_local (n := n) hkf hum (Q := fun m2 O2 => Q .next m2 O2) q F A s2 u ok S2 L2 R2) (fun _ s3 ap => ?_) fun _ _ x => x.elim
    have N12 : Nxt [] (dm O1 ++ F) (dm O1 ++ F) s s2 := N1.trans ⟨N2.same, N2.kept, .refl⟩
    obtain ⟨m2, O2, N3, S3, L3, q3⟩ := ap.chain L.inF S S2 N12.weak
    exact wpAny_execs_nil (wpAny_execs_nil ⟨.next, m2, O2, N3, S3, L3, rfl, q3⟩)
  · -- it raised
    have eF : framesOf (env :: outer) = env.locals :: framesOf outer := by unfold framesOf; rw [List.filterMap_cons, hframe]
    refine my_note_next afr hframe Fl fun h3 F3 U3 => ?_
    refine my_flight F3 fun h4 F4 U4 => ?_
    have st4 : ∀ {h' : Heap}, base.StaysIn h' → ∀ b o, b ∉ env.locals :: framesOf outer → s1.heap.get? b = some o → h'.get? b = some o := fun hb b o hn e => hb b o (hbase b o (by rw [eF]; exact hn) e)
    have gk : ∀ {h' : Heap}, base.StaysIn h' → ∀ b o, g.h.get? b = some o → h'.get? b = some o := fun hb b o e => st4 hb b o (fun z => by
      have : b ∈ dm O1 ++ F := by
        rcases List.mem_cons.mp z with rfl | z
        · exact List.mem_append.mpr (.inr (L.inF _ (.head _)))
        · obtain ⟨en, k1, k2⟩ := List.mem_filterMap.mp z
          obtain ⟨_, Lo, mo, k3, k4⟩ := hout en k1
          rw [k3] at k2; cases k2
          exact List.mem_append.mpr (.inl (List.mem_map_of_mem k4))
      rw [S1.fresh b this] at e; cases e) (S1.keep b o e)
    have U14 := (U.trans U3).trans U4
    have nb : base.get? env.locals = none := by
      obtain ⟨_, ⟨L', _, hf', hn', _⟩, _⟩ := F4.frames
      rw [hframe] at hf'; cases hf'; exact hn'
    -- the clause
    refine wpAny_handleBy_cons (codeAny_handlers_test ?_) (by intro q; cases q)
    refine Name_function_global L.fn hkB (loadGlobal_global (mg := g.mg) (by rw [L.gl]; exact g.gs.keeps (gk F4.stays)) (mg_BasicError g) ?_) (by decide)
    obtain ⟨nm, qq, bs, sn, sub, ab, col, dd, k0, k1, k2, k3, k5, hC0⟩ := cls39 g
    obtain ⟨oe4, vs4, T4, oT4, ts4, he4, hc4, hdd4, hd4, _⟩ := F4.trc
    refine wpAny_excMatches_sub_self (gk F4.stays _ _ hC0) he4 hc4 (by decide) (codeAny_handlers_suite_as ?_)
    refine my_flight F4 fun h5 F5 U5 => ?_
    have U15 := U14.trans U5
    have hmc5 : h5.Ns env.locals mc := U15.ns hmc
    have hnd5 : h5.Ns d (kindNs "FN" t) := ((U3.trans U4).trans U5).ns hnd
    have hdL : d ≠ env.locals := by
      obtain ⟨y, v, hy, hyk⟩ := hsome
      obtain ⟨u, _, ⟨_, q1⟩ | ⟨_, c, q1, _⟩⟩ := hvm y v hy
      · refine ns_ne (x := y) hnd5 hmc5 ?_
        rw [q1]
        unfold kindNs
        rw [if_neg hyk]
        exact fun z => nomatch z
      · rw [hcells] at q1; simp at q1
    have nfl : (env.scope.kind == .class || (env.scope.kind == .module && env.locals != env.globals)) = false := by rw [L.fn]; rfl
    refine wpAny_storeName_local hkc hmc5 (fun h6 hn6 hs6 => ?_) nfl
    obtain ⟨oe5, vs5, T5, oT5, ts5, he5, hc5, hdd5, hd5, _⟩ := F5.trc
    have b6 : base.StaysIn h6 := fun b o e => hs6.extBut b o (fun z => by rw [z, nb] at e; cases e) (F5.stays b o e)
    have eL : e ≠ env.locals := fun z => by
      obtain ⟨o, es, ep, e1, e2, _⟩ := hmc5
      rw [← z, he5] at e1; cases e1
      rw [hd5] at e2; cases e2
    have he6 : h6.get? e = some oe5 := hs6.extBut _ _ eL he5
    have hnd6 : h6.Ns d (kindNs "FN" t) := by
      obtain ⟨o, es, ep, e1, r⟩ := hnd5
      exact ⟨o, es, ep, hs6.extBut _ _ hdL e1, r⟩
    refine wpAny_execs_cons (wpAny_Assign_Name (wpAny_IfExp (wpAny_isTrue_Compare1 ?_)))
    refine Attribute_any_ (wpAny_Name (wpAny_loadName_local L.fn hkc hn6 (v := .ref e) (by simp) ?_) (by decide))
    refine kind_get (gk b6) he6 hc5 hdd5 hd5 hnd6 (v := .str "FN" t) (by simp [kindNs]) rfl ?_
    refine wpAny_Constant_str ?_
    refine PySem.SeqAt.compareEq_reads (.str _ _) (.str _ _) (by decide +kernel) (by decide +kernel) (by have := ok.units; show A.units + _ < 9900; simp only [PyData.depth]; omega) ?_
    refine wpAny_truthy_bool ?_
    rw [show PyData.eqv (.str "FN") (.str "FN") = true from by simp [PyData.eqv]]
    simp only [if_true]
    refine wpAny_Constant_none ?_
    refine wpAny_storeName_local hkf hn6 (fun h7 hn7 hs7 => ?_) nfl
    refine wpAny_execs_nil ?_
    refine wpAny_nameGoes_keeps hkc hn7 nfl fun h8 vv hn8 hs8 => ?_
    have S58 : ∀ b o, b ≠ env.locals → h5.get? b = some o → h8.get? b = some o := fun b o hb e => hs8.extBut b o hb (hs7.extBut b o hb (hs6.extBut b o hb e))
    have b8 : base.StaysIn h8 := fun b o e => S58 b o (fun z => by rw [z, nb] at e; cases e) (F5.stays b o e)
    have hout2 : ∀ en ∈ outer, ∃ L mc, en.frame = some L ∧ (L, AO.frm mc) ∈ O1 := fun en hen => (hout en hen).2
    have neF : ("found" : Str) ≠ "caught" := by decide
    have sp : ∀ tk : Nat, SP g F env O1 s1 Q .next { s1 with heap := h8, toks := tk } := fun tk => SP.frames (outer := outer) (mc := mc) (x0 := "found") (v0 := .none) S1 L1 hcells hout2 (st4 b8) hn8 (fun en hen Lo mo hLo hno => by
      have n5 : h5.Ns Lo mo := U15.ns hno
      obtain ⟨o, es, ep, e1, r⟩ := n5
      refine ⟨o, es, ep, S58 _ _ (fun z => ?_) e1, r⟩
      obtain ⟨L', mo', q1, q2⟩ := hout2 en hen
      rw [hLo] at q1; cases q1
      exact S1.disj _ (List.mem_map_of_mem q2) (by rw [z]; exact L.inF _ (.head _))) hum ⟨.none, by simp only [VR], hkf, by simp only [neF, if_false, if_true]⟩ hmc (fun y hy hym => by
      have : y ≠ "caught" := fun z => hca (z ▸ hym)
      simp [this, hy]) q
    exact (sp _).chain L.inF S S1 N1.weak
end
end Mine

-- A21
namespace Mine
open PySem PySem.Calls PySem.W PyProof.Rows

section
variable {g : Gr} {F : List Addr} {O O1 O' : Led} {s s1 : Shared} {n : Lv} {env : Env} {m m1 : Loc}

theorem FX.le {n k : Nat} {a : Addr} {vs : List V} {Q : V → Prop} {ks : Str} {Qx : Prop} (h : FX g k a vs Q ks Qx) (hk : k ≤ n) : FX g n a vs Q ks Qx := fun F A s us l ok S R HF =>
  h F A s us l ⟨ok.handled, by have := ok.depth; simp only at this ⊢; omega, by have := ok.units; simp only at this ⊢; omega, ok.guards, ok.frames, fun l' e => ok.here l' e⟩ S R HF
theorem FX.mono {n : Nat} {a : Addr} {vs : List V} {Q Q' : V → Prop} {ks : Str} {Qx Qx' : Prop} (h : FX g n a vs Q ks Qx) (hq : ∀ v, Q v → Q' v) (hx : Qx → Qx') : FX g n a vs Q' ks Qx' := fun F A s us l ok S R HF =>
  codeAny_mono (h F A s us l ok S R HF) fun r s' hh => hh.imp (fun ⟨u, v, e, N, R', q⟩ => ⟨u, v, e, N, R', hq v q⟩) fun ⟨x, e, X, q⟩ => ⟨x, e, X, hx q⟩

theorem Ok.deeperF {n : Nat} {A : Around} {l : List Env} (env : Env) (h : Ok ⟨n + 1, some l⟩ A) : Ok ⟨n, some (env :: l)⟩ (A.deeper env) :=
  ⟨h.handled, (by have := h.depth; simp only at this ⊢; omega : A.depth + 1 + 4 * n + 4 ≤ 999), (by have := h.units; simp only at this ⊢; omega : A.units + 3 + 20 * n + 40 ≤ 9000), h.guards, (by obtain ⟨l, e⟩ := h.frames; exact ⟨env :: l, by show A.frames.map _ = _; rw [e]; rfl⟩), fun l' e => by
    cases e
    show A.frames.map _ = _
    rw [h.here l rfl]; rfl⟩

theorem s1_assign_tupleE {ts k p e pos} {Q : Fl → Loc → Led → Prop} (h : EW g n env m O e fun v O1 => AsW g n env m O1 (.Tuple ts k p) v (Q .next)) (hs : swappedStores [.Tuple ts k p] e env = pure none := by rfl) (hw : ∀ env : Env, swapsWithSole [.Tuple ts k p] e pos.line env = pure false := by intro _; rfl) : S1 g n env m O (.Assign [.Tuple ts k p] e pos) Q := fun F A s ok S L => by
  refine Assign_Tuple (wpAny_mono (h F A s ok S L) (fun u s1 ⟨v, O1, N1, S1, R1, h1⟩ => ?_) fun _ _ x => x) (hw env) hs
  refine wpAny_mono (h1 F A s1 u ok S1 (L.nxt N1) R1) (fun _ s2 q => ?_) fun _ _ x => x
  obtain ⟨m', O', N', S', L', q⟩ := q.chain L.inF S S1 N1.weak
  exact ⟨.next, m', O', N', S', L', rfl, q⟩

/-- a call where the frames are known -/
noncomputable def FMF (g : Gr) (n : Nat) (a : Addr) (vs : List V) (O : Led) (l : List Env) (Q : V → Led → Prop) : Prop :=
  ∀ F A s us, Ok ⟨n, some l⟩ A → St g F O s.heap → VRs g.w (dm O ++ F) s.heap vs us → codeAny (model prg g.w) A (.call (.ref a) ⟨us, []⟩) (FMP g F O Q s) s
theorem FMF.le {n k : Nat} {a : Addr} {vs : List V} {l : List Env} {Q : V → Led → Prop} (h : FMF g k a vs O l Q) (hk : k ≤ n) : FMF g n a vs O l Q := fun F A s us ok S R =>
  h F A s us ⟨ok.handled, by have := ok.depth; simp only at this ⊢; omega, by have := ok.units; simp only at this ⊢; omega, ok.guards, ok.frames, fun l' e => ok.here l' e⟩ S R

theorem fmf1 {n : Nat} {a : Addr} {f : Fn} {l : List Env} {v1 : V} {x1 : Str} {rest : List Str} {Q : V → Led → Prop} (hf : FnAt g a f)
    (hbind : ∀ u1 pm cd doc, bindArgs (docDef f.name f.params f.body f.scope pm cd doc) ⟨[u1], []⟩ = pure [(x1, u1)])
    (hl : f.scope.names.lookup x1 = some .local) (hnd : (x1 :: rest).Nodup) (hk : f.scope.kind = .function) (hco : f.scope.isCoroutine = false) (hgen : f.scope.isGenerator = false) (hcell : ∀ x ∈ f.scope.names, x.2 ≠ .cell)
    (h : ∀ L cd, SW g ⟨n, some (envOf f.name f.scope L a cd :: l)⟩ (envOf f.name f.scope L a cd) ((x1, some v1) :: rest.map (·, none)) O f.body (BackM Q)) : FMF g (n + 1) a [v1] O l Q := fun F A s us ok S R => by
  obtain ⟨o, pm, code, doc, ho, hdt, hcd⟩ := hf
  simp only [VRs] at R
  obtain ⟨u, us', rfl, Ru, rfl⟩ := R
  refine call_plain_ret (binds := [(x1, u)]) (by have := ok.depth; show A.depth < 1000; simp only at this; omega) (S.keep _ _ ho) hdt S.lim (hcd.keeps S.keep) (hbind u pm code doc) (fun x hx => by simp at hx; subst hx; exact hl) (fun h1 Fr1 => ?_) hco hgen hk hcell
  have kp : Kept [] s.heap h1 := fun b o _ e => Fr1.keep b o e
  have hex : ∃ o, h1.get? s.heap.objs.size = some o := let ⟨o, _, _, e, _⟩ := Fr1.ns; ⟨o, e⟩
  have hno : s.heap.get? s.heap.objs.size = none := none_size
  have hw : ∀ b, b ∈ [s.heap.objs.size] → s.heap.get? b = none ∧ ∃ o, h1.get? b = some o := fun b hb => by rw [List.mem_singleton.mp hb]; exact ⟨hno, hex⟩
  have nX : Newly (dm O ++ F) (dm O ++ ([s.heap.objs.size] ++ F)) s.heap := new_more (X := []) fun b hb => (hw b hb).1
  have notX : s.heap.objs.size ∉ dm O ++ F := notIn_size S
  have S1 : St g ([s.heap.objs.size] ++ F) O h1 := (S.grow kp).more (fun b hb => by
    rw [List.mem_singleton.mp hb]
    exact ⟨base_none S hno, fun q => notX (List.mem_append.mpr (.inl q)), hex⟩) fun p hp => (S.obj p hp).mono (kept_of kp) nX fun o e => kp _ _ (by simp) e
  have R1 : VR g.w (dm O ++ ([s.heap.objs.size] ++ F)) h1 v1 u := Ru.mono (kept_of kp) nX
  have L1 : LR g ([s.heap.objs.size] ++ F) O h1 (envOf f.name f.scope s.heap.objs.size a code) ((x1, some v1) :: rest.map (·, none)) :=
    ⟨hk, rfl, rfl, fun b hb => by simp [ownA, envOf] at hb; rw [hb]; exact .head _, by simp [ownA, envOf], by rw [List.map_cons, List.map_map]; simpa [Function.comp_def] using hnd, fun c hc => by simp [envOf] at hc, _, Fr1.ns, fun x v hx => by
      rcases List.mem_cons.mp hx with e | hx
      · injection e with e1 e2; injection e2 with e2; subst e1 e2
        exact ⟨u, R1, .inl ⟨hl, by simp⟩⟩
      · simp at hx⟩
  refine wpAny_mono (h s.heap.objs.size code ([s.heap.objs.size] ++ F) _ _ (Ok.deeperF _ ok) S1 L1) (fun f2 s2 ⟨fl, m2, O2, N2, S2, L2, R2, q⟩ => ?_) fun _ _ x => x
  have subs : ∀ b, b ∈ dm O2 ++ F → b ∈ dm O2 ++ ([s.heap.objs.size] ++ F) := fun b hb => by
    rcases List.mem_append.mp hb with hb | hb
    · exact List.mem_append.mpr (.inl hb)
    · exact List.mem_append.mpr (.inr (.tail _ hb))
  have N : Nxt (dm O) (dm O ++ F) (dm O2 ++ F) s s2 := by
    obtain ⟨h2, t2, rfl⟩ := N2.same
    refine ⟨⟨h2, t2, rfl⟩, fun b o hb e => N2.kept b o (fun z => ?_) (kp b o (by simp) e), fun b hb => ?_⟩
    · rcases List.mem_append.mp z with z | z
      · exact hb z
      · have z' : b = s.heap.objs.size := by simpa [ownA, envOf] using z
        rw [z', hno] at e; cases e
    · rcases N2.new b (subs b hb) with q | q
      · rcases List.mem_append.mp q with q | q
        · exact .inl (List.mem_append.mpr (.inl q))
        · rcases List.mem_cons.mp q with q | q
          · right; rw [q]; exact hno
          · exact .inl (List.mem_append.mpr (.inr q))
      · right; exact none_up kp q
  cases fl with
  | next => simp only [FlR] at R2; subst R2; exact ⟨.none, .none, O2, rfl, N, S2.less, by simp only [VR], q⟩
  | ret v =>
    simp only [FlR] at R2
    obtain ⟨u, rfl, R2⟩ := R2
    exact ⟨u, v, O2, rfl, N, S2.less, R2.mono .refl (sub_less subs), q⟩
  | brk => exact q.elim
  | cont => exact q.elim

/-- if not e1 or not f(..): .. , where f knows the frames and both say True -/
theorem s1_ifX {x : Str} {np p1 p2 p3 p4 pos : Pos} {e e1 : Expr} {es : List Expr} {body : List Stmt} {a : Addr} {f : Fn} {Q : Fl → Loc → Led → Prop} (hf : FnAt g a f) (hk : env.kindOf x = some .globalImplicit) (hu : g.mg x = some (.ref a))
    (hfr : n.fr = some [env]) (hframe : env.frame = some env.locals) (hcells : env.cells = [])
    (h1 : TW g n env m [] e1 fun b O1 => b = true ∧ O1 = [])
    (h : LW g n env m [] (e :: es) fun vs O1 => O1 = [] ∧ ∀ mc, FMF g n.n a vs [(env.locals, .frm mc)] [env] fun v O2 => v = .bool true ∧ O2 = [(env.locals, .frm mc)])
    (q : Q .next m []) (hd : (x == ("__debug__" : Str)) = false := by decide) (he : ∀ (env : Env), starEach (e :: es) env = (false, eval e env) :: starEach es env := by intro _; rfl)
    (hv : ∀ (env : Env) whole, isTrue (.Call (.Name x np) (e :: es) [] p2) env whole = (do let v ← whole; standAt (Expr.Call (.Name x np) (e :: es) [] p2).pos; holding [v] (truthy v)) := by intro _ _; rfl) :
    S1 g n env m [] (.If (.BoolOp .Or [.UnaryOp .Not e1 p1, .UnaryOp .Not (.Call (.Name x np) (e :: es) [] p2) p3] p4) body [] pos) Q := fun F A s ok S L => by
  obtain ⟨o, pm, code, doc, ho, hdat, hcd⟩ := hf
  refine wpAny_If (wpAny_isTrue_BoolOp (wpAny_allTrue_Or_cons (wpAny_isTrue_Not (wpAny_mono (h1 F A s ok S L) (fun b s1 ⟨O1, N1, S1, eb, eO⟩ => ?_) fun _ _ x => x))))
  subst eb eO
  simp only [Bool.not_true]
  refine wpAny_allTrue_Or_cons (wpAny_isTrue_Not (wpAny_isTrue_value ?_ (hv env _)))
  refine wpAny_Call_ofName (Name_function_global L.fn hk (loadGlobal_global (mg := g.mg) (by rw [L.gl]; exact g.gs.keeps S1.keep) hu ?_) hd)
  show wpAny _ A (callWith p2 (.ref a) [] (backTo p2 (starEach (e :: es) env)) []) _ _ s1
  refine callWith_function (o := o) (fd := docDef f.name f.params f.body f.scope pm code doc) ?_
  have h2 := h F A s1 p2 ok S1 (L.nxt N1)
  rw [he env] at h2 ⊢
  refine evalArgs_plain (wpAny_mono h2 (fun us s2 ⟨hl, vs, O2, N2, S2, R2, eO, h2⟩ => ?_) fun _ _ x => x)
  subst eO
  refine ⟨⟨S2.keep _ _ ho, hdat⟩, ?_⟩
  have L2 := (L.nxt N1).nxt N2
  have N12 := N1.trans N2
  obtain ⟨mc, hmc, hvm⟩ := L2.ns
  have LF : env.locals ∈ F := L2.inF _ (.head _)
  obtain ⟨F', hF'⟩ : ∃ F', F' = F.filter (fun b => b ≠ env.locals) := ⟨_, rfl⟩
  have memF : ∀ b, b ∈ env.locals :: F' ↔ b ∈ F := fun b => by
    rw [hF']
    constructor
    · intro hb
      rcases List.mem_cons.mp hb with rfl | hb
      · exact LF
      · exact (List.mem_filter.mp hb).1
    · intro hb
      by_cases q : b = env.locals
      · rw [q]; exact .head _
      · exact .tail _ (List.mem_filter.mpr ⟨hb, by simpa using q⟩)
  have nw1 : ∀ h, Newly (dm [] ++ F) (dm [(env.locals, AO.frm mc)] ++ F') h := fun h b hb => .inl ((memF b).mp hb)
  have S3 : St g F' [(env.locals, .frm mc)] s2.heap := by
    refine ⟨S2.keep, fun b hb => S2.fresh b ((memF b).mp hb), by simp, fun b hb => ?_, fun b hb => S2.thereF b ((memF b).mp (.tail _ hb)), fun p hp => ?_⟩
    · have : b = env.locals := by simpa using hb
      rw [this, hF']
      simp
    · rw [List.mem_singleton.mp hp]; exact hmc
  have okF : Ok ⟨n.n, some [env]⟩ A := ⟨ok.handled, ok.depth, ok.units, ok.guards, ok.frames, fun l e => by cases e; exact ok.here _ hfr⟩
  refine wpAny_call (codeAny_mono (h2 mc F' A s2 us okF S3 (R2.mono .refl (nw1 _))) fun r s3 ⟨u, v, O3, er, N3, S4, R4, ev, eO⟩ => ?_)
  subst er ev eO
  simp only [VR] at R4; subst R4
  refine wpAny_truthy_bool ?_
  simp only [Bool.not_true]
  refine wpAny_allTrue_Or_nil ?_
  refine wpAny_execs_nil ?_
  have kF : Kept F s2.heap s3.heap := fun b o hb e => N3.kept b o (fun z => hb (by
    have : b = env.locals := by simpa using z
    rw [this]; exact LF)) e
  have hns : s3.heap.Ns env.locals mc := S4.obj _ (.head _)
  have S5 : St g F [] s3.heap := ⟨S4.keep, fun b hb => S4.fresh b ((memF b).mpr hb), by simp, fun b hb => by simp at hb, fun b hb => by
    rcases List.mem_cons.mp ((memF b).mpr hb) with rfl | hb
    · obtain ⟨o, _, _, e, _⟩ := hns; exact ⟨o, e⟩
    · exact S4.thereF b hb, fun p hp => by simp at hp⟩
  have L3 : LR g F [] s3.heap env m := ⟨L2.fn, L2.gl, L2.bl, L2.inF, L2.ond, L2.nd, fun c hc => by rw [hcells] at hc; simp at hc, mc, hns, fun y w hy => by
    obtain ⟨u', hu', q' | ⟨_, c, q2, _⟩⟩ := hvm y w hy
    · exact ⟨u', hu'.mono kF .refl, .inl q'⟩
    · rw [hcells] at q2; simp at q2⟩
  obtain ⟨h3, t3, rfl⟩ := N3.same
  refine SP.chain L.inF S S2 N12.weak ⟨.next, m, [], ⟨⟨h3, t3, rfl⟩, fun b o hb e => N3.kept b o (fun z => hb ?_) e, .refl⟩, S5, L3, rfl, q⟩
  have : b = env.locals := by simpa using z
  rw [this]; exact .head _
end
end Mine

-- G0
namespace Mine
open PySem PySem.Calls PySem.W PyProof.Rows
theorem mg_none {K : Frag} {h : Heap} {mg : Str → Option Value} {n : Str} (X : K.In h) (G : h.Ns mainGlobals mg) (e : nsIn K mainGlobals n = some none) : mg n = none := by
  obtain ⟨o, es, ep, ho, hd, _, hf⟩ := G
  unfold nsIn at e
  split at e
  · rename_i c d es' n' sl q
    have q' := X _ _ q
    rw [ho] at q'
    cases q'
    cases hd
    split at e
    · cases e
    · rename_i he
      rw [← hf]
      unfold nsFind findBy
      rw [← Array.find?_toList, he]
      rfl
  · cases e
noncomputable abbrev f_token_at : Fn := fnOf 2
theorem at_token_at (g : Gr) : FnAt g 22 f_token_at := ⟨_, _, _, _, g.kin 22 _ rfl, rfl, ⟨21, _, _, _, rfl, g.kin 21 _ rfl, rfl, rfl⟩⟩
theorem mg_token_at (g : Gr) : g.mg "token_at" = some (.ref 22) := mg_of g.kin g.gs (by kernel_rfl)
noncomputable abbrev f_behind_blanks : Fn := fnOf 6
theorem at_behind_blanks (g : Gr) : FnAt g 49 f_behind_blanks := ⟨_, _, _, _, g.kin 49 _ rfl, rfl, ⟨48, _, _, _, rfl, g.kin 48 _ rfl, rfl, rfl⟩⟩
theorem mg_behind_blanks (g : Gr) : g.mg "behind_blanks" = some (.ref 49) := mg_of g.kin g.gs (by kernel_rfl)
noncomputable abbrev f_read_quoted : Fn := fnOf 7
theorem at_read_quoted (g : Gr) : FnAt g 56 f_read_quoted := ⟨_, _, _, _, g.kin 56 _ rfl, rfl, ⟨55, _, _, _, rfl, g.kin 55 _ rfl, rfl, rfl⟩⟩
theorem mg_read_quoted (g : Gr) : g.mg "read_quoted" = some (.ref 56) := mg_of g.kin g.gs (by kernel_rfl)
noncomputable abbrev f_read_item : Fn := fnOf 8
theorem at_read_item (g : Gr) : FnAt g 63 f_read_item := ⟨_, _, _, _, g.kin 63 _ rfl, rfl, ⟨62, _, _, _, rfl, g.kin 62 _ rfl, rfl, rfl⟩⟩
theorem mg_read_item (g : Gr) : g.mg "read_item" = some (.ref 63) := mg_of g.kin g.gs (by kernel_rfl)
noncomputable abbrev f_is_end : Fn := fnOf 11
theorem at_is_end (g : Gr) : FnAt g 70 f_is_end := ⟨_, _, _, _, g.kin 70 _ rfl, rfl, ⟨69, _, _, _, rfl, g.kin 69 _ rfl, rfl, rfl⟩⟩
theorem mg_is_end (g : Gr) : g.mg "is_end" = some (.ref 70) := mg_of g.kin g.gs (by kernel_rfl)
noncomputable abbrev f_past_statement : Fn := fnOf 12
theorem at_past_statement (g : Gr) : FnAt g 77 f_past_statement := ⟨_, _, _, _, g.kin 77 _ rfl, rfl, ⟨76, _, _, _, rfl, g.kin 76 _ rfl, rfl, rfl⟩⟩
theorem mg_past_statement (g : Gr) : g.mg "past_statement" = some (.ref 77) := mg_of g.kin g.gs (by kernel_rfl)
noncomputable abbrev f_else_of : Fn := fnOf 13
theorem at_else_of (g : Gr) : FnAt g 84 f_else_of := ⟨_, _, _, _, g.kin 84 _ rfl, rfl, ⟨83, _, _, _, rfl, g.kin 83 _ rfl, rfl, rfl⟩⟩
theorem mg_else_of (g : Gr) : g.mg "else_of" = some (.ref 84) := mg_of g.kin g.gs (by kernel_rfl)
noncomputable abbrev f_fields_of : Fn := fnOf 14
theorem at_fields_of (g : Gr) : FnAt g 91 f_fields_of := ⟨_, _, _, _, g.kin 91 _ rfl, rfl, ⟨90, _, _, _, rfl, g.kin 90 _ rfl, rfl, rfl⟩⟩
theorem mg_fields_of (g : Gr) : g.mg "fields_of" = some (.ref 91) := mg_of g.kin g.gs (by kernel_rfl)
noncomputable abbrev f_data_of : Fn := fnOf 15
theorem at_data_of (g : Gr) : FnAt g 98 f_data_of := ⟨_, _, _, _, g.kin 98 _ rfl, rfl, ⟨97, _, _, _, rfl, g.kin 97 _ rfl, rfl, rfl⟩⟩
theorem mg_data_of (g : Gr) : g.mg "data_of" = some (.ref 98) := mg_of g.kin g.gs (by kernel_rfl)
noncomputable abbrev f_number_in : Fn := fnOf 16
theorem at_number_in (g : Gr) : FnAt g 103 f_number_in := ⟨_, _, _, _, g.kin 103 _ rfl, rfl, ⟨102, _, _, _, rfl, g.kin 102 _ rfl, rfl, rfl⟩⟩
theorem mg_number_in (g : Gr) : g.mg "number_in" = some (.ref 103) := mg_of g.kin g.gs (by kernel_rfl)
noncomputable abbrev f_next_place : Fn := fnOf 17
theorem at_next_place (g : Gr) : FnAt g 110 f_next_place := ⟨_, _, _, _, g.kin 110 _ rfl, rfl, ⟨109, _, _, _, rfl, g.kin 109 _ rfl, rfl, rfl⟩⟩
theorem mg_next_place (g : Gr) : g.mg "next_place" = some (.ref 110) := mg_of g.kin g.gs (by kernel_rfl)
noncomputable abbrev f_ended_by_next : Fn := fnOf 18
theorem at_ended_by_next (g : Gr) : FnAt g 117 f_ended_by_next := ⟨_, _, _, _, g.kin 117 _ rfl, rfl, ⟨116, _, _, _, rfl, g.kin 116 _ rfl, rfl, rfl⟩⟩
theorem mg_ended_by_next (g : Gr) : g.mg "ended_by_next" = some (.ref 117) := mg_of g.kin g.gs (by kernel_rfl)
noncomputable abbrev f_place_of : Fn := fnOf 22
theorem at_place_of (g : Gr) : FnAt g 145 f_place_of := ⟨_, _, _, _, g.kin 145 _ rfl, rfl, ⟨144, _, _, _, rfl, g.kin 144 _ rfl, rfl, rfl⟩⟩
theorem mg_place_of (g : Gr) : g.mg "place_of" = some (.ref 145) := mg_of g.kin g.gs (by kernel_rfl)
noncomputable abbrev f_has_line : Fn := fnOf 23
theorem at_has_line (g : Gr) : FnAt g 152 f_has_line := ⟨_, _, _, _, g.kin 152 _ rfl, rfl, ⟨151, _, _, _, rfl, g.kin 151 _ rfl, rfl, rfl⟩⟩
theorem mg_has_line (g : Gr) : g.mg "has_line" = some (.ref 152) := mg_of g.kin g.gs (by kernel_rfl)
noncomputable abbrev f_put_line : Fn := fnOf 24
theorem at_put_line (g : Gr) : FnAt g 159 f_put_line := ⟨_, _, _, _, g.kin 159 _ rfl, rfl, ⟨158, _, _, _, rfl, g.kin 158 _ rfl, rfl, rfl⟩⟩
theorem mg_put_line (g : Gr) : g.mg "put_line" = some (.ref 159) := mg_of g.kin g.gs (by kernel_rfl)
noncomputable abbrev f_law_row : Fn := fnOf 27
theorem at_law_row (g : Gr) : FnAt g 170 f_law_row := ⟨_, _, _, _, g.kin 170 _ rfl, rfl, ⟨169, _, _, _, rfl, g.kin 169 _ rfl, rfl, rfl⟩⟩
theorem mg_law_row (g : Gr) : g.mg "_law_row" = some (.ref 170) := mg_of g.kin g.gs (by kernel_rfl)
noncomputable abbrev f_law_elses : Fn := fnOf 28
theorem at_law_elses (g : Gr) : FnAt g 177 f_law_elses := ⟨_, _, _, _, g.kin 177 _ rfl, rfl, ⟨176, _, _, _, rfl, g.kin 176 _ rfl, rfl, rfl⟩⟩
theorem mg_law_elses (g : Gr) : g.mg "_law_elses" = some (.ref 177) := mg_of g.kin g.gs (by kernel_rfl)
noncomputable abbrev f_law_open : Fn := fnOf 29
theorem at_law_open (g : Gr) : FnAt g 182 f_law_open := ⟨_, _, _, _, g.kin 182 _ rfl, rfl, ⟨181, _, _, _, rfl, g.kin 181 _ rfl, rfl, rfl⟩⟩
theorem mg_law_open (g : Gr) : g.mg "_law_open" = some (.ref 182) := mg_of g.kin g.gs (by kernel_rfl)
noncomputable abbrev f_law_rows_right : Fn := fnOf 30
theorem at_law_rows_right (g : Gr) : FnAt g 189 f_law_rows_right := ⟨_, _, _, _, g.kin 189 _ rfl, rfl, ⟨188, _, _, _, rfl, g.kin 188 _ rfl, rfl, rfl⟩⟩
theorem mg_law_rows_right (g : Gr) : g.mg "_law_rows_right" = some (.ref 189) := mg_of g.kin g.gs (by kernel_rfl)
noncomputable abbrev f_law_item : Fn := fnOf 31
theorem at_law_item (g : Gr) : FnAt g 196 f_law_item := ⟨_, _, _, _, g.kin 196 _ rfl, rfl, ⟨195, _, _, _, rfl, g.kin 195 _ rfl, rfl, rfl⟩⟩
theorem mg_law_item (g : Gr) : g.mg "_law_item" = some (.ref 196) := mg_of g.kin g.gs (by kernel_rfl)
noncomputable abbrev f_law_data_right : Fn := fnOf 32
theorem at_law_data_right (g : Gr) : FnAt g 201 f_law_data_right := ⟨_, _, _, _, g.kin 201 _ rfl, rfl, ⟨200, _, _, _, rfl, g.kin 200 _ rfl, rfl, rfl⟩⟩
theorem mg_law_data_right (g : Gr) : g.mg "_law_data_right" = some (.ref 201) := mg_of g.kin g.gs (by kernel_rfl)
noncomputable abbrev f_law_loops : Fn := fnOf 33
theorem at_law_loops (g : Gr) : FnAt g 208 f_law_loops := ⟨_, _, _, _, g.kin 208 _ rfl, rfl, ⟨207, _, _, _, rfl, g.kin 207 _ rfl, rfl, rfl⟩⟩
theorem mg_law_loops (g : Gr) : g.mg "_law_loops" = some (.ref 208) := mg_of g.kin g.gs (by kernel_rfl)
noncomputable abbrev f_law_loops_right : Fn := fnOf 34
theorem at_law_loops_right (g : Gr) : FnAt g 215 f_law_loops_right := ⟨_, _, _, _, g.kin 215 _ rfl, rfl, ⟨214, _, _, _, rfl, g.kin 214 _ rfl, rfl, rfl⟩⟩
theorem mg_law_loops_right (g : Gr) : g.mg "_law_loops_right" = some (.ref 215) := mg_of g.kin g.gs (by kernel_rfl)
theorem mg_len (g : Gr) : g.mg "len" = none := mg_none g.kin g.gs (by kernel_rfl)
theorem bb_len : bootBuiltins "len" = some (.builtin "len") := by kernel_rfl
theorem mg_abs (g : Gr) : g.mg "abs" = none := mg_none g.kin g.gs (by kernel_rfl)
theorem bb_abs : bootBuiltins "abs" = some (.builtin "abs") := by kernel_rfl
theorem mg_sum (g : Gr) : g.mg "sum" = none := mg_none g.kin g.gs (by kernel_rfl)
theorem bb_sum : bootBuiltins "sum" = some (.builtin "sum") := by kernel_rfl
theorem mg_range (g : Gr) : g.mg "range" = none := mg_none g.kin g.gs (by kernel_rfl)
theorem bb_range : bootBuiltins "range" = some (.type "range") := by kernel_rfl
theorem mg_enumerate (g : Gr) : g.mg "enumerate" = none := mg_none g.kin g.gs (by kernel_rfl)
theorem bb_enumerate : bootBuiltins "enumerate" = some (.type "enumerate") := by kernel_rfl
theorem mg_zip (g : Gr) : g.mg "zip" = none := mg_none g.kin g.gs (by kernel_rfl)
theorem bb_zip : bootBuiltins "zip" = some (.type "zip") := by kernel_rfl
theorem mg_ord (g : Gr) : g.mg "ord" = none := mg_none g.kin g.gs (by kernel_rfl)
theorem bb_ord : bootBuiltins "ord" = some (.builtin "ord") := by kernel_rfl
noncomputable abbrev vEND : V := .tup [.str "end", .str ""]
theorem mg_END (g : Gr) : g.mg "END" = some (.ref 15) := mg_of g.kin g.gs (by kernel_rfl)
theorem vr_END (g : Gr) (X : List Addr) (hX : ∀ a ∈ X, g.h.get? a = none) : VR g.w X g.h vEND (.ref 15) := by
  have e := g.kin 15 _ rfl
  simp only [VR, VRs]
  refine ⟨15, [_, _], rfl, fun q => ?_, ⟨_, e, rfl, _, rfl⟩, _, _, rfl, ⟨_, rfl⟩, _, _, rfl, ⟨_, rfl⟩, rfl⟩
  rw [hX _ q] at e; cases e
end Mine

-- F1
namespace Mine
open PySem PySem.Calls PySem.W PyProof.Rows

theorem c_token_at (g : Gr) (l : List V) (i : Int) (hi : 0 ≤ i) (hl : l.length < 2 ^ 40) : FW g 1 22 [.lst l, .int i] (fun v => v = l.getD i.toNat vEND) := by
  refine fw2 (rest := []) (at_token_at g) (fun _ _ _ _ _ => rfl) ⟨rfl, rfl⟩ (by decide) rfl rfl rfl (by decide) fun L cd => ?_
  refine sw_cons (s1_return ?_)
  refine ew_ifexp ?_
  refine tw_cmp (ew_name (.there .here) ?_)
  refine ew_callB rfl (mg_len g) (by decide) bb_len (lw_cons (ew_name .here (lw_nil ?_)))
  refine wl_len_lst (by omega) ?_
  refine w2_lt (t1_bool ?_)
  by_cases h : i < (l.length : Int)
  · rw [if_pos (by simpa using h)]
    have hn : i.toNat < l.length := by omega
    refine ew_sub (ew_name .here (ew_name (.there .here) (w2_item_lst hi (by omega) (List.getElem?_eq_getElem hn) ?_)))
    exact ⟨_, .same _, by rw [List.getD_eq_getElem?_getD, List.getElem?_eq_getElem hn]; rfl⟩
  · rw [if_neg (by simpa using h)]
    refine ew_global rfl (mg_END g) (fun X hX => vr_END g X hX) ?_
    exact ⟨_, .same _, by rw [List.getD_eq_getElem?_getD, List.getElem?_eq_none (by omega)]; rfl⟩
end Mine

-- F2
namespace Mine
open PySem PySem.Calls PySem.W PyProof.Rows

inductive Tok where
  | s (k v : Str) | n (k : Str) (i : Int)
  deriving DecidableEq
noncomputable def Tok.v : Tok → V
  | .s k x => .tup [.str k, .str x]
  | .n k i => .tup [.str k, .int i]
noncomputable def Tok.ok (t : Tok) : Bool := (toPy t.v).canLay0
theorem Tok.isPy (t : Tok) : isPy t.v = true := by cases t <;> simp [Tok.v, Mine.isPy, Mine.isPys]
theorem Tok.depth (t : Tok) : (toPy t.v).depth ≤ 30 := by cases t <;> simp [Tok.v, toPy, toPys, PyData.depth, PyData.depthAll]
theorem eq_tok (t : Tok) (a b : Str) : PyData.eqv (toPy t.v) (toPy (.tup [.str a, .str b])) = decide (t = .s a b) := by
  cases t with
  | s k x => simp only [Tok.v, toPy, toPys, PyData.eqv, PyData.eqvAll, Bool.and_true, Tok.s.injEq, Bool.decide_and]; rfl
  | n k i => simp [Tok.v, toPy, toPys, PyData.eqv, PyData.eqvAll]

noncomputable abbrev tEND : Tok := .s "end" ""
noncomputable abbrev tIF : Tok := .s "word" "IF"
noncomputable abbrev tELSE : Tok := .s "word" "ELSE"
noncomputable abbrev tREM : Tok := .s "word" "REM"
noncomputable abbrev tCOLON : Tok := .s "sign" ":"
noncomputable def Tok.k : Tok → Str
  | .s k _ => k
  | .n k _ => k
noncomputable def isEnd (t : Tok) : Bool := decide (t.k = "end") || (decide (t = tCOLON) || (decide (t.k = "word") && (decide (t = tELSE) || decide (t = tREM))))
noncomputable abbrev rowV (l : List Tok) : V := .lst (l.map Tok.v)

section
variable {g : Gr} {O O1 O' : Led} {n : Lv} {env : Env} {m m1 : Loc}
theorem ew_str2 {a b : Str} {k1 k2 k p1 p2 p} {Q : V → Led → Prop} (q : Q (.tup [.str a, .str b]) O) : EW g n env m O (.Tuple [.Constant (.str a) k1 p1, .Constant (.str b) k2 p2] k p) Q :=
  ew_tuple (lw_cons (ew_str (lw_cons (ew_str (lw_nil q))))) (by simp)
theorem w2_eqtok {t : Tok} {a b : Str} {Q : V → Led → Prop} (ht : t.ok = true) (hab : (toPy (.tup [.str a, .str b])).canLay0 = true) (q : Q (.bool (decide (t = .s a b))) O) : W2 g n (compareOp .Eq) t.v (.tup [.str a, .str b]) O Q := by
  refine w2_eq t.isPy (by simp [isPy, isPys]) ht hab (Nat.le_trans (Nat.min_le_left _ _) t.depth) ?_
  rw [eq_tok]; exact q
theorem ew_eqtok {e : Expr} {t : Tok} {a b : Str} {k1 k2 k p1 p2 p pos} {Q : V → Led → Prop} (ht : t.ok = true) (h : EW g n env m O e fun v O1 => v = t.v ∧ Q (.bool (decide (t = .s a b))) O1) (hab : (toPy (.tup [.str a, .str b])).canLay0 = true := by decide +kernel) :
    EW g n env m O (.Compare e [.Eq] [.Tuple [.Constant (.str a) k1 p1, .Constant (.str b) k2 p2] k p] pos) Q :=
  ew_cmp (ew_mono h fun v O1 ⟨e, q⟩ => ew_str2 (by subst e; exact w2_eqtok ht hab q))
theorem tw_eqtok {e : Expr} {t : Tok} {a b : Str} {k1 k2 k p1 p2 p pos} {Q : Bool → Led → Prop} (ht : t.ok = true) (h : EW g n env m O e fun v O1 => v = t.v ∧ Q (decide (t = .s a b)) O1) (hab : (toPy (.tup [.str a, .str b])).canLay0 = true := by decide +kernel) :
    TW g n env m O (.Compare e [.Eq] [.Tuple [.Constant (.str a) k1 p1, .Constant (.str b) k2 p2] k p] pos) Q :=
  tw_cmp (ew_mono h fun v O1 ⟨e, q⟩ => ew_str2 (by subst e; exact w2_eqtok ht hab (t1_bool q)))
theorem ew_kind {e : Expr} {t : Tok} {k p pos} {Q : V → Led → Prop} (h : EW g n env m O e fun v O1 => v = t.v ∧ Q (.str t.k) O1) : EW g n env m O (.Subscript e (.Constant (.int 0) k p) pos) Q :=
  ew_sub (ew_mono h fun v O1 ⟨e, q⟩ => ew_int (by
    subst e
    cases t with
    | s a b => exact w2_item_tup (j := 0) (by decide) rfl rfl q
    | n a b => exact w2_item_tup (j := 0) (by decide) rfl rfl q))
theorem w2_eqstr {a b : Str} {Q : V → Led → Prop} (ha : (toPy (.str a)).canLay0 = true) (hb : (toPy (.str b)).canLay0 = true) (q : Q (.bool (decide (a = b))) O) : W2 g n (compareOp .Eq) (.str a) (.str b) O Q :=
  w2_eq rfl rfl ha hb (Nat.le_trans (Nat.min_le_left _ _) (by simp [toPy, PyData.depth])) q
theorem Tok.okk {t : Tok} (ht : t.ok = true) : (toPy (.str t.k)).canLay0 = true := by
  cases t <;> (simp only [Tok.ok, Tok.v, toPy, toPys, PyData.canLay0, PyData.canLayAll0, Bool.and_true, Bool.and_eq_true] at ht; first | exact ht.1 | exact ht)
end
theorem c_is_end (g : Gr) (t : Tok) (ht : t.ok = true) : FW g 1 70 [t.v] (fun v => v = .bool (isEnd t)) := by
  refine fw1 (rest := []) (at_is_end g) (fun _ _ _ _ => rfl) rfl (by decide) rfl rfl rfl (by decide) fun L cd => ?_
  refine sw_cons (s1_return ?_)
  refine ew_boolop (bl_or (ew_cmp (ew_kind (ew_name .here ⟨rfl, ew_str (w2_eqstr (Tok.okk ht) (by decide +kernel) ⟨_, rfl, ?_⟩)⟩))))
  split
  · rename_i h
    exact ⟨_, .same _, by simp [isEnd, of_decide_eq_true h]⟩
  rename_i h1
  refine bl_or (ew_eqtok ht (ew_name .here ⟨rfl, ⟨_, rfl, ?_⟩⟩))
  split
  · rename_i h
    exact ⟨_, .same _, by simp [isEnd, of_decide_eq_true h]⟩
  rename_i h2
  refine bl_last (ew_boolop (bl_and (ew_cmp (ew_kind (ew_name .here ⟨rfl, ew_str (w2_eqstr (Tok.okk ht) (by decide +kernel) ⟨_, rfl, ?_⟩)⟩)))))
  split
  · rename_i h3
    refine bl_last (ew_cmp ?_)
    have hk : t.k = "word" := of_decide_eq_true h3
    cases t with
    | s a b =>
      refine ew_sub (ew_name .here (ew_int (w2_item_tup (j := 1) (by decide) rfl rfl (ew_str2 ?_))))
      refine w2_in_tup rfl rfl ?_ (by decide +kernel) (by simp [toPy, PyData.depth]) ⟨_, .same _, ?_⟩
      · simp only [Tok.ok, Tok.v, toPy, toPys, PyData.canLay0, PyData.canLayAll0, Bool.and_true, Bool.and_eq_true] at ht; simpa [toPy, PyData.canLay0] using ht.2
      · simp only [Tok.k] at hk
        subst hk
        simp only [Bool.not_eq_true, Tok.s.injEq] at h1 h2
        simp only [isEnd, h1, h2, h3, Bool.false_or, Bool.true_and, toPy, toPys, PyData.eqv, List.any_cons, List.any_nil, Bool.or_false, Tok.s.injEq, true_and]
        have c : ∀ x y : Str, (x == y) = decide (y = x) := fun x y => by
          by_cases h : x = y
          · subst h; simp
          · rw [beq_eq_false_iff_ne.mpr h, decide_eq_false (fun z => h z.symm)]
        rw [c, c]
    | n a b =>
      refine ew_sub (ew_name .here (ew_int (w2_item_tup (j := 1) (by decide) rfl rfl (ew_str2 ?_))))
      refine w2_in_tup rfl rfl rfl (by decide +kernel) (by simp [toPy, PyData.depth]) ⟨_, .same _, ?_⟩
      simp only [Bool.not_eq_true] at h1 h2
      simp [isEnd, h1, h2, toPy, toPys, PyData.eqv, tELSE, tREM]
  · rename_i h3
    refine ⟨_, .same _, ?_⟩
    simp only [Bool.not_eq_true] at h1 h2 h3
    simp only [isEnd, h1, h2, h3, Bool.false_or, Bool.false_and]

/-- how far a statement goes on -/
noncomputable def pastL : List Tok → Nat
  | [] => 0
  | t :: r => if isEnd t = true then 0 else pastL r + 1
theorem getD_row (l : List Tok) (i : Nat) : (l.map Tok.v).getD i vEND = (l.getD i tEND).v := by
  rw [List.getD_eq_getElem?_getD, List.getD_eq_getElem?_getD, List.getElem?_map]
  cases l[i]? <;> rfl
theorem okD {l : List Tok} (h : ∀ t ∈ l, t.ok = true) (i : Nat) : (l.getD i tEND).ok = true := by
  rw [List.getD_eq_getElem?_getD]
  cases e : l[i]? with
  | none => decide +kernel
  | some t => exact h t (List.mem_of_getElem? e)

theorem ew_tokat {g : Gr} {O : Led} {n : Lv} {env : Env} {m : Loc} {l : List Tok} {i : Int} {x y : Str} {p1 p2 p3 pos} {Q : V → Led → Prop} (hn : 1 ≤ n.n) (hk : env.kindOf "token_at" = some .globalImplicit) (hx : Get m x (rowV l)) (hy : Get m y (.int i)) (hi : 0 ≤ i) (hl : l.length < 2 ^ 40) (q : Q (l.getD i.toNat tEND).v O)
    (hdx : (x == ("__debug__" : Str)) = false := by decide) (hdy : (y == ("__debug__" : Str)) = false := by decide) : EW g n env m O (.Call (.Name "token_at" p1) [.Name x p2, .Name y p3] [] pos) Q :=
  ew_callF (at_token_at g) hk (mg_token_at g) (lw_cons (ew_name hx (lw_cons (ew_name hy (lw_nil (((c_token_at g _ i hi (by simpa using hl)).le hn).mono fun v e => by subst e; rw [getD_row]; exact q)) hdy)) hdx))

theorem c_past (g : Gr) (l : List Tok) (hl : ∀ t ∈ l, t.ok = true) (hn : l.length < 2 ^ 40) (i : Nat) (hi : i ≤ l.length) : FW g 2 77 [rowV l, .int i] (fun v => v = .int ((i + pastL (l.drop i) : Nat) : Int)) := by
  generalize hN : i + pastL (l.drop i) = N
  refine fw2 (rest := []) (at_past_statement g) (fun _ _ _ _ _ => rfl) ⟨rfl, rfl⟩ (by decide) rfl rfl rfl (by decide) fun L cd => ?_
  refine sw_cons (s1_while ?_)
  obtain ⟨r, hr⟩ : ∃ r, l.drop i = r := ⟨_, rfl⟩
  induction r generalizing i with
  | nil =>
    have hge : l.length ≤ i := by simpa using hr
    refine ww_step (tw_not (tw_value (ew_callF (at_is_end g) rfl (mg_is_end g) (lw_cons (ew_tokat (Nat.le_refl _) rfl .here (.there .here) (by omega) hn (lw_nil ((c_is_end g _ (okD hl _)).mono fun v e => ?_)))))))
    subst e
    refine t1_bool ?_
    have e : l.getD (i : Int).toNat tEND = tEND := by
      rw [List.getD_eq_getElem?_getD, List.getElem?_eq_none (by omega)]; rfl
    rw [e, if_neg (by decide +kernel)]
    refine sw_cons (s1_return (ew_name (.there .here) ⟨_, .same _, ?_⟩))
    rw [hr] at hN
    simp [pastL] at hN
    rw [hN]
  | cons t r ih =>
    have hlt : i < l.length := by
      rcases Nat.lt_or_ge i l.length with q | q
      · exact q
      · rw [List.drop_of_length_le q] at hr; cases hr
    have e : l.getD (i : Int).toNat tEND = t := by
      rw [List.drop_eq_getElem_cons hlt] at hr
      injection hr with h1 h2
      rw [List.getD_eq_getElem?_getD]; simp [hlt, h1]
    have hr' : l.drop (i + 1) = r := by
      rw [List.drop_eq_getElem_cons hlt] at hr
      injection hr
    refine ww_step (tw_not (tw_value (ew_callF (at_is_end g) rfl (mg_is_end g) (lw_cons (ew_tokat (Nat.le_refl _) rfl .here (.there .here) (by omega) hn (lw_nil ((c_is_end g _ (okD hl _)).mono fun v e => ?_)))))))
    subst e
    refine t1_bool ?_
    rw [e]
    rw [hr] at hN
    cases ht : isEnd t with
    | true =>
      simp only [pastL, ht, if_true, Nat.add_zero] at hN
      rw [if_neg (by simp)]
      exact sw_cons (s1_return (ew_name (.there .here) ⟨_, .same _, by rw [hN]⟩))
    | false =>
      rw [if_pos (by simp)]
      simp only [pastL, ht, Bool.false_eq_true, if_false] at hN
      refine sw_cons (s1_aug (.there .here) (ew_int (w2_iadd (nm_local rfl (.there .here) (sw_nil ?_)))))
      exact ih (i + 1) (by omega) (by rw [hr']; omega) hr'
end Mine

-- F3
namespace Mine
open PySem PySem.Calls PySem.W PyProof.Rows

theorem drop_cons {α : Type} {l : List α} {i : Nat} {t : α} {r : List α} (h : l.drop i = t :: r) : i < l.length ∧ l[i]? = some t ∧ l.drop (i + 1) = r := by
  have hlt : i < l.length := by
    rcases Nat.lt_or_ge i l.length with q | q
    · exact q
    · rw [List.drop_of_length_le q] at h; cases h
  rw [List.drop_eq_getElem_cons hlt] at h
  injection h with h1 h2
  exact ⟨hlt, by rw [List.getElem?_eq_getElem hlt, h1], h2⟩

theorem ew_lenrow {g : Gr} {O : Led} {n : Lv} {env : Env} {m : Loc} {l : List V} {x : Str} {p1 p2 pos} {Q : V → Led → Prop} (hk : env.kindOf "len" = some .globalImplicit) (hx : Get m x (.lst l)) (hl : l.length < 2 ^ 40) (q : Q (.int l.length) O)
    (hdx : (x == ("__debug__" : Str)) = false := by decide) : EW g n env m O (.Call (.Name "len" p1) [.Name x p2] [] pos) Q :=
  ew_callB hk (mg_len g) (by decide) bb_len (lw_cons (ew_name hx (lw_nil (wl_len_lst (by omega) q)) hdx))
theorem ew_rowat {g : Gr} {O : Led} {n : Lv} {env : Env} {m : Loc} {l : List Tok} {i : Nat} {t : Tok} {x y : Str} {p1 p2 pos} {Q : V → Led → Prop} (hx : Get m x (rowV l)) (hy : Get m y (.int i)) (hi : l[i]? = some t) (hl : l.length < 2 ^ 40) (q : Q t.v O)
    (hdx : (x == ("__debug__" : Str)) = false := by decide) (hdy : (y == ("__debug__" : Str)) = false := by decide) : EW g n env m O (.Subscript (.Name x p1) (.Name y p2) pos) Q := by
  have hlt : i < l.length := by
    rcases Nat.lt_or_ge i l.length with q | q
    · exact q
    · rw [List.getElem?_eq_none q] at hi; cases hi
  exact ew_sub (ew_name hx (ew_name hy (w2_item_lst (by omega) (by omega) (by rw [Int.toNat_natCast, List.getElem?_map, hi]; rfl) q) hdy) hdx)

noncomputable def elseL : List Tok → Nat → Option Nat
  | [], _ => none
  | t :: r, d => if t = tIF then (elseL r (d + 1)).map (· + 1) else if t = tELSE then (if d = 0 then some 1 else (elseL r (d - 1)).map (· + 1)) else (elseL r d).map (· + 1)
noncomputable def optV (i : Nat) : Option Nat → V
  | none => .none
  | some k => .int ((i + k : Nat) : Int)
theorem optV_map (i : Nat) (o : Option Nat) : optV i (o.map (· + 1)) = optV (i + 1) o := by
  cases o with
  | none => rfl
  | some k => simp only [optV, Option.map]; rw [Nat.add_right_comm, Nat.add_assoc]

theorem c_else_of (g : Gr) (l : List Tok) (hl : ∀ t ∈ l, t.ok = true) (hn : l.length < 2 ^ 40) (i : Nat) (hi : i ≤ l.length) : FW g 1 84 [rowV l, .int i] (fun v => v = optV i (elseL (l.drop i) 0)) := by
  obtain ⟨d, hd⟩ : ∃ d : Nat, d = 0 := ⟨_, rfl⟩
  generalize hN : optV i (elseL (l.drop i) 0) = N
  rw [← hd] at hN
  refine fw2 (rest := ["depth"]) (at_else_of g) (fun _ _ _ _ _ => rfl) ⟨rfl, rfl⟩ (by decide) rfl rfl rfl (by decide) fun L cd => ?_
  refine sw_cons (s1_assign (ew_int (nm_local rfl (.there (.there .here)) ?_)))
  refine sw_cons (s1_while ?_)
  rw [show V.int 0 = V.int (d : Int) by rw [hd]; rfl]
  clear hd
  obtain ⟨r, hr⟩ : ∃ r, l.drop i = r := ⟨_, rfl⟩
  induction r generalizing i d with
  | nil =>
    have hge : l.length ≤ i := by simpa using hr
    refine ww_step (tw_cmp (ew_name (.there .here) (ew_lenrow rfl .here (by simpa using hn) (w2_lt (t1_bool ?_)))))
    rw [if_neg (by simp; omega)]
    refine sw_cons (s1_return (ew_none ⟨_, .same _, ?_⟩))
    rw [hr] at hN
    exact hN
  | cons t r ih =>
    obtain ⟨hlt, ht, hr'⟩ := drop_cons hr
    rw [hr] at hN
    refine ww_step (tw_cmp (ew_name (.there .here) (ew_lenrow rfl .here (by simpa using hn) (w2_lt (t1_bool ?_)))))
    rw [if_pos (by simp; omega)]
    refine sw_if (tw_eqtok (hl t (List.mem_of_getElem? ht)) (ew_rowat .here (.there .here) ht hn ⟨rfl, ?_⟩))
    by_cases h1 : t = tIF
    · rw [if_pos (by simp [h1])]
      refine sw_cons (s1_aug (.there (.there .here)) (ew_int (w2_iadd (nm_local rfl (.there (.there .here)) ?_))))
      simp only [elseL, h1, if_true] at hN
      rw [optV_map] at hN
      exact sw_cons (s1_aug (.there .here) (ew_int (w2_iadd (nm_local rfl (.there .here) (sw_nil (ih (i + 1) (by omega) (d + 1) (by rw [hr']; exact hN) hr'))))))
    rw [if_neg (by simp [h1])]
    refine sw_if (tw_eqtok (hl t (List.mem_of_getElem? ht)) (ew_rowat .here (.there .here) ht hn ⟨rfl, ?_⟩))
    simp only [elseL, h1, if_false] at hN
    by_cases h2 : t = tELSE
    · rw [if_pos (by simp [h2])]
      simp only [h2, if_true] at hN
      refine sw_if (tw_cmp (ew_name (.there (.there .here)) (ew_int (w2_eq rfl rfl rfl rfl (by simp [toPy, PyData.depth]) (t1_bool ?_)))))
      cases d with
      | zero =>
        rw [if_pos (by rfl)]
        refine sw_cons (s1_return (ew_binop (ew_name (.there .here) (ew_int (w2_add ⟨_, .same _, ?_⟩)))))
        exact hN
      | succ d =>
        rw [if_neg (by simp [toPy, PyData.eqv] <;> omega)]
        refine sw_cons (s1_aug (.there (.there .here)) (ew_int (w2_isub (nm_local rfl (.there (.there .here)) ?_))))
        simp only [Nat.add_eq_zero_iff, Nat.add_sub_cancel, Nat.one_ne_zero, and_false, if_false] at hN
        rw [optV_map] at hN
        rw [show ((d + 1 : Nat) : Int) - 1 = (d : Int) by omega]
        exact sw_cons (s1_aug (.there .here) (ew_int (w2_iadd (nm_local rfl (.there .here) (sw_nil (ih (i + 1) (by omega) d (by rw [hr']; exact hN) hr'))))))
    · rw [if_neg (by simp [h2])]
      simp only [h2, if_false] at hN
      rw [optV_map] at hN
      exact sw_cons (s1_aug (.there .here) (ew_int (w2_iadd (nm_local rfl (.there .here) (sw_nil (ih (i + 1) (by omega) d (by rw [hr']; exact hN) hr'))))))
end Mine

-- F4
namespace Mine
open PySem PySem.Calls PySem.W PyProof.Rows

noncomputable def openL (l : List Tok) : Int := ((l.filter fun t => decide (t = tIF)).length : Int) - ((l.filter fun t => decide (t = tELSE)).length : Int)
theorem filter_tok (l : List Tok) (a b : Str) : ((l.map Tok.v).filter fun v => PyData.eqv (toPy v) (toPy (.tup [.str a, .str b]))).length = (l.filter fun t => decide (t = .s a b)).length := by
  rw [List.filter_map, List.length_map]
  congr 1
  apply List.filter_congr
  intro t _
  exact eq_tok t a b

theorem ew_compLen {g : Gr} {O : Led} {n : Lv} {env : Env} {m : Loc} {l : List Tok} {a b : Str} {px p0 p1 p2 p3 p4 p5 p6 pos k1 k2 k : _} {scope : Scope} {Q : V → Led → Prop} (hl : ∀ t ∈ l, t.ok = true) (hn : l.length ≤ 100000) (hx : Get m "tokens" (rowV l))
    (hclos : closureFor scope env = pure []) (hcell : ∀ y ∈ scope.names, y.2 ≠ .cell) (hkind : scope.kind = .function)
    (hnames : ∀ y ∈ scope.names, y.2 = .local → scope.names.lookup y.1 = some .local) (hsx : scope.names.lookup ("token" : Str) = some .local)
    (q : ∀ l', l'.length = (l.filter fun t => decide (t = .s a b)).length → Q (.lst l') O) (hab : (toPy (.tup [.str a, .str b])).canLay0 = true := by decide +kernel) :
    EW g n env m O (.ListComp (.Name "token" p0) [⟨.Name "token" px, .Name "tokens" p1, [.Compare (.Name "token" p2) [.Eq] [.Tuple [.Constant (.str a) k1 p3, .Constant (.str b) k2 p4] k p5] p6], 0⟩] scope pos) Q := by
  refine ew_comp (cl := []) (mf := []) (ie_value (ew_name hx ⟨_, itw_lst, by simpa using hn, (fun v => PyData.eqv (toPy v) (toPy (.tup [.str a, .str b]))), id, fun v hv C => ?_, fun v hv _ C => ew_name .here ⟨rfl, rfl⟩, q _ ?_⟩)) hclos hcell hkind hnames hsx (by simp) (by simp) (by simp) (by simp)
  · obtain ⟨t, ht, rfl⟩ := List.mem_map.mp hv
    exact ct_one (tw_eqtok (hl t ht) (ew_name .here ⟨rfl, rfl, (eq_tok t a b).symm⟩) hab)
  · rw [List.length_map]; exact filter_tok l a b

theorem c_open (g : Gr) (l : List Tok) (hl : ∀ t ∈ l, t.ok = true) (hn : l.length ≤ 100000) : FW g 1 182 [rowV l] (fun v => v = .int (openL l)) := by
  refine fw1 (rest := []) (at_law_open g) (fun _ _ _ _ => rfl) rfl (by decide) rfl rfl rfl (by decide) fun L cd => ?_
  refine sw_cons (s1_return (ew_binop ?_))
  refine ew_callB rfl (mg_len g) (by decide) bb_len (lw_cons (ew_compLen hl hn .here (closureFor_none (by decide)) (by decide) rfl (by decide) rfl (fun l1 e1 => lw_nil (wl_len_lst ?_ ?_))))
  · rw [e1]; exact Nat.lt_of_le_of_lt (List.length_filter_le _ _) (by omega)
  refine ew_callB rfl (mg_len g) (by decide) bb_len (lw_cons (ew_compLen hl hn .here (closureFor_none (by decide)) (by decide) rfl (by decide) rfl (fun l2 e2 => lw_nil (wl_len_lst ?_ ?_))))
  · rw [e2]; exact Nat.lt_of_le_of_lt (List.length_filter_le _ _) (by omega)
  refine w2_sub ⟨_, .same _, ?_⟩
  rw [e1, e2]; rfl
end Mine

-- F5
namespace Mine
open PySem PySem.Calls PySem.W PyProof.Rows

theorem intsFrom_zero (a : Int) : intsFrom a 0 = [] := rfl
theorem intsFrom_succ (a : Int) (k : Nat) : intsFrom a (k + 1) = .int a :: intsFrom (a + 1) k := by
  unfold intsFrom
  rw [List.range'_succ, List.map_cons]
  congr 1
  · simp
  · rw [show List.range' (0 + 1) k = (List.range' 0 k).map (· + 1) by rw [show (fun x : Nat => x + 1) = (fun x => 1 + x) from funext fun x => Nat.add_comm ..]; exact (List.map_add_range' (a := 1) 0 k 1).symm, List.map_map]
    apply List.map_congr_left
    intro i _
    simp only [Function.comp, V.int.injEq]; omega
theorem slV_map {α β : Type} (f : α → β) (l : List α) (lo hi : Option Int) : slV (l.map f) lo hi = (slV l lo hi).map f := by
  unfold slV
  simp [List.map_take, List.map_drop]
theorem slV_mem {α : Type} {l : List α} {lo hi : Option Int} {x : α} (h : x ∈ slV l lo hi) : x ∈ l := List.mem_of_mem_drop (List.mem_of_mem_take h)
theorem slV_len {α : Type} (l : List α) (lo hi : Option Int) : (slV l lo hi).length ≤ l.length := by
  unfold slV
  rw [List.length_take, List.length_drop]; exact Nat.le_trans (Nat.min_le_right _ _) (Nat.sub_le _ _)

noncomputable def optN : Option Nat → V
  | none => .none
  | some k => .int (k : Int)
noncomputable def found1 (l : List Tok) (i e : Nat) (o : Option Nat) : Bool := decide (l[e]? = some tELSE) && (decide (o = none) && decide (openL (slV l (some ((i + 1 : Nat) : Int)) (some (e : Int))) = 0))
noncomputable def findE (l : List Tok) (i : Nat) : Nat → Nat → Option Nat → Option Nat
  | _, 0, o => o
  | e, k + 1, o => findE l i (e + 1) k (if found1 l i e o = true then some (e + 1) else o)
noncomputable def elsesFrom (l : List Tok) : Nat → List Tok → List (Nat × Option Nat)
  | _, [] => []
  | i, t :: r => if t = tIF then (i, findE l i (i + 1) (l.length - (i + 1)) none) :: elsesFrom l (i + 1) r else elsesFrom l (i + 1) r
noncomputable def ksOf (D : List (Nat × Option Nat)) : List Int := D.map fun p => (p.1 : Int)
noncomputable def vsOf (D : List (Nat × Option Nat)) : List V := D.map fun p => optN p.2

theorem keys_cons {t : Loc} {a : Str} {l : List Str} (h : t.map (·.1) = a :: l) : ∃ x t', t = (a, x) :: t' ∧ t'.map (·.1) = l := by
  cases t with
  | nil => cases h
  | cons p t' => rw [List.map_cons, List.cons.injEq] at h; exact ⟨p.2, t', by rw [← h.1], h.2⟩
theorem keys4 {t : Loc} {a b c d : Str} (h : t.map (·.1) = [a, b, c, d]) : ∃ x1 x2 x3 x4, t = [(a, x1), (b, x2), (c, x3), (d, x4)] := by
  obtain ⟨x1, t1, rfl, h1⟩ := keys_cons h
  obtain ⟨x2, t2, rfl, h2⟩ := keys_cons h1
  obtain ⟨x3, t3, rfl, h3⟩ := keys_cons h2
  obtain ⟨x4, t4, rfl, h4⟩ := keys_cons h3
  exact ⟨x1, x2, x3, x4, by rw [List.map_eq_nil_iff.mp h4]⟩

theorem ksOf_snoc (D : List (Nat × Option Nat)) (i : Nat) (o : Option Nat) : ksOf (D ++ [(i, o)]) = ksOf D ++ [(i : Int)] := by simp [ksOf]
theorem vsOf_snoc (D : List (Nat × Option Nat)) (i : Nat) (o : Option Nat) : vsOf (D ++ [(i, o)]) = vsOf D ++ [optN o] := by simp [vsOf]

theorem c_elses (g : Gr) (l : List Tok) (hl : ∀ t ∈ l, t.ok = true) (hn : l.length ≤ 50000) : FW g 2 177 [rowV l] (fun v => v = .dct (ksOf (elsesFrom l 0 l)) (vsOf (elsesFrom l 0 l))) := by
  generalize hE : elsesFrom l 0 l = E
  refine fw1 (rest := ["found", "at", "token", "end", "ahead"]) (at_law_elses g) (fun _ _ _ _ => rfl) rfl (by decide) rfl rfl rfl (by decide) fun L cd => ?_
  refine sw_cons (s1_assign (ew_dict fun a => nm_local rfl (.there .here) ?_))
  refine sw_cons (s1_for (ie_callT rfl (mg_enumerate g) (by decide) bb_enumerate (lw_cons (ew_name .here (lw_nil (ic_enum ?_))))))
  intro I wr C T
  obtain ⟨D, hD⟩ : ∃ D : List (Nat × Option Nat), D = [] := ⟨_, rfl⟩
  rw [show AO.dict [] [] = AO.dict (ksOf D) (vsOf D) by rw [hD]; rfl]
  obtain ⟨i, hi⟩ : ∃ i : Nat, i = 0 := ⟨_, rfl⟩
  obtain ⟨r, hr⟩ : ∃ r : List Tok, r = l.drop i := ⟨_, rfl⟩
  have hr0 : l = r := by rw [hr, hi]; rfl
  rw [show enumV 0 (l.map Tok.v) = enumV i (r.map Tok.v) by rw [hi, ← hr0]]
  have hE' : D ++ elsesFrom l i r = E := by rw [hD, hi, ← hr0]; exact hE
  have hlt : ∀ p ∈ D, p.1 < i := by rw [hD]; simp
  have hDl : D.length ≤ i := by rw [hD]; simp
  generalize htl : List.map (fun x => ((x, none) : Str × Option V)) ["at", "token", "end", "ahead"] = tl
  have hk : tl.map (·.1) = [("at" : Str), "token", "end", "ahead"] := by rw [← htl]; rfl
  clear hD hi hr0 htl hE
  induction r generalizing i D tl with
  | nil =>
    simp only [List.map_nil, enumV]
    refine forw_nil T ?_
    refine sw_cons (s1_return (ew_name (.there .here) ⟨_, .dict (.head _), ?_⟩))
    rw [← hE', elsesFrom, List.append_nil]
  | cons t r ih =>
    obtain ⟨x1, x2, x3, x4, rfl⟩ := keys4 hk
    obtain ⟨hlt', ht, hr'⟩ := drop_cons hr.symm
    simp only [List.map_cons, enumV]
    refine forw_cons T (asw_tuple (asw_name (nm_local rfl (.there (.there .here)) (asw_name (nm_local rfl (.there (.there (.there .here))) ?_)))))
    refine sw_if (tw_eqtok (hl t (List.mem_of_getElem? ht)) (ew_name (.there (.there (.there .here))) ⟨rfl, ?_⟩))
    rw [elsesFrom] at hE'
    by_cases h1 : t = tIF
    · rw [if_pos (by simp [h1])]
      rw [if_pos h1] at hE'
      refine sw_cons (s1_store (ew_none (ew_name (.there .here) ⟨_, rfl, ew_name (.there (.there .here)) ⟨_, _, _, _, _, _, rfl, .here, ?_, ?_, .inl ⟨?_, rfl, rfl⟩⟩⟩)))
      · unfold ksOf; rw [List.length_map]; omega
      · refine sw_cons (s1_for (ie_callT rfl (mg_range g) (by decide) bb_range (lw_cons (ew_binop (ew_name (.there (.there .here)) (ew_int (w2_add (lw_cons (ew_lenrow rfl .here (by simp; omega) (lw_nil (ic_range2 (by omega) (by simp; omega) ?_)))))))))))
        intro J wr' C' T'
        obtain ⟨o, ho⟩ : ∃ o : Option Nat, o = none := ⟨_, rfl⟩
        obtain ⟨e, he⟩ : ∃ e : Nat, e = i + 1 := ⟨_, rfl⟩
        obtain ⟨k, hkk⟩ : ∃ k : Nat, k = l.length - (i + 1) := ⟨_, rfl⟩
        rw [show intsFrom ((i : Int) + 1) (((l.map Tok.v).length : Int) - ((i : Int) + 1)).toNat = intsFrom (e : Int) k by rw [he, hkk]; congr 1; simp; omega]
        rw [show vsOf D ++ [V.none] = vsOf D ++ [optN o] by rw [ho]; rfl]
        replace hE' : D ++ (i, findE l i e k o) :: elsesFrom l (i + 1) r = E := by rw [he, hkk, ho]; exact hE'
        have hek : e + k = l.length := by omega
        clear ho he hkk hk
        induction k generalizing e o x3 x4 with
        | zero =>
          rw [intsFrom_zero]
          refine forw_nil T' ?_
          have := ih (D ++ [(i, o)]) (i + 1) hr'.symm (by rw [← hE', findE]; simp) (fun p hp => by
            rcases List.mem_append.mp hp with q | q
            · have := hlt p q; omega
            · simp at q; subst q; exact Nat.lt_succ_self _) (by simp; omega) [("at", some (.int i)), ("token", some t.v), ("end", x3), ("ahead", x4)] rfl
          rw [ksOf_snoc, vsOf_snoc] at this
          exact sw_nil this
        | succ k ihk =>
          rw [intsFrom_succ]
          refine forw_cons T' (asw_name (nm_local rfl (.there (.there (.there (.there .here)))) ?_))
          refine sw_cons (s1_assign (ew_slice (ew_name .here ⟨_, rfl, by simp; omega, pw_some (ew_binop (ew_name (.there (.there .here)) (ew_int (w2_add ⟨_, rfl, pw_some (ew_name (.there (.there (.there (.there .here)))) ⟨_, rfl, nm_local rfl (.there (.there (.there (.there (.there .here))))) ?_⟩)⟩))))⟩)))
          rw [slV_map]
          obtain ⟨t2, ht2⟩ : ∃ t2, l[e]? = some t2 := ⟨_, List.getElem?_eq_getElem (by omega)⟩
          have okA : ∀ t ∈ slV l (some ((i : Int) + 1)) (some (e : Int)), t.ok = true := fun t h => hl t (slV_mem h)
          have lenA := slV_len l (some ((i : Int) + 1)) (some (e : Int))
          have kk : (ksOf D ++ [(i : Int)])[D.length]? = some (i : Int) := by
            have : (ksOf D).length = D.length := by simp [ksOf]
            rw [← this]; simp
          have vk : (vsOf D ++ [optN o])[D.length]? = some (optN o) := by
            have : (vsOf D).length = D.length := by simp [vsOf]
            rw [← this]; simp
          have fb : found1 l i e o = (decide (t2 = tELSE) && (decide (o = none) && decide (openL (slV l (some ((i : Int) + 1)) (some (e : Int))) = 0))) := by
            unfold found1; rw [ht2]; simp
          have no : found1 l i e o = false → findE l i (e + 1) k o = findE l i e (k + 1) o := fun h => by rw [findE, h]; rfl
          have yes : found1 l i e o = true → findE l i (e + 1) k (some (e + 1)) = findE l i e (k + 1) o := fun h => by rw [findE, h]; rfl
          refine sw_if (tw_boolop (aw_and (tw_eqtok (hl t2 (List.mem_of_getElem? ht2)) (ew_rowat .here (.there (.there (.there (.there .here)))) ht2 (by omega) ⟨rfl, ?_⟩))))
          by_cases c1 : t2 = tELSE
          rotate_left
          · rw [if_neg (by simp [c1]), if_neg (by simp [c1])]
            exact sw_nil (ihk _ _ o (e + 1) (by rw [no (by rw [fb]; simp [c1])]; exact hE') (by omega))
          rw [if_pos (by simp [c1])]
          refine aw_and (tw_cmp (ew_sub (ew_name (.there .here) (ew_name (.there (.there .here)) (w2_item_dict (.head _) kk vk (ew_none (w2_isnone (t1_bool ?_) ?_))))))) 
          rotate_left
          · intro u; cases o <;> simp [optN]
          cases o with
          | some o0 =>
            rw [if_neg (by simp [isNone, optN]), if_neg (by simp)]
            exact sw_nil (ihk _ _ (some o0) (e + 1) (by rw [no (by rw [fb]; simp)]; exact hE') (by omega))
          | none =>
            rw [if_pos (by simp [isNone, optN])]
            refine aw_and (tw_cmp (ew_callF (at_law_open g) rfl (mg_law_open g) (lw_cons (ew_name (.there (.there (.there (.there (.there .here))))) (lw_nil ((c_open g _ okA (by omega)).mono fun v ev => ?_))))))
            subst ev
            refine ew_int (w2_eq rfl rfl rfl rfl (by simp [toPy, PyData.depth]) (t1_bool ?_))
            by_cases c3 : openL (slV l (some ((i : Int) + 1)) (some (e : Int))) = 0
            · rw [if_pos (by simp [toPy, PyData.eqv, c3])]
              refine aw_and_nil ?_
              rw [if_pos rfl]
              refine sw_cons (s1_store (ew_binop (ew_name (.there (.there (.there (.there .here)))) (ew_int (w2_add (ew_name (.there .here) ⟨_, rfl, ew_name (.there (.there .here)) ⟨_, _, _, _, _, _, rfl, .here, ?_, ?_, .inr ⟨_, kk, rfl, rfl⟩⟩⟩))))))
              · simp [ksOf]; omega
              · have : (vsOf D).length = D.length := by simp [vsOf]
                rw [← this, List.set_append_right _ _ (Nat.le_refl _), Nat.sub_self]
                exact sw_nil (ihk _ _ (some (e + 1)) (e + 1) (by rw [yes (by rw [fb]; simp [c1, c3])]; exact hE') (by omega))
            · rw [if_neg (by simp [toPy, PyData.eqv, c3]), if_neg (by simp)]
              exact sw_nil (ihk _ _ none (e + 1) (by rw [no (by rw [fb]; simp [c3])]; exact hE') (by omega))
      · intro hm
        obtain ⟨p, hp, e⟩ := List.mem_map.mp hm
        have := hlt p hp
        omega
    · rw [if_neg (by simp [h1])]
      rw [if_neg h1] at hE'
      exact sw_nil (ih D (i + 1) hr'.symm hE' (fun p hp => by have := hlt p hp; omega) (by omega) _ rfl)
end Mine

-- F6
namespace Mine
open PySem PySem.Calls PySem.W PyProof.Rows

theorem clip_in {n : Nat} {i : Nat} (h : i ≤ n) : clipAt n (i : Int) = i :=
  Int.ofNat_inj.mp ((clipAt_min (Int.natCast_nonneg i)).trans (if_neg (Int.not_lt.mpr (Int.ofNat_le.mpr h))))
theorem clip_past {n : Nat} {i : Nat} (h : n < i) : clipAt n (i : Int) = n :=
  Int.ofNat_inj.mp ((clipAt_min (Int.natCast_nonneg i)).trans (if_pos (Int.ofNat_lt.mpr h)))
theorem sl_run (l : List Tok) {i e : Nat} (h1 : i ≤ e) (h2 : e ≤ l.length) : slV l (some (i : Int)) (some (e : Int)) = (l.drop i).take (e - i) := by
  unfold slV
  simp only [Option.elim, clip_in h2, clip_in (Nat.le_trans h1 h2)]
theorem openL_snoc (l : List Tok) (t : Tok) : openL (l ++ [t]) = openL l + (if t = tIF then 1 else 0) - (if t = tELSE then 1 else 0) := by
  unfold openL
  simp only [List.filter_append, List.length_append]
  have e : ∀ u : Tok, (([t].filter fun x => decide (x = u)).length : Int) = if t = u then 1 else 0 := fun u => by
    by_cases h : t = u <;> simp [h]
  rw [Int.natCast_add, Int.natCast_add, e, e]
  omega
theorem findE_some (l : List Tok) (i : Nat) : ∀ (k e : Nat) (x : Nat), findE l i e k (some x) = some x
  | 0, _, _ => rfl
  | k + 1, e, x => by
    rw [findE, if_neg (by simp [found1])]
    exact findE_some l i k (e + 1) x
theorem else_law (l : List Tok) (i : Nat) : ∀ (k e d : Nat), e + k = l.length → i + 1 ≤ e → openL (slV l (some ((i + 1 : Nat) : Int)) (some (e : Int))) = d → findE l i e k none = (elseL (l.drop e) d).map (· + e) := by
  intro k
  induction k with
  | zero =>
    intro e d he _ _
    rw [List.drop_of_length_le (by omega)]
    rfl
  | succ k ih =>
    intro e d he hie hd
    have hlt : e < l.length := by omega
    have hg : l[e]? = some l[e] := List.getElem?_eq_getElem hlt
    have hs : slV l (some ((i + 1 : Nat) : Int)) (some ((e + 1 : Nat) : Int)) = slV l (some ((i + 1 : Nat) : Int)) (some (e : Int)) ++ [l[e]] := by
      rw [sl_run l (by omega) (by omega), sl_run l hie (by omega)]
      rw [show e + 1 - (i + 1) = (e - (i + 1)) + 1 from Nat.sub_add_comm hie, List.take_add_one, List.getElem?_drop, show i + 1 + (e - (i + 1)) = e from Nat.add_sub_cancel' hie, hg]
      rfl
    have ho := openL_snoc (slV l (some ((i + 1 : Nat) : Int)) (some (e : Int))) l[e]
    rw [← hs, hd] at ho
    have fb : found1 l i e none = (decide (l[e] = tELSE) && decide (d = 0)) := by
      unfold found1
      rw [hg, hd]
      by_cases h : d = 0 <;> simp [h]
    rw [List.drop_eq_getElem_cons hlt, findE, fb, elseL]
    have mm : ∀ o : Option Nat, (o.map (· + 1)).map (· + e) = o.map (· + (e + 1)) := fun o => by
      cases o with
      | none => rfl
      | some x => simp only [Option.map, Option.some.injEq]; omega
    by_cases c1 : l[e] = tIF
    · have c2 : ¬ l[e] = tELSE := by rw [c1]; decide
      rw [if_pos c1, if_neg (by simp [c2]), mm]
      rw [if_pos c1, if_neg c2] at ho
      exact ih (e + 1) (d + 1) (by omega) (by omega) (by rw [ho]; omega)
    rw [if_neg c1]
    by_cases c2 : l[e] = tELSE
    · rw [if_pos c2]
      cases d with
      | zero =>
        rw [if_pos (by simp [c2]), if_pos rfl, findE_some]
        simp only [Option.map, Option.some.injEq]; omega
      | succ d =>
        rw [if_neg (by simp), if_neg (by omega), mm]
        rw [if_neg c1, if_pos c2] at ho
        exact ih (e + 1) d (by omega) (by omega) (by rw [ho]; omega)
    · rw [if_neg c2, if_neg (by simp [c2]), mm]
      rw [if_neg c1, if_neg c2] at ho
      exact ih (e + 1) d (by omega) (by omega) (by rw [ho]; omega)
theorem elses_law (l : List Tok) : ∀ (r : List Tok) (i : Nat), l.drop i = r → ∀ p ∈ elsesFrom l i r, p.1 + 1 ≤ l.length ∧ optN p.2 = optV (p.1 + 1) (elseL (l.drop (p.1 + 1)) 0) := by
  intro r
  induction r with
  | nil => intro i _ p hp; simp [elsesFrom] at hp
  | cons t r ih =>
    intro i hi p hp
    obtain ⟨hlt, ht, hr⟩ := drop_cons hi
    rw [elsesFrom] at hp
    have key : p.1 + 1 ≤ l.length ∧ optN p.2 = optV (p.1 + 1) (elseL (l.drop (p.1 + 1)) 0) ∨ p ∈ elsesFrom l (i + 1) r := by
      split at hp
      · rcases List.mem_cons.mp hp with rfl | hp
        · left
          refine ⟨hlt, ?_⟩
          have h0 : openL (slV l (some ((i + 1 : Nat) : Int)) (some ((i + 1 : Nat) : Int))) = (0 : Nat) := by
            rw [sl_run l (Nat.le_refl _) hlt]; simp [openL]
          simp only
          rw [else_law l i (l.length - (i + 1)) (i + 1) 0 (by omega) (Nat.le_refl _) h0]
          cases elseL (l.drop (i + 1)) 0 with
          | none => rfl
          | some x => simp only [Option.map, optN, optV, V.int.injEq]; omega
        · exact .inr hp
      · exact .inr hp
    rcases key with h | h
    · exact h
    · exact ih (i + 1) hr p h
end Mine

-- F7
namespace Mine
open PySem PySem.Calls PySem.W PyProof.Rows

theorem optN_py (o : Option Nat) : isPy (optN o) = true ∧ (toPy (optN o)).canLay0 = true := by cases o <;> exact ⟨rfl, rfl⟩
theorem isEnd_word {t : Tok} (h : t.k ≠ "end") : isEnd t = (decide (t = tCOLON) || (decide (t = tELSE) || decide (t = tREM))) := by
  unfold isEnd
  rw [decide_eq_false h, Bool.false_or]
  by_cases c1 : t = tELSE
  · subst c1; decide +kernel
  by_cases c2 : t = tREM
  · subst c2; decide +kernel
  simp [c1, c2]
theorem keys2 {t : Loc} {a b : Str} (h : t.map (·.1) = [a, b]) : ∃ x1 x2, t = [(a, x1), (b, x2)] := by
  obtain ⟨x1, t1, rfl, h1⟩ := keys_cons h
  obtain ⟨x2, t2, rfl, h2⟩ := keys_cons h1
  exact ⟨x1, x2, by rw [List.map_eq_nil_iff.mp h2]⟩

theorem eq_tok' (t : Tok) (a b : Str) : PyData.eqv (toPy (.tup [.str a, .str b])) (toPy t.v) = decide (t = .s a b) := by
  rw [← eq_tok]
  cases t with
  | s k x =>
    simp only [Tok.v, toPy, toPys, PyData.eqv, PyData.eqvAll, Bool.and_true]
    congr 1 <;> exact Bool.eq_iff_iff.mpr (by simp only [beq_iff_eq]; exact eq_comm)
  | n k i => simp [Tok.v, toPy, toPys, PyData.eqv, PyData.eqvAll]

theorem c_rows_right (g : Gr) (l : List Tok) (hl : ∀ t ∈ l, t.ok = true) (hk : ∀ t ∈ l, t.k ≠ "end") (hn : l.length ≤ 50000) : FW g 3 189 [rowV l] (fun v => v = .bool true) := by
  obtain ⟨E, hE⟩ : ∃ E, E = elsesFrom l 0 l := ⟨_, rfl⟩
  have hlaw := elses_law l l 0 rfl
  rw [← hE] at hlaw
  refine fw1 (rest := ["due", "at", "end"]) (at_law_rows_right g) (fun _ _ _ _ => rfl) rfl (by decide) rfl rfl rfl (by decide) fun L cd => ?_
  refine sw_cons (s1_assign (ew_callF (at_law_elses g) rfl (mg_law_elses g) (lw_cons (ew_name .here (lw_nil ((c_elses g l hl hn).mono fun v e => ?_))))))
  rw [← hE] at e
  subst e
  refine nm_local rfl (.there .here) ?_
  refine sw_cons (s1_for (ie_value (ew_name (.there .here) ⟨_, itw_dct, ?_⟩)))
  intro I wr C T
  obtain ⟨R, hR⟩ : ∃ R, R = E := ⟨_, rfl⟩
  obtain ⟨P, hP⟩ : ∃ P : List (Nat × Option Nat), P = [] := ⟨_, rfl⟩
  rw [show (ksOf E).map V.int = (ksOf R).map V.int by rw [hR]]
  have hPR : E = P ++ R := by rw [hP, hR]; rfl
  generalize htl : List.map (fun x => ((x, none) : Str × Option V)) ["at", "end"] = tl
  have hkk : tl.map (·.1) = [("at" : Str), "end"] := by rw [← htl]; rfl
  clear hR hP htl
  induction R generalizing P tl with
  | nil =>
    refine forw_nil T ?_
    obtain ⟨x1, x2, rfl⟩ := keys2 hkk
    refine sw_cons (s1_for (ie_callT rfl (mg_range g) (by decide) bb_range (lw_cons (ew_binop (ew_lenrow rfl .here (by simp; omega) (ew_int (w2_add (lw_nil (ic_range1 (by simp; omega) ?_)))))))))
    intro J wr' C' T'
    obtain ⟨i, hi⟩ : ∃ i : Nat, i = 0 := ⟨_, rfl⟩
    obtain ⟨k, hkl⟩ : ∃ k : Nat, k = l.length + 1 := ⟨_, rfl⟩
    rw [show intsFrom 0 (((l.map Tok.v).length : Int) + 1).toNat = intsFrom (i : Int) k by rw [hi, hkl]; congr 1; simp]
    have hik : i + k = l.length + 1 := by omega
    clear hi hkl hkk
    induction k generalizing i x1 x2 with
    | zero =>
      rw [intsFrom_zero]
      refine forw_nil T' ?_
      exact sw_cons (s1_return (ew_bool ⟨_, .same _, rfl⟩))
    | succ k ihk =>
      rw [intsFrom_succ]
      refine forw_cons T' (asw_name (nm_local rfl (.there (.there .here)) ?_))
      refine sw_cons (s1_assign (ew_name (.there (.there .here)) (nm_local rfl (.there (.there (.there .here))) ?_)))
      refine sw_cons (s1_while ?_)
      have hil : i ≤ l.length := by omega
      obtain ⟨e, he⟩ : ∃ e : Nat, e = i := ⟨_, rfl⟩
      rw [show (("end", some (V.int (i : Int))) : Str × Option V) = (("end", some (V.int (e : Int))) : Str × Option V) by rw [he]]
      have hN : e + pastL (l.drop e) = i + pastL (l.drop i) := by rw [he]
      have hel : e ≤ l.length := by omega
      clear he
      obtain ⟨r, hr⟩ : ∃ r, l.drop e = r := ⟨_, rfl⟩
      induction r generalizing e with
      | nil =>
        have hge : l.length ≤ e := by simpa using hr
        refine ww_step (tw_boolop (aw_and (tw_cmp (ew_name (.there (.there (.there .here))) (ew_lenrow rfl .here (by simp; omega) (w2_lt (t1_bool ?_)))))))
        rw [if_neg (by simp; omega), if_neg (by simp)]
        have hfin : e = i + pastL (l.drop i) := by rw [← hN, hr]; rfl
        exact sw_if (tw_cmp (ew_callF (at_past_statement g) rfl (mg_past_statement g) (lw_cons (ew_name .here (lw_cons (ew_name (.there (.there .here)) (lw_nil ((c_past g l hl (by omega) i hil).mono fun v ev => by
          subst ev
          refine ew_name (.there (.there (.there .here))) (w2_ne rfl rfl rfl rfl (by simp [toPy, PyData.depth]) (t1_bool ?_))
          rw [← hfin, if_neg (by simp [toPy, PyData.eqv])]
          exact sw_nil (ihk _ _ (i + 1) (by omega))))))))))
      | cons t r ihr =>
        obtain ⟨hlt, ht, hr'⟩ := drop_cons hr
        have hpast : isEnd t = false → e + 1 + pastL (l.drop (e + 1)) = i + pastL (l.drop i) := fun hq => by
          rw [← hN, hr, hr', pastL, if_neg (by simp [hq])]; omega
        have hstop : isEnd t = true → e = i + pastL (l.drop i) := fun hq => by
          rw [← hN, hr, pastL, if_pos hq]; rfl
        rw [isEnd_word (hk t (List.mem_of_getElem? ht))] at hpast hstop
        have htok := hl t (List.mem_of_getElem? ht)
        refine ww_step (tw_boolop (aw_and (tw_cmp (ew_name (.there (.there (.there .here))) (ew_lenrow rfl .here (by simp; omega) (w2_lt (t1_bool ?_)))))))
        rw [if_pos (by simp; omega)]
        refine aw_and (tw_cmp (ew_rowat .here (.there (.there (.there .here))) ht (by omega) (ew_str2 (w2_ne t.isPy rfl htok (by decide +kernel) (Nat.le_trans (Nat.min_le_left _ _) t.depth) (t1_bool ?_)))))
        rw [eq_tok]
        by_cases c1 : t = tCOLON
        · rw [if_neg (by simp [c1]), if_neg (by simp)]
          have hfin := hstop (by simp [c1])
          exact sw_if (tw_cmp (ew_callF (at_past_statement g) rfl (mg_past_statement g) (lw_cons (ew_name .here (lw_cons (ew_name (.there (.there .here)) (lw_nil ((c_past g l hl (by omega) i hil).mono fun v ev => by
            subst ev
            refine ew_name (.there (.there (.there .here))) (w2_ne rfl rfl rfl rfl (by simp [toPy, PyData.depth]) (t1_bool ?_))
            rw [← hfin, if_neg (by simp [toPy, PyData.eqv])]
            exact sw_nil (ihk _ _ (i + 1) (by omega))))))))))
        rw [if_pos (by simp [c1])]
        refine aw_and (tw_cmp (ew_rowat .here (.there (.there (.there .here))) ht (by omega) (ew_tuple (lw_cons (ew_str2 (lw_cons (ew_str2 (lw_nil (w2_notin_tup t.isPy rfl htok (by decide +kernel) t.depth (t1_bool ?_))))))))))
        simp only [toPys, List.any_cons, List.any_nil, Bool.or_false]
        rw [eq_tok', eq_tok']
        by_cases c2 : t = tELSE ∨ t = tREM
        · rw [if_neg (by rcases c2 with h | h <;> simp [h]), if_neg (by simp)]
          have hfin := hstop (by rcases c2 with h | h <;> simp [h])
          exact sw_if (tw_cmp (ew_callF (at_past_statement g) rfl (mg_past_statement g) (lw_cons (ew_name .here (lw_cons (ew_name (.there (.there .here)) (lw_nil ((c_past g l hl (by omega) i hil).mono fun v ev => by
            subst ev
            refine ew_name (.there (.there (.there .here))) (w2_ne rfl rfl rfl rfl (by simp [toPy, PyData.depth]) (t1_bool ?_))
            rw [← hfin, if_neg (by simp [toPy, PyData.eqv])]
            exact sw_nil (ihk _ _ (i + 1) (by omega))))))))))
        · have n1 : ¬ t = tELSE := fun h => c2 (.inl h)
          have n2 : ¬ t = tREM := fun h => c2 (.inr h)
          rw [if_pos (by simp [n1, n2])]
          refine aw_and_nil ?_
          rw [if_pos rfl]
          refine sw_cons (s1_assign (ew_binop (ew_name (.there (.there (.there .here))) (ew_int (w2_add (nm_local rfl (.there (.there (.there .here))) ?_))))))
          exact sw_nil (ihr (e + 1) (hpast (by simp [c1, n1, n2])) (by omega) hr')
  | cons p R ih =>
    obtain ⟨x1, x2, rfl⟩ := keys2 hkk
    obtain ⟨i, o⟩ := p
    obtain ⟨h1, h2⟩ := hlaw (i, o) (by rw [hPR]; simp)
    simp only at h1 h2
    simp only [ksOf, List.map_cons]
    have kk : (ksOf E)[P.length]? = some (i : Int) := by rw [hPR]; simp [ksOf]
    have vk : (vsOf E)[P.length]? = some (optN o) := by rw [hPR]; simp [vsOf]
    have py := optN_py o
    refine forw_cons T (asw_name (nm_local rfl (.there (.there .here)) ?_))
    refine sw_if (tw_cmp (ew_callF (at_else_of g) rfl (mg_else_of g) (lw_cons (ew_name .here (lw_cons (ew_binop (ew_name (.there (.there .here)) (ew_int (w2_add (lw_nil (((c_else_of g l hl (by omega) (i + 1) h1).le (by decide)).mono fun v e => ?_)))))))))))
    subst e
    refine ew_sub (ew_name (.there .here) (ew_name (.there (.there .here)) (w2_item_dct kk vk (w2_ne ?_ py.1 ?_ py.2 ?_ (t1_bool ?_)))))
    · rw [← h2]; exact py.1
    · rw [← h2]; exact py.2
    · cases o <;> (rw [← h2]; simp [toPy, optN, PyData.depth])
    rw [← h2, PySem.SeqAt.eqv_refl _ py.2, if_neg (by simp)]
    exact sw_nil (ih (P ++ [(i, o)]) (by rw [hPR]; simp) [("at", some (.int i)), ("end", x2)] rfl)
end Mine

-- F8
namespace Mine
open PySem PySem.Calls PySem.W PyProof.Rows

theorem mg_law_if (g : Gr) : g.mg "_law_if" = some (.ref 163) := mg_of g.kin g.gs (by kernel_rfl)
noncomputable def lawIf : List Tok := [tIF, .s "name" "A", .s "word" "THEN"]
theorem vr_law_if (g : Gr) (X : List Addr) (hX : ∀ a ∈ X, g.h.get? a = none) : VR g.w X g.h (rowV lawIf) (.ref 163) := by
  have e := g.kin 163 _ rfl
  have e0 := g.kin 160 _ rfl
  have e1 := g.kin 161 _ rfl
  have e2 := g.kin 162 _ rfl
  have nx : ∀ {a o}, g.h.get? a = some o → a ∉ X := fun h q => by rw [hX _ q] at h; cases h
  simp only [rowV, lawIf, List.map_cons, List.map_nil, Tok.v, VR, VRs]
  exact ⟨163, [_, _, _], rfl, nx e, ⟨_, e, rfl, _, rfl⟩, _, _, rfl, ⟨160, [_, _], rfl, nx e0, ⟨_, e0, rfl, _, rfl⟩, _, _, rfl, ⟨_, rfl⟩, _, _, rfl, ⟨_, rfl⟩, rfl⟩,
    _, _, rfl, ⟨161, [_, _], rfl, nx e1, ⟨_, e1, rfl, _, rfl⟩, _, _, rfl, ⟨_, rfl⟩, _, _, rfl, ⟨_, rfl⟩, rfl⟩,
    _, _, rfl, ⟨162, [_, _], rfl, nx e2, ⟨_, e2, rfl, _, rfl⟩, _, _, rfl, ⟨_, rfl⟩, _, _, rfl, ⟨_, rfl⟩, rfl⟩, rfl⟩
noncomputable def formOf (n : Nat) : List Tok := if n % 6 < 2 then lawIf else if n % 6 < 4 then [tELSE] else if n % 6 = 4 then [tCOLON, .s "word" "END"] else [.s "word" "PRINT", .s "text" "ELSE"]
noncomputable def rowOf (ns : List Nat) : List Tok := if ns.sum % 4 = 3 then ns.flatMap formOf ++ [tREM, .s "raw" "IF ELSE"] else ns.flatMap formOf
noncomputable abbrev natsV (ns : List Nat) : V := .lst (ns.map fun (k : Nat) => V.int (k : Int))
theorem fmod_nat (n k : Nat) : (n : Int).fmod (k : Int) = ((n % k : Nat) : Int) := by
  rw [Int.fmod_eq_emod_of_nonneg _ (Int.natCast_nonneg k)]; rfl
theorem sum_nat (ns : List Nat) : (ns.map fun k : Nat => (k : Int)).sum = (ns.sum : Int) := by
  induction ns with
  | nil => rfl
  | cons a l ih => simp [ih]
theorem form_len (n : Nat) : (formOf n).length ≤ 3 := by unfold formOf; split; decide; split; decide; split <;> decide

theorem wl_sumN {g : Gr} {n : Lv} {O : Led} {ns : List Nat} {Q : V → Led → Prop} (q : Q (.int (ns.sum : Int)) O) : WL g n (fun us => call (.builtin "sum") us) [natsV ns] O Q := by
  have := wl_sum (g := g) (n := n) (O := O) (ns := ns.map fun k : Nat => (k : Int)) (Q := Q) (by rw [sum_nat]; exact q)
  rw [List.map_map] at this
  exact this
theorem ty_append : typeOf (.builtin "list.append") = pure (.type "method_descriptor") := by kernel_rfl

theorem c_law_row (g : Gr) (ns : List Nat) (hn : ns.length ≤ 1000) : FW g 1 170 [natsV ns] (fun v => v = rowV (rowOf ns)) := by
  refine fw1 (rest := ["found", "number", "form"]) (at_law_row g) (fun _ _ _ _ => rfl) rfl (by decide) rfl rfl rfl (by decide) fun L cd => ?_
  refine sw_cons (s1_assign (ew_listN (lw_nil fun x => nm_local rfl (.there .here) ?_)))
  refine sw_cons (s1_for (ie_value (ew_name .here ⟨_, itw_lst, ?_⟩)))
  intro I wr C T
  obtain ⟨acc, hacc⟩ : ∃ acc : List Tok, acc = [] := ⟨_, rfl⟩
  obtain ⟨r, hr⟩ : ∃ r : List Nat, r = ns := ⟨_, rfl⟩
  rw [show AO.list [] = AO.list (acc.map Tok.v) by rw [hacc]; rfl, show (ns.map fun k : Nat => V.int (k : Int)) = (r.map fun k : Nat => V.int (k : Int)) by rw [hr]]
  have hA : acc ++ r.flatMap formOf = ns.flatMap formOf := by rw [hacc, hr]; rfl
  have hlen : acc.length + 3 * r.length ≤ 3000 := by rw [hacc, hr]; simp; omega
  generalize htl : List.map (fun x => ((x, none) : Str × Option V)) ["number", "form"] = tl
  have hk : tl.map (·.1) = [("number" : Str), "form"] := by rw [← htl]; rfl
  obtain ⟨O0, hO⟩ : ∃ O0 : Led, O0 = [] := ⟨_, rfl⟩
  rw [show [(x, AO.list (acc.map Tok.v))] = (x, AO.list (acc.map Tok.v)) :: O0 by rw [hO]]
  clear hacc hr htl hO
  induction r generalizing acc tl O0 x with
  | nil =>
    refine forw_nil T ?_
    obtain ⟨x1, x2, rfl⟩ := keys2 hk
    simp only [List.flatMap_nil, List.append_nil] at hA
    subst hA
    refine sw_cons (s1_return (ew_ifexp (tw_cmp (ew_binop (ew_callB rfl (mg_sum g) (by decide) bb_sum (lw_cons (ew_name .here (lw_nil (wl_sumN (ew_int (w2_mod (by decide) (ew_int (w2_eq rfl rfl rfl rfl (by simp [toPy, PyData.depth]) (t1_bool ?_))))))))))))))
    rw [show (ns.sum : Int).fmod 4 = ((ns.sum % 4 : Nat) : Int) from fmod_nat _ 4]
    by_cases c : ns.sum % 4 = 3
    · rw [if_pos (by simp [toPy, PyData.eqv, c])]
      refine ew_binop (ew_name (.there .here) (ew_list (lw_cons (ew_str2 (lw_cons (ew_str2 (lw_nil (w2_addl_ref (.head _) ?_ ⟨_, .same _, ?_⟩))))))))
      · simp at hlen ⊢; omega
      · simp only [rowOf, c, if_true, rowV, List.map_append, List.map_cons, List.map_nil, Tok.v]
    · rw [if_neg (by simp [toPy, PyData.eqv]; omega)]
      refine ew_name (.there .here) ⟨_, .list (.head _), ?_⟩
      simp only [rowOf, c, if_false]
  | cons k r ih =>
    obtain ⟨x1, x2, rfl⟩ := keys2 hk
    refine forw_cons T (asw_name (nm_local rfl (.there (.there .here)) ?_))
    refine sw_cons (s1_assign (ew_binop (ew_name (.there (.there .here)) (ew_int (w2_mod (by decide) (nm_local rfl (.there (.there (.there .here))) ?_))))))
    rw [show (k : Int).fmod 6 = ((k % 6 : Nat) : Int) from fmod_nat k 6]
    simp only [List.length_cons] at hlen
    have fl := form_len k
    refine sw_if (tw_cmp (ew_name (.there (.there (.there .here))) (ew_int (w2_lt (t1_bool ?_)))))
    by_cases c1 : k % 6 < 2
    · rw [if_pos (by simp; omega)]
      have ef : formOf k = lawIf := by simp [formOf, c1]
      refine sw_cons (s1_assign (ew_binop (ew_name (.there .here) (ew_global rfl (mg_law_if g) (vr_law_if g) (w2_addlN (.inr ⟨x, rfl, .head _⟩) ?_ fun x' => nm_local rfl (.there .here) ?_)))))
      · rw [List.length_map, List.length_map, ← ef]; omega
      · rw [← List.map_append]
        exact sw_nil (ih x' (acc ++ lawIf) (by rw [← hA, List.flatMap_cons, ef, List.append_assoc]) (by rw [List.length_append, ← ef]; omega) _ rfl _)
    rw [if_neg (by simp; omega)]
    refine sw_if (tw_cmp (ew_name (.there (.there (.there .here))) (ew_int (w2_lt (t1_bool ?_)))))
    by_cases c2 : k % 6 < 4
    · rw [if_pos (by simp; omega)]
      have ef : formOf k = [tELSE] := by simp [formOf, c1, c2]
      refine sw_cons (s1_lmeth PySem.F.slot_list_append ty_append (ew_name (.there .here) ⟨x, _, rfl, .head _, lw_cons (ew_str2 (lw_nil ⟨tELSE.v, acc.map Tok.v, _, .here, ?_, ?_, .inl ⟨rfl, rfl⟩⟩))⟩))
      · rw [List.length_map]; omega
      · have := ih x (acc ++ [tELSE]) (by rw [← hA, List.flatMap_cons, ef, List.append_assoc]) (by rw [List.length_append, ← ef]; omega) [("number", some (.int k)), ("form", some (.int ((k % 6 : Nat) : Int)))] rfl O0
        rw [List.map_append] at this
        exact sw_nil this
    rw [if_neg (by simp; omega)]
    refine sw_cons (s1_assign (ew_binop (ew_name (.there .here) (ew_ifexp (tw_cmp (ew_name (.there (.there (.there .here))) (ew_int (w2_eq rfl rfl rfl rfl (by simp [toPy, PyData.depth]) (t1_bool ?_)))))))))
    by_cases c3 : k % 6 = 4
    · rw [if_pos (by simp [toPy, PyData.eqv, c3])]
      have ef : formOf k = [tCOLON, .s "word" "END"] := by simp [formOf, c1, c2, c3]
      refine ew_list (lw_cons (ew_str2 (lw_cons (ew_str2 (lw_nil (w2_addlN (.inr ⟨x, rfl, .head _⟩) ?_ fun x' => nm_local rfl (.there .here) ?_))))))
      · rw [List.length_map]; simp; omega
      · have := ih x' (acc ++ [tCOLON, .s "word" "END"]) (by rw [← hA, List.flatMap_cons, ef, List.append_assoc]) (by rw [List.length_append, ← ef]; omega) [("number", some (.int k)), ("form", some (.int ((k % 6 : Nat) : Int)))] rfl ((x, .list (acc.map Tok.v)) :: O0)
        rw [List.map_append] at this
        exact sw_nil this
    · rw [if_neg (by simp [toPy, PyData.eqv]; omega)]
      have ef : formOf k = [.s "word" "PRINT", .s "text" "ELSE"] := by simp [formOf, c1, c2, c3]
      refine ew_list (lw_cons (ew_str2 (lw_cons (ew_str2 (lw_nil (w2_addlN (.inr ⟨x, rfl, .head _⟩) ?_ fun x' => nm_local rfl (.there .here) ?_))))))
      · rw [List.length_map]; simp; omega
      · have := ih x' (acc ++ [.s "word" "PRINT", .s "text" "ELSE"]) (by rw [← hA, List.flatMap_cons, ef, List.append_assoc]) (by rw [List.length_append, ← ef]; omega) [("number", some (.int k)), ("form", some (.int ((k % 6 : Nat) : Int)))] rfl ((x, .list (acc.map Tok.v)) :: O0)
        rw [List.map_append] at this
        exact sw_nil this
end Mine

-- F9
namespace Mine
open PySem PySem.Calls PySem.W PyProof.Rows
open PySem.StrLaws

theorem mg_BLANKS (g : Gr) : ∃ t, g.mg "BLANKS" = some (.str " \t" t) := ⟨_, mg_of g.kin g.gs (by rfl)⟩
theorem mg_GREATEST (g : Gr) : ∃ t, g.mg "GREATEST" = some (.int 65529 t) := ⟨_, mg_of g.kin g.gs (by rfl)⟩
theorem mg_MOST (g : Gr) : ∃ t, g.mg "MOST" = some (.int 32767 t) := ⟨_, mg_of g.kin g.gs (by rfl)⟩

noncomputable abbrev txt (cs : List Nat) : Str := ⟨cs.toArray⟩
theorem txt_len (cs : List Nat) : (txt cs).length = cs.length := by simp [Str.length]
theorem txt_get (cs : List Nat) (i : Nat) : (txt cs).cps[i]? = cs[i]? := by simp

/-- where a sign stands -/
noncomputable def idx (c : Nat) : List Nat → Option Nat
  | [] => none
  | d :: r => if d = c then some 0 else (idx c r).map (· + 1)
theorem occ_keep (s sub : Str) (hi : Nat) : ∀ (l : List Nat) (a f : Nat), (forIn l ((#[a] : Array Nat), f) (occBody s sub hi 1)).run.fst = #[a]
  | [], a, f => rfl
  | b :: l, a, f => by
    rw [List.forIn_cons]
    unfold occBody
    rw [if_neg (by simp)]
    exact occ_keep s sub hi l a f
theorem occ_first (cs : List Nat) (c : Nat) : ∀ (r : List Nat) (a free : Nat), free ≤ a → cs.drop a = r → a ≤ cs.length →
    (forIn (List.range' a (r.length + 1)) ((#[] : Array Nat), free) (occBody (txt cs) ⟨#[c]⟩ cs.length 1)).run.fst.toList = (match idx c r with | some j => [a + j] | none => []) := by
  intro r
  induction r with
  | nil =>
    intro a free hf hd ha
    have : cs.length ≤ a := by simpa using hd
    simp only [List.length_nil, List.range'_succ, List.forIn_cons]
    unfold occBody
    rw [if_neg (fun h => by have := h.1.2; simp [Str.length] at this; omega)]
    rfl
  | cons d r ih =>
    intro a free hf hd ha
    obtain ⟨hlt, hg, hr⟩ := drop_cons hd
    rw [List.length_cons, List.range'_succ, List.forIn_cons]
    have sub : (a + (⟨#[c]⟩ : Str).length ≤ (txt cs).length ∧ Builtin.Str.subAt (txt cs) ⟨#[c]⟩ a = true) ↔ d = c := by
      rw [subAt_one]
      show cs.toArray.toList[a]? = some c ↔ _
      rw [List.toList_toArray, hg]; simp
    rw [txt_len] at sub
    unfold occBody
    by_cases h : d = c
    · have q := sub.mpr h
      rw [if_pos ⟨⟨⟨by simp, hf⟩, q.1⟩, q.2⟩]
      show (forIn (List.range' (a + 1) (r.length + 1)) ((#[].push a : Array Nat), _) (occBody (txt cs) ⟨#[c]⟩ cs.length 1)).run.fst.toList = _
      rw [show (#[].push a : Array Nat) = #[a] from rfl, occ_keep]
      simp [idx, h]
    · rw [if_neg (fun q => h (sub.mp ⟨q.1.2, q.2⟩))]
      show (forIn (List.range' (a + 1) (r.length + 1)) ((#[] : Array Nat), free) (occBody (txt cs) ⟨#[c]⟩ cs.length 1)).run.fst.toList = _
      rw [ih (a + 1) free (by omega) hr (by omega)]
      simp only [idx, h, if_false]
      cases idx c r with
      | none => rfl
      | some j => simp only [Option.map, List.cons.injEq, and_true]; omega
theorem find3_at (cs : List Nat) (c i : Nat) (hi : i ≤ cs.length) : Txt.find3 (txt cs) ⟨#[c]⟩ (i : Int) = (match idx c (cs.drop i) with | some j => ((i + j : Nat) : Int) | none => -1) := by
  unfold Txt.find3
  have e : fromIndex (txt cs).length (i : Int) = i := by unfold fromIndex; rw [if_neg (Int.not_lt.mpr (Int.natCast_nonneg i)), Int.max_eq_right (Int.natCast_nonneg i)]; rfl
  have k := occ_first cs c (cs.drop i) i i (Nat.le_refl _) rfl hi
  rw [e, txt_len, occ_eq]
  rw [show cs.length + 1 - i = (cs.drop i).length + 1 by rw [List.length_drop]; exact Nat.sub_add_comm hi, k]
  cases idx c (cs.drop i) <;> rfl

noncomputable def isB (c : Nat) : Bool := decide (c ∈ [32, 9])
noncomputable def isS (c : Nat) : Bool := decide (c ∈ [44, 58])
noncomputable def skip (p : Nat → Bool) : List Nat → Nat
  | [] => 0
  | c :: r => if p c = true then skip p r + 1 else 0

section
variable {g : Gr} {O : Led} {n : Lv} {env : Env} {m : Loc}
theorem ew_lentxt {cs : List Nat} {x : Str} {p1 p2 pos} {Q : V → Led → Prop} (hk : env.kindOf "len" = some .globalImplicit) (hx : Get m x (.str (txt cs))) (hl : cs.length < 2 ^ 40) (q : Q (.int cs.length) O)
    (hdx : (x == ("__debug__" : Str)) = false := by decide) : EW g n env m O (.Call (.Name "len" p1) [.Name x p2] [] pos) Q :=
  ew_callB hk (mg_len g) (by decide) bb_len (lw_cons (ew_name hx (lw_nil (wl_len_str (by rw [txt_len]; omega) (by rw [txt_len]; exact q))) hdx))
theorem ew_sign {cs : List Nat} {i c : Nat} {x y : Str} {p1 p2 pos} {Q : V → Led → Prop} (hx : Get m x (.str (txt cs))) (hy : Get m y (.int i)) (hi : cs[i]? = some c) (hl : cs.length < 2 ^ 40) (q : Q (.str ⟨#[c]⟩) O)
    (hdx : (x == ("__debug__" : Str)) = false := by decide) (hdy : (y == ("__debug__" : Str)) = false := by decide) : EW g n env m O (.Subscript (.Name x p1) (.Name y p2) pos) Q := by
  have hlt : i < cs.length := by
    rcases Nat.lt_or_ge i cs.length with q | q
    · exact q
    · rw [List.getElem?_eq_none q] at hi; cases hi
  exact ew_sub (ew_name hx (ew_name hy (w2_item_str (by omega) (by omega) (by rw [Int.toNat_natCast, txt_get]; exact hi) q) hdy) hdx)
theorem blanks_cps : (Str.ofString " \t").cps.toList = [32, 9] := by decide +kernel
theorem marks_cps : (Str.ofString ",:").cps.toList = [44, 58] := by decide +kernel
end

theorem c_blanks (g : Gr) (cs : List Nat) (hl : cs.length < 2 ^ 40) (i : Nat) (hi : i ≤ cs.length) : FW g 1 49 [.str (txt cs), .int i] (fun v => v = .int ((i + skip isB (cs.drop i) : Nat) : Int)) := by
  generalize hN : i + skip isB (cs.drop i) = N
  obtain ⟨tB, hB⟩ := mg_BLANKS g
  refine fw2 (rest := []) (at_behind_blanks g) (fun _ _ _ _ _ => rfl) ⟨rfl, rfl⟩ (by decide) rfl rfl rfl (by decide) fun L cd => ?_
  refine sw_cons (s1_while ?_)
  obtain ⟨r, hr⟩ : ∃ r, cs.drop i = r := ⟨_, rfl⟩
  induction r generalizing i with
  | nil =>
    have hge : cs.length ≤ i := by simpa using hr
    refine ww_step (tw_boolop (aw_and (tw_cmp (ew_name (.there .here) (ew_lentxt rfl .here hl (w2_lt (t1_bool ?_)))))))
    rw [if_neg (by simp; omega), if_neg (by simp)]
    refine sw_cons (s1_return (ew_name (.there .here) ⟨_, .same _, ?_⟩))
    rw [hr] at hN; simp [skip] at hN; rw [hN]
  | cons c r ih =>
    obtain ⟨hlt, hg, hr'⟩ := drop_cons hr
    rw [hr, skip] at hN
    refine ww_step (tw_boolop (aw_and (tw_cmp (ew_name (.there .here) (ew_lentxt rfl .here hl (w2_lt (t1_bool ?_)))))))
    rw [if_pos (by simp; omega)]
    refine aw_and (tw_cmp (ew_sign .here (.there .here) hg hl (ew_global rfl hB (v := .str " \t") (fun X hX => by simp only [VR]; exact ⟨_, rfl⟩) (w2_ins (t1_bool ?_)))))
    rw [found_one, blanks_cps]
    cases hc : decide (c ∈ [32, 9]) with
    | false =>
      rw [if_neg (by simp), if_neg (by simp)]
      refine sw_cons (s1_return (ew_name (.there .here) ⟨_, .same _, ?_⟩))
      rw [isB, hc, if_neg (by simp)] at hN
      rw [← hN]; rfl
    | true =>
      rw [if_pos rfl]
      refine aw_and_nil ?_
      rw [if_pos rfl]
      rw [isB, hc, if_pos rfl] at hN
      exact sw_cons (s1_aug (.there .here) (ew_int (w2_iadd (nm_local rfl (.there .here) (sw_nil (ih (i + 1) (by omega) (by rw [hr']; omega) hr'))))))
end Mine

-- F10
namespace Mine
open PySem PySem.Calls PySem.W PyProof.Rows
open PySem.StrLaws

theorem sl_from {α : Type} (l : List α) {i : Nat} (h : i ≤ l.length) : slV l (some (i : Int)) none = l.drop i := by
  unfold slV
  simp only [Option.elim, clip_in h]
  rw [List.take_of_length_le (by rw [List.length_drop]; omega)]
theorem sl_run' {α : Type} (l : List α) {i e : Nat} (h1 : i ≤ e) (h2 : e ≤ l.length) : slV l (some (i : Int)) (some (e : Int)) = (l.drop i).take (e - i) := by
  unfold slV
  simp only [Option.elim, clip_in h2, clip_in (Nat.le_trans h1 h2)]
theorem idx_lt : ∀ {l : List Nat} {c j : Nat}, idx c l = some j → j < l.length
  | [], _, _, h => by simp [idx] at h
  | d :: r, c, j, h => by
    rw [idx] at h
    split at h
    · cases h; exact Nat.succ_pos _
    · obtain ⟨k, hk, rfl⟩ := Option.map_eq_some_iff.mp h
      exact Nat.succ_lt_succ (idx_lt hk)

theorem c_quoted (g : Gr) (cs : List Nat) (hl : cs.length ≤ 100000) (i : Nat) (hi : i < cs.length) : FW g 1 56 [.str (txt cs), .int i]
    (fun v => v = (match idx 34 (cs.drop (i + 1)) with | none => .tup [.str (txt (cs.drop (i + 1))), .int cs.length] | some j => .tup [.str (txt ((cs.drop (i + 1)).take j)), .int ((i + j + 2 : Nat) : Int)])) := by
  refine fw2 (rest := ["end"]) (at_read_quoted g) (fun _ _ _ _ _ => rfl) ⟨rfl, rfl⟩ (by decide) rfl rfl rfl (by decide) fun L cd => ?_
  refine sw_cons (s1_assign (ew_meth (ew_name .here ⟨mg_str PySem.F.slot_str_find PySem.F.type_str_find, lw_cons (ew_str (lw_cons (ew_binop (ew_name (.there .here) (ew_int (w2_add (lw_nil (wl_find3 (nm_local rfl (.there (.there .here)) ?_)))))))))⟩)))
  have ef := find3_at cs 34 (i + 1) hi
  rw [show Txt.find3 (txt cs) (Str.ofString "\"") ((i : Int) + 1) = Txt.find3 (txt cs) ⟨#[34]⟩ ((i + 1 : Nat) : Int) from rfl, ef]
  have len : (txt cs).length ≤ 100000 := by rw [txt_len]; exact hl
  cases hx : idx 34 (cs.drop (i + 1)) with
  | none =>
    refine sw_if (tw_cmp (ew_name (.there (.there .here)) (ew_int (w2_lt (t1_bool ?_)))))
    rw [if_pos (by simp)]
    refine sw_cons (s1_return (ew_tuple (lw_cons (ew_slice_str (ew_name .here ⟨_, rfl, len, pw_some (ew_binop (ew_name (.there .here) (ew_int (w2_add ⟨_, rfl, pw_none (lw_cons (ew_lentxt rfl .here (by omega) (lw_nil ⟨_, .same _, ?_⟩)))⟩))))⟩)))))
    show V.tup [.str ⟨(slV cs.toArray.toList (some ((i + 1 : Nat) : Int)) none).toArray⟩, _] = _
    rw [List.toList_toArray, sl_from cs hi]
  | some j =>
    have hj := idx_lt hx
    rw [List.length_drop] at hj
    refine sw_if (tw_cmp (ew_name (.there (.there .here)) (ew_int (w2_lt (t1_bool ?_)))))
    rw [if_neg (by simp; omega)]
    refine sw_cons (s1_return (ew_tuple (lw_cons (ew_slice_str (ew_name .here ⟨_, rfl, len, pw_some (ew_binop (ew_name (.there .here) (ew_int (w2_add ⟨_, rfl, pw_some (ew_name (.there (.there .here)) ⟨_, rfl, lw_cons (ew_binop (ew_name (.there (.there .here)) (ew_int (w2_add (lw_nil ⟨_, .same _, ?_⟩)))))⟩)⟩))))⟩)))))
    show V.tup [.str ⟨(slV cs.toArray.toList (some ((i + 1 : Nat) : Int)) (some ((i + 1 + j : Nat) : Int))).toArray⟩, _] = _
    rw [List.toList_toArray, sl_run' cs (by omega) (by omega), show i + 1 + j - (i + 1) = j by omega]
    simp only [V.tup.injEq, List.cons.injEq, V.int.injEq, and_true, true_and]; omega
end Mine

-- F11
namespace Mine
open PySem PySem.Calls PySem.W PyProof.Rows
open PySem.StrLaws

theorem sl_one {α : Type} (l : List α) {i : Nat} (h : i ≤ l.length) : slV l (some (i : Int)) (some ((i : Int) + 1)) = (l.drop i).take 1 := by
  rcases Nat.lt_or_ge i l.length with q | q
  · have := sl_run' l (i := i) (e := i + 1) (by omega) q
    rw [show i + 1 - i = 1 by omega] at this
    exact this
  · unfold slV
    simp only [Option.elim, clip_in h]
    rw [List.drop_of_length_le q]; simp
theorem txt_quote (l : List Nat) : decide (txt (l.take 1) = "\"") = decide (l.head? = some 34) := by
  cases l with
  | nil => decide +kernel
  | cons c r =>
    simp only [List.take_succ_cons, List.take_zero, List.head?_cons]
    have : (Str.ofString "\"") = ⟨#[34]⟩ := by decide +kernel
    rw [this]
    simp
noncomputable def rItem (r : List Nat) : Option (List Nat × Nat) :=
  if (r.drop (skip isB r)).head? = some 34 then
    match idx 34 (r.drop (skip isB r + 1)) with
    | none => some (r.drop (skip isB r + 1), r.length)
    | some j => if (r.drop (skip isB r + j + 2 + skip isB (r.drop (skip isB r + j + 2)))).head?.all isS = true then some ((r.drop (skip isB r + 1)).take j, skip isB r + j + 2 + skip isB (r.drop (skip isB r + j + 2))) else none
  else
    some (((r.drop (skip isB r)).take (skip (fun c => !isS c) (r.drop (skip isB r)))).take (skip (fun c => !isS c) (r.drop (skip isB r)) - skip isB ((r.drop (skip isB r)).take (skip (fun c => !isS c) (r.drop (skip isB r)))).reverse), skip isB r + skip (fun c => !isS c) (r.drop (skip isB r)))
theorem skip_le (p : Nat → Bool) : ∀ l : List Nat, skip p l ≤ l.length
  | [] => Nat.le_refl _
  | c :: r => by
    rw [skip]
    split
    · exact Nat.succ_le_succ (skip_le p r)
    · exact Nat.zero_le _
theorem keys5 {t : Loc} {a b c d e : Str} (h : t.map (·.1) = [a, b, c, d, e]) : ∃ x1 x2 x3 x4 x5, t = [(a, x1), (b, x2), (c, x3), (d, x4), (e, x5)] := by
  obtain ⟨x1, t1, rfl, h1⟩ := keys_cons h
  obtain ⟨x2, t2, rfl, h2⟩ := keys_cons h1
  obtain ⟨x3, t3, rfl, h3⟩ := keys_cons h2
  obtain ⟨x4, t4, rfl, h4⟩ := keys_cons h3
  obtain ⟨x5, t5, rfl, h5⟩ := keys_cons h4
  exact ⟨x1, x2, x3, x4, x5, by rw [List.map_eq_nil_iff.mp h5]⟩

theorem skip_zero {p : Nat → Bool} {l : List Nat} (h : skip p l = 0) : ∀ c, l[0]? = some c → p c = false := fun c hc => by
  cases l with
  | nil => cases hc
  | cons d r =>
    rw [skip] at h
    split at h
    · cases h
    · rename_i q
      cases hc
      simpa using q
theorem skip_succ {p : Nat → Bool} {l : List Nat} {k : Nat} (h : skip p l = k + 1) : ∃ c r, l = c :: r ∧ p c = true ∧ skip p r = k := by
  cases l with
  | nil => cases h
  | cons d r =>
    rw [skip] at h
    split at h
    · rename_i q; exact ⟨d, r, rfl, q, by omega⟩
    · cases h
/-- the test of both loops: a sign is there, and it is no mark -/
theorem tw_marks {g : Gr} {O : Led} {n : Lv} {env : Env} {m : Loc} {cs : List Nat} {e : Nat} {p1 p2 p3 p4 p5 p6 p7 p8 p9 k1 : _} {p10 p11 : Pos} {Q : Bool → Led → Prop} (hk : env.kindOf "len" = some .globalImplicit) (hx : Get m "text" (.str (txt cs))) (hy : Get m "at" (.int e)) (hl : cs.length ≤ 100000)
    (q : Q (match cs[e]? with | none => false | some c => !isS c) O) : TW g n env m O (.BoolOp .And [.Compare (.Name "at" p1) [.Lt] [.Call (.Name "len" p2) [.Name "text" p3] [] p4] p5, .Compare (.Subscript (.Name "text" p6) (.Name "at" p7) p8) [.NotIn] [.Constant (.str ",:") k1 p9] p10] p11) Q := by
  refine tw_boolop (aw_and (tw_cmp (ew_name hy (ew_lentxt hk hx (by omega) (w2_lt (t1_bool ?_))))))
  cases hg : cs[e]? with
  | none =>
    have hge : cs.length ≤ e := by simpa using hg
    rw [hg] at q
    rw [if_neg (by simp; omega)]; exact q
  | some c =>
    have hlt2 := (List.getElem?_eq_some_iff.mp hg).1
    rw [hg] at q
    rw [if_pos (by simp; omega)]
    refine aw_and (tw_cmp (ew_sign hx hy hg (by omega) (ew_str (w2_notins (t1_bool ?_)))))
    rw [found_one, marks_cps, show decide (c ∈ [44, 58]) = isS c from rfl]
    simp only at q
    cases h : isS c with
    | true => rw [h] at q; simp only [Bool.not_true] at q ⊢; rw [if_neg (by simp)]; exact q
    | false => rw [h] at q; simp only [Bool.not_false] at q ⊢; rw [if_pos trivial]; exact aw_and_nil q
noncomputable def backB (cs : List Nat) (B : Nat) : Nat → Bool
  | 0 => false
  | a + 1 => isB (cs.getD (B + a) 0)
/-- and the test of the loop that goes back -/
theorem tw_back {g : Gr} {O : Led} {n : Lv} {env : Env} {m : Loc} {cs : List Nat} {B a : Nat} {p1 p2 p3 p5 p6 p7 p8 p9 k1 : _} {p10 p11 p12 : Pos} {Q : Bool → Led → Prop} (hx : Get m "text" (.str (txt cs))) (hy : Get m "end" (.int ((B + a : Nat) : Int))) (hz : Get m "begin" (.int B)) (hl : cs.length ≤ 100000)
    (hkb : env.kindOf "BLANKS" = some .globalImplicit) (ha : B + a ≤ cs.length)
    (q : Q (backB cs B a) O) : TW g n env m O (.BoolOp .And [.Compare (.Name "end" p1) [.Gt] [.Name "begin" p2] p5, .Compare (.Subscript (.Name "text" p6) (.BinOp (.Name "end" p7) .Sub (.Constant (.int 1) k1 p12) p3) p8) [.In] [.Name "BLANKS" p9] p10] p11) Q := by
  obtain ⟨tB, hB⟩ := mg_BLANKS g
  refine tw_boolop (aw_and (tw_cmp (ew_name hy (ew_name hz (w2_gt (t1_bool ?_))))))
  cases a with
  | zero => rw [if_neg (by simp)]; exact q
  | succ a =>
    rw [if_pos (by simp; omega)]
    have hg : cs[B + a]? = some (cs.getD (B + a) 0) := by rw [List.getD_eq_getElem?_getD, List.getElem?_eq_getElem (by omega)]; rfl
    refine aw_and (tw_cmp (ew_sub (ew_name hx (ew_binop (ew_name hy (ew_int (w2_sub (w2_item_str (c := cs.getD (B + a) 0) (by omega) (by omega) (by rw [show (((B + (a + 1) : Nat) : Int) - 1).toNat = B + a by omega, txt_get]; exact hg) (ew_global hkb hB (v := .str " \t") (fun X hX => by simp only [VR]; exact ⟨_, rfl⟩) (w2_ins (t1_bool ?_)))))))))))
    rw [found_one, blanks_cps, show decide (cs.getD (B + a) 0 ∈ [32, 9]) = isB (cs.getD (B + a) 0) from rfl]
    simp only [backB] at q
    cases h : isB (cs.getD (B + a) 0) with
    | true => rw [h] at q; rw [if_pos rfl]; exact aw_and_nil q
    | false => rw [h] at q; rw [if_neg (by simp)]; exact q

theorem c_item (g : Gr) (cs : List Nat) (hl : cs.length ≤ 100000) (hc : ∀ c ∈ cs, c < 0x110000) (i : Nat) (hi : i ≤ cs.length) (x : List Nat) (k : Nat) (hx : rItem (cs.drop i) = some (x, k)) :
    FW g 2 63 [.str (txt cs), .int i] (fun v => v = .tup [.str (txt x), .int ((i + k : Nat) : Int)]) := by
  have lr : (cs.drop i).length = cs.length - i := List.length_drop ..
  have hb : skip isB (cs.drop i) ≤ cs.length - i := lr ▸ skip_le isB (cs.drop i)
  unfold rItem at hx
  simp only [List.drop_drop] at hx
  generalize hbb : skip isB (cs.drop i) = b at hx hb
  refine fw2 (rest := ["found", "begin", "end"]) (at_read_item g) (fun _ _ _ _ _ => rfl) ⟨rfl, rfl⟩ (by decide) rfl rfl rfl (by decide) fun L cd => ?_
  refine sw_cons (s1_assign (ew_callF (at_behind_blanks g) rfl (mg_behind_blanks g) (lw_cons (ew_name .here (lw_cons (ew_name (.there .here) (lw_nil ((c_blanks g cs (by omega) i hi).mono fun v e => ?_))))))))
  subst e
  rw [hbb]
  refine nm_local rfl (.there .here) ?_
  have len : (txt cs).length ≤ 100000 := by rw [txt_len]; exact hl
  have hib : i + b ≤ cs.length := by omega
  refine sw_if (tw_cmp (ew_slice_str (ew_name .here ⟨_, rfl, len, pw_some (ew_name (.there .here) ⟨_, rfl, pw_some (ew_binop (ew_name (.there .here) (ew_int (w2_add ⟨_, rfl, ew_str ?_⟩))))⟩)⟩)))
  rw [List.toList_toArray, sl_one cs hib]
  refine w2_eqstr ?_ (by decide +kernel) (t1_bool ?_)
  · simp only [toPy, PyData.canLay0, PyData.strOk]
    rw [Array.all_eq_true']
    intro c h
    exact decide_eq_true (hc c (List.mem_of_mem_drop (List.mem_of_mem_take (by simpa using h))))
  rw [txt_quote]
  by_cases hq : (cs.drop (i + b)).head? = some 34
  · rw [decide_eq_true hq, if_pos rfl]
    rw [if_pos hq] at hx
    have hlt : i + b < cs.length := by
      rcases Nat.lt_or_ge (i + b) cs.length with q | q
      · exact q
      · rw [List.drop_of_length_le q] at hq; cases hq
    refine sw_cons (s1_assign_tuple (ew_callF (at_read_quoted g) rfl (mg_read_quoted g) (lw_cons (ew_name .here (lw_cons (ew_name (.there .here) (lw_nil (((c_quoted g cs hl (i + b) hlt).le (by decide)).mono fun v e => ?_))))))))
    subst e
    rw [show i + (b + 1) = i + b + 1 from rfl] at hx
    cases hj : idx 34 (cs.drop (i + b + 1)) with
    | none =>
      simp only [hj, Option.some.injEq, Prod.mk.injEq] at hx
      refine asw_tuple (asw_name (nm_local rfl (.there (.there .here)) (asw_name (nm_local rfl (.there .here) ?_))))
      refine sw_cons (s1_assign (ew_callF (at_behind_blanks g) rfl (mg_behind_blanks g) (lw_cons (ew_name .here (lw_cons (ew_name (.there .here) (lw_nil ((c_blanks g cs (by omega) cs.length (Nat.le_refl _)).mono fun v e => ?_))))))))
      subst e
      rw [List.drop_length, skip, Nat.add_zero]
      refine nm_local rfl (.there .here) ?_
      refine sw_if (tw_boolop (aw_and (tw_cmp (ew_name (.there .here) (ew_lentxt rfl .here (by omega) (w2_lt (t1_bool ?_)))))))
      rw [if_neg (by simp), if_neg (by simp)]
      refine sw_cons (s1_return (ew_tuple (lw_cons (ew_name (.there (.there .here)) (lw_cons (ew_name (.there .here) (lw_nil ⟨_, .same _, ?_⟩)))))))
      rw [← hx.1, ← hx.2, lr, show i + (cs.length - i) = cs.length by omega]
      try rfl
    | some j =>
      have hjl := idx_lt hj
      rw [List.length_drop] at hjl
      simp only [hj] at hx
      rw [show i + (b + j + 2) = i + b + j + 2 by rw [← Nat.add_assoc, ← Nat.add_assoc]] at hx
      have he2 := skip_le isB (cs.drop (i + b + j + 2))
      rw [List.length_drop] at he2
      refine asw_tuple (asw_name (nm_local rfl (.there (.there .here)) (asw_name (nm_local rfl (.there .here) ?_))))
      refine sw_cons (s1_assign (ew_callF (at_behind_blanks g) rfl (mg_behind_blanks g) (lw_cons (ew_name .here (lw_cons (ew_name (.there .here) (lw_nil ((c_blanks g cs (by omega) (i + b + j + 2) (by omega)).mono fun v e => ?_))))))))
      subst e
      generalize skip isB (cs.drop (i + b + j + 2)) = b2 at hx he2 ⊢
      refine nm_local rfl (.there .here) ?_
      rw [show i + (b + j + 2 + b2) = i + b + j + 2 + b2 by rw [← Nat.add_assoc, ← Nat.add_assoc, ← Nat.add_assoc]] at hx
      split at hx
      · rename_i hall
        simp only [Option.some.injEq, Prod.mk.injEq] at hx
        refine sw_if (tw_boolop (aw_and (tw_cmp (ew_name (.there .here) (ew_lentxt rfl .here (by omega) (w2_lt (t1_bool ?_)))))))
        cases hg : cs[i + b + j + 2 + b2]? with
        | none =>
          have hge : cs.length ≤ i + b + j + 2 + b2 := by simpa using hg
          rw [if_neg (by simp; omega), if_neg (by simp)]
          refine sw_cons (s1_return (ew_tuple (lw_cons (ew_name (.there (.there .here)) (lw_cons (ew_name (.there .here) (lw_nil ⟨_, .same _, ?_⟩)))))))
          rw [← hx.1, ← hx.2]
          simp only [V.tup.injEq, List.cons.injEq, V.int.injEq, and_true, true_and]; omega
        | some c =>
          have hlt2 := (List.getElem?_eq_some_iff.mp hg).1
          rw [if_pos (by simp; omega)]
          refine aw_and (tw_cmp (ew_sign .here (.there .here) hg (by omega) (ew_str (w2_notins (t1_bool ?_)))))
          have hsc : isS c = true := by
            rw [List.head?_drop, hg] at hall
            simpa using hall
          rw [found_one, marks_cps, show decide (c ∈ [44, 58]) = true from hsc, if_neg (by simp), if_neg (by simp)]
          refine sw_cons (s1_return (ew_tuple (lw_cons (ew_name (.there (.there .here)) (lw_cons (ew_name (.there .here) (lw_nil ⟨_, .same _, ?_⟩)))))))
          rw [← hx.1, ← hx.2]
          simp only [V.tup.injEq, List.cons.injEq, V.int.injEq, and_true, true_and]; omega
      · cases hx
  · rw [decide_eq_false hq, if_neg (by simp)]
    rw [if_neg hq] at hx
    refine sw_cons (s1_assign (ew_name (.there .here) (nm_local rfl (.there (.there (.there .here))) ?_)))
    refine sw_cons (s1_while ?_)
    simp only [Option.some.injEq, Prod.mk.injEq] at hx
    have hb' : i + b ≤ cs.length := hib
    have hik : ∀ w, b + w = k → i + k = i + b + w := fun w h => by omega
    replace hik := hik _ hx.2
    replace hx := hx.1
    rw [hik]
    clear hik hbb hb hib hq lr
    generalize i + b = B at hb' hx ⊢
    have hwl := skip_le (fun c => !isS c) (cs.drop B)
    rw [List.length_drop] at hwl
    obtain ⟨w, hw⟩ : ∃ w, skip (fun c => !isS c) (cs.drop B) = w := ⟨_, rfl⟩
    rw [hw] at hx hwl ⊢
    obtain ⟨e, he⟩ : ∃ e, e = B := ⟨_, rfl⟩
    obtain ⟨k2, hk2⟩ : ∃ k2, skip (fun c => !isS c) (cs.drop e) = k2 := ⟨_, rfl⟩
    have hek : e + k2 = B + w := by rw [he] at hk2 ⊢; omega
    rw [show (("at", some (V.int (B : Int))) : Str × Option V) = (("at", some (V.int (e : Int))) : Str × Option V) by rw [he]]
    clear he hw
    induction k2 generalizing e with
    | zero =>
      have hf : (match cs[e]? with | none => false | some c => !isS c) = false := by
        cases hg : cs[e]? with
        | none => rfl
        | some c => exact skip_zero hk2 c (by rw [List.getElem?_drop]; exact hg)
      refine ww_step (tw_marks rfl .here (.there .here) hl ?_)
      rw [hf, if_neg (by simp)]
      rw [Nat.add_zero] at hek
      subst hek
      clear hk2 hf
      refine sw_cons (s1_assign (ew_name (.there .here) (nm_local rfl (.there (.there (.there (.there .here)))) ?_)))
      refine sw_cons (s1_while ?_)
      have htl : ((cs.drop B).take w).length = w := by rw [List.length_take, List.length_drop]; omega
      generalize ht : (cs.drop B).take w = t at hx htl
      obtain ⟨a, ha⟩ : ∃ a, a = w := ⟨_, rfl⟩
      have haw : a ≤ w := by omega
      obtain ⟨k3, hk3⟩ : ∃ k3, skip isB ((t.take a).reverse) = k3 := ⟨_, rfl⟩
      have hta : t.take a = t := by rw [ha, ← htl, List.take_length]
      have hak : a - k3 = w - skip isB t.reverse := by rw [← hk3, hta, ha]
      rw [show (("end", some (V.int ((B + w : Nat) : Int))) : Str × Option V) = (("end", some (V.int ((B + a : Nat) : Int))) : Str × Option V) by rw [ha]]
      have k3a : k3 ≤ a := by
        rw [← hk3]
        exact Nat.le_trans (skip_le _ _) (by rw [List.length_reverse, List.length_take]; omega)
      clear hta ha
      induction k3 generalizing a with
      | zero =>
        have hf : backB cs B a = false := by
          cases a with
          | zero => rfl
          | succ a =>
            refine skip_zero hk3 _ ?_
            rw [List.take_add_one, show t[a]? = cs[B + a]? by rw [← ht, List.getElem?_take_of_lt (by omega), List.getElem?_drop], List.getElem?_eq_getElem (by omega : B + a < cs.length)]
            simp [List.getD_eq_getElem?_getD, List.getElem?_eq_getElem (by omega : B + a < cs.length)]
        refine ww_step (tw_back .here (.there (.there (.there (.there .here)))) (.there (.there (.there .here))) hl rfl (by omega) ?_)
        rw [hf, if_neg (by simp)]
        refine sw_cons (s1_return (ew_tuple (lw_cons (ew_slice_str (ew_name .here ⟨_, rfl, len, pw_some (ew_name (.there (.there (.there .here))) ⟨_, rfl, pw_some (ew_name (.there (.there (.there (.there .here)))) ⟨_, rfl, lw_cons (ew_name (.there .here) (lw_nil ⟨_, .same _, ?_⟩))⟩)⟩)⟩)))))
        rw [List.toList_toArray, sl_run' cs (by omega) (by omega), show B + a - B = a by omega]
        rw [← hx, ← hak, Nat.sub_zero, ← ht, List.take_take, Nat.min_eq_left haw]
      | succ k3 ih3 =>
        cases a with
        | zero => omega
        | succ a =>
          have hlt : B + a < cs.length := by omega
          have hta : t[a]? = some (cs.getD (B + a) 0) := by rw [← ht, List.getElem?_take_of_lt (by omega), List.getElem?_drop, List.getD_eq_getElem?_getD, List.getElem?_eq_getElem hlt]; rfl
          rw [List.take_add_one, hta] at hk3
          simp only [Option.toList_some, List.reverse_append, List.reverse_cons, List.reverse_nil, List.nil_append, List.singleton_append] at hk3
          obtain ⟨c, r, hd, hpc, hr⟩ := skip_succ hk3
          injection hd with hd1 hd2
          refine ww_step (tw_back .here (.there (.there (.there (.there .here)))) (.there (.there (.there .here))) hl rfl (by omega) ?_)
          simp only [backB, hd1, hpc]
          rw [if_pos trivial]
          have := ih3 a (by omega) (by rw [hd2]; exact hr) (by omega) (by omega)
          rw [show ((B + a : Nat) : Int) = ((B + (a + 1) : Nat) : Int) - 1 by omega] at this
          exact sw_cons (s1_aug (.there (.there (.there (.there .here)))) (ew_int (w2_isub (nm_local rfl (.there (.there (.there (.there .here)))) (sw_nil this)))))
    | succ k2 ih =>
      obtain ⟨c, r, hd, hpc, hr⟩ := skip_succ hk2
      obtain ⟨hlt, hg, hr'⟩ := drop_cons hd
      refine ww_step (tw_marks rfl .here (.there .here) hl ?_)
      rw [hg]
      simp only [hpc]
      rw [if_pos trivial]
      exact sw_cons (s1_aug (.there .here) (ew_int (w2_iadd (nm_local rfl (.there .here) (sw_nil (ih (e + 1) (by rw [hr']; exact hr) (by omega)))))))
end Mine

-- F12
namespace Mine
open PySem PySem.Calls PySem.W PyProof.Rows
open PySem.StrLaws

inductive More (cs : List Nat) : Nat → List Nat → Nat → List Nat → Prop
  | stop {i x} : cs[i]? ≠ some 58 → More cs i x i x
  | step {i x y k j z} : cs[i]? = some 58 → rItem (cs.drop (i + 1)) = some (y, k) → x.length ≤ 1000 → y.length ≤ 1000 → i + 1 + k ≤ cs.length → More cs (i + 1 + k) (x ++ 58 :: y) j z → More cs i x j z
noncomputable def Flds (cs : List Nat) : List (List Nat) → Nat → Prop
  | [], i => i = cs.length + 1
  | z :: zs, i => i ≤ cs.length ∧ ∃ x k j, rItem (cs.drop i) = some (x, k) ∧ i + k ≤ cs.length ∧ More cs (i + k) x j z ∧ j ≤ cs.length ∧ Flds cs zs (j + 1)
theorem txt_append (a b : List Nat) : txt a ++ txt b = txt (a ++ b) := by
  show (⟨a.toArray ++ b.toArray⟩ : Str) = ⟨(a ++ b).toArray⟩
  rw [List.append_toArray]
theorem txt_colon : (Str.ofString ":") = txt [58] := by decide +kernel

theorem tw_colon {g : Gr} {O : Led} {n : Lv} {env : Env} {m : Loc} {cs : List Nat} {e : Nat} {p1 p2 p3 p4 p5 p6 p7 p8 p9 k1 : _} {p10 p11 : Pos} {Q : Bool → Led → Prop} (hk : env.kindOf "len" = some .globalImplicit) (hx : Get m "text" (.str (txt cs))) (hy : Get m "at" (.int e)) (hl : cs.length ≤ 100000)
    (hc : ∀ c ∈ cs, c < 0x110000) (q : Q (decide (cs[e]? = some 58)) O) : TW g n env m O (.BoolOp .And [.Compare (.Name "at" p1) [.Lt] [.Call (.Name "len" p2) [.Name "text" p3] [] p4] p5, .Compare (.Subscript (.Name "text" p6) (.Name "at" p7) p8) [.Eq] [.Constant (.str ":") k1 p9] p10] p11) Q := by
  refine tw_boolop (aw_and (tw_cmp (ew_name hy (ew_lentxt hk hx (by omega) (w2_lt (t1_bool ?_))))))
  cases hg : cs[e]? with
  | none =>
    have hge : cs.length ≤ e := by simpa using hg
    rw [hg] at q
    rw [if_neg (by simp; omega)]; exact q
  | some c =>
    have hlt2 := (List.getElem?_eq_some_iff.mp hg).1
    rw [hg] at q
    rw [if_pos (by simp; omega)]
    refine aw_and (tw_cmp (ew_sign hx hy hg (by omega) (ew_str (w2_eqstr ?_ (by decide +kernel) (t1_bool ?_)))))
    · simp only [toPy, PyData.canLay0, PyData.strOk]
      have := hc c (List.mem_of_getElem? hg)
      simpa using this
    · have e : decide ((⟨#[c]⟩ : Str) = ":") = decide (some c = some 58) := by
        rw [show (Str.ofString ":") = ⟨#[58]⟩ by decide +kernel]
        simp
      rw [e]
      cases h : decide (some c = some 58) with
      | true => rw [h] at q; rw [if_pos rfl]; exact aw_and_nil q
      | false => rw [h] at q; rw [if_neg (by simp)]; exact q

theorem c_fields (g : Gr) (cs : List Nat) (hl : cs.length ≤ 50000) (hc : ∀ c ∈ cs, c < 0x110000) (zs : List (List Nat)) (hz : Flds cs zs 0) (hn : zs.length ≤ 1000) :
    FW g 3 91 [.str (txt cs)] (fun v => v = .lst (zs.map fun z => V.str (txt z))) := by
  obtain ⟨i, hi⟩ : ∃ i, i = 0 := ⟨_, rfl⟩
  obtain ⟨rest, hr⟩ : ∃ r, r = zs := ⟨_, rfl⟩
  obtain ⟨done, hd⟩ : ∃ d : List (List Nat), d = [] := ⟨_, rfl⟩
  have hz' : Flds cs rest i := by rw [hi, hr]; exact hz
  have hdz : done ++ rest = zs := by rw [hd, hr]; rfl
  have hil : i ≤ cs.length := by omega
  refine fw1 (rest := ["found", "at", "here", "more"]) (at_fields_of g) (fun _ _ _ _ => rfl) rfl (by decide) rfl rfl rfl (by decide) fun L cd => ?_
  refine sw_cons (s1_assign_swap (ew_tuple (lw_cons (ew_listN (lw_nil fun a => lw_cons (ew_int (lw_nil ⟨_, _, rfl, nm_local rfl (.there (.there .here)) (nm_local rfl (.there .here) ?_)⟩)))))))
  refine sw_cons (s1_while ?_)
  rw [show AO.list [] = AO.list (done.map fun z => V.str (txt z)) by rw [hd]; rfl, show V.int 0 = V.int (i : Int) by rw [hi]; rfl]
  generalize htl : List.map (fun x => ((x, none) : Str × Option V)) ["here", "more"] = tl
  have hk : tl.map (·.1) = [("here" : Str), "more"] := by rw [← htl]; rfl
  clear hi hr hd hz htl
  induction rest generalizing done tl i with
  | nil => simp only [Flds] at hz'; omega
  | cons z zs2 ih =>
    obtain ⟨_, x, k, j, hx, hik, hm, hj, hz2⟩ := hz'
    obtain ⟨x1, x2, rfl⟩ := keys2 hk
    refine ww_step (tw_value (ew_bool (t1_bool ?_)))
    rw [if_pos rfl]
    refine sw_cons (s1_assign_tuple (ew_callF (at_read_item g) rfl (mg_read_item g) (lw_cons (ew_name .here (lw_cons (ew_name (.there (.there .here)) (lw_nil ((c_item g cs (by omega) hc i hil x k hx).mono fun v e => ?_))))))))
    subst e
    refine asw_tuple (asw_name (nm_local rfl (.there (.there (.there .here))) (asw_name (nm_local rfl (.there (.there .here)) ?_))))
    refine sw_cons (s1_while ?_)
    generalize i + k = e at hm hik ⊢
    clear hx hk x1
    induction hm generalizing x2 with
    | @stop e x he =>
      refine ww_step (tw_colon rfl .here (.there (.there .here)) (by omega) hc ?_)
      rw [decide_eq_false he, if_neg (by simp)]
      refine sw_cons (s1_lmeth PySem.F.slot_list_append ty_append (ew_name (.there .here) ⟨a, _, rfl, .head _, lw_cons (ew_name (.there (.there (.there .here))) (lw_nil ⟨_, _, _, .here, ?_, ?_, .inl ⟨rfl, rfl⟩⟩))⟩))
      · have : done.length ≤ zs.length := by rw [← hdz]; simp
        rw [List.length_map]; omega
      refine sw_if (tw_cmp (ew_name (.there (.there .here)) (ew_lentxt rfl .here (by omega) (w2_ge (t1_bool ?_)))))
      by_cases hge : cs.length ≤ e
      · rw [if_pos (by simp; omega)]
        refine sw_cons (s1_return (ew_name (.there .here) ⟨_, .list (.head _), ?_⟩))
        cases zs2 with
        | nil => rw [← hdz]; simp
        | cons q qs =>
          have := hz2.1
          omega
      · rw [if_neg (by simp; omega)]
        have := ih (e + 1) (done ++ [x]) hz2 (by rw [← hdz]; simp) (by omega) [("here", some (.str (txt x))), ("more", x2)] rfl
        rw [List.map_append] at this
        exact sw_cons (s1_aug (.there (.there .here)) (ew_int (w2_iadd (nm_local rfl (.there (.there .here)) (sw_nil this)))))
    | @step e x y k j z he hy hxl hyl hik' hm' ih2 =>
      refine ww_step (tw_colon rfl .here (.there (.there .here)) (by omega) hc ?_)
      rw [decide_eq_true he, if_pos rfl]
      have hlt : e < cs.length := by
        rcases Nat.lt_or_ge e cs.length with q | q
        · exact q
        · rw [List.getElem?_eq_none q] at he; cases he
      refine sw_cons (s1_assign_tuple (ew_callF (at_read_item g) rfl (mg_read_item g) (lw_cons (ew_name .here (lw_cons (ew_binop (ew_name (.there (.there .here)) (ew_int (w2_add (lw_nil ((c_item g cs (by omega) hc (e + 1) (by omega) y k hy).mono fun v ev => ?_)))))))))))
      subst ev
      refine asw_tuple (asw_name (nm_local rfl (.there (.there (.there (.there .here)))) (asw_name (nm_local rfl (.there (.there .here)) ?_))))
      refine sw_cons (s1_assign (ew_binop (ew_binop (ew_name (.there (.there (.there .here))) (ew_str (w2_adds ?_ (ew_name (.there (.there (.there (.there .here)))) (w2_adds ?_ (nm_local rfl (.there (.there (.there .here))) ?_)))))))))
      · rw [txt_colon, txt_len, txt_len]; simp; omega
      · rw [txt_colon, txt_append, txt_len, txt_len]; simp; omega
      · rw [txt_colon, txt_append, txt_append, show (x ++ [58]) ++ y = x ++ 58 :: y by simp]
        exact sw_nil (ih2 hdz (by assumption) (by assumption) _ (by assumption))
end Mine

-- F13
namespace Mine
open PySem PySem.Calls PySem.W PyProof.Rows

noncomputable abbrev nums (ns : List Nat) : List V := ns.map fun (k : Nat) => V.int (k : Int)

theorem c_place (g : Gr) (ns : List Nat) (rs : List V) (k : Nat) (hk : ∀ x ∈ ns, x < k) (hn : ns.length ≤ 1000) : FW g 1 145 [.prog (nums ns) rs, .int k] (fun v => v = .int (ns.length : Int)) := by
  have len : (nums ns).length = ns.length := List.length_map ..
  refine fw2 (rest := ["least", "most", "middle"]) (at_place_of g) (fun _ _ _ _ _ => rfl) ⟨rfl, rfl⟩ (by decide) rfl rfl rfl (by decide) fun L cd => ?_
  refine sw_cons (s1_assign_swap (ew_tuple (lw_cons (ew_int (lw_cons (ew_callB rfl (mg_len g) (by decide) bb_len (lw_cons (ew_attr_num .here (lw_nil (wl_len_lst (by omega) (lw_nil ⟨_, _, rfl, nm_local rfl (.there (.there (.there .here))) (nm_local rfl (.there (.there .here)) ?_)⟩)))))))))))
  refine sw_cons (s1_while ?_)
  rw [len]
  obtain ⟨lo, hlo⟩ : ∃ lo : Nat, lo = 0 := ⟨_, rfl⟩
  rw [show V.int 0 = V.int (lo : Int) by rw [hlo]; rfl]
  obtain ⟨d, hd⟩ : ∃ d : Nat, d = ns.length - lo := ⟨_, rfl⟩
  have hl : lo ≤ ns.length := by omega
  generalize htl : List.map (fun x => ((x, none) : Str × Option V)) ["middle"] = tl
  have hkk : ∃ x1 : Option V, tl = [(("middle" : Str), x1)] := ⟨none, by rw [← htl]; rfl⟩
  clear hlo htl
  induction d using Nat.strongRecOn generalizing lo tl with
  | ind d ih =>
    obtain ⟨x1, rfl⟩ := hkk
    refine ww_step (tw_cmp (ew_name (.there (.there .here)) (ew_name (.there (.there (.there .here))) (w2_lt (t1_bool ?_)))))
    by_cases h : lo < ns.length
    · rw [if_pos (by simp; omega)]
      refine sw_cons (s1_assign (ew_binop (ew_binop (ew_name (.there (.there .here)) (ew_name (.there (.there (.there .here))) (w2_add (ew_int (w2_div (by decide) (PyProof.noPylong_small (by decide)) (nm_local rfl (.there (.there (.there (.there .here)))) ?_)))))))))
      have em : ((lo : Int) + (ns.length : Int)).fdiv 2 = (((lo + ns.length) / 2 : Nat) : Int) := by
        rw [Int.fdiv_eq_ediv_of_nonneg _ (by decide)]; omega
      rw [em]
      generalize hmid : (lo + ns.length) / 2 = mid
      have hm : mid < ns.length ∧ lo ≤ mid := by omega
      have hg : (nums ns)[((mid : Nat) : Int).toNat]? = some (.int ((ns[mid]'hm.1 : Nat) : Int)) := by
        rw [Int.toNat_natCast, List.getElem?_map, List.getElem?_eq_getElem hm.1]; rfl
      refine sw_if (tw_cmp (ew_sub (ew_attr_num .here (ew_name (.there (.there (.there (.there .here)))) (w2_item_lst (by omega) (by omega) hg (ew_name (.there .here) (w2_lt (t1_bool ?_))))))))
      have := hk (ns[mid]'hm.1) (List.getElem_mem _)
      rw [if_pos (by simp; omega)]
      refine sw_cons (s1_assign (ew_binop (ew_name (.there (.there (.there (.there .here)))) (ew_int (w2_add (nm_local rfl (.there (.there .here)) (sw_nil ?_)))))))
      exact ih (ns.length - (mid + 1)) (by omega) (mid + 1) rfl (by omega) _ ⟨_, rfl⟩
    · rw [if_neg (by simp; omega)]
      refine sw_cons (s1_return (ew_name (.there (.there .here)) ⟨_, .same _, ?_⟩))
      rw [show lo = ns.length by omega]

theorem c_has (g : Gr) (ns : List Nat) (rs : List V) (k : Nat) (hk : ∀ x ∈ ns, x < k) (hn : ns.length ≤ 1000) : FW g 2 152 [.prog (nums ns) rs, .int k] (fun v => v = .bool false) := by
  have len : (nums ns).length = ns.length := List.length_map ..
  refine fw2 (rest := ["at"]) (at_has_line g) (fun _ _ _ _ _ => rfl) ⟨rfl, rfl⟩ (by decide) rfl rfl rfl (by decide) fun L cd => ?_
  refine sw_cons (s1_assign (ew_callF (at_place_of g) rfl (mg_place_of g) (lw_cons (ew_name .here (lw_cons (ew_name (.there .here) (lw_nil ((c_place g ns rs k hk hn).mono fun v e => ?_))))))))
  subst e
  refine nm_local rfl (.there (.there .here)) ?_
  refine sw_cons (s1_return (ew_boolop (bl_and (ew_cmp (ew_name (.there (.there .here)) (ew_callB rfl (mg_len g) (by decide) bb_len (lw_cons (ew_attr_num .here (lw_nil (wl_len_lst (by omega) (w2_lt ⟨_, rfl, ?_⟩)))))))))))
  rw [len, if_neg (by simp)]
  exact ⟨_, .same _, rfl⟩
theorem ty_insert : typeOf (.builtin "list.insert") = pure (.type "method_descriptor") := PySem.F.type_list_insert

/-- a line behind all that are there -/
theorem c_put (g : Gr) (O O1 O2 : Led) (x d a b : Addr) (ns : List Nat) (rs : List V) (k : Nat) (row : List V) (hx : (x, AO.inst d) ∈ O) (hda : (d, AO.attrs [("numbers", a), ("rows", b)]) ∈ O) (hb : (b, AO.list rs) ∈ O)
    (h1 : UpdO O a (.list (nums ns)) (.list (nums ns ++ [.int k])) O1) (h2 : UpdO O1 b (.list rs) (.list (rs ++ [.lst row])) O2) (hx1 : (x, AO.inst d) ∈ O1) (hd1 : (d, AO.attrs [("numbers", a), ("rows", b)]) ∈ O1)
    (hk : ∀ y ∈ ns, y < k) (hk2 : k ≤ 65529) (hn : ns.length ≤ 1000) (hr : rs.length = ns.length) (hrow : 0 < row.length ∧ row.length ≤ 100000) : FM g 3 159 [.ref x, .int k, .lst row] O (fun v O' => v = .none ∧ O' = O2) := by
  have len : (nums ns).length = ns.length := List.length_map ..
  obtain ⟨tG, hG⟩ := mg_GREATEST g
  have nd : ([("numbers", a), ("rows", b)] : List (Str × Addr)).map (·.1) = [("numbers" : Str), "rows"] := rfl
  refine fm3 (rest := ["at", "is_there"]) (at_put_line g) (fun _ _ _ _ _ _ => rfl) ⟨rfl, rfl, rfl⟩ (by decide) rfl rfl rfl (by decide) fun L cd => ?_
  refine sw_if (tw_not (tw_chain (ew_int (ew_name (.there .here) (w2_le ⟨_, rfl, ?_⟩)))))
  rw [if_pos (by simp)]
  refine ew_global rfl hG (v := .int 65529) (fun X hX => by simp only [VR]; exact ⟨_, rfl⟩) (w2_le ⟨_, rfl, ?_⟩)
  rw [if_neg (by simp; omega)]
  have fz : FrzL O [.ref x, .int k] [.prog (nums ns) rs, .int k] := .cons (.prog hx hda h1.mem hb) (.cons (.same _) .nil)
  refine sw_cons (s1_assign (ew_callZ (at_place_of g) rfl (mg_place_of g) (lw_cons (ew_name .here (lw_cons (ew_name (.there .here) (lw_nil ⟨_, fz, (((c_place g ns rs k hk hn).le (by decide)).mono fun v e => ?_)⟩)))))))
  subst e
  refine ⟨rfl, nm_local rfl (.there (.there (.there .here))) ?_⟩
  refine sw_cons (s1_assign (ew_callZ (at_has_line g) rfl (mg_has_line g) (lw_cons (ew_name .here (lw_cons (ew_name (.there .here) (lw_nil ⟨_, fz, (((c_has g ns rs k hk hn).le (by decide)).mono fun v e => ?_)⟩)))))))
  subst e
  refine ⟨rfl, nm_local rfl (.there (.there (.there (.there .here)))) ?_⟩
  refine sw_if (tw_cmp (ew_lenrow rfl (.there (.there .here)) (by omega) (ew_int (w2_eq rfl rfl rfl rfl (by simp [toPy, PyData.depth]) (t1_bool ?_)))))
  rw [if_neg (by simp only [toPy, PyData.eqv, beq_iff_eq]; omega)]
  refine sw_if (tw_value (ew_name (.there (.there (.there (.there .here)))) (t1_bool ?_)))
  rw [if_neg (by simp)]
  refine sw_cons (s1_lmeth PySem.F.slot_list_insert ty_insert (ew_attr .here hx hda (.head _) (by rw [nd]; decide) ⟨a, _, rfl, h1.mem, lw_cons (ew_name (.there (.there (.there .here))) (lw_cons (ew_name (.there .here) (lw_nil ⟨_, _, _, h1, ?_, ?_, .inr ⟨rfl, ?_⟩⟩))))⟩ (fun w => by kernel_rfl)))
  · rw [len]; omega
  rotate_left
  · rw [len]
  refine sw_cons (s1_lmeth PySem.F.slot_list_insert ty_insert (ew_attr .here hx1 hd1 (.tail _ (.head _)) (by rw [nd]; decide) ⟨b, _, rfl, h2.mem, lw_cons (ew_name (.there (.there (.there .here))) (lw_cons (ew_name (.there (.there .here)) (lw_nil ⟨_, _, _, h2, ?_, ?_, .inr ⟨rfl, ?_⟩⟩))))⟩ (fun w => by kernel_rfl)))
  · omega
  rotate_left
  · rw [hr]
  exact sw_nil ⟨rfl, rfl⟩
end Mine

-- F14
namespace Mine
open PySem PySem.Calls PySem.W PyProof.Rows

noncomputable def Tok.val : Tok → V
  | .s _ x => .str x
  | .n _ i => .int i
theorem Tok.v_eq (t : Tok) : t.v = .tup [.str t.k, t.val] := by cases t <;> rfl
theorem Tok.okv {t : Tok} (ht : t.ok = true) : (toPy t.val).canLay0 = true := by
  cases t <;> (simp only [Tok.ok, Tok.v, toPy, toPys, PyData.canLay0, PyData.canLayAll0, Bool.and_true, Bool.and_eq_true] at ht; first | exact ht.2 | rfl)
theorem Tok.val_py (t : Tok) : Mine.isPy t.val = true := by cases t <;> rfl
theorem Tok.val_depth (t : Tok) : (toPy t.val).depth ≤ 30 := by cases t <;> simp [Tok.val, toPy, PyData.depth]
theorem eq_val {t : Tok} {k x : Str} (hk : t.k = k) : PyData.eqv (toPy t.val) (toPy (.str x)) = decide (t = .s k x) := by
  cases t with
  | s a b =>
    simp only [Tok.k] at hk; subst hk
    simp only [Tok.val, toPy, PyData.eqv, Tok.s.injEq, true_and]
    rfl
  | n a b => simp [Tok.val, toPy, PyData.eqv]
noncomputable def dataR (k : Nat) : List Tok → Bool → List V
  | [], _ => []
  | t :: r, b => if t.k = "word" then dataR k r (decide (t = .s "word" "DATA")) else if t.k = "raw" ∧ b = true then .tup [.int k, t.val] :: dataR k r b else dataR k r b
noncomputable def dataAll (ps : List (Nat × List Tok)) : List V := ps.flatMap fun p => dataR p.1 p.2 false
theorem zip_rowsV : ∀ (ps : List (Nat × List Tok)), zipV (nums (ps.map (·.1))) (ps.map fun p => rowV p.2) = ps.map fun p => .tup [.int (p.1 : Int), rowV p.2]
  | [] => rfl
  | p :: ps => by
    have := zip_rowsV ps
    simp only [nums, List.map_cons, zipV] at this ⊢
    rw [this]

theorem c_data (g : Gr) (ps : List (Nat × List Tok)) (hok : ∀ p ∈ ps, ∀ t ∈ p.2, t.ok = true) (hn : (ps.map fun p => p.2.length).sum ≤ 1000) :
    FW g 1 98 [.prog (nums (ps.map (·.1))) (ps.map fun p => rowV p.2)] (fun v => v = .lst (dataAll ps)) := by
  refine fw1 (rest := ["found", "number", "row", "is_data", "kind", "value"]) (at_data_of g) (fun _ _ _ _ => rfl) rfl (by decide) rfl rfl rfl (by decide) fun L cd => ?_
  refine sw_cons (s1_assign (ew_listN (lw_nil fun x => nm_local rfl (.there .here) ?_)))
  refine sw_cons (s1_for (ie_callT rfl (mg_zip g) (by decide) bb_zip (lw_cons (ew_attr_num .here (lw_cons (ew_attr_rows .here (lw_nil (ic_zip (by simp) ?_))))))))
  intro I wr C T
  rw [zip_rowsV]
  obtain ⟨acc, hacc⟩ : ∃ acc : List V, acc = [] := ⟨_, rfl⟩
  obtain ⟨r, hr⟩ : ∃ r, r = ps := ⟨_, rfl⟩
  rw [show AO.list [] = AO.list acc by rw [hacc], show (ps.map fun p => V.tup [.int (p.1 : Int), rowV p.2]) = (r.map fun p => V.tup [.int (p.1 : Int), rowV p.2]) by rw [hr]]
  have hA : acc ++ dataAll r = dataAll ps := by rw [hacc, hr]; rfl
  have hlen : acc.length + (r.map fun p => p.2.length).sum ≤ 1000 := by rw [hacc, hr]; simpa using hn
  have hokr : ∀ p ∈ r, ∀ t ∈ p.2, t.ok = true := by rw [hr]; exact hok
  generalize htl : List.map (fun x => ((x, none) : Str × Option V)) ["number", "row", "is_data", "kind", "value"] = tl
  have hk : tl.map (·.1) = [("number" : Str), "row", "is_data", "kind", "value"] := by rw [← htl]; rfl
  clear hacc hr htl
  induction r generalizing acc tl with
  | nil =>
    refine forw_nil T ?_
    obtain ⟨x1, x2, x3, x4, x5, rfl⟩ := keys5 hk
    simp only [dataAll, List.flatMap_nil, List.append_nil] at hA
    subst hA
    exact sw_cons (s1_return (ew_name (.there .here) ⟨_, .list (.head _), rfl⟩))
  | cons p r ih =>
    obtain ⟨x1, x2, x3, x4, x5, rfl⟩ := keys5 hk
    obtain ⟨k, row⟩ := p
    have hokp := hokr (k, row) (.head _)
    simp only [List.map_cons, List.sum_cons] at hlen
    refine forw_cons T (asw_tuple (asw_name (nm_local rfl (.there (.there .here)) (asw_name (nm_local rfl (.there (.there (.there .here))) ?_)))))
    refine sw_cons (s1_assign (ew_bool (nm_local rfl (.there (.there (.there (.there .here)))) ?_)))
    refine sw_cons (s1_for (ie_value (ew_name (.there (.there (.there .here))) ⟨_, itw_lstT, ?_⟩)))
    intro J wr' C' T'
    obtain ⟨b, hb⟩ : ∃ b : Bool, b = false := ⟨_, rfl⟩
    obtain ⟨q, hq⟩ : ∃ q : List Tok, q = row := ⟨_, rfl⟩
    rw [show (("is_data", some (V.bool false)) : Str × Option V) = (("is_data", some (V.bool b)) : Str × Option V) by rw [hb], show (row.map Tok.v) = (q.map Tok.v) by rw [hq]]
    have hA2 : acc ++ (dataR k q b ++ dataAll r) = dataAll ps := by rw [← hA, hb, hq]; rfl
    have hlen2 : acc.length + (q.length + (r.map fun p => p.2.length).sum) ≤ 1000 := by rw [hq]; exact hlen
    have hokq : ∀ t ∈ q, t.ok = true := by rw [hq]; exact hokp
    clear hq hb hA hlen hk hokp
    induction q generalizing acc b x4 x5 with
    | nil =>
      refine forw_nil T' ?_
      exact sw_nil (ih acc (by rw [← hA2]; rfl) (by simpa using hlen2) (fun p hp => hokr p (.tail _ hp)) [("number", some (.int k)), ("row", some (rowV row)), ("is_data", some (.bool b)), ("kind", x4), ("value", x5)] rfl)
    | cons t q ihq =>
      have ht := hokq t (.head _)
      simp only [List.length_cons] at hlen2
      rw [List.map_cons, t.v_eq]
      refine forw_cons T' (asw_tuple (asw_name (nm_local rfl (.there (.there (.there (.there (.there .here))))) (asw_name (nm_local rfl (.there (.there (.there (.there (.there (.there .here)))))) ?_)))))
      refine sw_if (tw_cmp (ew_name (.there (.there (.there (.there (.there .here))))) (ew_str (w2_eqstr (Tok.okk ht) (by decide +kernel) (t1_bool ?_)))))
      by_cases c1 : t.k = "word"
      · rw [if_pos (by simpa using c1)]
        refine sw_cons (s1_assign (ew_cmp (ew_name (.there (.there (.there (.there (.there (.there .here)))))) (ew_str (w2_eq t.val_py rfl (Tok.okv ht) (by decide +kernel) (Nat.le_trans (Nat.min_le_left _ _) t.val_depth) (nm_local rfl (.there (.there (.there (.there .here)))) ?_))))))
        rw [eq_val c1]
        exact sw_nil (ihq acc _ _ _ (by rw [← hA2, dataR, if_pos c1]) (by omega) fun t ht => hokq t (.tail _ ht))
      · rw [if_neg (by simpa using c1)]
        refine sw_if (tw_boolop (aw_and (tw_cmp (ew_name (.there (.there (.there (.there (.there .here))))) (ew_str (w2_eqstr (Tok.okk ht) (by decide +kernel) (t1_bool ?_)))))))
        by_cases c2 : t.k = "raw"
        · rw [if_pos (by simpa using c2)]
          refine aw_and (tw_value (ew_name (.there (.there (.there (.there .here)))) (t1_bool ?_)))
          cases b with
          | true =>
            rw [if_pos rfl]
            refine aw_and_nil ?_
            rw [if_pos rfl]
            refine sw_cons (s1_lmeth PySem.F.slot_list_append ty_append (ew_name (.there .here) ⟨x, _, rfl, .head _, lw_cons (ew_tuple (lw_cons (ew_name (.there (.there .here)) (lw_cons (ew_name (.there (.there (.there (.there (.there (.there .here)))))) (lw_nil (lw_nil ⟨_, acc, _, .here, ?_, ?_, .inl ⟨rfl, rfl⟩⟩)))))))⟩))
            · omega
            · exact sw_nil (ihq (acc ++ [V.tup [V.int (k : Int), t.val]]) (some (V.str t.k)) (some t.val) true (by rw [← hA2, dataR, if_neg c1, if_pos ⟨c2, rfl⟩]; simp) (by simp; omega) fun t ht => hokq t (.tail _ ht))
          | false =>
            rw [if_neg (by simp), if_neg (by simp)]
            exact sw_nil (ihq acc _ _ _ (by rw [← hA2, dataR, if_neg c1, if_neg (by simp)]) (by omega) fun t ht => hokq t (.tail _ ht))
        · rw [if_neg (by simpa using c2), if_neg (by simp)]
          exact sw_nil (ihq acc _ _ _ (by rw [← hA2, dataR, if_neg c1, if_neg (by simp [c2])]) (by omega) fun t ht => hokq t (.tail _ ht))
end Mine

-- F15
namespace Mine
open PySem PySem.Calls PySem.W PyProof.Rows

noncomputable abbrev tCOMMA : Tok := .s "sign" ","
noncomputable abbrev tFOR : Tok := .s "word" "FOR"
noncomputable abbrev tNEXT : Tok := .s "word" "NEXT"
noncomputable def pastName (l : List Tok) (i : Nat) : Nat := i + if (l.getD i tEND).k = "name" then 1 else 0
/-- what a NEXT ends: depth d before; none: below all -/
inductive Ended (l : List Tok) : Nat → Nat → Option Nat → Nat → Prop
  | low {i j} : j = pastName l i → Ended l i 0 none j
  | done {i d j} : j = pastName l i → l.getD j tEND ≠ tCOMMA → Ended l i (d + 1) (some d) j
  | more {i d r j k} : k = pastName l i → l[k]? = some tCOMMA → Ended l (k + 1) d r j → Ended l i (d + 1) r j
noncomputable def depV : Option Nat → V
  | none => .int (-1)
  | some d => .int d

section
variable {g : Gr} {O : Led} {n : Lv} {env : Env} {m m' : Loc}
theorem s1_pastName {l : List Tok} {i : Nat} {p1 p2 p3 p4 p5 p6 p7 p8 p9 p10 p11 p12 p13 : Pos} {k1 k2 k3 k4 : Nat} {Q : Fl → Loc → Led → Prop} (hn : 1 ≤ n.n) (hk : env.kindOf "token_at" = some .globalImplicit) (hka : env.kindOf "at" = some .local) (hx : Get m "row" (rowV l)) (hy : Get m "at" (.int i)) (hl : ∀ t ∈ l, t.ok = true) (hlen : l.length ≤ 100000)
    (hu : Upd m "at" (.int (pastName l i : Nat)) m') (q : Q .next m' O) :
    S1 g n env m O (.AugAssign (.Name "at" p1) .Add (.IfExp (.Compare (.Subscript (.Call (.Name "token_at" p2) [.Name "row" p3, .Name "at" p4] [] p5) (.Constant (.int 0) k1 p6) p7) [.Eq] [.Constant (.str "name") k2 p8] p9) (.Constant (.int 1) k3 p10) (.Constant (.int 0) k4 p11) p12) p13) Q := by
  refine s1_aug hy (ew_ifexp (tw_cmp (ew_kind (ew_tokat hn hk hx hy (by omega) (by omega) ⟨rfl, ew_str (w2_eqstr (Tok.okk (okD hl _)) (by decide +kernel) (t1_bool ?_))⟩))))
  rw [Int.toNat_natCast]
  by_cases h : (l.getD i tEND).k = "name"
  · rw [if_pos (by simpa using h)]
    refine ew_int (w2_iadd (nm_local hka (by rw [pastName, if_pos h] at hu; exact hu) q))
  · rw [if_neg (by simpa using h)]
    refine ew_int (w2_iadd (nm_local hka (by rw [pastName, if_neg h] at hu; exact hu) q))
theorem pastName_le {l : List Tok} {i : Nat} (hi : i ≤ l.length) : pastName l i ≤ l.length := by
  unfold pastName
  split
  · rename_i h
    rcases Nat.lt_or_ge i l.length with q | q
    · omega
    · rw [List.getD_eq_getElem?_getD, List.getElem?_eq_none q] at h
      exact absurd h (by decide)
  · exact hi
end

theorem c_ended (g : Gr) (l : List Tok) (hl : ∀ t ∈ l, t.ok = true) (hn : l.length ≤ 100000) (i d j : Nat) (r : Option Nat) (hi : i ≤ l.length) (h : Ended l i d r j) : FW g 2 117 [rowV l, .int i, .int d] (fun v => v = .tup [depV r, .int j]) := by
  refine fw3 (rest := []) (at_ended_by_next g) (fun _ _ _ _ _ _ => rfl) ⟨rfl, rfl, rfl⟩ (by decide) rfl rfl rfl (by decide) fun L cd => ?_
  refine sw_cons (s1_while ?_)
  induction h with
  | @low i j hj =>
    subst hj
    refine ww_step (tw_value (ew_bool (t1_bool ?_)))
    rw [if_pos rfl]
    refine sw_cons (s1_pastName (Nat.le_refl _) rfl rfl .here (.there .here) hl hn (.there .here) ?_)
    refine sw_cons (s1_aug (.there (.there .here)) (ew_int (w2_isub (nm_local rfl (.there (.there .here)) ?_))))
    refine sw_if (tw_boolop (aw_or (tw_cmp (ew_name (.there (.there .here)) (ew_int (w2_lt (t1_bool ?_)))))))
    rw [if_pos (by decide), if_pos rfl]
    exact sw_cons (s1_return (ew_tuple (lw_cons (ew_name (.there (.there .here)) (lw_cons (ew_name (.there .here) (lw_nil ⟨_, .same _, rfl⟩)))))))
  | @done i d j hj hc =>
    subst hj
    refine ww_step (tw_value (ew_bool (t1_bool ?_)))
    rw [if_pos rfl]
    refine sw_cons (s1_pastName (Nat.le_refl _) rfl rfl .here (.there .here) hl hn (.there .here) ?_)
    refine sw_cons (s1_aug (.there (.there .here)) (ew_int (w2_isub (nm_local rfl (.there (.there .here)) ?_))))
    rw [show ((d + 1 : Nat) : Int) - 1 = (d : Int) by omega]
    refine sw_if (tw_boolop (aw_or (tw_cmp (ew_name (.there (.there .here)) (ew_int (w2_lt (t1_bool ?_)))))))
    rw [if_neg (by simp)]
    refine aw_or (tw_cmp (ew_tokat (Nat.le_refl _) rfl .here (.there .here) (by omega) (by omega) (ew_str2 (w2_ne (Tok.isPy _) rfl (okD hl _) (by decide +kernel) (Nat.le_trans (Nat.min_le_left _ _) (Tok.depth _)) (t1_bool ?_)))))
    rw [eq_tok, Int.toNat_natCast, decide_eq_false hc]
    rw [if_pos (by rfl : (!false) = true), if_pos rfl]
    exact sw_cons (s1_return (ew_tuple (lw_cons (ew_name (.there (.there .here)) (lw_cons (ew_name (.there .here) (lw_nil ⟨_, .same _, rfl⟩)))))))
  | @more i d r j k hk hc hm ih =>
    subst hk
    have hlt := (List.getElem?_eq_some_iff.mp hc).1
    refine ww_step (tw_value (ew_bool (t1_bool ?_)))
    rw [if_pos rfl]
    refine sw_cons (s1_pastName (Nat.le_refl _) rfl rfl .here (.there .here) hl hn (.there .here) ?_)
    refine sw_cons (s1_aug (.there (.there .here)) (ew_int (w2_isub (nm_local rfl (.there (.there .here)) ?_))))
    rw [show ((d + 1 : Nat) : Int) - 1 = (d : Int) by omega]
    refine sw_if (tw_boolop (aw_or (tw_cmp (ew_name (.there (.there .here)) (ew_int (w2_lt (t1_bool ?_)))))))
    rw [if_neg (by simp)]
    refine aw_or (tw_cmp (ew_tokat (Nat.le_refl _) rfl .here (.there .here) (by omega) (by omega) (ew_str2 (w2_ne (Tok.isPy _) rfl (okD hl _) (by decide +kernel) (Nat.le_trans (Nat.min_le_left _ _) (Tok.depth _)) (t1_bool ?_)))))
    rw [eq_tok, Int.toNat_natCast, show l.getD (pastName l i) tEND = tCOMMA by rw [List.getD_eq_getElem?_getD, hc]; rfl]
    rw [if_neg (by simp)]
    refine aw_or_nil ?_
    rw [if_neg (by simp)]
    exact sw_cons (s1_aug (.there .here) (ew_int (w2_iadd (nm_local rfl (.there .here) (sw_nil (ih (by omega)))))))
end Mine

-- F17
namespace Mine
open PySem PySem.Calls PySem.W PyProof.Rows

/-- one row from a on, d loops open: found (behind the NEXT), or the row's end with so many open -/
inductive Scan (l : List Tok) : Nat → Nat → Nat ⊕ Nat → Prop
  | eol {a d} : l.length ≤ a → Scan l a d (.inr d)
  | loop {a d r} : l[a]? = some tFOR → Scan l (a + 1) (d + 1) r → Scan l a d r
  | hit {a d j} : l[a]? = some tNEXT → Ended l (a + 1) d none j → Scan l a d (.inl j)
  | miss {a d d' j r} : l[a]? = some tNEXT → Ended l (a + 1) d (some d') j → Scan l j d' r → Scan l a d r
  | other {a d t r} : l[a]? = some t → t ≠ tFOR → t ≠ tNEXT → Scan l (a + 1) d r → Scan l a d r
inductive Nxts (rows : List (List Tok)) : Nat → Nat → Nat → Option (Nat × Nat) → Prop
  | out {i a d} : rows.length ≤ i → Nxts rows i a d none
  | here {i a d l j} : rows[i]? = some l → Scan l a d (.inl j) → Nxts rows i a d (some (i, j))
  | on {i a d d' l r} : rows[i]? = some l → Scan l a d (.inr d') → Nxts rows (i + 1) 0 d' r → Nxts rows i a d r

section
variable {g : Gr} {O : Led} {n : Lv} {env : Env} {m m' : Loc}
/-- row[at - 1] == (.., ..) behind at += 1 -/
theorem tw_rowat1 {l : List Tok} {i : Nat} {t : Tok} {a b : Str} {p1 p2 p3 p4 p5 p6 p7 p8 p9 : Pos} {k1 k2 k3 k4 : Nat} {Q : Bool → Led → Prop} (hx : Get m "row" (rowV l)) (hy : Get m "at" (.int ((i : Int) + 1))) (hi : l[i]? = some t) (hl : ∀ t ∈ l, t.ok = true) (hlen : l.length ≤ 100000) (q : Q (decide (t = .s a b)) O) (hab : (toPy (.tup [.str a, .str b])).canLay0 = true := by decide +kernel) :
    TW g n env m O (.Compare (.Subscript (.Name "row" p1) (.BinOp (.Name "at" p2) .Sub (.Constant (.int 1) k1 p3) p4) p5) [.Eq] [.Tuple [.Constant (.str a) k2 p6, .Constant (.str b) k3 p7] k4 p8] p9) Q := by
  have hlt := (List.getElem?_eq_some_iff.mp hi).1
  refine tw_eqtok (hl t (List.mem_of_getElem? hi)) (ew_sub (ew_name hx (ew_binop (ew_name hy (ew_int (w2_sub (w2_item_lst (by omega) (by omega) (by rw [show ((i : Int) + 1 - 1).toNat = i by omega, List.getElem?_map, hi]; rfl) ⟨rfl, q⟩))))))) hab
end
theorem Ended.le {l : List Tok} {i d j : Nat} {r : Option Nat} (h : Ended l i d r j) (hi : i ≤ l.length) : j ≤ l.length := by
  induction h with
  | low h => subst h; exact pastName_le hi
  | done h _ => subst h; exact pastName_le hi
  | more h1 h2 _ ih => have := (List.getElem?_eq_some_iff.mp h2).1; exact ih (by omega)

theorem c_next (g : Gr) (ns : List V) (rows : List (List Tok)) (hok : ∀ l ∈ rows, (∀ t ∈ l, t.ok = true) ∧ l.length ≤ 100000) (hn : rows.length ≤ 100000) (i a : Nat) (r : Option (Nat × Nat)) (h : Nxts rows i a 0 r) :
    FX g 3 110 [.prog ns (rows.map fun l => rowV l), .int i, .int a] (fun v => ∃ p : Nat × Nat, r = some p ∧ v = .tup [.int p.1, .int p.2]) "FN" (r = none) := by
  obtain ⟨d, hd⟩ : ∃ d : Nat, d = 0 := ⟨_, rfl⟩
  rw [← hd] at h
  refine fx3 (rest := ["depth", "row"]) (at_next_place g) (fun _ _ _ _ _ _ => rfl) ⟨rfl, rfl, rfl⟩ (by decide) rfl rfl rfl (by decide) fun L cd => ?_
  refine sx_cons (s1_assign (ew_int (nm_local rfl (.there (.there (.there .here))) ?_)))
  refine sx_cons (s1_while ?_)
  rw [show V.int 0 = V.int (d : Int) by rw [hd]; rfl]
  generalize htl : List.map (fun x => ((x, none) : Str × Option V)) ["row"] = tl
  have hkk : ∃ x1 : Option V, tl = [(("row" : Str), x1)] := ⟨none, by rw [← htl]; rfl⟩
  clear hd htl
  have lr : (rows.map fun l => rowV l).length = rows.length := List.length_map ..
  induction h generalizing tl with
  | @out i a d hi =>
    obtain ⟨x1, rfl⟩ := hkk
    refine ww_step (tw_cmp (ew_name (.there .here) (ew_callB rfl (mg_len g) (by decide) bb_len (lw_cons (ew_attr_rows .here (lw_nil (wl_len_lst (by omega) (w2_lt (t1_bool ?_)))))))))
    rw [if_neg (by simp; omega)]
    exact sx_raise rfl rfl
  | @here i a d l j hi hsc =>
    obtain ⟨x1, rfl⟩ := hkk
    have hlt := (List.getElem?_eq_some_iff.mp hi).1
    obtain ⟨hl, hll⟩ := hok l (List.mem_of_getElem? hi)
    refine ww_step (tw_cmp (ew_name (.there .here) (ew_callB rfl (mg_len g) (by decide) bb_len (lw_cons (ew_attr_rows .here (lw_nil (wl_len_lst (by omega) (w2_lt (t1_bool ?_)))))))))
    rw [if_pos (by simp; omega)]
    refine sw_cons (s1_assign (ew_sub (ew_attr_rows .here (ew_name (.there .here) (w2_item_lst (by omega) (by omega) (by rw [Int.toNat_natCast, List.getElem?_map, hi]; rfl) (nm_local rfl (.there (.there (.there (.there .here)))) ?_))))))
    refine sw_cons (s1_while ?_)
    generalize hres : Sum.inl j = res at hsc
    induction hsc with
    | @eol a d _ => cases hres
    | @loop a d res hg _ ih =>
      have ha := (List.getElem?_eq_some_iff.mp hg).1
      refine ww_step (tw_cmp (ew_name (.there (.there .here)) (ew_lenrow rfl (.there (.there (.there (.there .here)))) (by simp; omega) (w2_lt (t1_bool ?_)))))
      rw [if_pos (by simp; omega)]
      refine sw_cons (s1_aug (.there (.there .here)) (ew_int (w2_iadd (nm_local rfl (.there (.there .here)) ?_))))
      refine sw_if (tw_rowat1 (.there (.there (.there (.there .here)))) (.there (.there .here)) hg hl hll ?_)
      rw [if_pos (by simp)]
      exact sw_cons (s1_aug (.there (.there (.there .here))) (ew_int (w2_iadd (nm_local rfl (.there (.there (.there .here))) (sw_nil (ih hres))))))
    | @hit a d j' hg he =>
      cases hres
      have ha := (List.getElem?_eq_some_iff.mp hg).1
      refine ww_step (tw_cmp (ew_name (.there (.there .here)) (ew_lenrow rfl (.there (.there (.there (.there .here)))) (by simp; omega) (w2_lt (t1_bool ?_)))))
      rw [if_pos (by simp; omega)]
      refine sw_cons (s1_aug (.there (.there .here)) (ew_int (w2_iadd (nm_local rfl (.there (.there .here)) ?_))))
      refine sw_if (tw_rowat1 (.there (.there (.there (.there .here)))) (.there (.there .here)) hg hl hll ?_)
      rw [if_neg (by decide)]
      refine sw_if (tw_rowat1 (.there (.there (.there (.there .here)))) (.there (.there .here)) hg hl hll ?_)
      rw [if_pos (by simp)]
      refine sw_cons (s1_assign_tuple (ew_callF (at_ended_by_next g) rfl (mg_ended_by_next g) (lw_cons (ew_name (.there (.there (.there (.there .here)))) (lw_cons (ew_name (.there (.there .here)) (lw_cons (ew_name (.there (.there (.there .here))) (lw_nil ((c_ended g l hl hll (a + 1) d j none (by omega) he).mono fun v ev => ?_))))))))))
      subst ev
      refine asw_tuple (asw_name (nm_local rfl (.there (.there (.there .here))) (asw_name (nm_local rfl (.there (.there .here)) ?_))))
      refine sw_if (tw_cmp (ew_name (.there (.there (.there .here))) (ew_int (w2_lt (t1_bool ?_)))))
      rw [if_pos (by decide)]
      exact sw_cons (s1_return (ew_tuple (lw_cons (ew_name (.there .here) (lw_cons (ew_name (.there (.there .here)) (lw_nil ⟨_, .same _, ⟨_, rfl, rfl⟩⟩)))))))
    | @miss a d d' j' res hg he _ ih =>
      have ha := (List.getElem?_eq_some_iff.mp hg).1
      refine ww_step (tw_cmp (ew_name (.there (.there .here)) (ew_lenrow rfl (.there (.there (.there (.there .here)))) (by simp; omega) (w2_lt (t1_bool ?_)))))
      rw [if_pos (by simp; omega)]
      refine sw_cons (s1_aug (.there (.there .here)) (ew_int (w2_iadd (nm_local rfl (.there (.there .here)) ?_))))
      refine sw_if (tw_rowat1 (.there (.there (.there (.there .here)))) (.there (.there .here)) hg hl hll ?_)
      rw [if_neg (by decide)]
      refine sw_if (tw_rowat1 (.there (.there (.there (.there .here)))) (.there (.there .here)) hg hl hll ?_)
      rw [if_pos (by simp)]
      refine sw_cons (s1_assign_tuple (ew_callF (at_ended_by_next g) rfl (mg_ended_by_next g) (lw_cons (ew_name (.there (.there (.there (.there .here)))) (lw_cons (ew_name (.there (.there .here)) (lw_cons (ew_name (.there (.there (.there .here))) (lw_nil ((c_ended g l hl hll (a + 1) d j' (some d') (by omega) he).mono fun v ev => ?_))))))))))
      subst ev
      refine asw_tuple (asw_name (nm_local rfl (.there (.there (.there .here))) (asw_name (nm_local rfl (.there (.there .here)) ?_))))
      refine sw_if (tw_cmp (ew_name (.there (.there (.there .here))) (ew_int (w2_lt (t1_bool ?_)))))
      rw [if_neg (by simp)]
      exact sw_nil (ih hres)
    | @other a d t res hg n1 n2 _ ih =>
      have ha := (List.getElem?_eq_some_iff.mp hg).1
      refine ww_step (tw_cmp (ew_name (.there (.there .here)) (ew_lenrow rfl (.there (.there (.there (.there .here)))) (by simp; omega) (w2_lt (t1_bool ?_)))))
      rw [if_pos (by simp; omega)]
      refine sw_cons (s1_aug (.there (.there .here)) (ew_int (w2_iadd (nm_local rfl (.there (.there .here)) ?_))))
      refine sw_if (tw_rowat1 (.there (.there (.there (.there .here)))) (.there (.there .here)) hg hl hll ?_)
      rw [if_neg (by simpa using n1)]
      refine sw_if (tw_rowat1 (.there (.there (.there (.there .here)))) (.there (.there .here)) hg hl hll ?_)
      rw [if_neg (by simpa using n2)]
      exact sw_nil (ih hres)
  | @on i a d d0 l r hi hsc _ ih0 =>
    obtain ⟨x1, rfl⟩ := hkk
    have hlt := (List.getElem?_eq_some_iff.mp hi).1
    obtain ⟨hl, hll⟩ := hok l (List.mem_of_getElem? hi)
    refine ww_step (tw_cmp (ew_name (.there .here) (ew_callB rfl (mg_len g) (by decide) bb_len (lw_cons (ew_attr_rows .here (lw_nil (wl_len_lst (by omega) (w2_lt (t1_bool ?_)))))))))
    rw [if_pos (by simp; omega)]
    refine sw_cons (s1_assign (ew_sub (ew_attr_rows .here (ew_name (.there .here) (w2_item_lst (by omega) (by omega) (by rw [Int.toNat_natCast, List.getElem?_map, hi]; rfl) (nm_local rfl (.there (.there (.there (.there .here)))) ?_))))))
    refine sw_cons (s1_while ?_)
    generalize hres : Sum.inr d0 = res at hsc
    induction hsc with
    | @eol a d hge =>
      cases hres
      refine ww_step (tw_cmp (ew_name (.there (.there .here)) (ew_lenrow rfl (.there (.there (.there (.there .here)))) (by simp; omega) (w2_lt (t1_bool ?_)))))
      rw [if_neg (by simp; omega)]
      refine sw_cons (s1_assign_swap (ew_tuple (lw_cons (ew_binop (ew_name (.there .here) (ew_int (w2_add (lw_cons (ew_int (lw_nil ⟨_, _, rfl, nm_local rfl (.there (.there .here)) (nm_local rfl (.there .here) ?_)⟩))))))))))
      exact sw_nil (ih0 [("row", some (rowV l))] ⟨_, rfl⟩)
    | @loop a d res hg _ ih =>
      have ha := (List.getElem?_eq_some_iff.mp hg).1
      refine ww_step (tw_cmp (ew_name (.there (.there .here)) (ew_lenrow rfl (.there (.there (.there (.there .here)))) (by simp; omega) (w2_lt (t1_bool ?_)))))
      rw [if_pos (by simp; omega)]
      refine sw_cons (s1_aug (.there (.there .here)) (ew_int (w2_iadd (nm_local rfl (.there (.there .here)) ?_))))
      refine sw_if (tw_rowat1 (.there (.there (.there (.there .here)))) (.there (.there .here)) hg hl hll ?_)
      rw [if_pos (by simp)]
      exact sw_cons (s1_aug (.there (.there (.there .here))) (ew_int (w2_iadd (nm_local rfl (.there (.there (.there .here))) (sw_nil (ih hres))))))
    | @hit a d j' hg he => cases hres
    | @miss a d d' j' res hg he _ ih =>
      have ha := (List.getElem?_eq_some_iff.mp hg).1
      refine ww_step (tw_cmp (ew_name (.there (.there .here)) (ew_lenrow rfl (.there (.there (.there (.there .here)))) (by simp; omega) (w2_lt (t1_bool ?_)))))
      rw [if_pos (by simp; omega)]
      refine sw_cons (s1_aug (.there (.there .here)) (ew_int (w2_iadd (nm_local rfl (.there (.there .here)) ?_))))
      refine sw_if (tw_rowat1 (.there (.there (.there (.there .here)))) (.there (.there .here)) hg hl hll ?_)
      rw [if_neg (by decide)]
      refine sw_if (tw_rowat1 (.there (.there (.there (.there .here)))) (.there (.there .here)) hg hl hll ?_)
      rw [if_pos (by simp)]
      refine sw_cons (s1_assign_tuple (ew_callF (at_ended_by_next g) rfl (mg_ended_by_next g) (lw_cons (ew_name (.there (.there (.there (.there .here)))) (lw_cons (ew_name (.there (.there .here)) (lw_cons (ew_name (.there (.there (.there .here))) (lw_nil ((c_ended g l hl hll (a + 1) d j' (some d') (by omega) he).mono fun v ev => ?_))))))))))
      subst ev
      refine asw_tuple (asw_name (nm_local rfl (.there (.there (.there .here))) (asw_name (nm_local rfl (.there (.there .here)) ?_))))
      refine sw_if (tw_cmp (ew_name (.there (.there (.there .here))) (ew_int (w2_lt (t1_bool ?_)))))
      rw [if_neg (by simp)]
      exact sw_nil (ih hres)
    | @other a d t res hg n1 n2 _ ih =>
      have ha := (List.getElem?_eq_some_iff.mp hg).1
      refine ww_step (tw_cmp (ew_name (.there (.there .here)) (ew_lenrow rfl (.there (.there (.there (.there .here)))) (by simp; omega) (w2_lt (t1_bool ?_)))))
      rw [if_pos (by simp; omega)]
      refine sw_cons (s1_aug (.there (.there .here)) (ew_int (w2_iadd (nm_local rfl (.there (.there .here)) ?_))))
      refine sw_if (tw_rowat1 (.there (.there (.there (.there .here)))) (.there (.there .here)) hg hl hll ?_)
      rw [if_neg (by simpa using n1)]
      refine sw_if (tw_rowat1 (.there (.there (.there (.there .here)))) (.there (.there .here)) hg hl hll ?_)
      rw [if_neg (by simpa using n2)]
      exact sw_nil (ih hres)
end Mine

-- F16
namespace Mine
open PySem PySem.Calls PySem.W PyProof.Rows
open PySem.StrLaws

noncomputable def joinT (sep : List Nat) : List (List Nat) → List Nat
  | [] => []
  | [x] => x
  | x :: y :: r => x ++ sep ++ joinT sep (y :: r)
theorem join_txt (sep : List Nat) : ∀ l : List (List Nat), Txt.join (txt sep) (l.map txt) = txt (joinT sep l)
  | [] => by
    show Builtin.Str.glued _ _ = _
    rw [glued_eq_join]; rfl
  | [x] => by
    show Builtin.Str.glued _ _ = _
    rw [glued_eq_join]; rfl
  | x :: y :: r => by
    have ih := join_txt sep (y :: r)
    have e : ∀ l, Txt.join (txt sep) l = Str.join (txt sep) l := fun l => glued_eq_join _ _
    rw [e] at ih ⊢
    simp only [List.map_cons, Str.join, joinT] at ih ⊢
    rw [ih, txt_append, txt_append]
theorem join_ones' (cs : List Nat) : joinT [] (cs.map fun c => [c]) = cs := by
  induction cs with
  | nil => rfl
  | cons c r ih =>
    cases r with
    | nil => rfl
    | cons d r =>
      simp only [List.map_cons, joinT, List.append_nil] at ih ⊢
      rw [ih]; rfl

noncomputable def plainOf (cs : List Nat) : List Nat := cs.filter fun c => decide (c ≠ 32)
noncomputable def isBelow (p : List Nat) : Bool := decide (p.head? = some 45)
noncomputable def digitsOf (p : List Nat) : List Nat := if p.head? = some 45 ∨ p.head? = some 43 then p.drop 1 else p
noncomputable def foldD : List Nat → Nat → Option Nat
  | [], n => some n
  | c :: r, n => if 48 ≤ c ∧ c ≤ 57 then foldD r (n * 10 + (c - 48)) else none
noncomputable def numIn (cs : List Nat) : V := match foldD (digitsOf (plainOf cs)) 0 with
  | none => .none
  | some n => if (digitsOf (plainOf cs) = [] ∧ plainOf cs ≠ []) ∨ n > 32767 + (if isBelow (plainOf cs) = true then 1 else 0) then .none else if isBelow (plainOf cs) = true then .int (-(n : Int)) else .int n

theorem one_lt (c d : Nat) : ([c] < [d]) ↔ c < d := by simp [List.cons_lt_cons_iff]
theorem head_eq (l : List Nat) (c : Nat) : decide (txt (l.take 1) = ⟨#[c]⟩) = decide (l.head? = some c) := by
  cases l with
  | nil => simp
  | cons d r => simp
theorem txt_inj {a b : List Nat} : decide (txt a = txt b) = decide (a = b) := by
  by_cases h : a = b
  · subst h; simp
  · have : txt a ≠ txt b := fun e => h (by
      have := congrArg (fun s : Str => s.cps.toList) e
      simpa using this)
    simp [h, this]
theorem lay_txt {cs : List Nat} (h : ∀ c ∈ cs, c < 128) : (toPy (.str (txt cs))).canLay0 = true := by
  simp only [toPy, PyData.canLay0, PyData.strOk]
  rw [Array.all_eq_true']
  intro c hc
  have := h c (by simpa using hc)
  exact decide_eq_true (by omega)

section
variable {g : Gr} {O : Led} {n : Lv}
theorem w2_mul {a b : Int} {Q : V → Led → Prop} (hb : -(2 ^ 64) < b ∧ b < 2 ^ 64) (q : Q (.int (a * b)) O) : W2 g n (binaryOp .Mult) (.int a) (.int b) O Q := fun F A s u v ok S R1 R2 => by
  simp only [VR] at R1 R2; obtain ⟨_, rfl⟩ := R1; obtain ⟨_, rfl⟩ := R2
  exact PyProof.Rows.mul_int (EP.tok S (by simp only [VR]; exact ⟨_, rfl⟩) q) (IntMulOk.of_right (intBits_le_64 hb.1 hb.2))
end
theorem ty_join : typeOf (.builtin "str.join") = pure (.type "method_descriptor") := by kernel_rfl
theorem all128 {cs : List Nat} (h : ∀ c ∈ cs, c < 128) : (txt cs).cps.all (· < 128) = true := by
  rw [Array.all_eq_true']
  intro c hc
  exact decide_eq_true (h c (by simpa using hc))

set_option maxHeartbeats 1000000 in
theorem c_number_tail (g : Gr) (cs : List Nat) (L : Addr) (cd : Value) (hdm : ∀ c ∈ digitsOf (plainOf cs), c < 128) (hp : ∀ c ∈ plainOf cs, c < 128) : SW g ⟨0, none⟩ (envOf f_number_in.name f_number_in.scope L 103 cd) [("text", some (.str (txt cs))), ("sign", none), ("plain", some (.str (txt (plainOf cs)))), ("is_below", some (.bool (isBelow (plainOf cs)))), ("digits", some (.str (txt (digitsOf (plainOf cs))))), ("found", none)] [] (f_number_in.body.drop 3) (Back fun v => v = numIn cs) := by
  obtain ⟨tM, hM⟩ := mg_MOST g
  refine sw_cons (s1_assign (ew_int (nm_local rfl (.there (.there (.there (.there (.there .here))))) ?_)))
  refine sw_cons (s1_for (ie_value (ew_name (.there (.there (.there (.there .here)))) ⟨_, itw_str (all128 hdm), ?_⟩)))
  intro I wr C T
  rw [show (txt (digitsOf (plainOf cs))).cps.toList = digitsOf (plainOf cs) by simp]
  obtain ⟨r, hr⟩ : ∃ r, r = digitsOf (plainOf cs) := ⟨_, rfl⟩
  obtain ⟨k, hk⟩ : ∃ k : Nat, k = 0 := ⟨_, rfl⟩
  have hF : foldD r k = foldD (digitsOf (plainOf cs)) 0 := by rw [hr, hk]
  have hrm : ∀ c ∈ r, c < 128 := by rw [hr]; exact hdm
  have hnum : numIn cs = match foldD r k with
    | none => .none
    | some n => if (digitsOf (plainOf cs) = [] ∧ plainOf cs ≠ []) ∨ n > 32767 + (if isBelow (plainOf cs) = true then 1 else 0) then .none else if isBelow (plainOf cs) = true then .int (-(n : Int)) else .int n := by rw [hF]; rfl
  rw [show ((digitsOf (plainOf cs)).map fun c => V.str ⟨#[c]⟩) = (r.map fun c => V.str ⟨#[c]⟩) by rw [hr], show V.int 0 = V.int (k : Int) by rw [hk]; rfl]
  generalize hx : (none : Option V) = x1
  clear hr hk hF hx
  induction r generalizing k x1 with
  | nil =>
    refine forw_nil T ?_
    simp only [foldD] at hnum
    have e0 : (Str.ofString "") = txt [] := by decide +kernel
    have eD : decide (txt (digitsOf (plainOf cs)) = Str.ofString "") = decide (digitsOf (plainOf cs) = []) := by rw [e0]; exact txt_inj
    have eP : PyData.eqv (toPy (.str (txt (plainOf cs)))) (toPy (.str (Str.ofString ""))) = decide (plainOf cs = []) := by
      rw [← txt_inj, ← e0]
      simp only [toPy, PyData.eqv]; rfl
    refine sw_if (tw_boolop (aw_or (tw_boolop (aw_and (tw_cmp (ew_name (.there (.there (.there (.there .here)))) (ew_str (w2_eqstr (lay_txt hdm) (by decide +kernel) (t1_bool ?_)))))))))
    rw [eD]
    by_cases hA : digitsOf (plainOf cs) = [] ∧ plainOf cs ≠ []
    · rw [if_pos (by simpa using hA.1)]
      refine aw_and (tw_cmp (ew_name (.there (.there .here)) (ew_str (w2_ne rfl rfl (lay_txt hp) (by decide +kernel) (Nat.le_trans (Nat.min_le_left _ _) (by simp [toPy, PyData.depth])) (t1_bool ?_)))))
      rw [eP, if_pos (by simpa using hA.2)]
      refine aw_and_nil ?_
      rw [if_pos rfl, if_pos rfl]
      refine sw_cons (s1_return (ew_none ⟨_, .same _, ?_⟩))
      rw [hnum, if_pos (.inl hA)]
    · by_cases hD : digitsOf (plainOf cs) = []
      rotate_left
      rw [if_neg (by simpa using hD), if_neg (by simp)]
      rotate_left
      rw [if_pos (by simpa using hD)]
      refine aw_and (tw_cmp (ew_name (.there (.there .here)) (ew_str (w2_ne rfl rfl (lay_txt hp) (by decide +kernel) (Nat.le_trans (Nat.min_le_left _ _) (by simp [toPy, PyData.depth])) (t1_bool ?_)))))
      have hP : plainOf cs = [] := Classical.byContradiction fun z => hA ⟨hD, z⟩
      rw [eP, if_neg (by simp [hP]), if_neg (by simp)]
      all_goals
        refine aw_or (tw_cmp (ew_name (.there (.there (.there (.there (.there .here))))) (ew_binop (ew_global rfl hM (v := .int 32767) (fun X hX => by simp only [VR]; exact ⟨_, rfl⟩) (ew_ifexp (tw_value (ew_name (.there (.there (.there .here))) (t1_bool ?_))))))))
        cases hb : isBelow (plainOf cs) with
        | true =>
          rw [hb] at hnum
          rw [if_pos rfl]
          refine ew_int (w2_add (w2_gt (t1_bool ?_)))
          by_cases hg : k > 32768
          · rw [if_pos (by simp; omega), if_pos rfl]
            refine sw_cons (s1_return (ew_none ⟨_, .same _, ?_⟩))
            rw [hnum, if_pos (.inr (by simpa using hg))]
          · rw [if_neg (by simp; omega)]
            refine aw_or_nil ?_
            rw [if_neg (by simp)]
            refine sw_cons (s1_return (ew_ifexp (tw_value (ew_name (.there (.there (.there .here))) (t1_bool ?_)))))
            rw [if_pos rfl]
            refine ew_unary (ew_name (.there (.there (.there (.there (.there .here))))) (w1_neg ⟨_, .same _, ?_⟩))
            rw [hnum, if_neg (fun z => z.elim hA fun z => hg (by simpa using z)), if_pos rfl]
        | false =>
          rw [hb] at hnum
          rw [if_neg (by simp)]
          refine ew_int (w2_add (w2_gt (t1_bool ?_)))
          by_cases hg : k > 32767
          · rw [if_pos (by simp; omega), if_pos rfl]
            refine sw_cons (s1_return (ew_none ⟨_, .same _, ?_⟩))
            rw [hnum, if_pos (.inr (by simpa using hg))]
          · rw [if_neg (by simp; omega)]
            refine aw_or_nil ?_
            rw [if_neg (by simp)]
            refine sw_cons (s1_return (ew_ifexp (tw_value (ew_name (.there (.there (.there .here))) (t1_bool ?_)))))
            rw [if_neg (by simp)]
            refine ew_name (.there (.there (.there (.there (.there .here))))) ⟨_, .same _, ?_⟩
            rw [hnum, if_neg (fun z => z.elim hA fun z => hg (by simpa using z)), if_neg (by simp)]
  | cons c r ih =>
    have hc128 := hrm c (.head _)
    refine forw_cons T (asw_name (nm_local rfl (.there .here) ?_))
    refine sw_if (tw_not (tw_chain (ew_str (ew_name (.there .here) (w2_les ⟨_, rfl, ?_⟩)))))
    have l1 : (!decide ((⟨#[c]⟩ : Str).cps.toList < (Str.ofString "0").cps.toList)) = decide (48 ≤ c) := by
      have e : (Str.ofString "0").cps.toList = [48] := by decide +kernel
      rw [e]
      show (!decide ([c] < [48])) = _
      rw [Bool.eq_iff_iff]
      simp only [one_lt, Bool.not_eq_true', decide_eq_false_iff_not, decide_eq_true_eq]; omega
    have l2 : (!decide ((Str.ofString "9").cps.toList < (⟨#[c]⟩ : Str).cps.toList)) = decide (c ≤ 57) := by
      have e : (Str.ofString "9").cps.toList = [57] := by decide +kernel
      rw [e]
      show (!decide ([57] < [c])) = _
      rw [Bool.eq_iff_iff]
      simp only [one_lt, Bool.not_eq_true', decide_eq_false_iff_not, decide_eq_true_eq]; omega
    rw [l1]
    by_cases h1 : 48 ≤ c
    · rw [if_pos (by simpa using h1)]
      refine ew_str (w2_les ⟨_, rfl, ?_⟩)
      rw [l2]
      by_cases h2 : c ≤ 57
      · rw [if_neg (by simp [h2])]
        refine sw_cons (s1_assign (ew_binop (ew_binop (ew_binop (ew_name (.there (.there (.there (.there (.there .here))))) (ew_int (w2_mul (by decide) (ew_callB rfl (mg_ord g) (by decide) bb_ord (lw_cons (ew_name (.there .here) (lw_nil (wl_ord rfl (w2_add (ew_int (w2_sub (nm_local rfl (.there (.there (.there (.there (.there .here))))) (sw_nil ?_)))))))))))))))))
        have := ih (k * 10 + (c - 48)) (fun d hd => hrm d (.tail _ hd)) (by rw [hnum, foldD, if_pos ⟨h1, h2⟩]) (some (V.str ⟨#[c]⟩))
        rw [show ((k * 10 + (c - 48) : Nat) : Int) = (k : Int) * 10 + (c : Int) - 48 by omega] at this
        exact this
      · rw [if_pos (by simp [h2])]
        refine sw_cons (s1_return (ew_none ⟨_, .same _, ?_⟩))
        rw [hnum, foldD, if_neg (fun z => h2 z.2)]
    · rw [if_neg (by simpa using h1), if_pos (by rfl)]
      refine sw_cons (s1_return (ew_none ⟨_, .same _, ?_⟩))
      rw [hnum, foldD, if_neg (fun z => h1 z.1)]

set_option maxHeartbeats 1000000 in
theorem c_number (g : Gr) (cs : List Nat) (hc : ∀ c ∈ cs, c < 128) (hl : cs.length ≤ 1000) : FW g 1 103 [.str (txt cs)] (fun v => v = numIn cs) := by
  refine fw1 (rest := ["sign", "plain", "is_below", "digits", "found"]) (at_number_in g) (fun _ _ _ _ => rfl) rfl (by decide) rfl rfl rfl (by decide) fun L cd => ?_
  have hp : ∀ c ∈ plainOf cs, c < 128 := fun c h => hc c (List.mem_filter.mp h).1
  have hpl : (plainOf cs).length ≤ 1000 := Nat.le_trans (List.length_filter_le _ _) hl
  have len : (txt (plainOf cs)).length ≤ 100000 := by rw [txt_len]; omega
  have hdm : ∀ c ∈ digitsOf (plainOf cs), c < 128 := fun c h => by
    unfold digitsOf at h
    split at h
    · exact hp c (List.mem_of_mem_drop h)
    · exact hp c h
  refine sw_cons (s1_assign (ew_meth (ew_str ⟨mg_str PySem.F.slot_str_join ty_join, lw_cons ?_⟩)))
  refine ew_comp (cl := []) (mf := []) (ie_value (ew_name .here ⟨_, itw_str (all128 hc), by simp; omega, (fun v => !PyData.eqv (toPy v) (toPy (.str " "))), id, fun v hv C => ?_, fun v hv _ C => ew_name .here ⟨rfl, rfl⟩, lw_nil ?_⟩)) (closureFor_none (by decide)) (by decide) rfl (by decide) rfl (by simp) (by simp) (by simp) (by simp)
  · obtain ⟨c, hcm, rfl⟩ := List.mem_map.mp hv
    refine ct_one (tw_cmp (ew_name .here (ew_str (w2_ne rfl rfl ?_ (by decide +kernel) (by simp [toPy, PyData.depth]) (t1_bool ⟨rfl, rfl⟩)))))
    have := lay_txt (cs := [c]) (by intro d hd; simp at hd; subst hd; exact hc d (by simpa using hcm))
    exact this
  have ej : ((cs.map fun c => V.str ⟨#[c]⟩).filter fun v => !PyData.eqv (toPy v) (toPy (.str " "))).map id = (((plainOf cs).map fun c => [c]).map txt).map V.str := by
    rw [List.map_id, List.filter_map, List.map_map, List.map_map]
    have : (cs.filter ((fun v => !PyData.eqv (toPy v) (toPy (.str " "))) ∘ fun c => V.str ⟨#[c]⟩)) = plainOf cs := by
      unfold plainOf
      apply List.filter_congr
      intro c _
      show (!PyData.eqv (PyData.str ⟨#[c]⟩) (PyData.str " ")) = _
      simp only [PyData.eqv]
      have e : (Str.ofString " ") = ⟨#[32]⟩ := by decide +kernel
      rw [e]
      by_cases h : c = 32
      · subst h; simp
      · simp [h]
    rw [this]
    apply List.map_congr_left
    intro c _
    rfl
  show WL _ _ _ [V.str (Str.ofString ""), V.lst (((txt cs).cps.toList.map fun c => V.str ⟨#[c]⟩).filter _ |>.map id)] _ _
  rw [show (txt cs).cps.toList = cs by simp, ej]
  refine wl_join ?_ ?_
  · have e0 : (Str.ofString "").length = 0 := by decide
    rw [e0, Nat.mul_zero, Nat.add_zero]
    have : ∀ l : List Nat, (((l.map fun c => [c]).map txt).map (·.length)).sum = l.length := fun l => by
      induction l with
      | nil => rfl
      | cons a l ih =>
        simp only [List.map_cons, List.sum_cons, List.length_cons] at ih ⊢
        rw [ih]
        have : (txt [a]).length = 1 := rfl
        omega
    rw [this]; omega
  have e0 : (Str.ofString "") = txt [] := by decide +kernel
  rw [e0, join_txt, join_ones']
  refine nm_local rfl (.there (.there .here)) ?_
  -- is_below
  have em : (Str.ofString "-") = ⟨#[45]⟩ := by decide +kernel
  have ep : (Str.ofString "+") = ⟨#[43]⟩ := by decide +kernel
  have et : (slV (plainOf cs) none (some 1)) = (plainOf cs).take 1 := by
    unfold slV
    simp only [Option.elim]
    rw [List.drop_zero, Nat.sub_zero]
    rcases Nat.eq_zero_or_pos (plainOf cs).length with h | h
    · have : plainOf cs = [] := List.eq_nil_of_length_eq_zero h
      rw [this]; simp
    · rw [show clipAt (plainOf cs).length 1 = 1 from clip_in h]
  have lay1 : (toPy (.str (txt ((plainOf cs).take 1)))).canLay0 = true := lay_txt fun c h => hp c (List.mem_of_mem_take h)
  refine sw_cons (s1_assign (ew_cmp (ew_slice_str (ew_name (.there (.there .here)) ⟨_, rfl, len, pw_none (pw_some (ew_int ⟨_, rfl, ew_str ?_⟩))⟩))))
  rw [List.toList_toArray, et]
  refine w2_eqstr lay1 (by decide +kernel) ?_
  have e1 : decide (txt ((plainOf cs).take 1) = Str.ofString "-") = isBelow (plainOf cs) := by rw [em, head_eq]; rfl
  rw [e1]
  refine nm_local rfl (.there (.there (.there .here))) ?_
  -- digits
  refine sw_cons (s1_assign (ew_ifexp (tw_cmp (ew_slice_str (ew_name (.there (.there .here)) ⟨_, rfl, len, pw_none (pw_some (ew_int ⟨_, rfl, ew_str2 ?_⟩))⟩)))))
  rw [List.toList_toArray, et]
  refine w2_in_tup rfl rfl lay1 (by decide +kernel) (by simp [toPy, PyData.depth]) (t1_bool ?_)
  have ein : ((toPys [V.str (Str.ofString "-"), V.str (Str.ofString "+")]).any fun y => PyData.eqv y (toPy (.str (txt ((plainOf cs).take 1))))) = decide ((plainOf cs).head? = some 45 ∨ (plainOf cs).head? = some 43) := by
    simp only [toPys, toPy, List.any_cons, List.any_nil, Bool.or_false, PyData.eqv]
    rw [em, ep, Bool.decide_or, ← head_eq, ← head_eq]
    have c : ∀ x y : Str, (x == y) = decide (y = x) := fun x y => by
      by_cases h : x = y
      · subst h; simp
      · rw [beq_eq_false_iff_ne.mpr h, decide_eq_false (fun z => h z.symm)]
    rw [c, c]
  rw [ein]
  have main := c_number_tail g cs L cd hdm hp
  by_cases h : (plainOf cs).head? = some 45 ∨ (plainOf cs).head? = some 43
  · rw [if_pos (by simpa using h)]
    refine ew_slice_str (ew_name (.there (.there .here)) ⟨_, rfl, len, pw_some (ew_int ⟨_, rfl, pw_none (nm_local rfl (.there (.there (.there (.there .here)))) ?_)⟩)⟩)
    have ed : slV (txt (plainOf cs)).cps.toList (some 1) none = digitsOf (plainOf cs) := by
      rw [List.toList_toArray]
      unfold digitsOf
      rw [if_pos h]
      have hpos : 1 ≤ (plainOf cs).length := by
        cases hq : plainOf cs with
        | nil => rw [hq] at h; simp at h
        | cons a b => simp
      exact sl_from (plainOf cs) (i := 1) hpos
    rw [ed]
    exact main
  · rw [if_neg (by simpa using h)]
    refine ew_name (.there (.there .here)) (nm_local rfl (.there (.there (.there (.there .here)))) ?_)
    have ed : digitsOf (plainOf cs) = plainOf cs := by unfold digitsOf; rw [if_neg h]
    rw [ed] at main
    exact main
end Mine

-- F18
namespace Mine
open PySem PySem.Calls PySem.W PyProof.Rows

noncomputable def tab8 : List (Str × Str) := [("12", "12"), (" a b ", "a b"), ("\"x,y\"", "x,y"), ("\" z\"", " z"), ("", ""), ("a:b", "a:b"), ("\"q\" ", "q"), ("-5", "-5")]
noncomputable def itemOf (n : Nat) : Str × Str := tab8.getD (n % 8) ("", "")
theorem c_law_item (g : Gr) (k : Nat) : FW g 1 196 [.int k] (fun v => v = .tup [.str (itemOf k).1, .str (itemOf k).2]) := by
  refine fw1 (rest := []) (at_law_item g) (fun _ _ _ _ => rfl) rfl (by decide) rfl rfl rfl (by decide) fun L cd => ?_
  refine sw_cons ?_
  refine s1_return ?_
  refine ew_sub ?_
  refine ew_list ?_
  refine lw_cons ?_
  refine ew_str2 ?_
  refine lw_cons ?_
  refine ew_str2 ?_
  refine lw_cons ?_
  refine ew_str2 ?_
  refine lw_cons ?_
  refine ew_str2 ?_
  refine lw_cons ?_
  refine ew_str2 ?_
  refine lw_cons ?_
  refine ew_str2 ?_
  refine lw_cons ?_
  refine ew_str2 ?_
  refine lw_cons ?_
  refine ew_str2 ?_
  refine lw_nil ?_
  refine ew_binop (ew_name .here (ew_int (w2_mod (by decide) ?_)))
  rw [show (k : Int).fmod 8 = ((k % 8 : Nat) : Int) from fmod_nat k 8]
  have h8 : k % 8 < 8 := Nat.mod_lt _ (by decide)
  have hv : ([V.tup [.str "12", .str "12"], .tup [.str " a b ", .str "a b"], .tup [.str "\"x,y\"", .str "x,y"], .tup [.str "\" z\"", .str " z"], .tup [.str "", .str ""], .tup [.str "a:b", .str "a:b"], .tup [.str "\"q\" ", .str "q"], .tup [.str "-5", .str "-5"]] : List V)[k % 8]? = some (.tup [.str (itemOf k).1, .str (itemOf k).2]) := by
    unfold itemOf
    generalize k % 8 = j at h8
    have : j = 0 ∨ j = 1 ∨ j = 2 ∨ j = 3 ∨ j = 4 ∨ j = 5 ∨ j = 6 ∨ j = 7 := (by decide : ∀ x, x < 8 → x = 0 ∨ x = 1 ∨ x = 2 ∨ x = 3 ∨ x = 4 ∨ x = 5 ∨ x = 6 ∨ x = 7) _ h8
    rcases this with rfl | rfl | rfl | rfl | rfl | rfl | rfl | rfl <;> rfl
  exact w2_item_lst (by omega) (by omega) (by rw [Int.toNat_natCast]; exact hv) ⟨_, .same _, rfl⟩
end Mine

-- F19
namespace Mine
open PySem PySem.Calls PySem.W PyProof.Rows

noncomputable abbrev eD (L : Addr) (cd : Value) : Env := envOfC f_law_data_right.name f_law_data_right.scope L 201 cd
noncomputable def itemsOf (k : Nat) : List Str := (List.range (1 + k % 3)).map fun t => (itemOf (k / 8 ^ t)).2
theorem fdiv_nat (n k : Nat) : (n : Int).fdiv (k : Int) = ((n / k : Nat) : Int) := by
  rw [Int.fdiv_eq_ediv_of_nonneg _ (Int.natCast_nonneg k)]; rfl
theorem intsFrom_mem {a : Int} {k : Nat} {v : V} (h : v ∈ intsFrom a k) : ∃ i : Nat, i < k ∧ v = .int (a + i) := by
  obtain ⟨i, hi, rfl⟩ := List.mem_map.mp h
  rw [List.mem_range'] at hi
  obtain ⟨j, hj, rfl⟩ := hi
  exact ⟨0 + 1 * j, by omega, by simp⟩
theorem intsFrom_len (a : Int) (k : Nat) : (intsFrom a k).length = k := by unfold intsFrom; simp
theorem intsFrom_map {β : Type} (f : V → β) (k : Nat) : (intsFrom 0 k).map f = (List.range k).map fun (t : Nat) => f (.int (t : Int)) := by
  unfold intsFrom
  rw [List.map_map, List.range_eq_range']
  apply List.map_congr_left
  intro i _
  simp [Function.comp]
theorem cell_num (L : Addr) (cd : Value) : ∀ a, a ∈ [(("number" : Str), L + 1 + 1)].map (·.2) → a ∈ (eD L cd).cells.map (·.2) := fun a ha => by
  have h : a = L + 1 + 1 := by simpa using ha
  subst h
  show L + 1 + 1 ∈ [L + 1 + 1, L + 1]
  exact .head _
theorem cell_at (L : Addr) (cd : Value) : ∀ a, a ∈ [(("at" : Str), L + 1)].map (·.2) → a ∈ (eD L cd).cells.map (·.2) := fun a ha => by
  have h : a = L + 1 := by simpa using ha
  subst h
  show L + 1 ∈ [L + 1 + 1, L + 1]
  exact .tail _ (.head _)
noncomputable def itemF (k : Nat) : V → V
  | .int t => .str (itemOf (k / 8 ^ t.toNat)).2
  | _ => .none
theorem itemsF (k : Nat) : ((intsFrom 0 (1 + k % 3)).filter fun _ => true).map (itemF k) = (itemsOf k).map V.str := by
  rw [List.filter_eq_self.mpr (fun _ _ => rfl), intsFrom_map]
  unfold itemsOf
  rw [List.map_map]
  apply List.map_congr_left
  intro t _
  simp [itemF]

section
variable {g : Gr} {O : Led} {n : Lv} {m : Loc} {L : Addr} {cd : Value}
noncomputable def stItems : Stmt := match f_law_data_right.body with
  | _ :: .For _ _ (s :: _) _ _ :: _ => s
  | _ => .Break default
theorem s1_items {k : Nat} {m' : Loc} {Q : Fl → Loc → Led → Prop} (hn : 1 ≤ n.n) (hm : Get m "number" (.int k)) (hu : Upd m "items" (.lst ((itemsOf k).map V.str)) m') (q : Q .next m' O) : S1 g n (eD L cd) m O stItems Q := by
  refine s1_assign_comp (cl := [("number", L + 1 + 1)]) (mf := [("number", some (.int k))]) ?_ rfl (by decide) rfl (by decide) rfl (cell_num L cd) (by simp) (by show (["turn", "number"] : List Str).Nodup; decide) ?_ rfl rfl
  · refine ie_callT rfl (mg_range g) (by decide) bb_range ?_
    refine lw_cons ?_
    refine ew_binop (ew_int (ew_binop (ew_name hm (ew_int (w2_mod (by decide) ?_)))))
    rw [show (k : Int).fmod 3 = ((k % 3 : Nat) : Int) from fmod_nat k 3]
    refine w2_add ?_
    refine lw_nil ?_
    refine ic_range1 (by omega) ?_
    rw [show ((1 : Int) + ((k % 3 : Nat) : Int)).toNat = 1 + k % 3 by omega]
    refine ⟨by rw [intsFrom_len]; omega, fun _ => true, itemF k, fun v hv C => ct_nil, fun v hv _ C => ?_, m', by rw [itemsF]; exact hu, q⟩
    obtain ⟨t, ht, rfl⟩ := intsFrom_mem hv
    rw [Int.zero_add]
    have h2 : t ≤ 2 := by omega
    refine ew_sub ?_
    refine ew_callF (at_law_item g) rfl (mg_law_item g) ?_
    refine lw_cons ?_
    refine ew_binop (ew_name (.there .here) (ew_binop (ew_int (ew_name .here (w2_pow h2 ?_)))))
    refine w2_div (by have : t = 0 ∨ t = 1 ∨ t = 2 := by omega
                      rcases this with rfl | rfl | rfl <;> decide) (by have : t = 0 ∨ t = 1 ∨ t = 2 := by omega
                                                                       rcases this with rfl | rfl | rfl <;> exact PyProof.noPylong_small (by decide)) ?_
    rw [fdiv_nat]
    refine lw_nil ?_
    refine ((c_law_item g _).le hn).mono fun v ev => ?_
    subst ev
    refine ew_int (w2_item_tup (j := 1) (by decide) rfl rfl ⟨rfl, ?_⟩)
    simp [itemF]
  · intro y w hy
    simp at hy
    obtain ⟨rfl, rfl⟩ := hy
    exact ⟨hm.mem, rfl, fun C => rfl, fun c hc => by cases hc; rfl⟩
end
end Mine

-- F19b
namespace Mine
open PySem PySem.Calls PySem.W PyProof.Rows

noncomputable def exDue : Expr := match f_law_data_right.body with
  | _ :: .For _ _ [_, _, _, _, _, .Assign _ (.BinOp _ _ e _) _] _ _ :: _ => e
  | _ => .Constant .none 0 default
noncomputable def dueOf (i : Nat) (xs : List Str) : List V := xs.map fun x => .tup [.int ((10 + 10 * i : Nat) : Int), .str x]
noncomputable def dueF (i : Nat) : V → V
  | .str x => .tup [.int ((10 + 10 * i : Nat) : Int), .str x]
  | _ => .none
theorem dueF_map (i : Nat) (xs : List Str) : ((xs.map V.str).filter fun _ => true).map (dueF i) = dueOf i xs := by
  rw [List.filter_eq_self.mpr (fun _ _ => rfl), List.map_map]
  rfl
section
variable {g : Gr} {O : Led} {n : Lv} {m : Loc} {L : Addr} {cd : Value}
theorem ew_due {i : Nat} {xs : List Str} {Q : V → Led → Prop} (hx : xs.length ≤ 100) (hi : i ≤ 100) (hm : Get m "at" (.int i)) (hit : Get m "items" (.lst (xs.map V.str))) (q : Q (.lst (dueOf i xs)) O) : EW g n (eD L cd) m O exDue Q := by
  refine ew_comp (cl := [("at", L + 1)]) (mf := [("at", some (.int i))]) ?_ rfl (by decide) rfl (by decide) rfl (cell_at L cd) (by simp) (by show (["item", "at"] : List Str).Nodup; decide) ?_
  · refine ie_value ?_
    refine ew_name hit ?_
    refine ⟨_, itw_lst, by rw [List.length_map]; omega, fun _ => true, dueF i, fun v hv C => ct_nil, fun v hv _ C => ?_, by rw [dueF_map]; exact q⟩
    obtain ⟨x, _, rfl⟩ := List.mem_map.mp hv
    refine ew_tuple ?_
    refine lw_cons ?_
    refine ew_binop ?_
    refine ew_int ?_
    refine ew_binop ?_
    refine ew_int ?_
    refine ew_name (.there (.here)) ?_
    refine w2_mul (by omega) ?_
    refine w2_add ?_
    refine lw_cons ?_
    refine ew_name .here ?_
    refine lw_nil ⟨rfl, ?_⟩
    simp [dueF]
  · intro y w hy
    simp at hy
    obtain ⟨rfl, rfl⟩ := hy
    exact ⟨hm.mem, rfl, fun C => rfl, fun c hc => by cases hc; rfl⟩
end

noncomputable def preOf (k : Nat) : List Tok := if k % 5 = 0 then [.s "word" "PRINT", .s "raw" "none", tCOLON] else []
noncomputable def itl : Nat → List Str → List Tok
  | _, [] => []
  | j, x :: r => (if 0 < j then [tCOMMA] else []) ++ [.s "raw" x] ++ itl (j + 1) r
noncomputable def postOf (k : Nat) : List Tok := if k % 2 = 0 then [tCOLON, tREM, .s "raw" "no item"] else []
noncomputable def rowD (k : Nat) : List Tok := preOf k ++ [.s "word" "DATA"] ++ itl 0 (itemsOf k)
theorem itl_len : ∀ (xs : List Str) (j : Nat), (itl j xs).length ≤ 2 * xs.length
  | [], _ => by simp [itl]
  | x :: r, j => by
    have := itl_len r (j + 1)
    unfold itl
    split <;> simp <;> omega
theorem items_len (k : Nat) : (itemsOf k).length = 1 + k % 3 := by unfold itemsOf; simp
theorem pre_len (k : Nat) : (preOf k).length ≤ 3 := by unfold preOf; split <;> simp
theorem post_len (k : Nat) : (postOf k).length ≤ 3 := by unfold postOf; split <;> simp
theorem rowD_len (k : Nat) : 1 ≤ (rowD k).length ∧ (rowD k).length ≤ 10 := by
  have h1 := itl_len (itemsOf k) 0
  have h2 := items_len k
  have h3 := pre_len k
  unfold rowD
  simp
  omega

noncomputable def bodyD : List Stmt := match f_law_data_right.body with
  | _ :: .For _ _ b _ _ :: _ => b
  | _ => []
noncomputable abbrev progL (x d a b : Addr) (ns rs : List V) : Led := [(b, .list rs), (a, .list ns), (x, .inst d), (d, .attrs [("numbers", a), ("rows", b)])]
noncomputable def keysD (tl : Loc) : Prop := ∃ x1 x2 x3 x4 x5 x6 x7 : Option V, tl = ([("at", x1), ("number", x2), ("items", x3), ("row", x4), ("spot", x5), ("item", x6), ("some_items", x7)] : Loc)

set_option maxHeartbeats 2000000 in
/-- one turn of the loop that builds -/
theorem sw_turnD {g : Gr} {L : Addr} {cd : Value} {ns : List V} {x d a b : Addr} {ps : List (Nat × List Tok)} {due : List V} {i k : Nat} {x3 x4 x5 x6 x7 : Option V} {Q : Fl → Loc → Led → Prop}
    (hps : ps.length = i) (hlt : ∀ p ∈ ps, p.1 < 10 + 10 * i) (hi : i ≤ 3) (hdue : due.length ≤ 100)
    (q : ∀ tl, keysD tl → Q .next (("some", some (.lst ns)) :: ("program", some (.ref x)) :: ("due", some (.lst (due ++ dueOf i (itemsOf k)))) :: tl) (progL x d a b (nums ((ps ++ [(10 + 10 * i, rowD k ++ postOf k)]).map (·.1))) ((ps ++ [(10 + 10 * i, rowD k ++ postOf k)]).map fun p => rowV p.2))) :
    SW g ⟨3, none⟩ (eD L cd) [("some", some (.lst ns)), ("program", some (.ref x)), ("due", some (.lst due)), ("at", some (.int i)), ("number", some (.int k)), ("items", x3), ("row", x4), ("spot", x5), ("item", x6), ("some_items", x7)] (progL x d a b (nums (ps.map (·.1))) (ps.map fun p => rowV p.2)) bodyD Q := by
  have il := items_len k
  have pl := pre_len k
  have rl := rowD_len k
  have ol := post_len k
  refine sw_cons ?_
  refine s1_items (by decide) (.there (.there (.there (.there (.here))))) (.there (.there (.there (.there (.there (.here)))))) ?_
  refine sw_cons ?_
  refine s1_assign ?_
  refine ew_ifexp ?_
  refine tw_cmp ?_
  refine ew_binop ?_
  refine ew_name (.there (.there (.there (.there (.here))))) ?_
  refine ew_int ?_
  refine w2_mod (by decide) ?_
  rw [show (k : Int).fmod 5 = ((k % 5 : Nat) : Int) from fmod_nat k 5]
  refine ew_int ?_
  refine w2_eq rfl rfl rfl rfl (by simp [toPy, PyData.depth]) (t1_bool ?_)
  have go : SW g ⟨3, none⟩ (eD L cd) [("some", some (.lst ns)), ("program", some (.ref x)), ("due", some (.lst due)), ("at", some (.int i)), ("number", some (.int k)), ("items", some (.lst ((itemsOf k).map V.str))), ("row", some (rowV (preOf k))), ("spot", x5), ("item", x6), ("some_items", x7)] (progL x d a b (nums (ps.map (·.1))) (ps.map fun p => rowV p.2)) (bodyD.drop 2) Q := by
    refine sw_cons ?_
    refine s1_assign ?_
    refine ew_binop ?_
    refine ew_name (.there (.there (.there (.there (.there (.there (.here))))))) ?_
    refine ew_list ?_
    refine lw_cons ?_
    refine ew_str2 ?_
    refine lw_nil ?_
    refine w2_addl (by rw [List.length_map]; simp; omega) ?_
    refine nm_local rfl (.there (.there (.there (.there (.there (.there (.here))))))) ?_
    refine sw_cons ?_
    refine s1_for ?_
    refine ie_callT rfl (mg_enumerate g) (by decide) bb_enumerate ?_
    refine lw_cons ?_
    refine ew_name (.there (.there (.there (.there (.there (.here)))))) ?_
    refine lw_nil ?_
    refine ic_enum ?_
    intro I wr C T
    obtain ⟨r, hr⟩ : ∃ r, r = itemsOf k := ⟨_, rfl⟩
    obtain ⟨j, hj⟩ : ∃ j : Nat, j = 0 := ⟨_, rfl⟩
    obtain ⟨acc, hacc⟩ : ∃ acc : List Tok, acc = preOf k ++ [.s "word" "DATA"] := ⟨_, rfl⟩
    have hA : acc ++ itl j r = rowD k := by rw [hacc, hj, hr]; rfl
    have hal : acc.length + 2 * r.length ≤ 10 := by rw [hacc, hr]; simp; omega
    rw [show (preOf k).map Tok.v ++ [V.tup [.str "word", .str "DATA"]] = acc.map Tok.v by rw [hacc]; simp [Tok.v], show enumV 0 ((itemsOf k).map V.str) = enumV j (r.map V.str) by rw [hr, hj]]
    have hjl : j + r.length ≤ 10 := by rw [hj, hr]; omega
    clear hr hj hacc
    induction r generalizing j acc x5 x6 with
    | nil =>
      simp only [List.map_nil, enumV]
      refine forw_nil T ?_
      simp only [itl, List.append_nil] at hA
      subst hA
      have cont : ∀ O' : Led, O' = progL x d a b (nums (ps.map (·.1)) ++ [.int ((10 + 10 * i : Nat) : Int)]) ((ps.map fun p => rowV p.2) ++ [rowV (rowD k ++ postOf k)]) → SW g ⟨3, none⟩ (eD L cd) [("some", some (.lst ns)), ("program", some (.ref x)), ("due", some (.lst due)), ("at", some (.int i)), ("number", some (.int k)), ("items", some (.lst ((itemsOf k).map V.str))), ("row", some (rowV (rowD k))), ("spot", x5), ("item", x6), ("some_items", x7)] O' (bodyD.drop 5) Q := by
        intro O' hO
        subst hO
        refine sw_cons ?_
        refine s1_assign ?_
        refine ew_binop ?_
        refine ew_name (.there (.there (.here))) ?_
        refine ew_due (by omega) (by omega) (.there (.there (.there (.here)))) (.there (.there (.there (.there (.there (.here)))))) ?_
        refine w2_addl (by unfold dueOf; rw [List.length_map]; omega) ?_
        refine nm_local rfl (.there (.there (.here))) ?_
        refine sw_nil ?_
        have := q [("at", some (.int i)), ("number", some (.int k)), ("items", some (.lst ((itemsOf k).map V.str))), ("row", some (rowV (rowD k))), ("spot", x5), ("item", x6), ("some_items", x7)] ⟨_, _, _, _, _, _, _, rfl⟩
        simp only [nums, List.map_append, List.map_cons, List.map_nil] at this
        exact this
      have put : FM g 3 159 [.ref x, .int ((10 + 10 * i : Nat) : Int), rowV (rowD k ++ postOf k)] (progL x d a b (nums (ps.map (·.1))) (ps.map fun p => rowV p.2)) (fun v O' => v = .none ∧ O' = progL x d a b (nums (ps.map (·.1)) ++ [.int ((10 + 10 * i : Nat) : Int)]) ((ps.map fun p => rowV p.2) ++ [rowV (rowD k ++ postOf k)])) :=
        c_put g _ _ _ x d a b (ps.map (·.1)) _ (10 + 10 * i) _ (.tail _ (.tail _ (.head _))) (.tail _ (.tail _ (.tail _ (.head _)))) (.head _) (.there .here) .here (.tail _ (.tail _ (.head _))) (.tail _ (.tail _ (.tail _ (.head _))))
          (fun y hy => by obtain ⟨p, hp, rfl⟩ := List.mem_map.mp hy; exact hlt p hp) (by omega) (by rw [List.length_map]; omega) (by rw [List.length_map, List.length_map]) (by rw [List.length_map, List.length_append]; omega)
      refine sw_cons ?_
      refine s1_callM (at_put_line g) rfl (mg_put_line g) ?_
      refine lw_cons ?_
      refine ew_name (.there (.here)) ?_
      refine lw_cons ?_
      refine ew_binop ?_
      refine ew_int ?_
      refine ew_binop ?_
      refine ew_int ?_
      refine ew_name (.there (.there (.there (.here)))) ?_
      refine w2_mul (by omega) ?_
      refine w2_add ?_
      rw [show (10 : Int) + 10 * (i : Int) = ((10 + 10 * i : Nat) : Int) by omega]
      refine lw_cons ?_
      refine ew_binop ?_
      refine ew_name (.there (.there (.there (.there (.there (.there (.here))))))) ?_
      refine ew_ifexp ?_
      refine tw_cmp ?_
      refine ew_binop ?_
      refine ew_name (.there (.there (.there (.there (.here))))) ?_
      refine ew_int ?_
      refine w2_mod (by decide) ?_
      rw [show (k : Int).fmod 2 = ((k % 2 : Nat) : Int) from fmod_nat k 2]
      refine ew_int ?_
      refine w2_eq rfl rfl rfl rfl (by simp [toPy, PyData.depth]) (t1_bool ?_)
      by_cases h2 : k % 2 = 0
      · rw [if_pos (by simp [toPy, PyData.eqv, h2])]
        refine ew_list ?_
        refine lw_cons ?_
        refine ew_str2 ?_
        refine lw_cons ?_
        refine ew_str2 ?_
        refine lw_cons ?_
        refine ew_str2 ?_
        refine lw_nil ?_
        refine w2_addl (by rw [List.length_map]; simp; omega) ?_
        refine lw_nil ?_
        have e : (rowD k).map Tok.v ++ [V.tup [.str "sign", .str ":"], .tup [.str "word", .str "REM"], .tup [.str "raw", .str "no item"]] = (rowD k ++ postOf k).map Tok.v := by
          unfold postOf; rw [if_pos h2, List.map_append]; rfl
        rw [e]
        exact put.mono fun v O' h => ⟨h.1, cont O' h.2⟩
      · rw [if_neg (by simp [toPy, PyData.eqv]; omega)]
        refine ew_list ?_
        refine lw_nil ?_
        refine w2_addl (by rw [List.length_map]; simp; omega) ?_
        refine lw_nil ?_
        have e : (rowD k).map Tok.v ++ ([] : List V) = (rowD k ++ postOf k).map Tok.v := by
          unfold postOf; rw [if_neg h2]; simp
        rw [e]
        exact put.mono fun v O' h => ⟨h.1, cont O' h.2⟩
    | cons y r ih =>
      simp only [List.map_cons, enumV]
      refine forw_cons T ?_
      refine asw_tuple ?_
      refine asw_name ?_
      refine nm_local rfl (.there (.there (.there (.there (.there (.there (.there (.here)))))))) ?_
      refine asw_name ?_
      refine nm_local rfl (.there (.there (.there (.there (.there (.there (.there (.there (.here))))))))) ?_
      refine sw_cons ?_
      refine s1_assign ?_
      refine ew_binop ?_
      refine ew_binop ?_
      refine ew_name (.there (.there (.there (.there (.there (.there (.here))))))) ?_
      refine ew_ifexp ?_
      refine tw_cmp ?_
      refine ew_name (.there (.there (.there (.there (.there (.there (.there (.here)))))))) ?_
      refine ew_int ?_
      refine w2_gt (t1_bool ?_)
      simp only [List.length_cons] at hal hjl
      by_cases h0 : 0 < j
      · rw [if_pos (by simpa using h0)]
        refine ew_list ?_
        refine lw_cons ?_
        refine ew_str2 ?_
        refine lw_nil ?_
        refine w2_addl (by rw [List.length_map]; simp; omega) ?_
        refine ew_list ?_
        refine lw_cons ?_
        refine ew_tuple ?_
        refine lw_cons ?_
        refine ew_str ?_
        refine lw_cons ?_
        refine ew_name (.there (.there (.there (.there (.there (.there (.there (.there (.here))))))))) ?_
        refine lw_nil ?_
        refine lw_nil ?_
        refine w2_addl (by simp; omega) ?_
        refine nm_local rfl (.there (.there (.there (.there (.there (.there (.here))))))) ?_
        refine sw_nil ?_
        have := ih (x5 := some (V.int j)) (x6 := some (V.str y)) (j + 1) (acc ++ [tCOMMA] ++ [.s "raw" y]) (by rw [← hA, itl, if_pos h0]; simp) (by simp; omega) (by omega)
        simp only [List.map_append] at this
        exact this
      · rw [if_neg (by simpa using h0)]
        refine ew_list ?_
        refine lw_nil ?_
        refine w2_addl (by rw [List.length_map]; simp; omega) ?_
        refine ew_list ?_
        refine lw_cons ?_
        refine ew_tuple ?_
        refine lw_cons ?_
        refine ew_str ?_
        refine lw_cons ?_
        refine ew_name (.there (.there (.there (.there (.there (.there (.there (.there (.here))))))))) ?_
        refine lw_nil ?_
        refine lw_nil ?_
        refine w2_addl (by simp; omega) ?_
        refine nm_local rfl (.there (.there (.there (.there (.there (.there (.here))))))) ?_
        refine sw_nil ?_
        have := ih (x5 := some (V.int j)) (x6 := some (V.str y)) (j + 1) (acc ++ [] ++ [.s "raw" y]) (by rw [← hA, itl, if_neg h0]; simp) (by simp; omega) (by omega)
        simp only [List.map_append] at this
        exact this
  by_cases h5 : k % 5 = 0
  · rw [if_pos (by simp [toPy, PyData.eqv, h5])]
    refine ew_list ?_
    refine lw_cons ?_
    refine ew_str2 ?_
    refine lw_cons ?_
    refine ew_str2 ?_
    refine lw_cons ?_
    refine ew_str2 ?_
    refine lw_nil ?_
    refine nm_local rfl (.there (.there (.there (.there (.there (.there (.here))))))) ?_
    rw [show preOf k = [.s "word" "PRINT", .s "raw" "none", tCOLON] by unfold preOf; rw [if_pos h5]] at go
    exact go
  · rw [if_neg (by simp [toPy, PyData.eqv]; omega)]
    refine ew_list ?_
    refine lw_nil ?_
    refine nm_local rfl (.there (.there (.there (.there (.there (.there (.here))))))) ?_
    rw [show preOf k = [] by unfold preOf; rw [if_neg h5]] at go
    exact go
end Mine

-- P1
namespace Mine
open PySem PySem.Calls PySem.W PyProof.Rows

noncomputable def psFrom : Nat → List Nat → List (Nat × List Tok)
  | _, [] => []
  | i, k :: r => (10 + 10 * i, rowD k ++ postOf k) :: psFrom (i + 1) r
noncomputable def dueFrom : Nat → List Nat → List V
  | _, [] => []
  | i, k :: r => dueOf i (itemsOf k) ++ dueFrom (i + 1) r

theorem dataR_word (n : Nat) (w : Str) (r : List Tok) (b : Bool) : dataR n (.s "word" w :: r) b = dataR n r (decide (w = "DATA")) := by
  rw [dataR, if_pos (show (Tok.s "word" w).k = "word" from rfl)]
  congr 1
  simp
theorem dataR_raw (n : Nat) (w : Str) (r : List Tok) : dataR n (.s "raw" w :: r) true = .tup [.int n, .str w] :: dataR n r true := by
  rw [dataR, if_neg (show ¬ (Tok.s "raw" w).k = "word" from fun z => absurd (show ("raw" : Str) = "word" from z) (by decide)), if_pos (show (Tok.s "raw" w).k = "raw" ∧ true = true from ⟨rfl, rfl⟩)]; rfl
theorem dataR_off (n : Nat) (t : Tok) (r : List Tok) (h : t.k ≠ "word") : dataR n (t :: r) false = dataR n r false := by
  rw [dataR, if_neg h, if_neg (by simp)]
theorem dataR_comma (n : Nat) (r : List Tok) (b : Bool) : dataR n (tCOMMA :: r) b = dataR n r b := by
  rw [dataR, if_neg (by decide), if_neg (fun z => absurd z.1 (by decide))]
theorem dataR_colon (n : Nat) (r : List Tok) (b : Bool) : dataR n (tCOLON :: r) b = dataR n r b := by
  rw [dataR, if_neg (by decide), if_neg (fun z => absurd z.1 (by decide))]
theorem dataR_itl (n : Nat) (t : List Tok) : ∀ (xs : List Str) (j : Nat), dataR n (itl j xs ++ t) true = (xs.map fun x => .tup [.int n, .str x]) ++ dataR n t true
  | [], _ => rfl
  | x :: r, j => by
    unfold itl
    by_cases h : 0 < j
    · rw [if_pos h]
      simp only [List.singleton_append, List.cons_append, List.nil_append, List.append_assoc]
      rw [dataR_comma, dataR_raw, dataR_itl n t r]
      rfl
    · rw [if_neg h]
      simp only [List.nil_append, List.singleton_append, List.cons_append]
      rw [dataR_raw, dataR_itl n t r]
      rfl
theorem dataR_row (n k : Nat) : dataR n (rowD k ++ postOf k) false = (itemsOf k).map fun x => V.tup [.int n, .str x] := by
  have post : dataR n (postOf k) true = [] := by
    unfold postOf
    split
    · rw [dataR_colon, dataR_word, show decide (("REM" : Str) = "DATA") = false by decide, dataR_off _ _ _ (by decide)]; rfl
    · rfl
  have mid : dataR n ([Tok.s "word" "DATA"] ++ (itl 0 (itemsOf k) ++ postOf k)) false = (itemsOf k).map fun x => V.tup [.int n, .str x] := by
    rw [List.singleton_append, dataR_word, show decide (("DATA" : Str) = "DATA") = true by decide, dataR_itl, post, List.append_nil]
  unfold rowD preOf
  split
  · simp only [List.append_assoc, List.cons_append]
    rw [dataR_word, show decide (("PRINT" : Str) = "DATA") = false by decide, dataR_off _ _ _ (by decide), dataR_colon]
    exact mid
  · simp only [List.nil_append, List.append_assoc]
    exact mid
theorem data_law : ∀ (r : List Nat) (i : Nat), dataAll (psFrom i r) = dueFrom i r
  | [], _ => rfl
  | k :: r, i => by
    have := data_law r (i + 1)
    simp only [dataAll, psFrom, List.flatMap_cons, dueFrom] at this ⊢
    rw [this, dataR_row]
    rfl

theorem item_lay (k : Nat) : (toPy (.str (itemOf k).1)).canLay0 = true ∧ (toPy (.str (itemOf k).2)).canLay0 = true := by
  unfold itemOf
  have h8 : k % 8 < 8 := Nat.mod_lt _ (by decide)
  generalize k % 8 = j at h8
  have : j = 0 ∨ j = 1 ∨ j = 2 ∨ j = 3 ∨ j = 4 ∨ j = 5 ∨ j = 6 ∨ j = 7 :=
    (by decide : ∀ x, x < 8 → x = 0 ∨ x = 1 ∨ x = 2 ∨ x = 3 ∨ x = 4 ∨ x = 5 ∨ x = 6 ∨ x = 7) _ h8
  rcases this with rfl | rfl | rfl | rfl | rfl | rfl | rfl | rfl <;> decide +kernel
theorem items_lay (k : Nat) : ∀ x ∈ itemsOf k, (toPy (.str x)).canLay0 = true := fun x hx => by
  obtain ⟨t, _, rfl⟩ := List.mem_map.mp hx
  exact (item_lay _).2
theorem itl_ok : ∀ (xs : List Str) (j : Nat), (∀ x ∈ xs, (toPy (.str x)).canLay0 = true) → ∀ t ∈ itl j xs, t.ok = true
  | [], _, _, t, ht => by simp [itl] at ht
  | x :: r, j, h, t, ht => by
    have hx := h x (.head _)
    have hr := itl_ok r (j + 1) fun y hy => h y (.tail _ hy)
    have k0 : (toPy (.str ("raw" : Str))).canLay0 = true := by decide +kernel
    have ok1 : (Tok.s "raw" x).ok = true := by
      simp only [Tok.ok, Tok.v, toPy, toPys, PyData.canLay0, PyData.canLayAll0, Bool.and_true, Bool.and_eq_true] at hx k0 ⊢
      exact ⟨k0, hx⟩
    unfold itl at ht
    rcases List.mem_append.mp ht with ht | ht
    · rcases List.mem_append.mp ht with ht | ht
      · split at ht
        · rw [List.mem_singleton.mp ht]; decide +kernel
        · simp at ht
      · rw [List.mem_singleton.mp ht]; exact ok1
    · exact hr t ht
theorem row_ok (k : Nat) : ∀ t ∈ rowD k ++ postOf k, t.ok = true := by
  intro t ht
  rcases List.mem_append.mp ht with ht | ht
  · unfold rowD at ht
    rcases List.mem_append.mp ht with ht | ht
    · rcases List.mem_append.mp ht with ht | ht
      · unfold preOf at ht
        split at ht
        · simp at ht; rcases ht with rfl | rfl | rfl <;> decide +kernel
        · simp at ht
      · rw [List.mem_singleton.mp ht]; decide +kernel
    · exact itl_ok _ _ (items_lay k) t ht
  · unfold postOf at ht
    split at ht
    · simp at ht; rcases ht with rfl | rfl | rfl <;> decide +kernel
    · simp at ht
theorem ps_ok : ∀ (r : List Nat) (i : Nat), ∀ p ∈ psFrom i r, ∀ t ∈ p.2, t.ok = true
  | [], _, p, hp => by simp [psFrom] at hp
  | k :: r, i, p, hp => by
    rcases List.mem_cons.mp hp with rfl | hp
    · exact row_ok k
    · exact ps_ok r (i + 1) p hp
theorem ps_sum : ∀ (r : List Nat) (i : Nat), ((psFrom i r).map fun p => p.2.length).sum ≤ 13 * r.length
  | [], _ => by simp [psFrom]
  | k :: r, i => by
    have := ps_sum r (i + 1)
    have h1 := rowD_len k
    have h2 := post_len k
    simp only [psFrom, List.map_cons, List.sum_cons, List.length_cons, List.length_append]
    omega
theorem layAll_append : ∀ (a b : List V), PyData.canLayAll0 (toPys a) = true → PyData.canLayAll0 (toPys b) = true → PyData.canLayAll0 (toPys (a ++ b)) = true
  | [], b, _, h => h
  | x :: a, b, h1, h2 => by
    simp only [toPys, List.cons_append, PyData.canLayAll0, Bool.and_eq_true] at h1 ⊢
    exact ⟨h1.1, layAll_append a b h1.2 h2⟩
theorem due_lay1 (i : Nat) : ∀ xs : List Str, (∀ x ∈ xs, (toPy (.str x)).canLay0 = true) → PyData.canLayAll0 (toPys (dueOf i xs)) = true
  | [], _ => rfl
  | x :: r, h => by
    have hx := h x (.head _)
    have hr := due_lay1 i r fun y hy => h y (.tail _ hy)
    simp only [dueOf, List.map_cons, toPys, toPy, PyData.canLayAll0, PyData.canLay0, Bool.and_true, Bool.and_eq_true] at hx hr ⊢
    exact ⟨⟨trivial, hx⟩, hr⟩
theorem due_lay : ∀ (r : List Nat) (i : Nat), PyData.canLayAll0 (toPys (dueFrom i r)) = true
  | [], _ => rfl
  | k :: r, i => layAll_append _ _ (due_lay1 i _ (items_lay k)) (due_lay r (i + 1))
theorem py_append : ∀ (a b : List V), isPys a = true → isPys b = true → isPys (a ++ b) = true
  | [], b, _, h => h
  | x :: a, b, h1, h2 => by
    simp only [List.cons_append, isPys, Bool.and_eq_true] at h1 ⊢
    exact ⟨h1.1, py_append a b h1.2 h2⟩
theorem due_py : ∀ (r : List Nat) (i : Nat), isPys (dueFrom i r) = true
  | [], _ => rfl
  | k :: r, i => by
    refine py_append _ _ ?_ (due_py r (i + 1))
    unfold dueOf
    induction itemsOf k with
    | nil => rfl
    | cons x r ih => simpa [isPys, isPy] using ih
theorem depthAll_le : ∀ (l : List V) (n : Nat), (∀ v ∈ l, (toPy v).depth ≤ n) → PyData.depthAll (toPys l) ≤ n
  | [], _, _ => Nat.zero_le _
  | v :: l, n, h => by
    have h1 := h v (.head _)
    have h2 := depthAll_le l n fun w hw => h w (.tail _ hw)
    simp only [toPys, PyData.depthAll]
    omega
theorem due_depth (r : List Nat) (i : Nat) : (toPy (.lst (dueFrom i r))).depth ≤ 30 := by
  simp only [toPy, PyData.depth]
  have : PyData.depthAll (toPys (dueFrom i r)) ≤ 5 := by
    apply depthAll_le
    intro v hv
    induction r generalizing i with
    | nil => simp [dueFrom] at hv
    | cons k r ih =>
      rw [dueFrom] at hv
      rcases List.mem_append.mp hv with hv | hv
      · obtain ⟨x, _, rfl⟩ := List.mem_map.mp hv
        simp [toPy, toPys, PyData.depth, PyData.depthAll]
      · exact ih _ hv
  omega
end Mine

-- P2
namespace Mine
open PySem PySem.Calls PySem.W PyProof.Rows

noncomputable def tabL : List (List Nat × List Nat) := [([49, 50], [49, 50]), ([32, 97, 32, 98, 32], [97, 32, 98]), ([34, 120, 44, 121, 34], [120, 44, 121]), ([34, 32, 122, 34], [32, 122]), ([], []), ([97, 58, 98], [97, 58, 98]), ([34, 113, 34, 32], [113]), ([45, 53], [45, 53])]
noncomputable def rawL (k : Nat) : List Nat := (tabL.getD (k % 8) ([], [])).1
noncomputable def valL (k : Nat) : List Nat := (tabL.getD (k % 8) ([], [])).2
theorem eight (k : Nat) : k % 8 = 0 ∨ k % 8 = 1 ∨ k % 8 = 2 ∨ k % 8 = 3 ∨ k % 8 = 4 ∨ k % 8 = 5 ∨ k % 8 = 6 ∨ k % 8 = 7 :=
  (by decide : ∀ x, x < 8 → x = 0 ∨ x = 1 ∨ x = 2 ∨ x = 3 ∨ x = 4 ∨ x = 5 ∨ x = 6 ∨ x = 7) _ (Nat.mod_lt k (by decide))
theorem item_txt (k : Nat) : (itemOf k).1 = txt (rawL k) ∧ (itemOf k).2 = txt (valL k) := by
  unfold itemOf rawL valL
  rcases eight k with h | h | h | h | h | h | h | h <;> rw [h] <;> decide +kernel
theorem raw_small (k : Nat) : (∀ c ∈ rawL k, c < 128) ∧ (rawL k).length ≤ 5 := by
  unfold rawL
  rcases eight k with h | h | h | h | h | h | h | h <;> rw [h] <;> decide
noncomputable def Rest (t : List Nat) : Prop := t = [] ∨ ∃ r, t = 44 :: r
theorem rItem0 {t : List Nat} (h : Rest t) : rItem ([49, 50] ++ t) = some ([49, 50], 2) := by
  rcases h with rfl | ⟨r, rfl⟩ <;> rfl
theorem rItem1 {t : List Nat} (h : Rest t) : rItem ([32, 97, 32, 98, 32] ++ t) = some ([97, 32, 98], 5) := by
  rcases h with rfl | ⟨r, rfl⟩ <;> rfl
theorem rItem2 {t : List Nat} (h : Rest t) : rItem ([34, 120, 44, 121, 34] ++ t) = some ([120, 44, 121], 5) := by
  rcases h with rfl | ⟨r, rfl⟩ <;> rfl
theorem rItem3 {t : List Nat} (h : Rest t) : rItem ([34, 32, 122, 34] ++ t) = some ([32, 122], 4) := by
  rcases h with rfl | ⟨r, rfl⟩ <;> rfl
theorem rItem4 {t : List Nat} (h : Rest t) : rItem t = some ([], 0) := by
  rcases h with rfl | ⟨r, rfl⟩ <;> rfl
theorem rItem5 (t : List Nat) : rItem ([97] ++ 58 :: t) = some ([97], 1) := by
  rfl
theorem rItem5b {t : List Nat} (h : Rest t) : rItem ([98] ++ t) = some ([98], 1) := by
  rcases h with rfl | ⟨r, rfl⟩ <;> rfl
theorem rItem6 {t : List Nat} (h : Rest t) : rItem ([34, 113, 34, 32] ++ t) = some ([113], 4) := by
  rcases h with rfl | ⟨r, rfl⟩ <;> rfl
theorem rItem7 {t : List Nat} (h : Rest t) : rItem ([45, 53] ++ t) = some ([45, 53], 2) := by
  rcases h with rfl | ⟨r, rfl⟩ <;> rfl

theorem one_field (cs : List Nat) (k i : Nat) (t : List Nat) (hi : i ≤ cs.length) (hd : cs.drop i = rawL k ++ t) (h : Rest t) :
    ∃ x kk, rItem (cs.drop i) = some (x, kk) ∧ i + kk ≤ cs.length ∧ More cs (i + kk) x (i + (rawL k).length) (valL k) := by
  have hl : cs.length = i + (rawL k).length + t.length := by
    have := congrArg List.length hd
    rw [List.length_drop, List.length_append] at this
    omega
  have hend : cs[i + (rawL k).length]? ≠ some 58 := by
    have : cs[i + (rawL k).length]? = (cs.drop i)[(rawL k).length]? := by rw [List.getElem?_drop]
    rw [this, hd, List.getElem?_append_right (Nat.le_refl _), Nat.sub_self]
    rcases h with rfl | ⟨r, rfl⟩ <;> simp
  have plain : ∀ kk, rItem (rawL k ++ t) = some (valL k, kk) → kk = (rawL k).length → ∃ x kk, rItem (cs.drop i) = some (x, kk) ∧ i + kk ≤ cs.length ∧ More cs (i + kk) x (i + (rawL k).length) (valL k) := fun kk h1 h2 => by
    subst h2
    exact ⟨_, _, by rw [hd]; exact h1, by omega, .stop hend⟩
  rcases eight k with q | q | q | q | q | q | q | q
  · exact plain 2 (by unfold rawL valL; rw [q]; exact rItem0 h) (by unfold rawL; rw [q]; rfl)
  · exact plain 5 (by unfold rawL valL; rw [q]; exact rItem1 h) (by unfold rawL; rw [q]; rfl)
  · exact plain 5 (by unfold rawL valL; rw [q]; exact rItem2 h) (by unfold rawL; rw [q]; rfl)
  · exact plain 4 (by unfold rawL valL; rw [q]; exact rItem3 h) (by unfold rawL; rw [q]; rfl)
  · exact plain 0 (by unfold rawL valL; rw [q]; exact rItem4 h) (by unfold rawL; rw [q]; rfl)
  · have er : rawL k = [97, 58, 98] := by unfold rawL; rw [q]; rfl
    have ev : valL k = [97, 58, 98] := by unfold valL; rw [q]; rfl
    rw [er] at hd hl hend ⊢
    rw [ev]
    have e1 : cs[i + 1]? = some 58 := by
      have : cs[i + 1]? = (cs.drop i)[1]? := by rw [List.getElem?_drop]
      rw [this, hd]; rfl
    have e2 : cs.drop (i + 1 + 1) = [98] ++ t := by
      have : cs.drop (i + 1 + 1) = (cs.drop i).drop 2 := by rw [List.drop_drop]
      rw [this, hd]; rfl
    have hl' : cs.length = i + 3 + t.length := hl
    refine ⟨[97], 1, by rw [hd]; exact rItem5 _, by omega, .step e1 (by rw [e2]; exact rItem5b h) (by simp) (by simp) (by omega) ?_⟩
    exact .stop (x := [97, 58, 98]) (by have : i + 1 + 1 + 1 = i + 3 := by omega
                                        rw [this]; exact hend)
  · exact plain 4 (by unfold rawL valL; rw [q]; exact rItem6 h) (by unfold rawL; rw [q]; rfl)
  · exact plain 2 (by unfold rawL valL; rw [q]; exact rItem7 h) (by unfold rawL; rw [q]; rfl)

theorem fields_law (cs : List Nat) : ∀ (ks : List Nat) (i : Nat), ks ≠ [] → i ≤ cs.length → cs.drop i = joinT [44] (ks.map rawL) → Flds cs (ks.map valL) i
  | [], _, h, _, _ => absurd rfl h
  | [k], i, _, hi, hd => by
    have hd' : cs.drop i = rawL k ++ [] := by rw [List.append_nil]; exact hd
    obtain ⟨x, kk, h1, h2, h3⟩ := one_field cs k i [] hi hd' (.inl rfl)
    have hl : cs.length = i + (rawL k).length := by
      have := congrArg List.length hd'
      rw [List.length_drop, List.append_nil] at this
      omega
    exact ⟨hi, x, kk, _, h1, h2, h3, by omega, by show _ = _; omega⟩
  | k :: k2 :: r, i, _, hi, hd => by
    have hd' : cs.drop i = rawL k ++ 44 :: joinT [44] ((k2 :: r).map rawL) := by rw [hd]; simp [joinT]
    obtain ⟨x, kk, h1, h2, h3⟩ := one_field cs k i _ hi hd' (.inr ⟨_, rfl⟩)
    have hl : cs.length = i + (rawL k).length + 1 + (joinT [44] ((k2 :: r).map rawL)).length := by
      have := congrArg List.length hd'
      rw [List.length_drop, List.length_append, List.length_cons] at this
      omega
    refine ⟨hi, x, kk, _, h1, h2, h3, by omega, fields_law cs (k2 :: r) _ (by simp) (by omega) ?_⟩
    have : cs.drop (i + (rawL k).length + 1) = (cs.drop i).drop ((rawL k).length + 1) := by rw [List.drop_drop]; rfl
    rw [this, hd', List.drop_append, List.drop_of_length_le (by omega)]
    simp
theorem join_small : ∀ ks : List Nat, (∀ c ∈ joinT [44] (ks.map rawL), c < 128) ∧ (joinT [44] (ks.map rawL)).length ≤ 6 * ks.length
  | [] => ⟨by simp [joinT], by simp [joinT]⟩
  | [k] => ⟨(raw_small k).1, by have := (raw_small k).2; simp [joinT]; omega⟩
  | k :: k2 :: r => by
    obtain ⟨h1, h2⟩ := join_small (k2 :: r)
    obtain ⟨h3, h4⟩ := raw_small k
    have e : joinT [44] ((k :: k2 :: r).map rawL) = rawL k ++ [44] ++ joinT [44] ((k2 :: r).map rawL) := by simp [joinT]
    rw [e]
    refine ⟨fun c hc => ?_, ?_⟩
    · rcases List.mem_append.mp hc with hc | hc
      · rcases List.mem_append.mp hc with hc | hc
        · exact h3 c hc
        · rw [List.mem_singleton.mp hc]; decide
      · exact h1 c hc
    · simp only [List.length_append, List.length_cons, List.length_nil] at h2 ⊢
      omega
end Mine

-- F19c
namespace Mine
open PySem PySem.Calls PySem.W PyProof.Rows

theorem sl_first {α : Type} (l : List α) (k : Nat) : slV l none (some (k : Int)) = l.take k := by
  unfold slV
  simp only [Option.elim, List.drop_zero, Nat.sub_zero]
  rcases Nat.lt_or_ge l.length k with h | h
  · have : clipAt l.length (k : Int) = l.length := clip_past h
    rw [this, List.take_of_length_le (Nat.le_refl _), List.take_of_length_le (by omega)]
  · rw [clip_in h]
noncomputable def pairF : V → V
  | .int k => .tup [.str (itemOf k.toNat).1, .str (itemOf k.toNat).2]
  | _ => .none
noncomputable def pairsV (ks : List Nat) : List V := ks.map fun k => .tup [.str (itemOf k).1, .str (itemOf k).2]
theorem pairF_map (ks : List Nat) : ((ks.map fun k : Nat => V.int (k : Int)).filter fun _ => true).map pairF = pairsV ks := by
  rw [List.filter_eq_self.mpr (fun _ _ => rfl), List.map_map]
  unfold pairsV
  apply List.map_congr_left
  intro k _
  simp [pairF]
noncomputable def fstF : V → V
  | .tup (a :: _) => a
  | _ => .none
noncomputable def sndF : V → V
  | .tup [_, b] => b
  | _ => .none
theorem fstF_map (ks : List Nat) : ((pairsV ks).filter fun _ => true).map fstF = (ks.map fun k => (itemOf k).1).map V.str := by
  rw [List.filter_eq_self.mpr (fun _ _ => rfl)]
  unfold pairsV
  rw [List.map_map, List.map_map]; rfl
theorem sndF_map (ks : List Nat) : ((pairsV ks).filter fun _ => true).map sndF = (ks.map fun k => (itemOf k).2).map V.str := by
  rw [List.filter_eq_self.mpr (fun _ _ => rfl)]
  unfold pairsV
  rw [List.map_map, List.map_map]; rfl
theorem strs_py : ∀ l : List Str, isPys (l.map V.str) = true
  | [] => rfl
  | x :: r => by simpa [isPys, isPy] using strs_py r
theorem vals_lay : ∀ ks : List Nat, PyData.canLayAll0 (toPys ((ks.map fun k => (itemOf k).2).map V.str)) = true
  | [] => rfl
  | k :: r => by
    have h1 := (item_lay k).2
    have h2 := vals_lay r
    simp only [List.map_cons, toPys, PyData.canLayAll0, Bool.and_eq_true] at h2 ⊢
    exact ⟨h1, h2⟩
theorem strs_depth (l : List Str) : (toPy (.lst (l.map V.str))).depth ≤ 30 := by
  simp only [toPy, PyData.depth]
  have : PyData.depthAll (toPys (l.map V.str)) ≤ 5 := depthAll_le _ _ fun v hv => by
    obtain ⟨x, _, rfl⟩ := List.mem_map.mp hv
    simp [toPy, PyData.depth]
  omega

noncomputable def restD : List Stmt := f_law_data_right.body.drop 2
set_option maxHeartbeats 1000000 in
theorem sw_endD (g : Gr) (L : Addr) (cd : Value) (ns : List Nat) (hn : 1 ≤ ns.length) (hl : ns.length ≤ 100) (r : List Nat) (hr : r.length ≤ 4) :
    SW g ⟨3, none⟩ (eD L cd) [("some", some (natsV ns)), ("program", some (.prog (nums ((psFrom 0 r).map (·.1))) ((psFrom 0 r).map fun p => rowV p.2))), ("due", some (.lst (dueFrom 0 r))), ("some_items", none)] [] restD (Back fun v => v = .bool true) := by
  refine sw_if ?_
  refine tw_cmp ?_
  refine ew_callF (at_data_of g) rfl (mg_data_of g) ?_
  refine lw_cons ?_
  refine ew_name (.there (.here)) ?_
  refine lw_nil ?_
  refine ((c_data g (psFrom 0 r) (ps_ok r 0) (by have := ps_sum r 0; omega)).le (by decide)).mono fun v ev => ?_
  subst ev
  rw [data_law]
  refine ew_name (.there (.there (.here))) ?_
  refine w2_ne (by simpa only [isPy] using due_py r 0) (by simpa only [isPy] using due_py r 0) (by simpa only [toPy, PyData.canLay0] using due_lay r 0) (by simpa only [toPy, PyData.canLay0] using due_lay r 0) (Nat.le_trans (Nat.min_le_left _ _) (due_depth r 0)) (t1_bool ?_)
  rw [PySem.SeqAt.eqv_refl _ (by simpa only [toPy, PyData.canLay0] using due_lay r 0), if_neg (by simp)]
  -- some_items
  obtain ⟨ks, hks⟩ : ∃ ks, ks = ns.take 5 := ⟨_, rfl⟩
  have kl : ks.length ≤ 5 := by rw [hks, List.length_take]; omega
  have kne : ks ≠ [] := fun e => by
    have : ks.length = 0 := by rw [e]; rfl
    rw [hks, List.length_take] at this; omega
  refine sw_cons ?_
  refine s1_assign_comp (cl := []) (mf := []) ?_ (closureFor_none (by decide)) (by decide) rfl (by decide) rfl (by simp) (by simp) (by simp) (by simp) rfl rfl
  · refine ie_value ?_
    refine ew_slice ?_
    refine ew_name .here ⟨_, rfl, by rw [List.length_map]; omega, pw_none (pw_some ?_)⟩
    refine ew_int ⟨_, rfl, ?_⟩
    rw [slV_map, show slV ns none (some 5) = ks from (sl_first ns 5).trans hks.symm]
    refine ⟨_, itw_lst, by rw [List.length_map]; omega, fun _ => true, pairF, fun v hv C => ct_nil, fun v hv _ C => ?_, _, (.there (.there (.there (.here)))), ?_⟩
    · obtain ⟨k, _, rfl⟩ := List.mem_map.mp hv
      refine ew_callF (at_law_item g) rfl (mg_law_item g) ?_
      refine lw_cons ?_
      refine ew_name .here ?_
      refine lw_nil (((c_law_item g k).le (by decide)).mono fun v ev => ?_)
      subst ev
      exact ⟨rfl, by simp [pairF]⟩
    rw [pairF_map]
    refine sw_cons ?_
    refine s1_return ?_
    refine ew_cmp ?_
    refine ew_callF (at_fields_of g) rfl (mg_fields_of g) ?_
    refine lw_cons ?_
    refine ew_meth (id := "str.join") ?_
    refine ew_str ⟨mg_str PySem.F.slot_str_join ty_join, ?_⟩
    refine lw_cons ?_
    have pl : (pairsV ks).length ≤ 100000 := by unfold pairsV; rw [List.length_map]; omega
    refine ew_comp (cl := []) (mf := []) ?_ (closureFor_none (by decide)) (by decide) rfl (by decide) rfl (by simp) (by simp) (by simp) (by simp)
    refine ie_value ?_
    refine ew_name (.there (.there (.there (.here)))) ⟨_, itw_lst, pl, fun _ => true, fstF, fun v hv C => ct_nil, fun v hv _ C => ?_, lw_nil ?_⟩
    · obtain ⟨k, _, rfl⟩ := List.mem_map.mp hv
      refine ew_sub ?_
      refine ew_name .here ?_
      refine ew_int ?_
      exact w2_item_tup (j := 0) (by decide) rfl rfl ⟨rfl, rfl⟩
    rw [fstF_map]
    have ey : (ks.map fun k => (itemOf k).1) = (ks.map rawL).map txt := by
      rw [List.map_map]
      exact List.map_congr_left fun k _ => (item_txt k).1
    have ez : (ks.map fun k => (itemOf k).2) = (ks.map valL).map txt := by
      rw [List.map_map]
      exact List.map_congr_left fun k _ => (item_txt k).2
    have ec : (Str.ofString ",") = txt [44] := by decide +kernel
    obtain ⟨js1, js2⟩ := join_small ks
    refine wl_join ?_ ?_
    · rw [ec, txt_len]
      have : ∀ l : List Nat, ((l.map fun k => (itemOf k).1).map (·.length)).sum ≤ 5 * l.length := fun l => by
        induction l with
        | nil => simp
        | cons k l ih =>
          have h1 := (raw_small k).2
          have h2 : ((itemOf k).1).length = (rawL k).length := by rw [(item_txt k).1, txt_len]
          simp only [List.map_cons, List.sum_cons, List.length_cons] at ih ⊢
          omega
      have := this ks
      simp
      simp at this
      omega
    rw [ey, ec, join_txt]
    refine lw_nil ((((c_fields g (joinT [44] (ks.map rawL)) (by omega) (fun c hc => by have := js1 c hc; omega) (ks.map valL) (fields_law _ ks 0 kne (Nat.zero_le _) (by rw [List.drop_zero])) (by rw [List.length_map]; omega))).le (by decide)).mono fun v ev => ?_)
    subst ev
    refine ew_comp (cl := []) (mf := []) ?_ (closureFor_none (by decide)) (by decide) rfl (by decide) rfl (by simp) (by simp) (by simp) (by simp)
    refine ie_value ?_
    refine ew_name (.there (.there (.there (.here)))) ⟨_, itw_lst, pl, fun _ => true, sndF, fun v hv C => ct_nil, fun v hv _ C => ?_, ?_⟩
    · obtain ⟨k, _, rfl⟩ := List.mem_map.mp hv
      refine ew_sub ?_
      refine ew_name .here ?_
      refine ew_int ?_
      exact w2_item_tup (j := 1) (by decide) rfl rfl ⟨rfl, rfl⟩
    rw [sndF_map]
    have e2 : ((ks.map valL).map fun z => V.str (txt z)) = (ks.map fun k => (itemOf k).2).map V.str := by rw [ez]; simp only [List.map_map]; rfl
    rw [e2]
    have lay : (toPy (.lst ((ks.map fun k => (itemOf k).2).map V.str))).canLay0 = true := by simpa only [toPy, PyData.canLay0] using vals_lay ks
    refine w2_eq (by simpa only [isPy] using strs_py _) (by simpa only [isPy] using strs_py _) lay lay (Nat.le_trans (Nat.min_le_left _ _) (strs_depth _)) ?_
    rw [PySem.SeqAt.eqv_refl _ lay]
    exact ⟨_, .same _, rfl⟩

set_option maxHeartbeats 1000000 in
theorem c_law_data (g : Gr) (ns : List Nat) (hn : 1 ≤ ns.length) (hl : ns.length ≤ 100) : FW g 4 201 [natsV ns] (fun v => v = .bool true) := by
  refine fw1C (rest := ["program", "due", "at", "number", "items", "row", "spot", "item", "some_items"]) (y1 := "at") (y2 := "number") (at_law_data_right g) (fun _ _ _ _ => rfl) rfl (by decide) rfl rfl rfl (fun L => rfl) (by decide) fun L cd => ?_
  refine sw_cons ?_
  refine s1_assign_swap ?_
  refine ew_tuple ?_
  refine lw_cons ?_
  refine ew_make rfl (by decide) fun x d a b => ?_
  refine lw_cons ?_
  refine ew_list ?_
  refine lw_nil ?_
  refine lw_nil ⟨_, _, rfl, ?_⟩
  refine nm_local rfl (.there (.there (.here))) ?_
  refine nm_local rfl (.there (.here)) ?_
  refine sw_cons ?_
  refine s1_for ?_
  refine ie_callT rfl (mg_enumerate g) (by decide) bb_enumerate ?_
  refine lw_cons ?_
  refine ew_slice ?_
  refine ew_name .here ⟨_, rfl, by rw [List.length_map]; omega, pw_none (pw_some ?_)⟩
  refine ew_int ⟨_, rfl, ?_⟩
  refine lw_nil ?_
  refine ic_enum ?_
  intro I wr C T
  rw [slV_map, show slV ns none (some 4) = ns.take 4 from sl_first ns 4]
  obtain ⟨R, hR⟩ : ∃ R, R = ns.take 4 := ⟨_, rfl⟩
  have Rl : R.length ≤ 4 := by rw [hR, List.length_take]; omega
  rw [← hR]
  obtain ⟨r, hr⟩ : ∃ r, r = R := ⟨_, rfl⟩
  obtain ⟨i, hi⟩ : ∃ i : Nat, i = 0 := ⟨_, rfl⟩
  obtain ⟨ps, hps⟩ : ∃ ps : List (Nat × List Tok), ps = [] := ⟨_, rfl⟩
  obtain ⟨due, hdue⟩ : ∃ due : List V, due = [] := ⟨_, rfl⟩
  have A1 : ps ++ psFrom i r = psFrom 0 R := by rw [hps, hi, hr]; rfl
  have A2 : due ++ dueFrom i r = dueFrom 0 R := by rw [hdue, hi, hr]; rfl
  have A3 : ps.length = i := by rw [hps, hi]; rfl
  have A4 : ∀ p ∈ ps, p.1 < 10 + 10 * i := by rw [hps]; simp
  have A5 : due.length ≤ 3 * i := by rw [hdue]; simp
  have A6 : i + r.length ≤ 4 := by rw [hi, hr]; omega
  rw [show enumV 0 (R.map fun k : Nat => V.int (k : Int)) = enumV i (r.map fun k : Nat => V.int (k : Int)) by rw [hi, hr]]
  rw [show progO x d a b ++ [] = progL x d a b (nums (ps.map (·.1))) (ps.map fun p => rowV p.2) by rw [hps]; rfl, show (V.lst []) = V.lst due by rw [hdue]]
  generalize htl : List.map (fun x => ((x, none) : Str × Option V)) ["at", "number", "items", "row", "spot", "item", "some_items"] = tl
  have hk : keysD tl := by rw [← htl]; exact ⟨_, _, _, _, _, _, _, rfl⟩
  clear hr hi hps hdue htl
  induction r generalizing i ps due tl with
  | nil =>
    obtain ⟨x1, x2, x3, x4, x5, x6, x7, rfl⟩ := hk
    simp only [List.map_nil, enumV]
    refine forw_nil T ?_
    simp only [psFrom, dueFrom, List.append_nil] at A1 A2
    subst A1 A2
    refine sw_freeze (m' := [("some", some (natsV ns)), ("program", some (.prog (nums ((psFrom 0 R).map (·.1))) ((psFrom 0 R).map fun p => rowV p.2))), ("due", some (.lst (dueFrom 0 R))), ("some_items", none)]) ?_ ?_ (by show (["some", "program", "due", "some_items"] : List Str).Nodup; decide)
    · exact sw_endD g L cd ns hn hl R Rl
    · intro y v hy
      rcases List.mem_cons.mp hy with e | hy
      · injection e with e1 e2; injection e2 with e2; subst e1 e2
        exact ⟨_, .head _, .same _⟩
      rcases List.mem_cons.mp hy with e | hy
      · injection e with e1 e2; injection e2 with e2; subst e1 e2
        exact ⟨.ref x, .tail _ (.head _), .prog (.tail _ (.tail _ (.head _))) (.tail _ (.tail _ (.tail _ (.head _)))) (.tail _ (.head _)) (.head _)⟩
      rcases List.mem_cons.mp hy with e | hy
      · injection e with e1 e2; injection e2 with e2; subst e1 e2
        exact ⟨_, .tail _ (.tail _ (.head _)), .same _⟩
      rcases List.mem_cons.mp hy with e | hy
      · injection e with e1 e2; cases e2
      · simp at hy
  | cons k r ih =>
    obtain ⟨x1, x2, x3, x4, x5, x6, x7, rfl⟩ := hk
    simp only [List.map_cons, enumV]
    simp only [List.length_cons] at A6
    refine forw_cons T ?_
    refine asw_tuple ?_
    refine asw_name ?_
    refine nm_cell rfl rfl (.there (.there (.there (.here)))) ?_
    refine asw_name ?_
    refine nm_cell rfl rfl (.there (.there (.there (.there (.here))))) ?_
    refine sw_turnD A3 A4 (by omega) (by omega) fun tl htl => ?_
    have dl : (dueOf i (itemsOf k)).length ≤ 3 := by unfold dueOf; rw [List.length_map, items_len]; omega
    exact ih (i + 1) (ps ++ [(10 + 10 * i, rowD k ++ postOf k)]) (due ++ dueOf i (itemsOf k)) (by rw [← A1, psFrom]; simp) (by rw [← A2, dueFrom]; simp) (by rw [List.length_append, A3]; rfl)
      (fun p hp => by
        rcases List.mem_append.mp hp with hp | hp
        · have := A4 p hp; omega
        · rw [List.mem_singleton.mp hp]; show 10 + 10 * i < _; omega) (by rw [List.length_append]; omega) (by omega) tl htl
end Mine

-- F20a
namespace Mine
open PySem PySem.Calls PySem.W PyProof.Rows

inductive Pc | loop | next (c : Nat) | other
noncomputable def pcOf (n : Nat) : Pc := if n % 3 = 0 then .loop else if n % 3 = 1 then .next (n / 3 % 3) else .other
noncomputable abbrev tI : Tok := .s "name" "I"
noncomputable abbrev tJ : Tok := .s "name" "J"
noncomputable abbrev tPEND : Tok := .s "word" "END"
noncomputable def nmT : Nat → List Tok
  | 0 => [tI]
  | _ => [tCOMMA, tJ]
noncomputable def toksP : Pc → List Tok
  | .loop => [tFOR, tI, .s "sign" "=", .n "number" 1, .s "word" "TO", .n "number" 2, tCOLON]
  | .next 0 => [tNEXT, tCOLON]
  | .next 1 => [tNEXT, tI, tCOLON]
  | .next _ => [tNEXT, tI, tCOMMA, tJ, tCOLON]
  | .other => [.s "word" "PRINT", .s "text" "FOR", tCOLON]
noncomputable abbrev Ev := Bool × Nat × Nat
noncomputable def evsP (line off : Nat) : Pc → List Ev
  | .loop => [(true, line, off + 6)]
  | .next 0 => [(false, line, off + 1)]
  | .next 1 => [(false, line, off + 2)]
  | .next _ => [(false, line, off + 2), (false, line, off + 4)]
  | .other => []
noncomputable def evV (e : Ev) : V := .tup [.str (if e.1 = true then "for" else "next"), .int e.2.1, .int e.2.2]

noncomputable abbrev eL (L : Addr) (cd : Value) : Env := envOf f_law_loops.name f_law_loops.scope L 208 cd
noncomputable def bodyS : List Stmt := match f_law_loops.body with
  | _ :: .For _ _ (_ :: .For _ _ b _ _ :: _) _ _ :: _ => b
  | _ => []
noncomputable def bodyN : List Stmt := match bodyS with
  | [_, .If _ _ [.If _ (_ :: .For _ _ b _ _ :: _) _ _] _] => b
  | _ => []
noncomputable abbrev mL (s1 s2 : Option V) (ev : Addr) (line : Nat) (acc : List Tok) (s6 s7 s8 : Option V) : Loc :=
  [("some", s1), ("program", s2), ("events", some (.ref ev)), ("line", some (.int line)), ("row", some (rowV acc)), ("spot", s6), ("number", s7), ("turn", s8)]

section
variable {g : Gr} {L : Addr} {cd : Value} {s1 s2 s6 s7 s8 : Option V} {ev : Addr} {line : Nat} {acc : List Tok} {EV : List Ev} {O0 : Led}
theorem sw_turnN {t : Nat} {Q : Fl → Loc → Led → Prop} (ht : t ≤ 1) (ha : acc.length ≤ 1000) (he : EV.length ≤ 1000)
    (q : Q .next (mL s1 s2 ev line (acc ++ nmT t) s6 s7 (some (.int t))) ((ev, .list ((EV ++ [(false, line, (acc ++ nmT t).length)]).map evV)) :: O0)) :
    SW g ⟨3, none⟩ (eL L cd) (mL s1 s2 ev line acc s6 s7 (some (.int t))) ((ev, .list (EV.map evV)) :: O0) bodyN Q := by
  have cont : SW g ⟨3, none⟩ (eL L cd) (mL s1 s2 ev line (acc ++ nmT t) s6 s7 (some (.int t))) ((ev, .list (EV.map evV)) :: O0) (bodyN.drop 1) Q := by
    have nl : (acc ++ nmT t).length ≤ 1002 := by
      have : t = 0 ∨ t = 1 := by omega
      rcases this with rfl | rfl <;> simp [nmT] <;> omega
    refine sw_cons ?_
    refine s1_lmeth PySem.F.slot_list_append ty_append ?_
    refine ew_name (.there (.there (.here))) ⟨ev, _, rfl, .head _, ?_⟩
    refine lw_cons ?_
    refine ew_tuple ?_
    refine lw_cons ?_
    refine ew_str ?_
    refine lw_cons ?_
    refine ew_name (.there (.there (.there (.here)))) ?_
    refine lw_cons ?_
    refine ew_lenrow rfl (.there (.there (.there (.there (.here))))) (by rw [List.length_map]; omega) ?_
    refine lw_nil ?_
    refine lw_nil ⟨_, EV.map evV, _, .here, by rw [List.length_map]; omega, ?_, .inl ⟨rfl, rfl⟩⟩
    refine sw_nil ?_
    rw [List.length_map]
    have e : (EV ++ [(false, line, (acc ++ nmT t).length)]).map evV = EV.map evV ++ [V.tup [.str "next", .int line, .int ((acc ++ nmT t).length : Nat)]] := by rw [List.map_append]; rfl
    rw [e] at q
    exact q
  refine sw_cons ?_
  refine s1_assign ?_
  refine ew_binop ?_
  refine ew_binop ?_
  refine ew_name (.there (.there (.there (.there (.here))))) ?_
  refine ew_ifexp ?_
  refine tw_cmp ?_
  refine ew_name (.there (.there (.there (.there (.there (.there (.there (.here)))))))) ?_
  refine ew_int ?_
  refine w2_gt (t1_bool ?_)
  have eI : (⟨#[73]⟩ : Str) = "I" := by decide +kernel
  have eJ : (⟨#[74]⟩ : Str) = "J" := by decide +kernel
  have : t = 0 ∨ t = 1 := by omega
  rcases this with rfl | rfl
  · rw [if_neg (by simp)]
    refine ew_list ?_
    refine lw_nil ?_
    refine w2_addl (by rw [List.length_map]; simp; omega) ?_
    refine ew_list ?_
    refine lw_cons ?_
    refine ew_tuple ?_
    refine lw_cons ?_
    refine ew_str ?_
    refine lw_cons ?_
    refine ew_sub ?_
    refine ew_str ?_
    refine ew_name (.there (.there (.there (.there (.there (.there (.there (.here)))))))) ?_
    refine w2_item_str (c := 73) (by decide) (by decide) (by decide +kernel) ?_
    refine lw_nil ?_
    refine lw_nil ?_
    refine w2_addl (by simp; omega) ?_
    refine nm_local rfl (.there (.there (.there (.there (.here))))) ?_
    rw [eI]
    have e : (acc ++ nmT 0).map Tok.v = acc.map Tok.v ++ [] ++ [V.tup [.str "name", .str "I"]] := by rw [List.map_append, List.append_nil]; rfl
    rw [← e]
    exact cont
  · rw [if_pos (by simp)]
    refine ew_list ?_
    refine lw_cons ?_
    refine ew_str2 ?_
    refine lw_nil ?_
    refine w2_addl (by rw [List.length_map]; simp; omega) ?_
    refine ew_list ?_
    refine lw_cons ?_
    refine ew_tuple ?_
    refine lw_cons ?_
    refine ew_str ?_
    refine lw_cons ?_
    refine ew_sub ?_
    refine ew_str ?_
    refine ew_name (.there (.there (.there (.there (.there (.there (.there (.here)))))))) ?_
    refine w2_item_str (c := 74) (by decide) (by decide) (by decide +kernel) ?_
    refine lw_nil ?_
    refine lw_nil ?_
    refine w2_addl (by simp; omega) ?_
    refine nm_local rfl (.there (.there (.there (.there (.here))))) ?_
    rw [eJ]
    have e : (acc ++ nmT 1).map Tok.v = acc.map Tok.v ++ [V.tup [.str "sign", .str ","]] ++ [V.tup [.str "name", .str "J"]] := by rw [List.map_append, List.append_assoc]; rfl
    rw [← e]
    exact cont
end
end Mine

-- F20b
namespace Mine
open PySem PySem.Calls PySem.W PyProof.Rows

section
variable {g : Gr} {L : Addr} {cd : Value} {s1 s2 s6 s8 : Option V} {ev : Addr} {line : Nat} {acc : List Tok} {EV : List Ev} {O0 : Led}
set_option maxHeartbeats 2000000 in
theorem sw_spot {n : Nat} {Q : Fl → Loc → Led → Prop} (ha : acc.length ≤ 100) (he : EV.length ≤ 100)
    (q : ∀ x8, Q .next (mL s1 s2 ev line (acc ++ toksP (pcOf n)) s6 (some (.int n)) x8) ((ev, .list ((EV ++ evsP line acc.length (pcOf n)).map evV)) :: O0)) :
    SW g ⟨3, none⟩ (eL L cd) (mL s1 s2 ev line acc s6 (some (.int n)) s8) ((ev, .list (EV.map evV)) :: O0) (bodyS.drop 1) Q := by
  refine sw_if ?_
  refine tw_cmp ?_
  refine ew_binop ?_
  refine ew_name (.there (.there (.there (.there (.there (.there (.here))))))) ?_
  refine ew_int ?_
  refine w2_mod (by decide) ?_
  rw [show (n : Int).fmod 3 = ((n % 3 : Nat) : Int) from fmod_nat n 3]
  refine ew_int ?_
  refine w2_eq rfl rfl rfl rfl (by simp [toPy, PyData.depth]) (t1_bool ?_)
  by_cases h0 : n % 3 = 0
  · rw [if_pos (by simp [toPy, PyData.eqv, h0])]
    have ep : pcOf n = .loop := by unfold pcOf; rw [if_pos h0]
    rw [ep] at q
    refine sw_cons ?_
    refine s1_assign ?_
    refine ew_binop ?_
    refine ew_name (.there (.there (.there (.there (.here))))) ?_
    refine ew_list ?_
    refine lw_cons ?_
    refine ew_str2 ?_
    refine lw_cons ?_
    refine ew_str2 ?_
    refine lw_cons ?_
    refine ew_str2 ?_
    refine lw_cons ?_
    refine ew_tuple ?_
    refine lw_cons ?_
    refine ew_str ?_
    refine lw_cons ?_
    refine ew_int ?_
    refine lw_nil ?_
    refine lw_cons ?_
    refine ew_str2 ?_
    refine lw_cons ?_
    refine ew_tuple ?_
    refine lw_cons ?_
    refine ew_str ?_
    refine lw_cons ?_
    refine ew_int ?_
    refine lw_nil ?_
    refine lw_cons ?_
    refine ew_str2 ?_
    refine lw_nil ?_
    refine w2_addl (by rw [List.length_map]; simp; omega) ?_
    refine nm_local rfl (.there (.there (.there (.there (.here))))) ?_
    have e : acc.map Tok.v ++ [V.tup [.str "word", .str "FOR"], .tup [.str "name", .str "I"], .tup [.str "sign", .str "="], .tup [.str "number", .int 1], .tup [.str "word", .str "TO"], .tup [.str "number", .int 2], .tup [.str "sign", .str ":"]] = (acc ++ toksP .loop).map Tok.v := by rw [List.map_append]; rfl
    rw [e]
    refine sw_cons ?_
    refine s1_lmeth PySem.F.slot_list_append ty_append ?_
    refine ew_name (.there (.there (.here))) ⟨ev, _, rfl, .head _, ?_⟩
    refine lw_cons ?_
    refine ew_tuple ?_
    refine lw_cons ?_
    refine ew_str ?_
    refine lw_cons ?_
    refine ew_name (.there (.there (.there (.here)))) ?_
    refine lw_cons ?_
    refine ew_binop ?_
    refine ew_lenrow rfl (.there (.there (.there (.there (.here))))) (by rw [List.length_map]; simp [toksP]; omega) ?_
    refine ew_int ?_
    refine w2_sub ?_
    refine lw_nil ?_
    refine lw_nil ⟨_, EV.map evV, _, .here, by rw [List.length_map]; omega, ?_, .inl ⟨rfl, rfl⟩⟩
    refine sw_nil ?_
    rw [show (((acc ++ toksP .loop).map Tok.v).length : Int) - 1 = ((acc.length + 6 : Nat) : Int) by rw [List.length_map, List.length_append]; simp [toksP]; omega]
    have e2 : (EV ++ evsP line acc.length .loop).map evV = EV.map evV ++ [V.tup [.str "for", .int line, .int ((acc.length + 6 : Nat) : Int)]] := by rw [List.map_append]; rfl
    rw [e2] at q
    exact q _
  rw [if_neg (by simp [toPy, PyData.eqv]; omega)]
  refine sw_if ?_
  refine tw_cmp ?_
  refine ew_binop ?_
  refine ew_name (.there (.there (.there (.there (.there (.there (.here))))))) ?_
  refine ew_int ?_
  refine w2_mod (by decide) ?_
  rw [show (n : Int).fmod 3 = ((n % 3 : Nat) : Int) from fmod_nat n 3]
  refine ew_int ?_
  refine w2_eq rfl rfl rfl rfl (by simp [toPy, PyData.depth]) (t1_bool ?_)
  by_cases h1 : n % 3 = 1
  rotate_left
  · rw [if_neg (by simp [toPy, PyData.eqv]; omega)]
    have ep : pcOf n = .other := by unfold pcOf; rw [if_neg h0, if_neg h1]
    rw [ep] at q
    refine sw_cons ?_
    refine s1_assign ?_
    refine ew_binop ?_
    refine ew_name (.there (.there (.there (.there (.here))))) ?_
    refine ew_list ?_
    refine lw_cons ?_
    refine ew_str2 ?_
    refine lw_cons ?_
    refine ew_str2 ?_
    refine lw_cons ?_
    refine ew_str2 ?_
    refine lw_nil ?_
    refine w2_addl (by rw [List.length_map]; simp; omega) ?_
    refine nm_local rfl (.there (.there (.there (.there (.here))))) ?_
    have e : acc.map Tok.v ++ [V.tup [.str "word", .str "PRINT"], .tup [.str "text", .str "FOR"], .tup [.str "sign", .str ":"]] = (acc ++ toksP .other).map Tok.v := by rw [List.map_append]; rfl
    rw [e]
    refine sw_nil ?_
    rw [evsP, List.append_nil] at q
    exact q _
  rw [if_pos (by simp [toPy, PyData.eqv, h1])]
  obtain ⟨c, hc⟩ : ∃ c, c = n / 3 % 3 := ⟨_, rfl⟩
  have ep : pcOf n = .next c := by unfold pcOf; rw [if_neg h0, if_pos h1, hc]
  rw [ep] at q
  have hc3 : c < 3 := by omega
  refine sw_cons ?_
  refine s1_assign ?_
  refine ew_binop ?_
  refine ew_name (.there (.there (.there (.there (.here))))) ?_
  refine ew_list ?_
  refine lw_cons ?_
  refine ew_str2 ?_
  refine lw_nil ?_
  refine w2_addl (by rw [List.length_map]; simp; omega) ?_
  refine nm_local rfl (.there (.there (.there (.there (.here))))) ?_
  have e : acc.map Tok.v ++ [V.tup [.str "word", .str "NEXT"]] = (acc ++ [tNEXT]).map Tok.v := by rw [List.map_append]; rfl
  rw [e]
  refine sw_cons ?_
  refine s1_for ?_
  refine ie_callT rfl (mg_range g) (by decide) bb_range ?_
  refine lw_cons ?_
  refine ew_binop ?_
  refine ew_binop ?_
  refine ew_name (.there (.there (.there (.there (.there (.there (.here))))))) ?_
  refine ew_int ?_
  refine w2_div (by decide) (PyProof.noPylong_small (by decide)) ?_
  rw [show (n : Int).fdiv 3 = ((n / 3 : Nat) : Int) from fdiv_nat n 3]
  refine ew_int ?_
  refine w2_mod (by decide) ?_
  rw [show ((n / 3 : Nat) : Int).fmod 3 = ((n / 3 % 3 : Nat) : Int) from fmod_nat _ 3, ← hc]
  refine lw_nil ?_
  refine ic_range1 (by omega) ?_
  intro I wr C T
  rw [Int.toNat_natCast]
  have hnx : (acc ++ [tNEXT]).length = acc.length + 1 := by simp
  -- what comes behind the loop
  have last : ∀ (acc' : List Tok) (EV' : List Ev) (x8 : Option V), acc'.length ≤ 200 → EV'.length ≤ 200 → c ≠ 0 →
      Q .next (mL s1 s2 ev line (acc' ++ [tCOLON]) s6 (some (.int n)) x8) ((ev, .list (EV'.map evV)) :: O0) →
      SW g ⟨3, none⟩ (eL L cd) (mL s1 s2 ev line acc' s6 (some (.int n)) x8) ((ev, .list (EV'.map evV)) :: O0) (match bodyS with | [_, .If _ _ [.If _ b _ _] _] => b.drop 2 | _ => []) Q := by
    intro acc' EV' x8 hl1 hl2 hne q'
    refine sw_if ?_
    refine tw_cmp ?_
    refine ew_binop ?_
    refine ew_binop ?_
    refine ew_name (.there (.there (.there (.there (.there (.there (.here))))))) ?_
    refine ew_int ?_
    refine w2_div (by decide) (PyProof.noPylong_small (by decide)) ?_
    rw [show (n : Int).fdiv 3 = ((n / 3 : Nat) : Int) from fdiv_nat n 3]
    refine ew_int ?_
    refine w2_mod (by decide) ?_
    rw [show ((n / 3 : Nat) : Int).fmod 3 = ((n / 3 % 3 : Nat) : Int) from fmod_nat _ 3, ← hc]
    refine ew_int ?_
    refine w2_eq rfl rfl rfl rfl (by simp [toPy, PyData.depth]) (t1_bool ?_)
    rw [if_neg (by simp [toPy, PyData.eqv]; omega)]
    refine sw_cons ?_
    refine s1_assign ?_
    refine ew_binop ?_
    refine ew_name (.there (.there (.there (.there (.here))))) ?_
    refine ew_list ?_
    refine lw_cons ?_
    refine ew_str2 ?_
    refine lw_nil ?_
    refine w2_addl (by rw [List.length_map]; simp; omega) ?_
    refine nm_local rfl (.there (.there (.there (.there (.here))))) ?_
    refine sw_nil ?_
    have e : acc'.map Tok.v ++ [V.tup [.str "sign", .str ":"]] = (acc' ++ [tCOLON]).map Tok.v := by rw [List.map_append]; rfl
    rw [e]
    exact q'
  have : c = 0 ∨ c = 1 ∨ c = 2 := by omega
  rcases this with h | h | h
  · subst h
    rw [intsFrom_zero]
    refine forw_nil T ?_
    refine sw_if ?_
    refine tw_cmp ?_
    refine ew_binop ?_
    refine ew_binop ?_
    refine ew_name (.there (.there (.there (.there (.there (.there (.here))))))) ?_
    refine ew_int ?_
    refine w2_div (by decide) (PyProof.noPylong_small (by decide)) ?_
    rw [show (n : Int).fdiv 3 = ((n / 3 : Nat) : Int) from fdiv_nat n 3]
    refine ew_int ?_
    refine w2_mod (by decide) ?_
    rw [show ((n / 3 : Nat) : Int).fmod 3 = ((n / 3 % 3 : Nat) : Int) from fmod_nat _ 3, ← hc]
    refine ew_int ?_
    refine w2_eq rfl rfl rfl rfl (by simp [toPy, PyData.depth]) (t1_bool ?_)
    rw [if_pos (by simp [toPy, PyData.eqv])]
    refine sw_cons ?_
    refine s1_lmeth PySem.F.slot_list_append ty_append ?_
    refine ew_name (.there (.there (.here))) ⟨ev, _, rfl, .head _, ?_⟩
    refine lw_cons ?_
    refine ew_tuple ?_
    refine lw_cons ?_
    refine ew_str ?_
    refine lw_cons ?_
    refine ew_name (.there (.there (.there (.here)))) ?_
    refine lw_cons ?_
    refine ew_lenrow rfl (.there (.there (.there (.there (.here))))) (by rw [List.length_map]; omega) ?_
    refine lw_nil ?_
    refine lw_nil ⟨_, EV.map evV, _, .here, by rw [List.length_map]; omega, ?_, .inl ⟨rfl, rfl⟩⟩
    rw [List.length_map, hnx]
    refine sw_cons ?_
    refine s1_assign ?_
    refine ew_binop ?_
    refine ew_name (.there (.there (.there (.there (.here))))) ?_
    refine ew_list ?_
    refine lw_cons ?_
    refine ew_str2 ?_
    refine lw_nil ?_
    refine w2_addl (by rw [List.length_map]; simp; omega) ?_
    refine nm_local rfl (.there (.there (.there (.there (.here))))) ?_
    refine sw_nil ?_
    have e2 : (acc ++ [tNEXT]).map Tok.v ++ [V.tup [.str "sign", .str ":"]] = (acc ++ toksP (.next 0)).map Tok.v := by rw [List.map_append, List.append_assoc, List.map_append]; rfl
    rw [e2]
    have e3 : (EV ++ evsP line acc.length (.next 0)).map evV = EV.map evV ++ [V.tup [.str "next", .int line, .int ((acc.length + 1 : Nat) : Int)]] := by rw [List.map_append]; rfl
    rw [e3] at q
    exact q _
  · subst h
    rw [intsFrom_succ, intsFrom_zero]
    refine forw_cons T ?_
    refine asw_name ?_
    refine nm_local rfl (.there (.there (.there (.there (.there (.there (.there (.here)))))))) ?_
    refine sw_turnN (t := 0) (by decide) (by omega) (by omega) ?_
    refine forw_nil T ?_
    have al : (acc ++ [tNEXT] ++ nmT 0).length = acc.length + 2 := by simp [nmT]
    rw [al]
    refine last (acc ++ [tNEXT] ++ nmT 0) (EV ++ [(false, line, acc.length + 2)]) _ (by omega) (by simp; omega) (by decide) ?_
    rw [show acc ++ [tNEXT] ++ nmT 0 ++ [tCOLON] = acc ++ toksP (.next 1) by simp [nmT, toksP]]
    exact q _
  · subst h
    rw [intsFrom_succ, intsFrom_succ, intsFrom_zero]
    refine forw_cons T ?_
    refine asw_name ?_
    refine nm_local rfl (.there (.there (.there (.there (.there (.there (.there (.here)))))))) ?_
    refine sw_turnN (t := 0) (by decide) (by omega) (by omega) ?_
    have al : (acc ++ [tNEXT] ++ nmT 0).length = acc.length + 2 := by simp [nmT]
    rw [al]
    refine forw_cons T ?_
    refine asw_name ?_
    refine nm_local rfl (.there (.there (.there (.there (.there (.there (.there (.here)))))))) ?_
    refine sw_turnN (t := 1) (by decide) (by omega) (by simp; omega) ?_
    refine forw_nil T ?_
    have al2 : (acc ++ [tNEXT] ++ nmT 0 ++ nmT 1).length = acc.length + 4 := by simp [nmT]
    rw [al2]
    refine last (acc ++ [tNEXT] ++ nmT 0 ++ nmT 1) (EV ++ [(false, line, acc.length + 2)] ++ [(false, line, acc.length + 4)]) _ (by omega) (by simp; omega) (by decide) ?_
    rw [show acc ++ [tNEXT] ++ nmT 0 ++ nmT 1 ++ [tCOLON] = acc ++ toksP (.next 2) by simp [nmT, toksP]]
    rw [show EV ++ [(false, line, acc.length + 2)] ++ [(false, line, acc.length + 4)] = EV ++ evsP line acc.length (.next 2) by simp [evsP]]
    exact q _
end
end Mine

-- F20c
namespace Mine
open PySem PySem.Calls PySem.W PyProof.Rows

noncomputable def getN (ns : List Nat) (i : Nat) : Nat := ns.getD (i % ns.length) 0
noncomputable def pieceN (ns : List Nat) (line s : Nat) : Pc := pcOf (getN ns (line + s) / 3 + s)
noncomputable def pcsOf (ns : List Nat) (line : Nat) : List Pc := (List.range' 0 (1 + getN ns line % 3)).map (pieceN ns line)
noncomputable def evsL (line : Nat) : Nat → List Pc → List Ev
  | _, [] => []
  | off, p :: r => evsP line off p ++ evsL line (off + (toksP p).length) r
noncomputable def rowL (ns : List Nat) (line : Nat) : List Tok := (pcsOf ns line).flatMap toksP ++ [tPEND]
noncomputable def linesN (ns : List Nat) : Nat := 1 + ns.getD 0 0 % 4
noncomputable def evsTo (ns : List Nat) (i : Nat) : List Ev := (List.range i).flatMap fun l => evsL l 0 (pcsOf ns l)
noncomputable def numsTo (i : Nat) : List Nat := (List.range i).map (10 + ·)
noncomputable def rowsTo (ns : List Nat) (i : Nat) : List (List Tok) := (List.range i).map (rowL ns)
theorem toksP_len (p : Pc) : (toksP p).length ≤ 7 := by unfold toksP; split <;> decide
theorem evsP_len (l o : Nat) (p : Pc) : (evsP l o p).length ≤ 2 := by unfold evsP; split <;> simp

section
variable {g : Gr} {O : Led} {n : Lv} {env : Env} {m : Loc}
theorem ew_someAt {ns : List Nat} {k : Nat} {e : Expr} {p1 p2 p3 p4 p5 p6 : Pos} {Q : V → Led → Prop} (hl : env.kindOf "len" = some .globalImplicit) (hs : Get m "some" (natsV ns)) (hn : 1 ≤ ns.length) (hn2 : ns.length ≤ 1000)
    (he : ∀ {Q' : V → Led → Prop}, Q' (.int k) O → EW g n env m O e Q') (q : Q (.int (getN ns k)) O)
    (hsub : ∀ (o i : Value), subscripted (.BinOp e .Mod (.Call (.Name "len" p2) [.Name "some" p3] [] p4) p5) false o i = operate [o, i] (getItem o i) := by intro _ _; with_unfolding_all rfl) :
    EW g n env m O (.Subscript (.Name "some" p1) (.BinOp e .Mod (.Call (.Name "len" p2) [.Name "some" p3] [] p4) p5) p6) Q := by
  refine ew_sub ?_
  refine ew_name hs ?_
  refine ew_binop ?_
  refine he ?_
  refine ew_callB hl (mg_len g) (by decide) bb_len ?_
  refine lw_cons ?_
  refine ew_name hs ?_
  refine lw_nil ?_
  refine wl_len_lst (by rw [List.length_map]; omega) ?_
  rw [List.length_map]
  refine w2_mod (by omega) ?_
  rw [fmod_nat]
  have hlt : k % ns.length < ns.length := Nat.mod_lt _ (by omega)
  refine w2_item_lst (by omega) (by omega) (v := .int (getN ns k)) ?_ q hsub
  rw [Int.toNat_natCast, List.getElem?_map, List.getElem?_eq_getElem hlt]
  unfold getN
  rw [List.getD_eq_getElem?_getD, List.getElem?_eq_getElem hlt]; rfl
end

set_option maxHeartbeats 2000000 in
theorem c_law_loops (g : Gr) (ns : List Nat) (hn : 1 ≤ ns.length) (hl : ns.length ≤ 100) : FW g 4 208 [natsV ns]
    (fun v => v = .tup [.prog (nums (numsTo (linesN ns))) ((rowsTo ns (linesN ns)).map fun l => rowV l), .lst ((evsTo ns (linesN ns)).map evV)]) := by
  obtain ⟨N, hNN⟩ : ∃ N, N = linesN ns := ⟨_, rfl⟩
  rw [← hNN]
  refine fw1 (rest := ["program", "events", "line", "row", "spot", "number", "turn"]) (at_law_loops g) (fun _ _ _ _ => rfl) rfl (by decide) rfl rfl rfl (by decide) fun L cd => ?_
  refine sw_cons ?_
  refine s1_assign_swap ?_
  refine ew_tuple ?_
  refine lw_cons ?_
  refine ew_make rfl (by decide) fun x d a b => ?_
  refine lw_cons ?_
  refine ew_listN ?_
  refine lw_nil fun ev => ?_
  refine lw_nil ⟨_, _, rfl, ?_⟩
  refine nm_local rfl (.there (.there (.here))) ?_
  refine nm_local rfl (.there (.here)) ?_
  refine sw_cons ?_
  refine s1_for ?_
  refine ie_callT rfl (mg_range g) (by decide) bb_range ?_
  refine lw_cons ?_
  refine ew_binop ?_
  refine ew_int ?_
  refine ew_binop ?_
  refine ew_sub ?_
  refine ew_name .here ?_
  refine ew_int ?_
  refine w2_item_lst (by omega) (by omega) (v := .int (ns.getD 0 0 : Nat)) ?_ ?_
  · show (ns.map fun k : Nat => V.int (k : Int))[0]? = _
    rw [List.getElem?_map, List.getD_eq_getElem?_getD, List.getElem?_eq_getElem (by omega : 0 < ns.length)]; rfl
  refine ew_int ?_
  refine w2_mod (by decide) ?_
  rw [show ((ns.getD 0 0 : Nat) : Int).fmod 4 = ((ns.getD 0 0 % 4 : Nat) : Int) from fmod_nat _ 4]
  refine w2_add ?_
  rw [show (1 : Int) + ((ns.getD 0 0 % 4 : Nat) : Int) = (linesN ns : Int) by unfold linesN; omega]
  have hN : linesN ns ≤ 4 := by unfold linesN; omega
  refine lw_nil ?_
  refine ic_range1 (by omega) ?_
  rw [Int.toNat_natCast]
  intro I wr C T
  obtain ⟨i, hi⟩ : ∃ i : Nat, i = 0 := ⟨_, rfl⟩
  obtain ⟨k, hk⟩ : ∃ k : Nat, k = linesN ns := ⟨_, rfl⟩
  have hik : i + k = linesN ns := by omega
  have hev : (evsTo ns i).length ≤ 6 * i := by rw [hi]; simp [evsTo]
  rw [← hk, show intsFrom 0 k = intsFrom (i : Int) k by rw [hi]; rfl]
  rw [show (ev, AO.list []) :: (progO x d a b ++ []) = (ev, AO.list ((evsTo ns i).map evV)) :: progL x d a b (nums (numsTo i)) ((rowsTo ns i).map fun l => rowV l) by rw [hi]; rfl]
  generalize htl : List.map (fun x => ((x, none) : Str × Option V)) ["line", "row", "spot", "number", "turn"] = tl
  have htk : ∃ x1 x2 x3 x4 x5 : Option V, tl = ([("line", x1), ("row", x2), ("spot", x3), ("number", x4), ("turn", x5)] : Loc) := ⟨_, _, _, _, _, htl.symm⟩
  clear hi hk htl
  induction k generalizing i tl with
  | zero =>
    obtain ⟨x1, x2, x3, x4, x5, rfl⟩ := htk
    rw [intsFrom_zero]
    refine forw_nil T ?_
    have ei : i = N := by omega
    clear hNN
    subst ei
    refine sw_cons ?_
    refine s1_return ?_
    refine ew_tuple ?_
    refine lw_cons ?_
    refine ew_name (.there (.here)) ?_
    refine lw_cons ?_
    refine ew_name (.there (.there (.here))) ?_
    refine lw_nil ⟨_, .tup2 (.prog (.tail _ (.tail _ (.tail _ (.head _)))) (.tail _ (.tail _ (.tail _ (.tail _ (.head _))))) (.tail _ (.tail _ (.head _))) (.tail _ (.head _))) (.list (.head _)), rfl⟩
  | succ k ih =>
    obtain ⟨x1, x2, x3, x4, x5, rfl⟩ := htk
    rw [intsFrom_succ]
    refine forw_cons T ?_
    refine asw_name ?_
    refine nm_local rfl (.there (.there (.there (.here)))) ?_
    refine sw_cons ?_
    refine s1_assign ?_
    refine ew_list ?_
    refine lw_nil ?_
    refine nm_local rfl (.there (.there (.there (.there (.here))))) ?_
    refine sw_cons ?_
    refine s1_for ?_
    refine ie_callT rfl (mg_range g) (by decide) bb_range ?_
    refine lw_cons ?_
    refine ew_binop ?_
    refine ew_int ?_
    refine ew_binop ?_
    refine ew_someAt (k := i) rfl .here hn (by omega) (fun {Q'} q => ew_name (.there (.there (.there (.here)))) q) ?_
    refine ew_int ?_
    refine w2_mod (by decide) ?_
    rw [show (getN ns i : Int).fmod 3 = ((getN ns i % 3 : Nat) : Int) from fmod_nat _ 3]
    refine w2_add ?_
    rw [show (1 : Int) + ((getN ns i % 3 : Nat) : Int) = ((1 + getN ns i % 3 : Nat) : Int) from rfl]
    refine lw_nil ?_
    refine ic_range1 (by omega) ?_
    rw [Int.toNat_natCast]
    intro J wr' C' T'
    obtain ⟨S, hS⟩ : ∃ S, S = 1 + getN ns i % 3 := ⟨_, rfl⟩
    have hS3 : S ≤ 3 := by omega
    obtain ⟨j, hj⟩ : ∃ j : Nat, j = 0 := ⟨_, rfl⟩
    obtain ⟨kk, hkk⟩ : ∃ kk : Nat, kk = S := ⟨_, rfl⟩
    obtain ⟨acc, hacc⟩ : ∃ acc : List Tok, acc = [] := ⟨_, rfl⟩
    obtain ⟨EV, hEV⟩ : ∃ EV : List Ev, EV = evsTo ns i := ⟨_, rfl⟩
    have A1 : acc ++ ((List.range' j kk).map (pieceN ns i)).flatMap toksP = (pcsOf ns i).flatMap toksP := by rw [hacc, hj, hkk, hS]; rfl
    have A2 : EV ++ evsL i acc.length ((List.range' j kk).map (pieceN ns i)) = evsTo ns (i + 1) := by
      rw [hEV, hacc, hj, hkk, hS, evsTo, evsTo, List.range_succ, List.flatMap_append]; simp [pcsOf]
    have A3 : j + kk = S := by omega
    have A4 : acc.length ≤ 7 * j := by rw [hacc]; simp
    have A5 : EV.length ≤ 6 * i + 2 * j := by rw [hEV]; omega
    rw [← hS, ← hkk, show intsFrom 0 kk = intsFrom (j : Int) kk by rw [hj]; rfl, ← hEV]
    rw [show (("row", some (V.lst [])) : Str × Option V) = (("row", some (rowV acc)) : Str × Option V) by rw [hacc]; rfl]
    clear hj hkk hacc hEV
    induction kk generalizing j acc EV x3 x4 x5 with
    | zero =>
      rw [intsFrom_zero]
      refine forw_nil T' ?_
      simp only [List.range'_zero, List.map_nil, List.flatMap_nil, List.append_nil, evsL] at A1 A2
      refine sw_cons ?_
      refine s1_callM (at_put_line g) rfl (mg_put_line g) ?_
      refine lw_cons ?_
      refine ew_name (.there (.here)) ?_
      refine lw_cons ?_
      refine ew_binop ?_
      refine ew_int ?_
      refine ew_name (.there (.there (.there (.here)))) ?_
      refine w2_add ?_
      rw [show (10 : Int) + (i : Int) = ((10 + i : Nat) : Int) from rfl]
      refine lw_cons ?_
      refine ew_binop ?_
      refine ew_name (.there (.there (.there (.there (.here))))) ?_
      refine ew_list ?_
      refine lw_cons ?_
      refine ew_str2 ?_
      refine lw_nil ?_
      refine w2_addl (by rw [List.length_map]; simp; omega) ?_
      refine lw_nil ?_
      have e : acc.map Tok.v ++ [V.tup [.str "word", .str "END"]] = (rowL ns i).map Tok.v := by unfold rowL; rw [← A1, List.map_append]; rfl
      rw [e]
      have rl : (rowL ns i).length = acc.length + 1 := by unfold rowL; rw [← A1]; simp
      have ln : (numsTo i).length = i := by unfold numsTo; simp
      have lr : (rowsTo ns i).length = i := by unfold rowsTo; simp
      have put : FM g 3 159 [.ref x, .int ((10 + i : Nat) : Int), rowV (rowL ns i)] ((ev, AO.list (EV.map evV)) :: progL x d a b (nums (numsTo i)) ((rowsTo ns i).map fun l => rowV l))
          (fun v O' => v = .none ∧ O' = (ev, AO.list (EV.map evV)) :: progL x d a b (nums (numsTo i) ++ [.int ((10 + i : Nat) : Int)]) (((rowsTo ns i).map fun l => rowV l) ++ [rowV (rowL ns i)])) :=
        c_put g _ _ _ x d a b (numsTo i) _ (10 + i) _ (.tail _ (.tail _ (.tail _ (.head _)))) (.tail _ (.tail _ (.tail _ (.tail _ (.head _))))) (.tail _ (.head _)) (.there (.there .here)) (.there .here) (.tail _ (.tail _ (.tail _ (.head _)))) (.tail _ (.tail _ (.tail _ (.tail _ (.head _)))))
          (fun y hy => by
            obtain ⟨z, hz, rfl⟩ := List.mem_map.mp hy
            have := List.mem_range.mp hz
            omega) (by omega) (by omega) (by rw [List.length_map, ln, lr]) (by rw [List.length_map]; omega)
      refine put.mono fun v O' h => ⟨h.1, ?_⟩
      rw [h.2]
      refine sw_nil ?_
      have el : (evsTo ns (i + 1)).length ≤ 6 * (i + 1) := by rw [← A2]; omega
      have := ih (i + 1) (by omega) el [("line", some (.int i)), ("row", some (rowV acc)), ("spot", x3), ("number", x4), ("turn", x5)] ⟨_, _, _, _, _, rfl⟩
      rw [← A2] at this
      rw [show nums (numsTo (i + 1)) = nums (numsTo i) ++ [.int ((10 + i : Nat) : Int)] by unfold numsTo; rw [List.range_succ]; simp [nums], show (rowsTo ns (i + 1)).map (fun l => rowV l) = ((rowsTo ns i).map fun l => rowV l) ++ [rowV (rowL ns i)] by unfold rowsTo; rw [List.range_succ]; simp] at this
      exact this
    | succ kk ihk =>
      rw [intsFrom_succ]
      refine forw_cons T' ?_
      refine asw_name ?_
      refine nm_local rfl (.there (.there (.there (.there (.there (.here)))))) ?_
      refine sw_cons ?_
      refine s1_assign ?_
      refine ew_binop ?_
      refine ew_binop ?_
      refine ew_someAt (k := i + j) rfl .here hn (by omega) (fun {Q'} q => ew_binop (ew_name (.there (.there (.there (.here)))) (ew_name (.there (.there (.there (.there (.there (.here)))))) (w2_add (by rw [show (i : Int) + (j : Int) = ((i + j : Nat) : Int) by omega]; exact q))))) ?_
      refine ew_int ?_
      refine w2_div (by decide) (PyProof.noPylong_small (by decide)) ?_
      rw [show (getN ns (i + j) : Int).fdiv 3 = ((getN ns (i + j) / 3 : Nat) : Int) from fdiv_nat _ 3]
      refine ew_name (.there (.there (.there (.there (.there (.here)))))) ?_
      refine w2_add ?_
      rw [show ((getN ns (i + j) / 3 : Nat) : Int) + (j : Int) = ((getN ns (i + j) / 3 + j : Nat) : Int) from rfl]
      refine nm_local rfl (.there (.there (.there (.there (.there (.there (.here))))))) ?_
      have tl7 := toksP_len (pieceN ns i j)
      have el2 := evsP_len i acc.length (pieceN ns i j)
      refine sw_spot (by omega) (by omega) fun x8 => ?_
      have := ihk (j := j + 1) (acc := acc ++ toksP (pieceN ns i j)) (EV := EV ++ evsP i acc.length (pieceN ns i j)) (x3 := some (.int j)) (x4 := some (.int (getN ns (i + j) / 3 + j : Nat))) (x5 := x8)
        (by rw [← A1, List.range'_succ]; simp) (by rw [← A2, List.range'_succ, List.map_cons, evsL, List.length_append, List.append_assoc]) (by omega) (by rw [List.length_append]; omega) (by rw [List.length_append]; omega)
      exact this
end Mine

-- P3
namespace Mine
open PySem PySem.Calls PySem.W PyProof.Rows

noncomputable def dueE : Nat → List Ev → Option (Nat × Nat)
  | _, [] => none
  | d, (true, _) :: r => dueE (d + 1) r
  | 0, (false, p) :: _ => some p
  | d + 1, (false, _) :: r => dueE d r
noncomputable def runP : Nat → List Ev → Nat ⊕ Nat
  | d, [] => .inr d
  | d, (true, _) :: r => runP (d + 1) r
  | 0, (false, p) :: _ => .inl p.2
  | d + 1, (false, _) :: r => runP d r
theorem dueE_append (i : Nat) (b : List Ev) : ∀ (a : List Ev) (d : Nat), (∀ e ∈ a, e.2.1 = i) → dueE d (a ++ b) = match runP d a with | .inl p => some (i, p) | .inr d' => dueE d' b
  | [], d, _ => rfl
  | (true, p) :: r, d, h => by
    show dueE (d + 1) (r ++ b) = _
    rw [dueE_append i b r (d + 1) fun e he => h e (.tail _ he)]; rfl
  | (false, l, p) :: r, 0, h => by
    have : l = i := h _ (.head _)
    subst this; rfl
  | (false, p) :: r, d + 1, h => by
    show dueE d (r ++ b) = _
    rw [dueE_append i b r d fun e he => h e (.tail _ he)]; rfl
theorem evsP_line (i o : Nat) (p : Pc) : ∀ e ∈ evsP i o p, e.2.1 = i := by
  intro e he
  unfold evsP at he
  split at he <;> simp at he
  · rw [he]
  · rw [he]
  · rw [he]
  · rcases he with rfl | rfl <;> rfl
theorem evsL_line (i : Nat) : ∀ (ps : List Pc) (o : Nat), ∀ e ∈ evsL i o ps, e.2.1 = i
  | [], _, e, he => by simp [evsL] at he
  | p :: r, o, e, he => by
    rcases List.mem_append.mp he with he | he
    · exact evsP_line i o p e he
    · exact evsL_line i r _ e he

section
variable {l pre t u : List Tok} {off d : Nat} {r : Nat ⊕ Nat}
theorem at_off (e : l = pre ++ (t ++ u)) (ho : off = pre.length) (j : Nat) (tk : Tok) (h : t[j]? = some tk) : l[off + j]? = some tk := by
  have hj := (List.getElem?_eq_some_iff.mp h).1
  rw [e, ho, List.getElem?_append_right (Nat.le_add_right _ _), Nat.add_sub_cancel_left, List.getElem?_append_left hj, h]
theorem getD_of {l : List Tok} {i : Nat} {tk : Tok} (h : l[i]? = some tk) : l.getD i tEND = tk := by
  rw [List.getD_eq_getElem?_getD, h]; rfl
theorem past_no {l : List Tok} {i : Nat} {tk : Tok} (h : l[i]? = some tk) (hk : tk.k ≠ "name") : pastName l i = i := by
  unfold pastName
  rw [getD_of h, if_neg hk]; rfl
theorem past_yes {l : List Tok} {i : Nat} {tk : Tok} (h : l[i]? = some tk) (hk : tk.k = "name") : pastName l i = i + 1 := by
  unfold pastName
  rw [getD_of h, if_pos hk]
theorem oth {a : Nat} {tk : Tok} (h : l[a]? = some tk) (n1 : tk ≠ tFOR) (n2 : tk ≠ tNEXT) (s : Scan l (a + 1) d r) : Scan l a d r := .other h n1 n2 s
end

theorem scan_row (line : Nat) (l : List Tok) : ∀ (ps : List Pc) (pre : List Tok) (d : Nat), l = pre ++ (ps.flatMap toksP ++ [tPEND]) → Scan l pre.length d (runP d (evsL line pre.length ps))
  | [], pre, d, e => by
    have h0 : l[pre.length + 0]? = some tPEND := at_off (t := [tPEND]) (u := []) (by rw [e]; rfl) rfl 0 _ rfl
    exact oth h0 (by decide) (by decide) (.eol (by rw [e]; simp))
  | p :: ps, pre, d, e => by
    have e' : l = pre ++ (toksP p ++ (ps.flatMap toksP ++ [tPEND])) := by rw [e]; simp
    have at' : ∀ j tk, (toksP p)[j]? = some tk → l[pre.length + j]? = some tk := fun j tk h => at_off e' rfl j tk h
    have ih : ∀ d, Scan l (pre.length + (toksP p).length) d (runP d (evsL line (pre.length + (toksP p).length) ps)) := fun d => by
      have := scan_row line l ps (pre ++ toksP p) d (by rw [e']; simp)
      rwa [List.length_append] at this
    rw [evsL]
    match p, e', at', ih with
    | .loop, e', at', ih =>
      have a0 := at' 0 tFOR rfl
      have a1 := at' 1 tI rfl
      have a2 := at' 2 (.s "sign" "=") rfl
      have a3 := at' 3 (.n "number" 1) rfl
      have a4 := at' 4 (.s "word" "TO") rfl
      have a5 := at' 5 (.n "number" 2) rfl
      have a6 := at' 6 tCOLON rfl
      show Scan l pre.length d (runP (d + 1) _)
      exact .loop a0 (oth a1 (by decide) (by decide) (oth a2 (by decide) (by decide) (oth a3 (by decide) (by decide) (oth a4 (by decide) (by decide) (oth a5 (by decide) (by decide) (oth a6 (by decide) (by decide) (ih (d + 1))))))))
    | .next 0, e', at', ih =>
      have a0 := at' 0 tNEXT rfl
      have a1 := at' 1 tCOLON rfl
      have p1 := past_no a1 (by decide)
      cases d with
      | zero => exact .hit a0 (.low p1.symm)
      | succ d =>
        show Scan l pre.length (d + 1) (runP d _)
        exact .miss a0 (.done p1.symm (by rw [getD_of a1]; decide)) (oth a1 (by decide) (by decide) (ih d))
    | .next 1, e', at', ih =>
      have a0 := at' 0 tNEXT rfl
      have a1 := at' 1 tI rfl
      have a2 := at' 2 tCOLON rfl
      have p1 := past_yes a1 (by decide)
      cases d with
      | zero => exact .hit a0 (.low p1.symm)
      | succ d =>
        show Scan l pre.length (d + 1) (runP d _)
        exact .miss a0 (.done p1.symm (by rw [getD_of a2]; decide)) (oth a2 (by decide) (by decide) (ih d))
    | .next (c + 2), e', at', ih =>
      have a0 := at' 0 tNEXT rfl
      have a1 := at' 1 tI rfl
      have a2 := at' 2 tCOMMA rfl
      have a3 := at' 3 tJ rfl
      have a4 := at' 4 tCOLON rfl
      have p1 := past_yes a1 (by decide)
      have p3 := past_yes a3 (by decide)
      match d with
      | 0 => exact .hit a0 (.low p1.symm)
      | 1 => exact .hit a0 (.more p1.symm a2 (.low p3.symm))
      | d + 2 =>
        show Scan l pre.length (d + 2) (runP d _)
        exact .miss a0 (.more p1.symm a2 (.done p3.symm (by rw [getD_of a4]; decide))) (oth a4 (by decide) (by decide) (ih d))
    | .other, e', at', ih =>
      have a0 := at' 0 (.s "word" "PRINT") rfl
      have a1 := at' 1 (.s "text" "FOR") rfl
      have a2 := at' 2 tCOLON rfl
      show Scan l pre.length d (runP d _)
      exact oth a0 (by decide) (by decide) (oth a1 (by decide) (by decide) (oth a2 (by decide) (by decide) (ih d)))

noncomputable def evsFrom (ns : List Nat) (i k : Nat) : List Ev := (List.range' i k).flatMap fun l => evsL l 0 (pcsOf ns l)
theorem nxt_mid {rows : List (List Tok)} {i a d : Nat} {l : List Tok} {es tail : List Ev} (hi : rows[i]? = some l) (hs : Scan l a d (runP d es)) (he : ∀ e ∈ es, e.2.1 = i) (ht : ∀ d', Nxts rows (i + 1) 0 d' (dueE d' tail)) : Nxts rows i a d (dueE d (es ++ tail)) := by
  rw [dueE_append i tail es d he]
  cases h : runP d es with
  | inl p => rw [h] at hs; exact .here hi hs
  | inr d' => rw [h] at hs; exact .on hi hs (ht d')
theorem row_at {ns : List Nat} {N i : Nat} (h : i < N) : (rowsTo ns N)[i]? = some (rowL ns i) := by
  unfold rowsTo
  rw [List.getElem?_map, List.getElem?_range h]; rfl
theorem nxt_line (ns : List Nat) (N : Nat) : ∀ (k i d : Nat), i + k = N → Nxts (rowsTo ns N) i 0 d (dueE d (evsFrom ns i k))
  | 0, i, d, h => .out (by unfold rowsTo; simp; omega)
  | k + 1, i, d, h => by
    have e : evsFrom ns i (k + 1) = evsL i 0 (pcsOf ns i) ++ evsFrom ns (i + 1) k := by unfold evsFrom; rw [List.range'_succ]; rfl
    rw [e]
    exact nxt_mid (row_at (by omega)) (scan_row i (rowL ns i) (pcsOf ns i) [] d rfl) (evsL_line i _ 0) fun d' => nxt_line ns N k (i + 1) d' (by omega)

/-- at each FOR what is due is what next_place finds -/
noncomputable def SG (rows : List (List Tok)) : List Ev → Prop
  | [] => True
  | e :: r => (e.1 = true → Nxts rows e.2.1 e.2.2 0 (dueE 0 r)) ∧ SG rows r
theorem sg_row {rows : List (List Tok)} (i : Nat) (l : List Tok) (tail : List Ev) (hi : rows[i]? = some l) (ht : ∀ d', Nxts rows (i + 1) 0 d' (dueE d' tail)) (hg : SG rows tail) :
    ∀ (ps : List Pc) (pre : List Tok), l = pre ++ (ps.flatMap toksP ++ [tPEND]) → SG rows (evsL i pre.length ps ++ tail)
  | [], pre, e => hg
  | p :: ps, pre, e => by
    have e' : l = pre ++ (toksP p ++ (ps.flatMap toksP ++ [tPEND])) := by rw [e]; simp
    have ih : SG rows (evsL i (pre.length + (toksP p).length) ps ++ tail) := by
      have := sg_row i l tail hi ht hg ps (pre ++ toksP p) (by rw [e']; simp)
      rwa [List.length_append] at this
    have sc : Scan l (pre.length + (toksP p).length) 0 (runP 0 (evsL i (pre.length + (toksP p).length) ps)) := by
      have := scan_row i l ps (pre ++ toksP p) 0 (by rw [e']; simp)
      rwa [List.length_append] at this
    rw [evsL, List.append_assoc]
    match p, e', ih, sc with
    | .loop, e', ih, sc =>
      have a6 : l[pre.length + 6]? = some tCOLON := at_off e' rfl 6 tCOLON rfl
      exact ⟨fun _ => nxt_mid (es := evsL i (pre.length + (toksP .loop).length) ps) hi (oth a6 (by decide) (by decide) sc) (evsL_line i _ _) ht, ih⟩
    | .next 0, e', ih, sc => exact ⟨fun h => (nomatch h), ih⟩
    | .next 1, e', ih, sc => exact ⟨fun h => (nomatch h), ih⟩
    | .next (c + 2), e', ih, sc => exact ⟨fun h => (nomatch h), fun h => (nomatch h), ih⟩
    | .other, e', ih, sc => exact ih
theorem sg_lines (ns : List Nat) (N : Nat) : ∀ (k i : Nat), i + k = N → SG (rowsTo ns N) (evsFrom ns i k)
  | 0, i, h => trivial
  | k + 1, i, h => by
    have e : evsFrom ns i (k + 1) = evsL i 0 (pcsOf ns i) ++ evsFrom ns (i + 1) k := by unfold evsFrom; rw [List.range'_succ]; rfl
    rw [e]
    exact sg_row i (rowL ns i) _ (row_at (by omega)) (fun d' => nxt_line ns N k (i + 1) d' (by omega)) (sg_lines ns N k (i + 1) (by omega)) (pcsOf ns i) [] rfl
theorem loops_law (ns : List Nat) (N : Nat) : SG (rowsTo ns N) (evsTo ns N) := by
  have := sg_lines ns N N 0 (by omega)
  unfold evsFrom at this
  rw [← List.range_eq_range'] at this
  exact this

theorem toksP_ok (p : Pc) : ∀ t ∈ toksP p, t.ok = true := by
  intro t ht
  unfold toksP at ht
  split at ht <;> simp at ht
  · rcases ht with rfl | rfl | rfl | rfl | rfl | rfl | rfl <;> decide +kernel
  · rcases ht with rfl | rfl <;> decide +kernel
  · rcases ht with rfl | rfl | rfl <;> decide +kernel
  · rcases ht with rfl | rfl | rfl | rfl | rfl <;> decide +kernel
  · rcases ht with rfl | rfl | rfl <;> decide +kernel
theorem flat_len : ∀ ps : List Pc, (ps.flatMap toksP).length ≤ 7 * ps.length
  | [] => by simp
  | p :: r => by
    have h1 := toksP_len p
    have h2 := flat_len r
    rw [List.flatMap_cons, List.length_append, List.length_cons]; omega
theorem rowL_ok (ns : List Nat) (i : Nat) : (∀ t ∈ rowL ns i, t.ok = true) ∧ (rowL ns i).length ≤ 100000 := by
  refine ⟨fun t ht => ?_, ?_⟩
  · unfold rowL at ht
    rcases List.mem_append.mp ht with ht | ht
    · obtain ⟨p, _, hp⟩ := List.mem_flatMap.mp ht
      exact toksP_ok p t hp
    · rw [List.mem_singleton.mp ht]; decide +kernel
  · have h1 := flat_len (pcsOf ns i)
    have h2 : (pcsOf ns i).length = 1 + getN ns i % 3 := by unfold pcsOf; simp
    unfold rowL
    rw [List.length_append, List.length_cons, List.length_nil]; omega
end Mine

-- F21
namespace Mine
open PySem PySem.Calls PySem.W PyProof.Rows

noncomputable def dV : Option (Nat × Nat) → V
  | none => .none
  | some p => .tup [.int p.1, .int p.2]
theorem dV_py (o : Option (Nat × Nat)) : isPy (dV o) = true := by cases o <;> rfl
theorem dV_lay (o : Option (Nat × Nat)) : (toPy (dV o)).canLay0 = true := by cases o <;> rfl
theorem dV_depth (o : Option (Nat × Nat)) : (toPy (dV o)).depth ≤ 30 := by cases o <;> simp [dV, toPy, toPys, PyData.depth, PyData.depthAll]
theorem dV_fix (o : Option (Nat × Nat)) (u : Value) : dV o ≠ .fix u := by cases o <;> simp [dV]

section
variable {g : Gr} {O : Led} {n : Lv} {env : Env} {m : Loc}
theorem tw_isFor {e : Ev} {x : Str} {p1 p2 p3 p4 p5 : Pos} {k1 k2 : Nat} {Q : Bool → Led → Prop} (hx : Get m x (evV e)) (q : Q e.1 O) (hd : (x == ("__debug__" : Str)) = false := by decide) :
    TW g n env m O (.Compare (.Subscript (.Name x p1) (.Constant (.int 0) k1 p2) p3) [.Eq] [.Constant (.str "for") k2 p4] p5) Q := by
  refine tw_cmp ?_
  refine ew_sub ?_
  refine ew_name hx ?_ hd
  refine ew_int ?_
  refine w2_item_tup (j := 0) (by decide) rfl rfl ?_
  refine ew_str ?_
  obtain ⟨b, l, p⟩ := e
  cases b with
  | true => exact w2_eqstr (show (toPy (.str ("for" : Str))).canLay0 = true by decide +kernel) (by decide +kernel) (t1_bool (by simpa using q))
  | false => exact w2_eqstr (show (toPy (.str ("next" : Str))).canLay0 = true by decide +kernel) (by decide +kernel) (t1_bool (by
      have : decide (("next" : Str) = "for") = false := by decide
      show Q (decide (("next" : Str) = "for")) O
      rw [this]; exact q))
theorem ew_stepE {e : Ev} {x : Str} {p1 p2 p3 p4 p5 p6 p7 p8 p9 p10 : Pos} {k1 k2 k3 k4 k5 : Nat} {Q : V → Led → Prop} (hx : Get m x (evV e)) (q : Q (.int (if e.1 = true then 1 else -1)) O) (hd : (x == ("__debug__" : Str)) = false := by decide) :
    EW g n env m O (.IfExp (.Compare (.Subscript (.Name x p1) (.Constant (.int 0) k1 p2) p3) [.Eq] [.Constant (.str "for") k2 p4] p5) (.Constant (.int 1) k3 p6) (.BinOp (.Constant (.int 0) k4 p7) .Sub (.Constant (.int 1) k5 p8) p9) p10) Q := by
  refine ew_ifexp ?_
  refine tw_isFor hx ?_ hd
  cases hf : e.1 with
  | true =>
    rw [hf] at q
    rw [if_pos rfl]
    exact ew_int q
  | false =>
    rw [hf] at q
    rw [if_neg (by simp)]
    refine ew_binop ?_
    refine ew_int ?_
    refine ew_int ?_
    exact w2_sub q
theorem ew_evAt1 {e : Ev} {x : Str} {p1 p2 p3 : Pos} {k1 : Nat} {Q : V → Led → Prop} (hx : Get m x (evV e)) (q : Q (.int e.2.1) O) (hd : (x == ("__debug__" : Str)) = false := by decide) : EW g n env m O (.Subscript (.Name x p1) (.Constant (.int 1) k1 p2) p3) Q := by
  refine ew_sub ?_
  refine ew_name hx ?_ hd
  refine ew_int ?_
  exact w2_item_tup (j := 1) (by decide) rfl rfl q
theorem ew_evAt2 {e : Ev} {x : Str} {p1 p2 p3 : Pos} {k1 : Nat} {Q : V → Led → Prop} (hx : Get m x (evV e)) (q : Q (.int e.2.2) O) (hd : (x == ("__debug__" : Str)) = false := by decide) : EW g n env m O (.Subscript (.Name x p1) (.Constant (.int 2) k1 p2) p3) Q := by
  refine ew_sub ?_
  refine ew_name hx ?_ hd
  refine ew_int ?_
  exact w2_item_tup (j := 2) (by decide) rfl rfl q
end

set_option maxHeartbeats 2000000 in
theorem c_loops_right (g : Gr) (ns : List Nat) (hn : 1 ≤ ns.length) (hl : ns.length ≤ 100) (Lw : Addr) (mc : Str → Option Value) (envw : Env) (hkw : envw.scope.kind = .function) (hfw : envw.frame = some Lw) :
    FMF g 5 215 [natsV ns] [(Lw, .frm mc)] [envw] (fun v O => v = .bool true ∧ O = [(Lw, .frm mc)]) := by
  obtain ⟨N, hNN⟩ : ∃ N, N = linesN ns := ⟨_, rfl⟩
  have hN : N ≤ 4 := by rw [hNN]; unfold linesN; omega
  obtain ⟨E, hE⟩ : ∃ E, E = evsTo ns N := ⟨_, rfl⟩
  have hEl : E.length ≤ 1000 := by
    rw [hE]
    have h1 : ∀ (l o : Nat) (ps : List Pc), (evsL l o ps).length ≤ 2 * ps.length := fun l o ps => by
      induction ps generalizing o with
      | nil => simp [evsL]
      | cons p r ih =>
        have := ih (o + (toksP p).length)
        have := evsP_len l o p
        rw [evsL, List.length_append, List.length_cons]; omega
    have h2 : ∀ i, (evsTo ns i).length ≤ 6 * i := fun i => by
      induction i with
      | zero => simp [evsTo]
      | succ i ih =>
        have e : evsTo ns (i + 1) = evsTo ns i ++ evsL i 0 (pcsOf ns i) := by unfold evsTo; rw [List.range_succ, List.flatMap_append]; simp
        have h3 := h1 i 0 (pcsOf ns i)
        have h4 : (pcsOf ns i).length = 1 + getN ns i % 3 := by unfold pcsOf; simp
        rw [e, List.length_append]; omega
    have := h2 N
    omega
  have hSG : SG (rowsTo ns N) E := by rw [hE]; exact loops_law ns N
  have hRok : ∀ l ∈ rowsTo ns N, (∀ t ∈ l, t.ok = true) ∧ l.length ≤ 100000 := fun l hm => by
    obtain ⟨i, _, rfl⟩ := List.mem_map.mp hm
    exact rowL_ok ns i
  have hRl : (rowsTo ns N).length ≤ 100000 := by unfold rowsTo; simp; omega
  refine fmf1 (rest := ["program", "events", "at", "one", "depth", "due", "other", "found"]) (at_law_loops_right g) (fun _ _ _ _ => rfl) rfl (by decide) rfl rfl rfl (by decide) fun L cd => ?_
  refine sw_cons ?_
  refine s1_assign_tuple ?_
  refine ew_callF (at_law_loops g) rfl (mg_law_loops g) ?_
  refine lw_cons ?_
  refine ew_name .here ?_
  refine lw_nil ?_
  refine ((c_law_loops g ns hn hl).le (Nat.le_refl 4)).mono fun v ev => ?_
  rw [← hNN, ← hE] at ev
  subst ev
  refine asw_tuple ?_
  refine asw_name ?_
  refine nm_local rfl (.there (.here)) ?_
  refine asw_name ?_
  refine nm_local rfl (.there (.there (.here))) ?_
  refine sw_cons ?_
  refine s1_for ?_
  refine ie_callT rfl (mg_enumerate g) (by decide) bb_enumerate ?_
  refine lw_cons ?_
  refine ew_name (.there (.there (.here))) ?_
  refine lw_nil ?_
  refine ic_enum ?_
  intro I wr C T
  obtain ⟨r, hr⟩ : ∃ r, r = E := ⟨_, rfl⟩
  obtain ⟨P, hP⟩ : ∃ P : List Ev, P = [] := ⟨_, rfl⟩
  have hPr : P ++ r = E := by rw [hP, hr]; rfl
  rw [show enumV 0 (E.map evV) = enumV P.length (r.map evV) by rw [hP, hr]; rfl]
  have hSr : SG (rowsTo ns N) r := by rw [hr]; exact hSG
  generalize htl : List.map (fun x => ((x, none) : Str × Option V)) ["at", "one", "depth", "due", "other", "found"] = tl
  have htk : ∃ x1 x2 x3 x4 x5 x6 : Option V, tl = ([("at", x1), ("one", x2), ("depth", x3), ("due", x4), ("other", x5), ("found", x6)] : Loc) := ⟨_, _, _, _, _, _, htl.symm⟩
  clear hr hP htl hE hSG
  induction r generalizing P tl with
  | nil =>
    obtain ⟨x1, x2, x3, x4, x5, x6, rfl⟩ := htk
    simp only [List.map_nil, enumV]
    refine forw_nil T ?_
    refine sw_cons ?_
    refine s1_return ?_
    exact ew_bool ⟨rfl, rfl⟩
  | cons e r ih =>
    obtain ⟨x1, x2, x3, x4, x5, x6, rfl⟩ := htk
    simp only [List.map_cons, enumV]
    obtain ⟨hS1, hS2⟩ := hSr
    obtain ⟨W, hW⟩ : ∃ W, W = enumV (P.length + 1) (r.map evV) := ⟨_, rfl⟩
    rw [← hW]
    have next : ∀ (y1 y2 y3 y4 y5 y6 : Option V), ForW g ⟨4, some [envOf f_law_loops_right.name f_law_loops_right.scope L 215 cd, envw]⟩ (envOf f_law_loops_right.name f_law_loops_right.scope L 215 cd) _ _ I wr C W [("some", some (natsV ns)), ("program", some (.prog (nums (numsTo N)) ((rowsTo ns N).map fun l => rowV l))), ("events", some (.lst (E.map evV))), ("at", y1), ("one", y2), ("depth", y3), ("due", y4), ("other", y5), ("found", y6)] _ _ := fun y1 y2 y3 y4 y5 y6 => by
      have := ih (P ++ [e]) (by rw [← hPr]; simp) hS2 [("at", y1), ("one", y2), ("depth", y3), ("due", y4), ("other", y5), ("found", y6)] ⟨_, _, _, _, _, _, rfl⟩
      rw [List.length_append] at this
      rw [hW]
      exact this
    refine forw_cons T ?_
    refine asw_tuple ?_
    refine asw_name ?_
    refine nm_local rfl (.there (.there (.there (.here)))) ?_
    refine asw_name ?_
    refine nm_local rfl (.there (.there (.there (.there (.here))))) ?_
    refine sw_if ?_
    refine tw_isFor (.there (.there (.there (.there (.here))))) ?_
    cases hb : e.1 with
    | false =>
      rw [if_neg (by simp)]
      exact sw_nil (next _ _ _ _ _ _)
    | true =>
      rw [if_pos rfl]
      obtain ⟨D, hD⟩ : ∃ D, D = dueE 0 r := ⟨_, rfl⟩
      have hnx := hS1 hb
      rw [← hD] at hnx
      refine sw_cons ?_
      refine s1_assign_tupleE ?_
      refine ew_tuple ?_
      refine lw_cons ?_
      refine ew_int ?_
      refine lw_cons ?_
      refine ew_none ?_
      refine lw_nil ?_
      refine asw_tuple ?_
      refine asw_name ?_
      refine nm_local rfl (.there (.there (.there (.there (.there (.here)))))) ?_
      refine asw_name ?_
      refine nm_local rfl (.there (.there (.there (.there (.there (.there (.here))))))) ?_
      refine sw_cons ?_
      refine s1_for ?_
      refine ie_value ?_
      refine ew_slice ?_
      refine ew_name (.there (.there (.here))) ⟨_, rfl, by rw [List.length_map]; omega, pw_some ?_⟩
      refine ew_binop ?_
      refine ew_name (.there (.there (.there (.here)))) ?_
      refine ew_int ?_
      refine w2_add ⟨_, rfl, pw_none ?_⟩
      rw [show (P.length : Int) + 1 = ((P.length + 1 : Nat) : Int) by omega, slV_map, sl_from E (by rw [← hPr]; simp), show E.drop (P.length + 1) = r by rw [← hPr, show P ++ e :: r = (P ++ [e]) ++ r by simp, List.drop_left' (by simp)]]
      refine ⟨_, itw_lst, ?_⟩
      intro J wr' C' T'
      obtain ⟨t, ht⟩ : ∃ t, t = r := ⟨_, rfl⟩
      obtain ⟨o, ho⟩ : ∃ o : Option (Nat × Nat), o = none := ⟨_, rfl⟩
      obtain ⟨dd, hdd⟩ : ∃ dd : Int, dd = 1 := ⟨_, rfl⟩
      have inv : (o = none ∧ ∃ d : Nat, dd = d + 1 ∧ dueE d t = D) ∨ (∃ p, o = some p ∧ D = some p) := .inl ⟨ho, 0, by rw [hdd]; rfl, by rw [ht, hD]⟩
      rw [show r.map evV = t.map evV by rw [ht], show (("due", some V.none) : Str × Option V) = (("due", some (dV o)) : Str × Option V) by rw [ho]; rfl, show (("depth", some (V.int 1)) : Str × Option V) = (("depth", some (V.int dd)) : Str × Option V) by rw [hdd]]
      clear ht ho hdd
      induction t generalizing o dd x5 with
      | nil =>
        refine forw_nil T' ?_
        have ho : o = D := by
          rcases inv with ⟨h1, d, _, h2⟩ | ⟨p, h1, h2⟩
          · rw [h1, ← h2]; rfl
          · rw [h1, h2]
        subst ho
        refine sw_cons ?_
        refine s1_try (outer := [envw]) (at_next_place g) rfl (mg_next_place g) rfl rfl rfl (fun en hen => by rw [List.mem_singleton.mp hen]; exact ⟨hkw, Lw, mc, hfw, .head _⟩) rfl rfl rfl (by show ("caught" : Str) ∉ (["some", "program", "events", "at", "one", "depth", "due", "other", "found"] : List Str); decide) ⟨"some", natsV ns, .head _, by decide⟩ ?_
        refine lw_cons ?_
        refine ew_name (.there (.here)) ?_
        refine lw_cons ?_
        refine ew_evAt1 (.there (.there (.there (.there (.here))))) ?_
        refine lw_cons ?_
        refine ew_evAt2 (.there (.there (.there (.there (.here))))) ?_
        refine lw_nil ⟨rfl, ?_⟩
        refine ((c_next g (nums (numsTo N)) (rowsTo ns N) hRok hRl e.2.1 e.2.2 o hnx).le (show 3 ≤ 4 by decide)).mono (fun v hv => ?_) fun hx => ?_
        rotate_left
        rw [show V.none = dV o by rw [hx]; rfl]
        rotate_left
        obtain ⟨p, h1, h2⟩ := hv
        have hv : v = dV o := by rw [h2, h1]; rfl
        subst hv
        all_goals
          refine ⟨_, (.there (.there (.there (.there (.there (.there (.there (.there (.here))))))))), ?_⟩
          refine sw_if ?_
          refine tw_cmp ?_
          refine ew_name (.there (.there (.there (.there (.there (.there (.there (.there (.here))))))))) ?_
          refine ew_name (.there (.there (.there (.there (.there (.there (.here))))))) ?_
          refine w2_ne (dV_py o) (dV_py o) (dV_lay o) (dV_lay o) (Nat.le_trans (Nat.min_le_left _ _) (dV_depth o)) (t1_bool ?_)
          rw [PySem.SeqAt.eqv_refl _ (dV_lay o), if_neg (by simp)]
          exact sw_nil (next _ _ _ _ _ _)
      | cons f t ih2 =>
        refine forw_cons T' ?_
        refine asw_name ?_
        refine nm_local rfl (.there (.there (.there (.there (.there (.there (.there (.here)))))))) ?_
        refine sw_cons ?_
        refine s1_assign ?_
        refine ew_binop ?_
        refine ew_name (.there (.there (.there (.there (.there (.here)))))) ?_
        refine ew_stepE (.there (.there (.there (.there (.there (.there (.there (.here)))))))) ?_
        refine w2_add ?_
        refine nm_local rfl (.there (.there (.there (.there (.there (.here)))))) ?_
        obtain ⟨dd', hd'⟩ : ∃ dd' : Int, dd' = dd + (if f.1 = true then 1 else -1) := ⟨_, rfl⟩
        rw [← hd']
        refine sw_if ?_
        refine tw_boolop ?_
        refine aw_and ?_
        refine tw_cmp ?_
        refine ew_name (.there (.there (.there (.there (.there (.here)))))) ?_
        refine ew_int ?_
        refine w2_eq rfl rfl rfl rfl (by simp [toPy, PyData.depth]) (t1_bool ?_)
        by_cases h0 : dd' = 0
        · rw [if_pos (by simp [toPy, PyData.eqv, h0])]
          refine aw_and ?_
          refine tw_cmp ?_
          refine ew_name (.there (.there (.there (.there (.there (.there (.here))))))) ?_
          refine ew_none ?_
          refine w2_isnone (t1_bool ?_) (dV_fix o)
          cases o with
          | none =>
            rw [if_pos (show isNone (dV none) = true from rfl)]
            refine aw_and_nil ?_
            rw [if_pos rfl]
            refine sw_cons ?_
            refine s1_assign ?_
            refine ew_tuple ?_
            refine lw_cons ?_
            refine ew_evAt1 (.there (.there (.there (.there (.there (.there (.there (.here)))))))) ?_
            refine lw_cons ?_
            refine ew_evAt2 (.there (.there (.there (.there (.there (.there (.there (.here)))))))) ?_
            refine lw_nil ?_
            refine nm_local rfl (.there (.there (.there (.there (.there (.there (.here))))))) ?_
            refine sw_nil ?_
            refine ih2 (some (evV f)) (some f.2) dd' (.inr ⟨f.2, rfl, ?_⟩)
            rcases inv with ⟨_, d, h1, h2⟩ | ⟨p, h1, _⟩
            · obtain ⟨fb, fp⟩ := f
              cases fb with
              | true => simp at hd'; omega
              | false =>
                simp at hd'
                have : d = 0 := by omega
                subst this
                rw [← h2]; rfl
            · cases h1
          | some p =>
            rw [if_neg (by simp [isNone, dV]), if_neg (by simp)]
            refine sw_nil ?_
            refine ih2 (some (evV f)) (some p) dd' (.inr ?_)
            rcases inv with ⟨h1, _⟩ | h1
            · cases h1
            · exact h1
        · rw [if_neg (by simp [toPy, PyData.eqv, h0]), if_neg (by simp)]
          refine sw_nil ?_
          refine ih2 (some (evV f)) o dd' ?_
          rcases inv with ⟨h1, d, h2, h3⟩ | h1
          · left
            refine ⟨h1, ?_⟩
            obtain ⟨fb, fp⟩ := f
            cases fb with
            | true => exact ⟨d + 1, by simp at hd'; omega, h3⟩
            | false =>
              simp at hd'
              cases d with
              | zero => exact absurd (by omega) h0
              | succ d => exact ⟨d, by omega, h3⟩
          · exact .inr h1
end Mine

-- F22
namespace Mine
open PySem PySem.Calls PySem.W PyProof.Rows

noncomputable abbrev f_law : Fn := fnOf 35
noncomputable def someOf (xs : List Int) : List Nat := (xs.take 10).map Int.natAbs ++ [xs.length + 2, 16, 3]
noncomputable def absF : V → V
  | .int i => .int (i.natAbs : Int)
  | _ => .none
theorem absF_map (xs : List Int) : ((xs.map V.int).filter fun _ => true).map absF = (xs.map Int.natAbs).map fun k : Nat => V.int (k : Int) := by
  rw [List.filter_eq_self.mpr (fun _ _ => rfl), List.map_map, List.map_map]
  rfl
theorem form_ok (k : Nat) : ∀ t ∈ formOf k, t.ok = true ∧ t.k ≠ "end" := by
  intro t ht
  unfold formOf at ht
  split at ht
  · simp [lawIf] at ht; rcases ht with rfl | rfl | rfl <;> exact ⟨by decide +kernel, by decide⟩
  split at ht
  · simp at ht; subst ht; exact ⟨by decide +kernel, by decide⟩
  split at ht
  · simp at ht; rcases ht with rfl | rfl <;> exact ⟨by decide +kernel, by decide⟩
  · simp at ht; rcases ht with rfl | rfl <;> exact ⟨by decide +kernel, by decide⟩
theorem flatF_len : ∀ ns : List Nat, (ns.flatMap formOf).length ≤ 3 * ns.length
  | [] => by simp
  | k :: r => by
    have h1 := form_len k
    have h2 := flatF_len r
    rw [List.flatMap_cons, List.length_append, List.length_cons]; omega
theorem rowOf_ok (ns : List Nat) : (∀ t ∈ rowOf ns, t.ok = true ∧ t.k ≠ "end") ∧ (rowOf ns).length ≤ 3 * ns.length + 2 := by
  have hf : ∀ t ∈ ns.flatMap formOf, t.ok = true ∧ t.k ≠ "end" := fun t ht => by
    obtain ⟨k, _, h⟩ := List.mem_flatMap.mp ht
    exact form_ok k t h
  have hl := flatF_len ns
  unfold rowOf
  split
  · refine ⟨fun t ht => ?_, by rw [List.length_append]; simp only [List.length_cons, List.length_nil]; omega⟩
    rcases List.mem_append.mp ht with ht | ht
    · exact hf t ht
    · simp at ht; rcases ht with rfl | rfl <;> exact ⟨by decide +kernel, by decide⟩
  · exact ⟨hf, by omega⟩
theorem c_row_right (g : Gr) (ns : List Nat) (h : ns.length ≤ 1000) : FW g 3 189 [rowV (rowOf ns)] (fun v => v = .bool true) :=
  c_rows_right g (rowOf ns) (fun t ht => ((rowOf_ok ns).1 t ht).1) (fun t ht => ((rowOf_ok ns).1 t ht).2) (by have := (rowOf_ok ns).2; omega)

noncomputable def T15 : List Str := ["", " ", "7", " - 7 ", "+12", "1 2", "x", "-", "32767", "32768", "-32768", "-32769", "1.5", "--1", "007"]
noncomputable def D15 : List V := [.int 0, .int 0, .int 7, .int (0 - 7), .int 12, .int 12, .none, .none, .int 32767, .none, .int (0 - 32768), .none, .none, .none, .int 7]
noncomputable def numF : V → V
  | .str x => numIn x.cps.toList
  | _ => .none
theorem T15_ok : ∀ x ∈ T15, x = txt x.cps.toList ∧ (∀ c ∈ x.cps.toList, c < 128) ∧ x.cps.toList.length ≤ 1000 := by
  have h : (T15.all fun x => x.cps.toList.all (fun c => decide (c < 128)) && decide (x.cps.toList.length ≤ 1000)) = true := by decide +kernel
  intro x hx
  have := List.all_eq_true.mp h x hx
  rw [Bool.and_eq_true, List.all_eq_true] at this
  exact ⟨by simp, fun c hc => of_decide_eq_true (this.1 c hc), of_decide_eq_true this.2⟩
theorem T15_D15 : ((T15.map V.str).filter fun _ => true).map numF = D15 := by kernel_rfl

noncomputable abbrev eW (L fa : Addr) (cd : Value) : Env := envOf f_law.name f_law.scope L fa cd
set_option maxHeartbeats 2000000 in
theorem sw_law (g : Gr) (xs : List Int) (hx : xs.length ≤ 1000) (L fa : Addr) (cd : Value) :
    SW g ⟨5, some [eW L fa cd]⟩ (eW L fa cd) [("script", some (.lst (xs.map V.int))), ("some", none), ("texts", none), ("due", none)] [] f_law.body (Back fun v => v = .bool true) := by
  obtain ⟨ns, hns⟩ : ∃ ns, ns = someOf xs := ⟨_, rfl⟩
  have nl : 1 ≤ ns.length ∧ ns.length ≤ 13 := by
    rw [hns]; unfold someOf
    rw [List.length_append, List.length_map, List.length_take]; simp only [List.length_cons, List.length_nil]; omega
  refine sw_cons ?_
  refine s1_assign ?_
  refine ew_binop ?_
  refine ew_comp (cl := []) (mf := []) ?_ (closureFor_none (by decide)) (by decide) rfl (by decide) rfl (by simp) (by simp) (by simp) (by simp)
  refine ie_value ?_
  refine ew_slice ?_
  refine ew_name .here ⟨_, rfl, by rw [List.length_map]; omega, pw_none (pw_some ?_)⟩
  refine ew_int ⟨_, rfl, ?_⟩
  rw [slV_map, show slV xs none (some 10) = xs.take 10 from sl_first xs 10]
  refine ⟨_, itw_lst, by rw [List.length_map, List.length_take]; omega, fun _ => true, absF, fun v hv C => ct_nil, fun v hv _ C => ?_, ?_⟩
  · obtain ⟨i, _, rfl⟩ := List.mem_map.mp hv
    refine ew_callB rfl (mg_abs g) (by decide) bb_abs ?_
    refine lw_cons ?_
    refine ew_name .here ?_
    refine lw_nil ?_
    refine wl_abs ⟨rfl, ?_⟩
    simp only [absF, V.int.injEq]
    split <;> omega
  rw [absF_map]
  refine ew_list ?_
  refine lw_cons ?_
  refine ew_binop ?_
  refine ew_callB rfl (mg_len g) (by decide) bb_len ?_
  refine lw_cons ?_
  refine ew_name .here ?_
  refine lw_nil ?_
  refine wl_len_lst (by rw [List.length_map]; omega) ?_
  refine ew_int ?_
  refine w2_add ?_
  refine lw_cons ?_
  refine ew_int ?_
  refine lw_cons ?_
  refine ew_int ?_
  refine lw_nil ?_
  refine w2_addl (by rw [List.length_map, List.length_map, List.length_take]; simp; omega) ?_
  rw [List.length_map, show (((xs.take 10).map Int.natAbs).map fun k : Nat => V.int (k : Int)) ++ [V.int ((xs.length : Int) + 2), V.int 16, V.int 3] = ns.map fun k : Nat => V.int (k : Int) by
    rw [hns]; unfold someOf; rw [List.map_append]; rfl]
  refine nm_local rfl (.there (.here)) ?_
  -- rows
  refine sw_if ?_
  refine tw_boolop ?_
  refine aw_or ?_
  refine tw_not ?_
  refine tw_value ?_
  refine ew_callF (at_law_rows_right g) rfl (mg_law_rows_right g) ?_
  refine lw_cons ?_
  refine ew_callF (at_law_row g) rfl (mg_law_row g) ?_
  refine lw_cons ?_
  refine ew_name (.there (.here)) ?_
  refine lw_nil (((c_law_row g ns (by omega)).le (show 1 ≤ 5 by decide)).mono fun v ev => ?_)
  subst ev
  refine lw_nil (((c_row_right g ns (by omega)).le (show 3 ≤ 5 by decide)).mono fun v ev => ?_)
  subst ev
  refine t1_bool ?_
  rw [if_neg (by simp)]
  refine aw_or ?_
  refine tw_not ?_
  refine tw_value ?_
  refine ew_callF (at_law_rows_right g) rfl (mg_law_rows_right g) ?_
  refine lw_cons ?_
  refine ew_callF (at_law_row g) rfl (mg_law_row g) ?_
  refine lw_cons ?_
  refine ew_rev ?_
  refine ew_name (.there (.here)) ⟨_, rfl, by rw [List.length_map]; omega, ?_⟩
  refine ew_binop ?_
  refine ew_int ?_
  refine ew_int ?_
  refine w2_sub ⟨rfl, ?_⟩
  rw [show (ns.map fun k : Nat => V.int (k : Int)).reverse = ns.reverse.map fun k : Nat => V.int (k : Int) from List.map_reverse.symm]
  have rl : ns.reverse.length ≤ 13 := by rw [List.length_reverse]; omega
  refine lw_nil (((c_law_row g ns.reverse (by omega)).le (show 1 ≤ 5 by decide)).mono fun v ev => ?_)
  subst ev
  refine lw_nil (((c_row_right g ns.reverse (by omega)).le (show 3 ≤ 5 by decide)).mono fun v ev => ?_)
  subst ev
  refine t1_bool ?_
  rw [if_neg (by simp)]
  refine aw_or_nil ?_
  rw [if_neg (by simp)]
  -- data and loops
  refine sw_cons ?_
  refine s1_ifX (at_law_loops_right g) rfl (mg_law_loops_right g) rfl rfl rfl ?_ ?_ ?_
  · refine tw_value ?_
    refine ew_callF (at_law_data_right g) rfl (mg_law_data_right g) ?_
    refine lw_cons ?_
    refine ew_name (.there (.here)) ?_
    refine lw_nil (((c_law_data g ns nl.1 (by omega)).le (show 4 ≤ 5 by decide)).mono fun v ev => ?_)
    subst ev
    exact t1_bool ⟨rfl, rfl⟩
  · refine lw_cons ?_
    refine ew_name (.there (.here)) ?_
    refine lw_nil ⟨rfl, fun mc => ?_⟩
    exact c_loops_right g ns nl.1 (by omega) L mc (eW L fa cd) rfl rfl
  -- numbers
  refine sw_cons ?_
  refine s1_assign ?_
  refine ew_list ?_
  refine lw_cons ?_
  refine ew_str ?_
  refine lw_cons ?_
  refine ew_str ?_
  refine lw_cons ?_
  refine ew_str ?_
  refine lw_cons ?_
  refine ew_str ?_
  refine lw_cons ?_
  refine ew_str ?_
  refine lw_cons ?_
  refine ew_str ?_
  refine lw_cons ?_
  refine ew_str ?_
  refine lw_cons ?_
  refine ew_str ?_
  refine lw_cons ?_
  refine ew_str ?_
  refine lw_cons ?_
  refine ew_str ?_
  refine lw_cons ?_
  refine ew_str ?_
  refine lw_cons ?_
  refine ew_str ?_
  refine lw_cons ?_
  refine ew_str ?_
  refine lw_cons ?_
  refine ew_str ?_
  refine lw_cons ?_
  refine ew_str ?_
  refine lw_nil ?_
  refine nm_local rfl (.there (.there (.here))) ?_
  refine sw_cons ?_
  refine s1_assign ?_
  refine ew_list ?_
  refine lw_cons ?_
  refine ew_int ?_
  refine lw_cons ?_
  refine ew_int ?_
  refine lw_cons ?_
  refine ew_int ?_
  refine lw_cons ?_
  refine ew_binop ?_
  refine ew_int ?_
  refine ew_int ?_
  refine w2_sub ?_
  refine lw_cons ?_
  refine ew_int ?_
  refine lw_cons ?_
  refine ew_int ?_
  refine lw_cons ?_
  refine ew_none ?_
  refine lw_cons ?_
  refine ew_none ?_
  refine lw_cons ?_
  refine ew_int ?_
  refine lw_cons ?_
  refine ew_none ?_
  refine lw_cons ?_
  refine ew_binop ?_
  refine ew_int ?_
  refine ew_int ?_
  refine w2_sub ?_
  refine lw_cons ?_
  refine ew_none ?_
  refine lw_cons ?_
  refine ew_none ?_
  refine lw_cons ?_
  refine ew_none ?_
  refine lw_cons ?_
  refine ew_int ?_
  refine lw_nil ?_
  refine nm_local rfl (.there (.there (.there (.here)))) ?_
  refine sw_cons ?_
  refine s1_return ?_
  refine ew_cmp ?_
  refine ew_comp (cl := []) (mf := []) ?_ (closureFor_none (by decide)) (by decide) rfl (by decide) rfl (by simp) (by simp) (by simp) (by simp)
  refine ie_value ?_
  refine ew_name (.there (.there (.here))) ⟨T15.map V.str, itw_lst, by decide, fun _ => true, numF, fun v hv C => ct_nil, fun v hv _ C => ?_, ?_⟩
  · obtain ⟨x, hx, rfl⟩ := List.mem_map.mp hv
    obtain ⟨h1, h2, h3⟩ := T15_ok x hx
    refine ew_callF (at_number_in g) rfl (mg_number_in g) ?_
    refine lw_cons ?_
    refine ew_name .here ?_
    have := ((c_number g x.cps.toList h2 h3).le (show 1 ≤ 5 by decide)).mono (Q' := fun v => ([] : Led) = [] ∧ v = numF (.str x)) fun v ev => ⟨rfl, ev⟩
    rw [← h1] at this
    exact lw_nil this
  rw [T15_D15]
  refine ew_name (.there (.there (.there (.here)))) ?_
  have lay : (toPy (.lst D15)).canLay0 = true := by decide +kernel
  refine w2_eq (by decide +kernel) (by decide +kernel) lay lay (by decide +kernel) ?_
  exact ⟨_, .same _, congrArg V.bool (PySem.SeqAt.eqv_refl _ lay)⟩
end Mine

-- F23
open PySem PySem.Calls PySem.W PyProof.Rows
namespace Mine
theorem intsV {w : World} {X : List Addr} {h : Heap} : ∀ {us : List Value} {xs : List Int}, IntsAre us xs → VRs w X h (xs.map V.int) us
  | _, _, .nil => .nil
  | _, _, .cons y t r => .cons (by simp only [VR]; exact ⟨t, rfl⟩) (intsV r)
theorem run_law (g : Gr) {s : Shared} {A : Around} {fa a : Addr} {cd : Value} {vals : List Value} {xs : List Int} {m : Str → Option Value} {tk : Nat} {h1 : Heap} (hA : A.handled = none) (hd : A.depth ≤ 900) (hu : A.units ≤ 1000) (hgd : A.guards = some []) (hfr : A.frames = some [])
    (hs : s.heap = g.h) (hx : xs.length ≤ 63) (hl : g.h.IsList a vals.toArray) (hi : IntsAre vals xs) (F : Fr g.h g.h.objs.size h1 m) (hm : m "script" = some (.ref a)) :
    wpAny (model prg g.w) (A.deeper (eW g.h.objs.size fa cd)) (execs f_law.body (eW g.h.objs.size fa cd)) (fun f s' => f = .ret (.bool true) ∧ (∃ h' tk', s' = { s with heap := h', toks := tk' }) ∧ ∀ b o, g.h.get? b = some o → s'.heap.get? b = some o) (fun _ _ => False) { s with heap := h1, toks := tk } := by
  have hex : ∃ o, h1.get? g.h.objs.size = some o := let ⟨o, _, _, e, _⟩ := F.ns; ⟨o, e⟩
  have al : a < g.h.objs.size := let ⟨o, e, _⟩ := hl; Heap.lt_size e
  have S : St g [g.h.objs.size] [] h1 := ⟨F.keep, fun b hb => by
    have : b = g.h.objs.size := by simpa using hb
    rw [this]; exact none_size, by simp, fun b hb => by simp at hb, fun b hb => by rw [List.mem_singleton.mp hb]; exact hex, fun p hp => by simp at hp⟩
  have L : LR g [g.h.objs.size] [] h1 (eW g.h.objs.size fa cd) [("script", some (.lst (xs.map V.int))), ("some", none), ("texts", none), ("due", none)] :=
    ⟨rfl, rfl, rfl, fun b hb => by
      have : b = g.h.objs.size := by simpa [ownA, envOf] using hb
      rw [this]; exact .head _, by simp [ownA, envOf], by show (["script", "some", "texts", "due"] : List Str).Nodup; decide, fun c hc => by simp [envOf] at hc, m, F.ns, fun x v hx => by
      rcases List.mem_cons.mp hx with e | hx
      · injection e with e1 e2; injection e2 with e2; subst e1 e2
        refine ⟨.ref a, ?_, .inl ⟨rfl, hm⟩⟩
        simp only [VR]
        obtain ⟨o, e, q⟩ := hl
        exact ⟨a, vals, rfl, fun z => Nat.ne_of_lt al (by simpa using z), ⟨o, F.keep _ _ e, q⟩, intsV hi⟩
      · simp at hx⟩
  have ok : Ok ⟨5, some [eW g.h.objs.size fa cd]⟩ (A.deeper (eW g.h.objs.size fa cd)) := ⟨hA, by show A.depth + 1 + 4 * 5 + 4 ≤ 999; omega, by show A.units + 3 + 20 * 5 + 40 ≤ 9000; omega, hgd, ⟨[eW g.h.objs.size fa cd], by show A.frames.map _ = _; rw [hfr]; rfl⟩, fun l e => by
    cases e
    show A.frames.map _ = _
    rw [hfr]; rfl⟩
  refine wpAny_mono (sw_law g xs (by omega) g.h.objs.size fa cd [g.h.objs.size] _ { s with heap := h1, toks := tk } ok S L) (fun f s' ⟨fl, m', O', N, S', L', R, q⟩ => ?_) fun _ _ x => x
  cases fl with
  | ret v =>
    obtain ⟨v', z, hv⟩ := q
    subst hv
    cases z
    simp only [FlR, VR] at R
    obtain ⟨u, rfl, rfl⟩ := R
    obtain ⟨h2, t2, rfl⟩ := N.same
    exact ⟨rfl, ⟨_, _, rfl⟩, S'.keep⟩
  | next => cases q
  | brk => exact q.elim
  | cont => exact q.elim
local macro_rules | `(tactic| k_qdec) => `(tactic| decide +kernel)
set_option maxHeartbeats 8000000 in
theorem holds_here : PySem.Challenge.rw_nz0570_01.Holds := hd (by
  k_go0
  rename_i w s0 s1 mg mb G Y fa o pm doc kV ho hg KX X V GL T B TE TW a1 a2 M c1 c2 hcd ns hs hlay hL hr hl2 a3 a4 a5 vals a6 hIL ra w1 r0 hI hrd hc1 hc2 K0 hD h1 F N0
  refine wpAny_mono (Mine.run_law ⟨w, s1.heap, mg, mb, KX, T.nolimit, T.g, T.b, T.builtins⟩ (s := s1) (A := callerA) (xs := ns) rfl (by decide) (by decide) rfl rfl rfl (by omega) hIL hI F rfl) (fun f s' ⟨e, ⟨h', t', es⟩, kp⟩ => ?_) (fun _ _ x => x.elim)
  subst e es
  exact ⟨.inl ⟨.bool true, .bool true, [], rfl, fun _ => rfl, .bool true, by wrow_post, unshared_nil⟩, kp, rfl, hg⟩)
end Mine
theorem PySem.Challenge.cw_nz0570_01_holds : PySem.Challenge.rw_nz0570_01.Holds :=
  Mine.holds_here

