import PyProof.Rows.All
import Wide.All
import OpenK.AllK
import Wide.FinOn
import PySem.Challenge.RW_pq0039_01
open PySem PySem.W PyProof.Rows PySem.Calls PySem.Spec PyProof.V
open PyProof.Rows.LCg (lst NsObj Off3 Off1 ns_obj lst_snoc fr_but news_but)
set_option maxRecDepth 100000
set_option maxHeartbeats 0
set_option Elab.async false
set_option compiler.extract_closed false
namespace Mine
local macro_rules | `(tactic| walk_at $s:str) => `(tactic| k_extra $s)
/-- the n-th statement of a list -/
noncomputable def nthS : List Stmt → Nat → Stmt
  | x :: _, 0 => x
  | _ :: r, n + 1 => nthS r n
  | [], _ => .Pass ⟨0, 0, 0, 0⟩
/-- a statement of the text's own body -/
noncomputable def sAt (i : Nat) : Stmt := nthS PySem.Challenge.pw_pq0039_01.main.body i
/-- a statement of a class's body -/
noncomputable def mAt (i j : Nat) : Stmt := match sAt i with
  | .ClassDef _ _ _ b _ _ _ _ _ _ _ => nthS b j
  | s => s
/-- the function object that a def leaves -/
noncomputable def fnO (st : Stmt) (qual : Str) (cl : List (Str × Addr)) (pm cd ct : Value) : Obj := match st with
  | .FunctionDef name args body _ _ _ scope _ _ _ => ⟨.type "function", none, .func { name := name, qualname := qual, params := args, body := .stmts body, scope := scope, globals := mainGlobals, closure := cl, defaults := .none, kwdefaults := .none, doc := .none, pyModule := pm, annotations := none, code := cd, closureTuple := ct, builtins := builtinsNs }, #[]⟩
  | _ => ⟨.none, none, .plain, #[]⟩
/-- what the walk knows of the heap that the top leaves -/
noncomputable def hd.heap_39 : Params → Frag := fun P =>
  (nat_lit 2, ⟨Value.none, Option.none, Data.dict #[{ hash := PyData.keyHash P (Str.ofString "type.__subclasses__.Exception.0"), key := Value.str (Str.ofString "type.__subclasses__.Exception.0") 238, val := Value.int 52 0 }, { hash := PyData.keyHash P (Str.ofString "type.__subclasses__.Exception.n"), key := Value.str (Str.ofString "type.__subclasses__.Exception.n") 239, val := Value.int 1 0 }] 2, #[]⟩) ::
  (nat_lit 3, ⟨Value.type "dict", Option.none, Data.dict #[{ hash := PyData.keyHash P (Str.ofString "__name__"), key := Value.str (Str.ofString "__name__") 165, val := Value.str (Str.ofString "law_pq0039_01") 401 }, { hash := PyData.keyHash P (Str.ofString "__doc__"), key := Value.str (Str.ofString "__doc__") 166, val := Value.none }, { hash := PyData.keyHash P (Str.ofString "__package__"), key := Value.str (Str.ofString "__package__") 167, val := Value.none }, { hash := PyData.keyHash P (Str.ofString "__loader__"), key := Value.str (Str.ofString "__loader__") 168, val := Value.builtin "__main__.__loader__#opaque" }, { hash := PyData.keyHash P (Str.ofString "__spec__"), key := Value.str (Str.ofString "__spec__") 169, val := Value.none }, { hash := PyData.keyHash P (Str.ofString "__annotations__"), key := Value.str (Str.ofString "__annotations__") 170, val := Value.ref 6 }, { hash := PyData.keyHash P (Str.ofString "__builtins__"), key := Value.str (Str.ofString "__builtins__") 171, val := Value.ref 4 }, { hash := PyData.keyHash P (Str.ofString "__file__"), key := Value.str (Str.ofString "__file__") 173, val := Value.str (Str.ofString "/claim/cut.py") 172 }, { hash := PyData.keyHash P (Str.ofString "__cached__"), key := Value.str (Str.ofString "__cached__") 174, val := Value.none }, { hash := PyData.keyHash P (Str.ofString "_wall"), key := Value.str (Str.ofString "_wall") 193, val := Value.ref 21 }, { hash := PyData.keyHash P (Str.ofString "whole_of"), key := Value.str (Str.ofString "whole_of") 201, val := Value.ref 26 }, { hash := PyData.keyHash P (Str.ofString "HeapError"), key := Value.str (Str.ofString "HeapError") 241, val := Value.ref 52 }, { hash := PyData.keyHash P (Str.ofString "TermFault"), key := Value.str (Str.ofString "TermFault") 257, val := Value.ref 65 }, { hash := PyData.keyHash P (Str.ofString "RuleFault"), key := Value.str (Str.ofString "RuleFault") 273, val := Value.ref 77 }, { hash := PyData.keyHash P (Str.ofString "is_variable"), key := Value.str (Str.ofString "is_variable") 282, val := Value.ref 86 }, { hash := PyData.keyHash P (Str.ofString "variables"), key := Value.str (Str.ofString "variables") 288, val := Value.ref 91 }, { hash := PyData.keyHash P (Str.ofString "parts"), key := Value.str (Str.ofString "parts") 294, val := Value.ref 96 }, { hash := PyData.keyHash P (Str.ofString "Rule"), key := Value.str (Str.ofString "Rule") 333, val := Value.ref 118 }, { hash := PyData.keyHash P (Str.ofString "A"), key := Value.str (Str.ofString "A") 339, val := Value.ref 123 }, { hash := PyData.keyHash P (Str.ofString "B"), key := Value.str (Str.ofString "B") 340, val := Value.ref 124 }, { hash := PyData.keyHash P (Str.ofString "C"), key := Value.str (Str.ofString "C") 341, val := Value.ref 125 }, { hash := PyData.keyHash P (Str.ofString "named_value"), key := Value.str (Str.ofString "named_value") 349, val := Value.ref 136 }, { hash := PyData.keyHash P (Str.ofString "laws_of"), key := Value.str (Str.ofString "laws_of") 357, val := Value.ref 143 }, { hash := PyData.keyHash P (Str.ofString "Ring"), key := Value.str (Str.ofString "Ring") 400, val := Value.ref 172 }, { hash := PyData.keyHash P (Str.ofString "_law_pick"), key := Value.str (Str.ofString "_law_pick") 410, val := Value.ref 183 }, { hash := PyData.keyHash P (Str.ofString "_law_gone"), key := Value.str (Str.ofString "_law_gone") 421, val := Value.ref 190 }, { hash := PyData.keyHash P (Str.ofString "_law_worth"), key := Value.str (Str.ofString "_law_worth") 427, val := Value.ref 195 }, { hash := PyData.keyHash P (Str.ofString "_law_names"), key := Value.str (Str.ofString "_law_names") 433, val := Value.ref 200 }, { hash := PyData.keyHash P (Str.ofString "_law_worlds"), key := Value.str (Str.ofString "_law_worlds") 447, val := Value.ref 207 }, { hash := PyData.keyHash P (Str.ofString "_law_drawn"), key := Value.str (Str.ofString "_law_drawn") 453, val := Value.ref 212 }, { hash := PyData.keyHash P (Str.ofString "_law_is_refused"), key := Value.str (Str.ofString "_law_is_refused") 462, val := Value.ref 219 }, { hash := PyData.keyHash P (Str.ofString "law"), key := Value.str (Str.ofString "law") 468, val := Value.ref 224 }] 32, #[]⟩) ::
  (nat_lit 15, ⟨Value.type "tuple", Option.none, Data.seq #[], #[]⟩) ::
  (nat_lit 17, ⟨Value.type "tuple", Option.none, Data.seq #[Value.str (Str.ofString "k") 190], #[]⟩) ::
  (nat_lit 18, ⟨Value.type "tuple", Option.none, Data.seq #[], #[]⟩) ::
  (nat_lit 20, ⟨Value.type "code", Option.none, Data.fields #[Value.str (Str.ofString "_wall") 187, Value.str (Str.ofString "_wall") 188, Value.str (Str.ofString "/claim/cut.py") 189, Value.int 1 0, Value.int 1 0, Value.int 0 0, Value.int 0 0, Value.int 3 0, Value.ref 15, Value.bool Bool.true, Value.int 181 0, Value.ref 16, Value.none, Value.ref 17, Value.ref 18, Value.ref 19, Value.int 191 0, Value.int 1 0, Value.str (Str.ofString "/claim/cut.py") 192], #[]⟩) ::
  (nat_lit 21, fnO (sAt 0) "_wall" [] (Value.str (Str.ofString "__main__") 164) (Value.ref 20) (Value.none)) ::
  (nat_lit 22, ⟨Value.type "tuple", Option.none, Data.seq #[], #[]⟩) ::
  (nat_lit 25, ⟨Value.type "code", Option.none, Data.fields #[Value.str (Str.ofString "whole_of") 196, Value.str (Str.ofString "whole_of") 197, Value.str (Str.ofString "/claim/cut.py") 198, Value.int 5 0, Value.int 1 0, Value.int 0 0, Value.int 0 0, Value.int 3 0, Value.ref 22, Value.bool Bool.true, Value.int 181 0, Value.ref 23, Value.none, Value.none, Value.none, Value.ref 24, Value.int 199 0, Value.int 5 0, Value.str (Str.ofString "/claim/cut.py") 200], #[]⟩) ::
  (nat_lit 26, fnO (sAt 2) "whole_of" [] (Value.str (Str.ofString "alikeheap.analyses") 194) (Value.ref 25) (Value.none)) ::
  (nat_lit 27, ⟨Value.type "tuple", Option.none, Data.seq #[Value.type "Exception"], #[]⟩) ::
  (nat_lit 30, ⟨Value.type "cell", Option.none, Data.cell (Option.some (Value.ref 52)), #[]⟩) ::
  (nat_lit 35, ⟨Value.type "tuple", Option.none, Data.seq #[Value.ref 30], #[]⟩) ::
  (nat_lit 36, ⟨Value.type "tuple", Option.none, Data.seq #[Value.str (Str.ofString "__class__") 219], #[]⟩) ::
  (nat_lit 38, ⟨Value.type "tuple", Option.none, Data.seq #[Value.str (Str.ofString "self") 220, Value.str (Str.ofString "what") 221], #[]⟩) ::
  (nat_lit 39, ⟨Value.type "tuple", Option.none, Data.seq #[], #[]⟩) ::
  (nat_lit 41, ⟨Value.type "code", Option.none, Data.fields #[Value.str (Str.ofString "__init__") 216, Value.str (Str.ofString "HeapError.__init__") 217, Value.str (Str.ofString "/claim/cut.py") 218, Value.int 13 0, Value.int 2 0, Value.int 0 0, Value.int 0 0, Value.int 3 0, Value.ref 36, Value.bool Bool.true, Value.int 181 0, Value.ref 37, Value.none, Value.ref 38, Value.ref 39, Value.ref 40, Value.int 222 0, Value.int 13 0, Value.str (Str.ofString "/claim/cut.py") 223], #[]⟩) ::
  (nat_lit 42, fnO (mAt 4 0) "HeapError.__init__" [(Str.ofString "__class__", 30)] (Value.str (Str.ofString "alikeheap.errors") 202) (Value.ref 41) (Value.ref 35)) ::
  (nat_lit 43, ⟨Value.type "tuple", Option.none, Data.seq #[], #[]⟩) ::
  (nat_lit 45, ⟨Value.type "tuple", Option.none, Data.seq #[Value.str (Str.ofString "self") 228], #[]⟩) ::
  (nat_lit 46, ⟨Value.type "tuple", Option.none, Data.seq #[], #[]⟩) ::
  (nat_lit 48, ⟨Value.type "code", Option.none, Data.fields #[Value.str (Str.ofString "told") 225, Value.str (Str.ofString "HeapError.told") 226, Value.str (Str.ofString "/claim/cut.py") 227, Value.int 17 0, Value.int 1 0, Value.int 0 0, Value.int 0 0, Value.int 3 0, Value.ref 43, Value.bool Bool.true, Value.int 181 0, Value.ref 44, Value.none, Value.ref 45, Value.ref 46, Value.ref 47, Value.int 229 0, Value.int 17 0, Value.str (Str.ofString "/claim/cut.py") 230], #[]⟩) ::
  (nat_lit 49, fnO (mAt 4 1) "HeapError.told" [] (Value.str (Str.ofString "alikeheap.errors") 202) (Value.ref 48) (Value.none)) ::
  (nat_lit 50, ⟨Value.type "tuple", Option.none, Data.seq #[Value.str (Str.ofString "what") 232], #[]⟩) ::
  (nat_lit 51, ⟨Value.type "dict", Option.none, Data.dict #[{ hash := PyData.keyHash P (Str.ofString "__module__"), key := Value.str (Str.ofString "__module__") 211, val := Value.str (Str.ofString "alikeheap.errors") 202 }, { hash := PyData.keyHash P (Str.ofString "__firstlineno__"), key := Value.str (Str.ofString "__firstlineno__") 215, val := Value.int 11 214 }, { hash := PyData.keyHash P (Str.ofString "__init__"), key := Value.str (Str.ofString "__init__") 224, val := Value.ref 42 }, { hash := PyData.keyHash P (Str.ofString "told"), key := Value.str (Str.ofString "told") 231, val := Value.ref 49 }, { hash := PyData.keyHash P (Str.ofString "__static_attributes__"), key := Value.str (Str.ofString "__static_attributes__") 233, val := Value.ref 50 }, { hash := PyData.keyHash P (Str.ofString "__weakref__"), key := Value.str (Str.ofString "__weakref__") 236, val := Value.ref 53 }, { hash := PyData.keyHash P (Str.ofString "__doc__"), key := Value.str (Str.ofString "__doc__") 237, val := Value.none }] 4, #[]⟩) ::
  (nat_lit 52, ⟨Value.type "type", Option.none, Data.cls { name := Str.ofString "HeapError", bases := [Value.type "Exception"], mro := [Value.ref 52, Value.type "Exception", Value.type "BaseException", Value.type "object"], ns := 51, qualname := Str.ofString "HeapError", subclasses := [Value.ref 65, Value.ref 77] }, #[Option.some (Value.ref 27), Option.none, Option.some (Value.str (Str.ofString "HeapError") 204), Option.some (Value.str (Str.ofString "HeapError") 212), Option.some (Value.builtin "Exception.__new__"), Option.some (Value.bool Bool.true)]⟩) ::
  (nat_lit 53, ⟨Value.type "getset_descriptor", Option.none, Data.fields #[Value.str (Str.ofString "__weakref__") 235, Value.ref 52, Value.builtin "ExceptionGroup.__weakref__", Value.none], #[]⟩) ::
  (nat_lit 56, ⟨Value.type "tuple", Option.none, Data.seq #[Value.ref 52], #[]⟩) ::
  (nat_lit 63, ⟨Value.type "tuple", Option.none, Data.seq #[], #[]⟩) ::
  (nat_lit 64, ⟨Value.type "dict", Option.none, Data.dict #[{ hash := PyData.keyHash P (Str.ofString "__module__"), key := Value.str (Str.ofString "__module__") 249, val := Value.str (Str.ofString "alikeheap.errors") 202 }, { hash := PyData.keyHash P (Str.ofString "__firstlineno__"), key := Value.str (Str.ofString "__firstlineno__") 253, val := Value.int 19 252 }, { hash := PyData.keyHash P (Str.ofString "__static_attributes__"), key := Value.str (Str.ofString "__static_attributes__") 254, val := Value.ref 63 }, { hash := PyData.keyHash P (Str.ofString "__doc__"), key := Value.str (Str.ofString "__doc__") 255, val := Value.none }] 2, #[]⟩) ::
  (nat_lit 65, ⟨Value.type "type", Option.none, Data.cls { name := Str.ofString "TermFault", bases := [Value.ref 52], mro := [Value.ref 65, Value.ref 52, Value.type "Exception", Value.type "BaseException", Value.type "object"], ns := 64, qualname := Str.ofString "TermFault" }, #[Option.some (Value.ref 56), Option.none, Option.some (Value.str (Str.ofString "TermFault") 242), Option.some (Value.str (Str.ofString "TermFault") 250), Option.some (Value.builtin "Exception.__new__"), Option.some (Value.bool Bool.true)]⟩) ::
  (nat_lit 68, ⟨Value.type "tuple", Option.none, Data.seq #[Value.ref 52], #[]⟩) ::
  (nat_lit 75, ⟨Value.type "tuple", Option.none, Data.seq #[], #[]⟩) ::
  (nat_lit 76, ⟨Value.type "dict", Option.none, Data.dict #[{ hash := PyData.keyHash P (Str.ofString "__module__"), key := Value.str (Str.ofString "__module__") 265, val := Value.str (Str.ofString "alikeheap.errors") 202 }, { hash := PyData.keyHash P (Str.ofString "__firstlineno__"), key := Value.str (Str.ofString "__firstlineno__") 269, val := Value.int 21 268 }, { hash := PyData.keyHash P (Str.ofString "__static_attributes__"), key := Value.str (Str.ofString "__static_attributes__") 270, val := Value.ref 75 }, { hash := PyData.keyHash P (Str.ofString "__doc__"), key := Value.str (Str.ofString "__doc__") 271, val := Value.none }] 2, #[]⟩) ::
  (nat_lit 77, ⟨Value.type "type", Option.none, Data.cls { name := Str.ofString "RuleFault", bases := [Value.ref 52], mro := [Value.ref 77, Value.ref 52, Value.type "Exception", Value.type "BaseException", Value.type "object"], ns := 76, qualname := Str.ofString "RuleFault" }, #[Option.some (Value.ref 68), Option.none, Option.some (Value.str (Str.ofString "RuleFault") 258), Option.some (Value.str (Str.ofString "RuleFault") 266), Option.some (Value.builtin "Exception.__new__"), Option.some (Value.bool Bool.true)]⟩) ::
  (nat_lit 80, ⟨Value.type "tuple", Option.none, Data.seq #[], #[]⟩) ::
  (nat_lit 82, ⟨Value.type "tuple", Option.none, Data.seq #[Value.str (Str.ofString "t") 279], #[]⟩) ::
  (nat_lit 83, ⟨Value.type "tuple", Option.none, Data.seq #[], #[]⟩) ::
  (nat_lit 85, ⟨Value.type "code", Option.none, Data.fields #[Value.str (Str.ofString "is_variable") 276, Value.str (Str.ofString "is_variable") 277, Value.str (Str.ofString "/claim/cut.py") 278, Value.int 24 0, Value.int 1 0, Value.int 0 0, Value.int 0 0, Value.int 3 0, Value.ref 80, Value.bool Bool.true, Value.int 181 0, Value.ref 81, Value.none, Value.ref 82, Value.ref 83, Value.ref 84, Value.int 280 0, Value.int 24 0, Value.str (Str.ofString "/claim/cut.py") 281], #[]⟩) ::
  (nat_lit 86, fnO (sAt 8) "is_variable" [] (Value.str (Str.ofString "alikeheap.terms") 274) (Value.ref 85) (Value.none)) ::
  (nat_lit 87, ⟨Value.type "tuple", Option.none, Data.seq #[], #[]⟩) ::
  (nat_lit 90, ⟨Value.type "code", Option.none, Data.fields #[Value.str (Str.ofString "variables") 283, Value.str (Str.ofString "variables") 284, Value.str (Str.ofString "/claim/cut.py") 285, Value.int 26 0, Value.int 1 0, Value.int 0 0, Value.int 0 0, Value.int 3 0, Value.ref 87, Value.bool Bool.true, Value.int 181 0, Value.ref 88, Value.none, Value.none, Value.none, Value.ref 89, Value.int 286 0, Value.int 26 0, Value.str (Str.ofString "/claim/cut.py") 287], #[]⟩) ::
  (nat_lit 91, fnO (sAt 9) "variables" [] (Value.str (Str.ofString "alikeheap.terms") 274) (Value.ref 90) (Value.none)) ::
  (nat_lit 92, ⟨Value.type "tuple", Option.none, Data.seq #[], #[]⟩) ::
  (nat_lit 95, ⟨Value.type "code", Option.none, Data.fields #[Value.str (Str.ofString "parts") 289, Value.str (Str.ofString "parts") 290, Value.str (Str.ofString "/claim/cut.py") 291, Value.int 28 0, Value.int 1 0, Value.int 0 0, Value.int 0 0, Value.int 3 0, Value.ref 92, Value.bool Bool.true, Value.int 181 0, Value.ref 93, Value.none, Value.none, Value.none, Value.ref 94, Value.int 292 0, Value.int 28 0, Value.str (Str.ofString "/claim/cut.py") 293], #[]⟩) ::
  (nat_lit 96, fnO (sAt 10) "parts" [] (Value.str (Str.ofString "alikeheap.terms") 274) (Value.ref 95) (Value.none)) ::
  (nat_lit 104, ⟨Value.type "tuple", Option.none, Data.seq #[], #[]⟩) ::
  (nat_lit 107, ⟨Value.type "code", Option.none, Data.fields #[Value.str (Str.ofString "__init__") 309, Value.str (Str.ofString "Rule.__init__") 310, Value.str (Str.ofString "/claim/cut.py") 311, Value.int 36 0, Value.int 5 0, Value.int 0 0, Value.int 0 0, Value.int 3 0, Value.ref 104, Value.bool Bool.true, Value.int 181 0, Value.ref 105, Value.none, Value.none, Value.none, Value.ref 106, Value.int 312 0, Value.int 36 0, Value.str (Str.ofString "/claim/cut.py") 313], #[]⟩) ::
  (nat_lit 108, fnO (mAt 12 0) "Rule.__init__" [] (Value.str (Str.ofString "alikeheap.rules") 295) (Value.ref 107) (Value.none)) ::
  (nat_lit 109, ⟨Value.type "tuple", Option.none, Data.seq #[], #[]⟩) ::
  (nat_lit 111, ⟨Value.type "tuple", Option.none, Data.seq #[Value.str (Str.ofString "self") 318], #[]⟩) ::
  (nat_lit 112, ⟨Value.type "tuple", Option.none, Data.seq #[], #[]⟩) ::
  (nat_lit 114, ⟨Value.type "code", Option.none, Data.fields #[Value.str (Str.ofString "turned") 315, Value.str (Str.ofString "Rule.turned") 316, Value.str (Str.ofString "/claim/cut.py") 317, Value.int 52 0, Value.int 1 0, Value.int 0 0, Value.int 0 0, Value.int 3 0, Value.ref 109, Value.bool Bool.true, Value.int 181 0, Value.ref 110, Value.none, Value.ref 111, Value.ref 112, Value.ref 113, Value.int 319 0, Value.int 52 0, Value.str (Str.ofString "/claim/cut.py") 320], #[]⟩) ::
  (nat_lit 115, fnO (mAt 12 1) "Rule.turned" [] (Value.str (Str.ofString "alikeheap.rules") 295) (Value.ref 114) (Value.none)) ::
  (nat_lit 116, ⟨Value.type "tuple", Option.none, Data.seq #[Value.str (Str.ofString "left") 322, Value.str (Str.ofString "name") 323, Value.str (Str.ofString "needs") 324, Value.str (Str.ofString "right") 325], #[]⟩) ::
  (nat_lit 117, ⟨Value.type "dict", Option.none, Data.dict #[{ hash := PyData.keyHash P (Str.ofString "__module__"), key := Value.str (Str.ofString "__module__") 304, val := Value.str (Str.ofString "alikeheap.rules") 295 }, { hash := PyData.keyHash P (Str.ofString "__firstlineno__"), key := Value.str (Str.ofString "__firstlineno__") 308, val := Value.int 34 307 }, { hash := PyData.keyHash P (Str.ofString "__init__"), key := Value.str (Str.ofString "__init__") 314, val := Value.ref 108 }, { hash := PyData.keyHash P (Str.ofString "turned"), key := Value.str (Str.ofString "turned") 321, val := Value.ref 115 }, { hash := PyData.keyHash P (Str.ofString "__static_attributes__"), key := Value.str (Str.ofString "__static_attributes__") 326, val := Value.ref 116 }, { hash := PyData.keyHash P (Str.ofString "__dict__"), key := Value.str (Str.ofString "__dict__") 328, val := Value.ref 119 }, { hash := PyData.keyHash P (Str.ofString "__weakref__"), key := Value.str (Str.ofString "__weakref__") 330, val := Value.ref 120 }, { hash := PyData.keyHash P (Str.ofString "__doc__"), key := Value.str (Str.ofString "__doc__") 331, val := Value.none }] 4, #[]⟩) ::
  (nat_lit 118, ⟨Value.type "type", Option.none, Data.cls { name := Str.ofString "Rule", bases := [Value.type "object"], mro := [Value.ref 118, Value.type "object"], ns := 117, qualname := Str.ofString "Rule" }, #[Option.none, Option.none, Option.some (Value.str (Str.ofString "Rule") 297), Option.some (Value.str (Str.ofString "Rule") 305), Option.some (Value.builtin "object.__new__"), Option.some (Value.bool Bool.true)]⟩) ::
  (nat_lit 119, ⟨Value.type "getset_descriptor", Option.none, Data.fields #[Value.str (Str.ofString "__dict__") 327, Value.ref 118, Value.builtin "function.__dict__", Value.builtin "function.__dict__#set"], #[]⟩) ::
  (nat_lit 120, ⟨Value.type "getset_descriptor", Option.none, Data.fields #[Value.str (Str.ofString "__weakref__") 329, Value.ref 118, Value.builtin "ExceptionGroup.__weakref__", Value.none], #[]⟩) ::
  (nat_lit 123, ⟨Value.type "tuple", Option.none, Data.seq #[Value.str (Str.ofString "?a") 336], #[]⟩) ::
  (nat_lit 124, ⟨Value.type "tuple", Option.none, Data.seq #[Value.str (Str.ofString "?b") 337], #[]⟩) ::
  (nat_lit 125, ⟨Value.type "tuple", Option.none, Data.seq #[Value.str (Str.ofString "?c") 338], #[]⟩) ::
  (nat_lit 130, ⟨Value.type "tuple", Option.none, Data.seq #[], #[]⟩) ::
  (nat_lit 132, ⟨Value.type "tuple", Option.none, Data.seq #[Value.str (Str.ofString "term") 345, Value.str (Str.ofString "env") 346], #[]⟩) ::
  (nat_lit 133, ⟨Value.type "tuple", Option.none, Data.seq #[], #[]⟩) ::
  (nat_lit 135, ⟨Value.type "code", Option.none, Data.fields #[Value.str (Str.ofString "named_value") 342, Value.str (Str.ofString "named_value") 343, Value.str (Str.ofString "/claim/cut.py") 344, Value.int 56 0, Value.int 2 0, Value.int 0 0, Value.int 0 0, Value.int 3 0, Value.ref 130, Value.bool Bool.true, Value.int 181 0, Value.ref 131, Value.none, Value.ref 132, Value.ref 133, Value.ref 134, Value.int 347 0, Value.int 56 0, Value.str (Str.ofString "/claim/cut.py") 348], #[]⟩) ::
  (nat_lit 136, fnO (sAt 15) "named_value" [] (Value.str (Str.ofString "alikeheap.theories") 334) (Value.ref 135) (Value.none)) ::
  (nat_lit 137, ⟨Value.type "tuple", Option.none, Data.seq #[], #[]⟩) ::
  (nat_lit 139, ⟨Value.type "tuple", Option.none, Data.seq #[Value.str (Str.ofString "op") 353, Value.str (Str.ofString "unit") 354], #[]⟩) ::
  (nat_lit 140, ⟨Value.type "tuple", Option.none, Data.seq #[], #[]⟩) ::
  (nat_lit 142, ⟨Value.type "code", Option.none, Data.fields #[Value.str (Str.ofString "laws_of") 350, Value.str (Str.ofString "laws_of") 351, Value.str (Str.ofString "/claim/cut.py") 352, Value.int 60 0, Value.int 2 0, Value.int 0 0, Value.int 0 0, Value.int 3 0, Value.ref 137, Value.bool Bool.true, Value.int 181 0, Value.ref 138, Value.none, Value.ref 139, Value.ref 140, Value.ref 141, Value.int 355 0, Value.int 60 0, Value.str (Str.ofString "/claim/cut.py") 356], #[]⟩) ::
  (nat_lit 143, fnO (sAt 16) "laws_of" [] (Value.str (Str.ofString "alikeheap.theories") 334) (Value.ref 142) (Value.none)) ::
  (nat_lit 151, ⟨Value.type "tuple", Option.none, Data.seq #[], #[]⟩) ::
  (nat_lit 153, ⟨Value.type "tuple", Option.none, Data.seq #[Value.str (Str.ofString "self") 373, Value.str (Str.ofString "n") 374], #[]⟩) ::
  (nat_lit 154, ⟨Value.type "tuple", Option.none, Data.seq #[], #[]⟩) ::
  (nat_lit 156, ⟨Value.type "code", Option.none, Data.fields #[Value.str (Str.ofString "__init__") 370, Value.str (Str.ofString "Ring.__init__") 371, Value.str (Str.ofString "/claim/cut.py") 372, Value.int 64 0, Value.int 2 0, Value.int 0 0, Value.int 0 0, Value.int 3 0, Value.ref 151, Value.bool Bool.true, Value.int 181 0, Value.ref 152, Value.none, Value.ref 153, Value.ref 154, Value.ref 155, Value.int 375 0, Value.int 64 0, Value.str (Str.ofString "/claim/cut.py") 376], #[]⟩) ::
  (nat_lit 157, fnO (mAt 17 0) "Ring.__init__" [] (Value.str (Str.ofString "alikeheap.theories") 334) (Value.ref 156) (Value.none)) ::
  (nat_lit 158, ⟨Value.type "tuple", Option.none, Data.seq #[], #[]⟩) ::
  (nat_lit 160, ⟨Value.type "tuple", Option.none, Data.seq #[Value.str (Str.ofString "self") 381, Value.str (Str.ofString "zero") 382], #[]⟩) ::
  (nat_lit 161, ⟨Value.type "tuple", Option.none, Data.seq #[], #[]⟩) ::
  (nat_lit 163, ⟨Value.type "code", Option.none, Data.fields #[Value.str (Str.ofString "rules") 378, Value.str (Str.ofString "Ring.rules") 379, Value.str (Str.ofString "/claim/cut.py") 380, Value.int 67 0, Value.int 1 0, Value.int 0 0, Value.int 0 0, Value.int 3 0, Value.ref 158, Value.bool Bool.true, Value.int 181 0, Value.ref 159, Value.none, Value.ref 160, Value.ref 161, Value.ref 162, Value.int 383 0, Value.int 67 0, Value.str (Str.ofString "/claim/cut.py") 384], #[]⟩) ::
  (nat_lit 164, fnO (mAt 17 1) "Ring.rules" [] (Value.str (Str.ofString "alikeheap.theories") 334) (Value.ref 163) (Value.none)) ::
  (nat_lit 165, ⟨Value.type "tuple", Option.none, Data.seq #[], #[]⟩) ::
  (nat_lit 168, ⟨Value.type "code", Option.none, Data.fields #[Value.str (Str.ofString "value") 386, Value.str (Str.ofString "Ring.value") 387, Value.str (Str.ofString "/claim/cut.py") 388, Value.int 71 0, Value.int 3 0, Value.int 0 0, Value.int 0 0, Value.int 3 0, Value.ref 165, Value.bool Bool.true, Value.int 181 0, Value.ref 166, Value.none, Value.none, Value.none, Value.ref 167, Value.int 389 0, Value.int 71 0, Value.str (Str.ofString "/claim/cut.py") 390], #[]⟩) ::
  (nat_lit 169, fnO (mAt 17 2) "Ring.value" [] (Value.str (Str.ofString "alikeheap.theories") 334) (Value.ref 168) (Value.none)) ::
  (nat_lit 170, ⟨Value.type "tuple", Option.none, Data.seq #[Value.str (Str.ofString "n") 392], #[]⟩) ::
  (nat_lit 171, ⟨Value.type "dict", Option.none, Data.dict #[{ hash := PyData.keyHash P (Str.ofString "__module__"), key := Value.str (Str.ofString "__module__") 365, val := Value.str (Str.ofString "alikeheap.theories") 334 }, { hash := PyData.keyHash P (Str.ofString "__firstlineno__"), key := Value.str (Str.ofString "__firstlineno__") 369, val := Value.int 62 368 }, { hash := PyData.keyHash P (Str.ofString "__init__"), key := Value.str (Str.ofString "__init__") 377, val := Value.ref 157 }, { hash := PyData.keyHash P (Str.ofString "rules"), key := Value.str (Str.ofString "rules") 385, val := Value.ref 164 }, { hash := PyData.keyHash P (Str.ofString "value"), key := Value.str (Str.ofString "value") 391, val := Value.ref 169 }, { hash := PyData.keyHash P (Str.ofString "__static_attributes__"), key := Value.str (Str.ofString "__static_attributes__") 393, val := Value.ref 170 }, { hash := PyData.keyHash P (Str.ofString "__dict__"), key := Value.str (Str.ofString "__dict__") 395, val := Value.ref 173 }, { hash := PyData.keyHash P (Str.ofString "__weakref__"), key := Value.str (Str.ofString "__weakref__") 397, val := Value.ref 174 }, { hash := PyData.keyHash P (Str.ofString "__doc__"), key := Value.str (Str.ofString "__doc__") 398, val := Value.none }] 4, #[]⟩) ::
  (nat_lit 172, ⟨Value.type "type", Option.none, Data.cls { name := Str.ofString "Ring", bases := [Value.type "object"], mro := [Value.ref 172, Value.type "object"], ns := 171, qualname := Str.ofString "Ring" }, #[Option.none, Option.none, Option.some (Value.str (Str.ofString "Ring") 358), Option.some (Value.str (Str.ofString "Ring") 366), Option.some (Value.builtin "object.__new__"), Option.some (Value.bool Bool.true)]⟩) ::
  (nat_lit 173, ⟨Value.type "getset_descriptor", Option.none, Data.fields #[Value.str (Str.ofString "__dict__") 394, Value.ref 172, Value.builtin "function.__dict__", Value.builtin "function.__dict__#set"], #[]⟩) ::
  (nat_lit 174, ⟨Value.type "getset_descriptor", Option.none, Data.fields #[Value.str (Str.ofString "__weakref__") 396, Value.ref 172, Value.builtin "ExceptionGroup.__weakref__", Value.none], #[]⟩) ::
  (nat_lit 177, ⟨Value.type "tuple", Option.none, Data.seq #[], #[]⟩) ::
  (nat_lit 179, ⟨Value.type "tuple", Option.none, Data.seq #[Value.str (Str.ofString "pool") 406, Value.str (Str.ofString "many") 407], #[]⟩) ::
  (nat_lit 180, ⟨Value.type "tuple", Option.none, Data.seq #[], #[]⟩) ::
  (nat_lit 182, ⟨Value.type "code", Option.none, Data.fields #[Value.str (Str.ofString "_law_pick") 403, Value.str (Str.ofString "_law_pick") 404, Value.str (Str.ofString "/claim/cut.py") 405, Value.int 82 0, Value.int 2 0, Value.int 0 0, Value.int 0 0, Value.int 3 0, Value.ref 177, Value.bool Bool.true, Value.int 181 0, Value.ref 178, Value.none, Value.ref 179, Value.ref 180, Value.ref 181, Value.int 408 0, Value.int 82 0, Value.str (Str.ofString "/claim/cut.py") 409], #[]⟩) ::
  (nat_lit 183, fnO (sAt 19) "_law_pick" [] (Value.str (Str.ofString "law_pq0039_01") 401) (Value.ref 182) (Value.none)) ::
  (nat_lit 184, ⟨Value.type "tuple", Option.none, Data.seq #[], #[]⟩) ::
  (nat_lit 186, ⟨Value.type "tuple", Option.none, Data.seq #[Value.str (Str.ofString "n") 414, Value.str (Str.ofString "begin") 415, Value.str (Str.ofString "many") 416, Value.str (Str.ofString "spot") 417, Value.str (Str.ofString "step") 418], #[]⟩) ::
  (nat_lit 187, ⟨Value.type "tuple", Option.none, Data.seq #[], #[]⟩) ::
  (nat_lit 189, ⟨Value.type "code", Option.none, Data.fields #[Value.str (Str.ofString "_law_gone") 411, Value.str (Str.ofString "_law_gone") 412, Value.str (Str.ofString "/claim/cut.py") 413, Value.int 85 0, Value.int 3 0, Value.int 0 0, Value.int 0 0, Value.int 3 0, Value.ref 184, Value.bool Bool.true, Value.int 181 0, Value.ref 185, Value.none, Value.ref 186, Value.ref 187, Value.ref 188, Value.int 419 0, Value.int 85 0, Value.str (Str.ofString "/claim/cut.py") 420], #[]⟩) ::
  (nat_lit 190, fnO (sAt 20) "_law_gone" [] (Value.str (Str.ofString "law_pq0039_01") 401) (Value.ref 189) (Value.none)) ::
  (nat_lit 191, ⟨Value.type "tuple", Option.none, Data.seq #[], #[]⟩) ::
  (nat_lit 194, ⟨Value.type "code", Option.none, Data.fields #[Value.str (Str.ofString "_law_worth") 422, Value.str (Str.ofString "_law_worth") 423, Value.str (Str.ofString "/claim/cut.py") 424, Value.int 90 0, Value.int 3 0, Value.int 0 0, Value.int 0 0, Value.int 3 0, Value.ref 191, Value.bool Bool.true, Value.int 181 0, Value.ref 192, Value.none, Value.none, Value.none, Value.ref 193, Value.int 425 0, Value.int 90 0, Value.str (Str.ofString "/claim/cut.py") 426], #[]⟩) ::
  (nat_lit 195, fnO (sAt 21) "_law_worth" [] (Value.str (Str.ofString "law_pq0039_01") 401) (Value.ref 194) (Value.none)) ::
  (nat_lit 196, ⟨Value.type "tuple", Option.none, Data.seq #[], #[]⟩) ::
  (nat_lit 199, ⟨Value.type "code", Option.none, Data.fields #[Value.str (Str.ofString "_law_names") 428, Value.str (Str.ofString "_law_names") 429, Value.str (Str.ofString "/claim/cut.py") 430, Value.int 108 0, Value.int 1 0, Value.int 0 0, Value.int 0 0, Value.int 3 0, Value.ref 196, Value.bool Bool.true, Value.int 181 0, Value.ref 197, Value.none, Value.none, Value.none, Value.ref 198, Value.int 431 0, Value.int 108 0, Value.str (Str.ofString "/claim/cut.py") 432], #[]⟩) ::
  (nat_lit 200, fnO (sAt 22) "_law_names" [] (Value.str (Str.ofString "law_pq0039_01") 401) (Value.ref 199) (Value.none)) ::
  (nat_lit 201, ⟨Value.type "tuple", Option.none, Data.seq #[], #[]⟩) ::
  (nat_lit 203, ⟨Value.type "tuple", Option.none, Data.seq #[Value.str (Str.ofString "names") 437, Value.str (Str.ofString "n") 438, Value.str (Str.ofString "found") 439, Value.str (Str.ofString "name") 440, Value.str (Str.ofString "late") 441, Value.str (Str.ofString "world") 442, Value.str (Str.ofString "place") 443, Value.str (Str.ofString "more") 444], #[]⟩) ::
  (nat_lit 204, ⟨Value.type "tuple", Option.none, Data.seq #[], #[]⟩) ::
  (nat_lit 206, ⟨Value.type "code", Option.none, Data.fields #[Value.str (Str.ofString "_law_worlds") 434, Value.str (Str.ofString "_law_worlds") 435, Value.str (Str.ofString "/claim/cut.py") 436, Value.int 112 0, Value.int 2 0, Value.int 0 0, Value.int 0 0, Value.int 3 0, Value.ref 201, Value.bool Bool.true, Value.int 181 0, Value.ref 202, Value.none, Value.ref 203, Value.ref 204, Value.ref 205, Value.int 445 0, Value.int 112 0, Value.str (Str.ofString "/claim/cut.py") 446], #[]⟩) ::
  (nat_lit 207, fnO (sAt 23) "_law_worlds" [] (Value.str (Str.ofString "law_pq0039_01") 401) (Value.ref 206) (Value.none)) ::
  (nat_lit 208, ⟨Value.type "tuple", Option.none, Data.seq #[], #[]⟩) ::
  (nat_lit 211, ⟨Value.type "code", Option.none, Data.fields #[Value.str (Str.ofString "_law_drawn") 448, Value.str (Str.ofString "_law_drawn") 449, Value.str (Str.ofString "/claim/cut.py") 450, Value.int 123 0, Value.int 2 0, Value.int 0 0, Value.int 0 0, Value.int 3 0, Value.ref 208, Value.bool Bool.true, Value.int 181 0, Value.ref 209, Value.none, Value.none, Value.none, Value.ref 210, Value.int 451 0, Value.int 123 0, Value.str (Str.ofString "/claim/cut.py") 452], #[]⟩) ::
  (nat_lit 212, fnO (sAt 24) "_law_drawn" [] (Value.str (Str.ofString "law_pq0039_01") 401) (Value.ref 211) (Value.none)) ::
  (nat_lit 213, ⟨Value.type "tuple", Option.none, Data.seq #[], #[]⟩) ::
  (nat_lit 215, ⟨Value.type "tuple", Option.none, Data.seq #[Value.str (Str.ofString "ring") 457, Value.str (Str.ofString "term") 458, Value.str (Str.ofString "env") 459], #[]⟩) ::
  (nat_lit 216, ⟨Value.type "tuple", Option.none, Data.seq #[], #[]⟩) ::
  (nat_lit 218, ⟨Value.type "code", Option.none, Data.fields #[Value.str (Str.ofString "_law_is_refused") 454, Value.str (Str.ofString "_law_is_refused") 455, Value.str (Str.ofString "/claim/cut.py") 456, Value.int 129 0, Value.int 3 0, Value.int 0 0, Value.int 0 0, Value.int 3 0, Value.ref 213, Value.bool Bool.true, Value.int 181 0, Value.ref 214, Value.none, Value.ref 215, Value.ref 216, Value.ref 217, Value.int 460 0, Value.int 129 0, Value.str (Str.ofString "/claim/cut.py") 461], #[]⟩) ::
  (nat_lit 219, fnO (sAt 25) "_law_is_refused" [] (Value.str (Str.ofString "law_pq0039_01") 401) (Value.ref 218) (Value.none)) ::
  (nat_lit 220, ⟨Value.type "tuple", Option.none, Data.seq #[], #[]⟩) ::
  (nat_lit 223, ⟨Value.type "code", Option.none, Data.fields #[Value.str (Str.ofString "law") 463, Value.str (Str.ofString "law") 464, Value.str (Str.ofString "/claim/cut.py") 465, Value.int 135 0, Value.int 1 0, Value.int 0 0, Value.int 0 0, Value.int 3 0, Value.ref 220, Value.bool Bool.true, Value.int 181 0, Value.ref 221, Value.none, Value.none, Value.none, Value.ref 222, Value.int 466 0, Value.int 135 0, Value.str (Str.ofString "/claim/cut.py") 467], #[]⟩) ::
  (nat_lit 224, fnO (sAt 26) "law" [] (Value.str (Str.ofString "law_pq0039_01") 401) (Value.ref 223) (Value.none)) :: []
/-- the addresses of what is known -/
noncomputable def hdAs : List Addr := 2 :: 3 :: 15 :: 17 :: 18 :: 20 :: 21 :: 22 :: 25 :: 26 :: 27 :: 30 :: 35 :: 36 :: 38 :: 39 :: 41 :: 42 :: 43 :: 45 :: 46 :: 48 :: 49 :: 50 :: 51 :: 52 :: 53 :: 56 :: 63 :: 64 :: 65 :: 68 :: 75 :: 76 :: 77 :: 80 :: 82 :: 83 :: 85 :: 86 :: 87 :: 90 :: 91 :: 92 :: 95 :: 96 :: 104 :: 107 :: 108 :: 109 :: 111 :: 112 :: 114 :: 115 :: 116 :: 117 :: 118 :: 119 :: 120 :: 123 :: 124 :: 125 :: 130 :: 132 :: 133 :: 135 :: 136 :: 137 :: 139 :: 140 :: 142 :: 143 :: 151 :: 153 :: 154 :: 156 :: 157 :: 158 :: 160 :: 161 :: 163 :: 164 :: 165 :: 168 :: 169 :: 170 :: 171 :: 172 :: 173 :: 174 :: 177 :: 179 :: 180 :: 182 :: 183 :: 184 :: 186 :: 187 :: 189 :: 190 :: 191 :: 194 :: 195 :: 196 :: 199 :: 200 :: 201 :: 203 :: 204 :: 206 :: 207 :: 208 :: 211 :: 212 :: 213 :: 215 :: 216 :: 218 :: 219 :: 220 :: 223 :: 224 :: []
/-- the program without the lines that bind its name -/
noncomputable def hd.view_39 : Program := { PySem.Challenge.pw_pq0039_01 with main := { PySem.Challenge.pw_pq0039_01.main with body := [sAt 0, sAt 2, sAt 4, sAt 5, sAt 6, sAt 8, sAt 9, sAt 10, sAt 12, sAt 14, sAt 15, sAt 16, sAt 17, sAt 19, sAt 20, sAt 21, sAt 22, sAt 23, sAt 24, sAt 25, sAt 26] } }
/-- the words of the names that are read, but not told -/
noncomputable def hdLoose : List Str := [Str.ofString "A", Str.ofString "B", Str.ofString "C"]
noncomputable def hdLv : List (Str × WData) := [(Str.ofString "A", .tuple [.str ⟨#[63, 97]⟩]), (Str.ofString "B", .tuple [.str ⟨#[63, 98]⟩]), (Str.ofString "C", .tuple [.str ⟨#[63, 99]⟩])]
/-- what a def's text is ahead of its function -/
noncomputable def fnT (st : Stmt) (qual : Str) : Obj := match st with
  | .FunctionDef name args body _ _ _ scope _ _ _ => ⟨.none, none, .func { name := name, qualname := qual, params := args, body := .stmts body, scope := scope, globals := 0, closure := [], defaults := .none, kwdefaults := .none }, #[]⟩
  | _ => ⟨.none, none, .plain, #[]⟩
/-- the text's own body, in two -/
noncomputable def hdEnv : Env := { scope := PySem.Challenge.rw_pq0039_01.prog.main.scope, locals := mainNs, globals := mainNs, cells := [], code := Value.ref 13, frame := Option.some 14 }
noncomputable def hdOne : List Stmt := [sAt 0, sAt 1, sAt 2, sAt 3, sAt 4, sAt 5, sAt 6, sAt 7, sAt 8, sAt 9, sAt 10, sAt 11]
noncomputable def hdTwo : List Stmt := [sAt 12, sAt 13, sAt 14, sAt 15, sAt 16, sAt 17, sAt 18, sAt 19, sAt 20, sAt 21, sAt 22, sAt 23, sAt 24, sAt 25, sAt 26]
noncomputable def hdCode : Code := .body (behindTheImports PySem.Challenge.rw_pq0039_01.prog) hdEnv
noncomputable abbrev hdB : List Frame := [topFrame ⟨0, 0, 0, 0⟩]
/-- the heap behind the first lines -/
noncomputable def hdH0 : Params → Heap := fun P => ⟨⟨[boot_o_0 P, boot_o_1 P, boot_o_2 P, boot_o_3 P, boot_o_4 P, boot_o_5 P, boot_o_6 P, boot_o_7 P, boot_o_8 P, boot_o_9 P, boot_o_10 P] ++ [(⟨Value.type "tuple", Option.none, Data.seq #[], #[]⟩ : Obj), (⟨Value.none, Option.none, Data.fields #[], #[]⟩ : Obj), (⟨Value.type "code", Option.none, Data.fields #[Value.str (Str.ofString "<module>") 182, Value.str (Str.ofString "<module>") 183, Value.str (Str.ofString "/claim/cut.py") 184, Value.int 1 0, Value.int 0 0, Value.int 0 0, Value.int 0 0, Value.int 0 0, Value.ref 11, Value.bool Bool.false, Value.int 181 0, Value.ref 12, Value.none, Value.none, Value.none, Value.none, Value.int 185 0, Value.int 1 0, Value.str (Str.ofString "/claim/cut.py") 186], #[]⟩ : Obj), (⟨Value.type "frame", Option.none, Data.plain, #[Option.some (Value.ref 13), Option.some (Value.ref 3), Option.some (Value.ref 3), Option.none, Option.some (Value.str (Str.ofString "__main__") 164), Option.none, Option.some (Value.ref 0)]⟩ : Obj)]⟩, {}⟩
/-- the heap behind the first twelve statements -/
noncomputable def hdH1 : Params → Heap := fun P => ⟨⟨
  boot_o_0 P ::
  boot_o_1 P ::
  (⟨Value.none, Option.none, Data.dict #[{ hash := PyData.keyHash P (Str.ofString "type.__subclasses__.Exception.0"), key := Value.str (Str.ofString "type.__subclasses__.Exception.0") 238, val := Value.int 52 0 }, { hash := PyData.keyHash P (Str.ofString "type.__subclasses__.Exception.n"), key := Value.str (Str.ofString "type.__subclasses__.Exception.n") 239, val := Value.int 1 0 }] 2, #[]⟩ : Obj) ::
  (⟨Value.type "dict", Option.none, Data.dict #[{ hash := PyData.keyHash P (Str.ofString "__name__"), key := Value.str (Str.ofString "__name__") 165, val := Value.str (Str.ofString "alikeheap.rules") 295 }, { hash := PyData.keyHash P (Str.ofString "__doc__"), key := Value.str (Str.ofString "__doc__") 166, val := Value.none }, { hash := PyData.keyHash P (Str.ofString "__package__"), key := Value.str (Str.ofString "__package__") 167, val := Value.none }, { hash := PyData.keyHash P (Str.ofString "__loader__"), key := Value.str (Str.ofString "__loader__") 168, val := Value.builtin "__main__.__loader__#opaque" }, { hash := PyData.keyHash P (Str.ofString "__spec__"), key := Value.str (Str.ofString "__spec__") 169, val := Value.none }, { hash := PyData.keyHash P (Str.ofString "__annotations__"), key := Value.str (Str.ofString "__annotations__") 170, val := Value.ref 6 }, { hash := PyData.keyHash P (Str.ofString "__builtins__"), key := Value.str (Str.ofString "__builtins__") 171, val := Value.ref 4 }, { hash := PyData.keyHash P (Str.ofString "__file__"), key := Value.str (Str.ofString "__file__") 173, val := Value.str (Str.ofString "/claim/cut.py") 172 }, { hash := PyData.keyHash P (Str.ofString "__cached__"), key := Value.str (Str.ofString "__cached__") 174, val := Value.none }, { hash := PyData.keyHash P (Str.ofString "_wall"), key := Value.str (Str.ofString "_wall") 193, val := Value.ref 21 }, { hash := PyData.keyHash P (Str.ofString "whole_of"), key := Value.str (Str.ofString "whole_of") 201, val := Value.ref 26 }, { hash := PyData.keyHash P (Str.ofString "HeapError"), key := Value.str (Str.ofString "HeapError") 241, val := Value.ref 52 }, { hash := PyData.keyHash P (Str.ofString "TermFault"), key := Value.str (Str.ofString "TermFault") 257, val := Value.ref 65 }, { hash := PyData.keyHash P (Str.ofString "RuleFault"), key := Value.str (Str.ofString "RuleFault") 273, val := Value.ref 77 }, { hash := PyData.keyHash P (Str.ofString "is_variable"), key := Value.str (Str.ofString "is_variable") 282, val := Value.ref 86 }, { hash := PyData.keyHash P (Str.ofString "variables"), key := Value.str (Str.ofString "variables") 288, val := Value.ref 91 }, { hash := PyData.keyHash P (Str.ofString "parts"), key := Value.str (Str.ofString "parts") 294, val := Value.ref 96 }] 17, #[]⟩ : Obj) ::
  boot_o_4 P ::
  boot_o_5 P ::
  boot_o_6 P ::
  boot_o_7 P ::
  boot_o_8 P ::
  boot_o_9 P ::
  boot_o_10 P ::
  (⟨Value.type "tuple", Option.none, Data.seq #[], #[]⟩ : Obj) ::
  (⟨Value.none, Option.none, Data.fields #[Value.int 1 0, Value.int 0 0, Value.ref 20, Value.int 5 0, Value.int 0 0, Value.ref 25, Value.int 11 0, Value.int 0 0, Value.ref 33, Value.int 19 0, Value.int 0 0, Value.ref 61, Value.int 21 0, Value.int 0 0, Value.ref 73, Value.int 24 0, Value.int 0 0, Value.ref 85, Value.int 26 0, Value.int 0 0, Value.ref 90, Value.int 28 0, Value.int 0 0, Value.ref 95], #[]⟩ : Obj) ::
  (⟨Value.type "code", Option.none, Data.fields #[Value.str (Str.ofString "<module>") 182, Value.str (Str.ofString "<module>") 183, Value.str (Str.ofString "/claim/cut.py") 184, Value.int 1 0, Value.int 0 0, Value.int 0 0, Value.int 0 0, Value.int 0 0, Value.ref 11, Value.bool Bool.false, Value.int 181 0, Value.ref 12, Value.none, Value.none, Value.none, Value.none, Value.int 185 0, Value.int 1 0, Value.str (Str.ofString "/claim/cut.py") 186], #[]⟩ : Obj) ::
  (⟨Value.type "frame", Option.none, Data.plain, #[Option.some (Value.ref 13), Option.some (Value.ref 3), Option.some (Value.ref 3), Option.none, Option.some (Value.str (Str.ofString "__main__") 164), Option.none, Option.some (Value.ref 0)]⟩ : Obj) ::
  (⟨Value.type "tuple", Option.none, Data.seq #[], #[]⟩ : Obj) ::
  (⟨Value.none, Option.none, Data.fields #[], #[]⟩ : Obj) ::
  (⟨Value.type "tuple", Option.none, Data.seq #[Value.str (Str.ofString "k") 190], #[]⟩ : Obj) ::
  (⟨Value.type "tuple", Option.none, Data.seq #[], #[]⟩ : Obj) ::
  fnT (sAt 0) "_wall" ::
  (⟨Value.type "code", Option.none, Data.fields #[Value.str (Str.ofString "_wall") 187, Value.str (Str.ofString "_wall") 188, Value.str (Str.ofString "/claim/cut.py") 189, Value.int 1 0, Value.int 1 0, Value.int 0 0, Value.int 0 0, Value.int 3 0, Value.ref 15, Value.bool Bool.true, Value.int 181 0, Value.ref 16, Value.none, Value.ref 17, Value.ref 18, Value.ref 19, Value.int 191 0, Value.int 1 0, Value.str (Str.ofString "/claim/cut.py") 192], #[]⟩ : Obj) ::
  (fnO (sAt 0) "_wall" [] (Value.str (Str.ofString "__main__") 164) (Value.ref 20) (Value.none) : Obj) ::
  (⟨Value.type "tuple", Option.none, Data.seq #[], #[]⟩ : Obj) ::
  (⟨Value.none, Option.none, Data.fields #[], #[]⟩ : Obj) ::
  fnT (sAt 2) "whole_of" ::
  (⟨Value.type "code", Option.none, Data.fields #[Value.str (Str.ofString "whole_of") 196, Value.str (Str.ofString "whole_of") 197, Value.str (Str.ofString "/claim/cut.py") 198, Value.int 5 0, Value.int 1 0, Value.int 0 0, Value.int 0 0, Value.int 3 0, Value.ref 22, Value.bool Bool.true, Value.int 181 0, Value.ref 23, Value.none, Value.none, Value.none, Value.ref 24, Value.int 199 0, Value.int 5 0, Value.str (Str.ofString "/claim/cut.py") 200], #[]⟩ : Obj) ::
  (fnO (sAt 2) "whole_of" [] (Value.str (Str.ofString "alikeheap.analyses") 194) (Value.ref 25) (Value.none) : Obj) ::
  (⟨Value.type "tuple", Option.none, Data.seq #[Value.type "Exception"], #[]⟩ : Obj) ::
  (⟨Value.type "builtin_function_or_method", Option.none, Data.fields #[Value.builtin "type.__prepare__", Value.type "type"], #[]⟩ : Obj) ::
  (⟨Value.type "dict", Option.none, Data.dict #[{ hash := PyData.keyHash P (Str.ofString "__module__"), key := Value.str (Str.ofString "__module__") 211, val := Value.str (Str.ofString "alikeheap.errors") 202 }, { hash := PyData.keyHash P (Str.ofString "__qualname__"), key := Value.str (Str.ofString "__qualname__") 213, val := Value.str (Str.ofString "HeapError") 212 }, { hash := PyData.keyHash P (Str.ofString "__firstlineno__"), key := Value.str (Str.ofString "__firstlineno__") 215, val := Value.int 11 214 }, { hash := PyData.keyHash P (Str.ofString "__init__"), key := Value.str (Str.ofString "__init__") 224, val := Value.ref 42 }, { hash := PyData.keyHash P (Str.ofString "told"), key := Value.str (Str.ofString "told") 231, val := Value.ref 49 }, { hash := PyData.keyHash P (Str.ofString "__static_attributes__"), key := Value.str (Str.ofString "__static_attributes__") 233, val := Value.ref 50 }, { hash := PyData.keyHash P (Str.ofString "__classcell__"), key := Value.str (Str.ofString "__classcell__") 234, val := Value.ref 30 }] 7, #[]⟩ : Obj) ::
  (⟨Value.type "cell", Option.none, Data.cell (Option.some (Value.ref 52)), #[]⟩ : Obj) ::
  (⟨Value.type "tuple", Option.none, Data.seq #[], #[]⟩ : Obj) ::
  (⟨Value.none, Option.none, Data.fields #[Value.int 13 0, Value.int 4 0, Value.ref 41, Value.int 17 0, Value.int 4 0, Value.ref 48], #[]⟩ : Obj) ::
  (⟨Value.type "code", Option.none, Data.fields #[Value.str (Str.ofString "HeapError") 206, Value.str (Str.ofString "HeapError") 207, Value.str (Str.ofString "/claim/cut.py") 208, Value.int 11 0, Value.int 0 0, Value.int 0 0, Value.int 0 0, Value.int 0 0, Value.ref 31, Value.bool Bool.false, Value.int 181 0, Value.ref 32, Value.none, Value.none, Value.none, Value.none, Value.int 209 0, Value.int 11 0, Value.str (Str.ofString "/claim/cut.py") 210], #[]⟩ : Obj) ::
  (⟨Value.type "frame", Option.none, Data.plain, #[Option.some (Value.ref 33), Option.some (Value.ref 3), Option.some (Value.ref 29), Option.none, Option.some (Value.str (Str.ofString "alikeheap.errors") 202), Option.none, Option.some (Value.ref 0)]⟩ : Obj) ::
  (⟨Value.type "tuple", Option.none, Data.seq #[Value.ref 30], #[]⟩ : Obj) ::
  (⟨Value.type "tuple", Option.none, Data.seq #[Value.str (Str.ofString "__class__") 219], #[]⟩ : Obj) ::
  (⟨Value.none, Option.none, Data.fields #[], #[]⟩ : Obj) ::
  (⟨Value.type "tuple", Option.none, Data.seq #[Value.str (Str.ofString "self") 220, Value.str (Str.ofString "what") 221], #[]⟩ : Obj) ::
  (⟨Value.type "tuple", Option.none, Data.seq #[], #[]⟩ : Obj) ::
  fnT (mAt 4 0) "HeapError.__init__" ::
  (⟨Value.type "code", Option.none, Data.fields #[Value.str (Str.ofString "__init__") 216, Value.str (Str.ofString "HeapError.__init__") 217, Value.str (Str.ofString "/claim/cut.py") 218, Value.int 13 0, Value.int 2 0, Value.int 0 0, Value.int 0 0, Value.int 3 0, Value.ref 36, Value.bool Bool.true, Value.int 181 0, Value.ref 37, Value.none, Value.ref 38, Value.ref 39, Value.ref 40, Value.int 222 0, Value.int 13 0, Value.str (Str.ofString "/claim/cut.py") 223], #[]⟩ : Obj) ::
  (fnO (mAt 4 0) "HeapError.__init__" [(Str.ofString "__class__", 30)] (Value.str (Str.ofString "alikeheap.errors") 202) (Value.ref 41) (Value.ref 35) : Obj) ::
  (⟨Value.type "tuple", Option.none, Data.seq #[], #[]⟩ : Obj) ::
  (⟨Value.none, Option.none, Data.fields #[], #[]⟩ : Obj) ::
  (⟨Value.type "tuple", Option.none, Data.seq #[Value.str (Str.ofString "self") 228], #[]⟩ : Obj) ::
  (⟨Value.type "tuple", Option.none, Data.seq #[], #[]⟩ : Obj) ::
  fnT (mAt 4 1) "HeapError.told" ::
  (⟨Value.type "code", Option.none, Data.fields #[Value.str (Str.ofString "told") 225, Value.str (Str.ofString "HeapError.told") 226, Value.str (Str.ofString "/claim/cut.py") 227, Value.int 17 0, Value.int 1 0, Value.int 0 0, Value.int 0 0, Value.int 3 0, Value.ref 43, Value.bool Bool.true, Value.int 181 0, Value.ref 44, Value.none, Value.ref 45, Value.ref 46, Value.ref 47, Value.int 229 0, Value.int 17 0, Value.str (Str.ofString "/claim/cut.py") 230], #[]⟩ : Obj) ::
  (fnO (mAt 4 1) "HeapError.told" [] (Value.str (Str.ofString "alikeheap.errors") 202) (Value.ref 48) (Value.none) : Obj) ::
  (⟨Value.type "tuple", Option.none, Data.seq #[Value.str (Str.ofString "what") 232], #[]⟩ : Obj) ::
  (⟨Value.type "dict", Option.none, Data.dict #[{ hash := PyData.keyHash P (Str.ofString "__module__"), key := Value.str (Str.ofString "__module__") 211, val := Value.str (Str.ofString "alikeheap.errors") 202 }, { hash := PyData.keyHash P (Str.ofString "__firstlineno__"), key := Value.str (Str.ofString "__firstlineno__") 215, val := Value.int 11 214 }, { hash := PyData.keyHash P (Str.ofString "__init__"), key := Value.str (Str.ofString "__init__") 224, val := Value.ref 42 }, { hash := PyData.keyHash P (Str.ofString "told"), key := Value.str (Str.ofString "told") 231, val := Value.ref 49 }, { hash := PyData.keyHash P (Str.ofString "__static_attributes__"), key := Value.str (Str.ofString "__static_attributes__") 233, val := Value.ref 50 }, { hash := PyData.keyHash P (Str.ofString "__weakref__"), key := Value.str (Str.ofString "__weakref__") 236, val := Value.ref 53 }, { hash := PyData.keyHash P (Str.ofString "__doc__"), key := Value.str (Str.ofString "__doc__") 237, val := Value.none }] 4, #[]⟩ : Obj) ::
  (⟨Value.type "type", Option.none, Data.cls { name := Str.ofString "HeapError", bases := [Value.type "Exception"], mro := [Value.ref 52, Value.type "Exception", Value.type "BaseException", Value.type "object"], ns := 51, qualname := Str.ofString "HeapError", subclasses := [Value.ref 65, Value.ref 77] }, #[Option.some (Value.ref 27), Option.none, Option.some (Value.str (Str.ofString "HeapError") 204), Option.some (Value.str (Str.ofString "HeapError") 212), Option.some (Value.builtin "Exception.__new__"), Option.some (Value.bool Bool.true)]⟩ : Obj) ::
  (⟨Value.type "getset_descriptor", Option.none, Data.fields #[Value.str (Str.ofString "__weakref__") 235, Value.ref 52, Value.builtin "ExceptionGroup.__weakref__", Value.none], #[]⟩ : Obj) ::
  (⟨Value.type "super", Option.none, Data.fields #[Value.ref 52, Value.ref 52, Value.ref 52], #[]⟩ : Obj) ::
  (⟨Value.type "builtin_function_or_method", Option.none, Data.fields #[Value.builtin "object.__init_subclass__", Value.ref 52], #[]⟩ : Obj) ::
  (⟨Value.type "tuple", Option.none, Data.seq #[Value.ref 52], #[]⟩ : Obj) ::
  (⟨Value.type "builtin_function_or_method", Option.none, Data.fields #[Value.builtin "type.__prepare__", Value.type "type"], #[]⟩ : Obj) ::
  (⟨Value.type "dict", Option.none, Data.dict #[{ hash := PyData.keyHash P (Str.ofString "__module__"), key := Value.str (Str.ofString "__module__") 249, val := Value.str (Str.ofString "alikeheap.errors") 202 }, { hash := PyData.keyHash P (Str.ofString "__qualname__"), key := Value.str (Str.ofString "__qualname__") 251, val := Value.str (Str.ofString "TermFault") 250 }, { hash := PyData.keyHash P (Str.ofString "__firstlineno__"), key := Value.str (Str.ofString "__firstlineno__") 253, val := Value.int 19 252 }, { hash := PyData.keyHash P (Str.ofString "__static_attributes__"), key := Value.str (Str.ofString "__static_attributes__") 254, val := Value.ref 63 }] 4, #[]⟩ : Obj) ::
  (⟨Value.type "tuple", Option.none, Data.seq #[], #[]⟩ : Obj) ::
  (⟨Value.none, Option.none, Data.fields #[], #[]⟩ : Obj) ::
  (⟨Value.type "code", Option.none, Data.fields #[Value.str (Str.ofString "TermFault") 244, Value.str (Str.ofString "TermFault") 245, Value.str (Str.ofString "/claim/cut.py") 246, Value.int 19 0, Value.int 0 0, Value.int 0 0, Value.int 0 0, Value.int 0 0, Value.ref 59, Value.bool Bool.false, Value.int 181 0, Value.ref 60, Value.none, Value.none, Value.none, Value.none, Value.int 247 0, Value.int 19 0, Value.str (Str.ofString "/claim/cut.py") 248], #[]⟩ : Obj) ::
  (⟨Value.type "frame", Option.none, Data.plain, #[Option.some (Value.ref 61), Option.some (Value.ref 3), Option.some (Value.ref 58), Option.none, Option.some (Value.str (Str.ofString "alikeheap.errors") 202), Option.none, Option.some (Value.ref 0)]⟩ : Obj) ::
  (⟨Value.type "tuple", Option.none, Data.seq #[], #[]⟩ : Obj) ::
  (⟨Value.type "dict", Option.none, Data.dict #[{ hash := PyData.keyHash P (Str.ofString "__module__"), key := Value.str (Str.ofString "__module__") 249, val := Value.str (Str.ofString "alikeheap.errors") 202 }, { hash := PyData.keyHash P (Str.ofString "__firstlineno__"), key := Value.str (Str.ofString "__firstlineno__") 253, val := Value.int 19 252 }, { hash := PyData.keyHash P (Str.ofString "__static_attributes__"), key := Value.str (Str.ofString "__static_attributes__") 254, val := Value.ref 63 }, { hash := PyData.keyHash P (Str.ofString "__doc__"), key := Value.str (Str.ofString "__doc__") 255, val := Value.none }] 2, #[]⟩ : Obj) ::
  (⟨Value.type "type", Option.none, Data.cls { name := Str.ofString "TermFault", bases := [Value.ref 52], mro := [Value.ref 65, Value.ref 52, Value.type "Exception", Value.type "BaseException", Value.type "object"], ns := 64, qualname := Str.ofString "TermFault" }, #[Option.some (Value.ref 56), Option.none, Option.some (Value.str (Str.ofString "TermFault") 242), Option.some (Value.str (Str.ofString "TermFault") 250), Option.some (Value.builtin "Exception.__new__"), Option.some (Value.bool Bool.true)]⟩ : Obj) ::
  (⟨Value.type "super", Option.none, Data.fields #[Value.ref 65, Value.ref 65, Value.ref 65], #[]⟩ : Obj) ::
  (⟨Value.type "builtin_function_or_method", Option.none, Data.fields #[Value.builtin "object.__init_subclass__", Value.ref 65], #[]⟩ : Obj) ::
  (⟨Value.type "tuple", Option.none, Data.seq #[Value.ref 52], #[]⟩ : Obj) ::
  (⟨Value.type "builtin_function_or_method", Option.none, Data.fields #[Value.builtin "type.__prepare__", Value.type "type"], #[]⟩ : Obj) ::
  (⟨Value.type "dict", Option.none, Data.dict #[{ hash := PyData.keyHash P (Str.ofString "__module__"), key := Value.str (Str.ofString "__module__") 265, val := Value.str (Str.ofString "alikeheap.errors") 202 }, { hash := PyData.keyHash P (Str.ofString "__qualname__"), key := Value.str (Str.ofString "__qualname__") 267, val := Value.str (Str.ofString "RuleFault") 266 }, { hash := PyData.keyHash P (Str.ofString "__firstlineno__"), key := Value.str (Str.ofString "__firstlineno__") 269, val := Value.int 21 268 }, { hash := PyData.keyHash P (Str.ofString "__static_attributes__"), key := Value.str (Str.ofString "__static_attributes__") 270, val := Value.ref 75 }] 4, #[]⟩ : Obj) ::
  (⟨Value.type "tuple", Option.none, Data.seq #[], #[]⟩ : Obj) ::
  (⟨Value.none, Option.none, Data.fields #[], #[]⟩ : Obj) ::
  (⟨Value.type "code", Option.none, Data.fields #[Value.str (Str.ofString "RuleFault") 260, Value.str (Str.ofString "RuleFault") 261, Value.str (Str.ofString "/claim/cut.py") 262, Value.int 21 0, Value.int 0 0, Value.int 0 0, Value.int 0 0, Value.int 0 0, Value.ref 71, Value.bool Bool.false, Value.int 181 0, Value.ref 72, Value.none, Value.none, Value.none, Value.none, Value.int 263 0, Value.int 21 0, Value.str (Str.ofString "/claim/cut.py") 264], #[]⟩ : Obj) ::
  (⟨Value.type "frame", Option.none, Data.plain, #[Option.some (Value.ref 73), Option.some (Value.ref 3), Option.some (Value.ref 70), Option.none, Option.some (Value.str (Str.ofString "alikeheap.errors") 202), Option.none, Option.some (Value.ref 0)]⟩ : Obj) ::
  (⟨Value.type "tuple", Option.none, Data.seq #[], #[]⟩ : Obj) ::
  (⟨Value.type "dict", Option.none, Data.dict #[{ hash := PyData.keyHash P (Str.ofString "__module__"), key := Value.str (Str.ofString "__module__") 265, val := Value.str (Str.ofString "alikeheap.errors") 202 }, { hash := PyData.keyHash P (Str.ofString "__firstlineno__"), key := Value.str (Str.ofString "__firstlineno__") 269, val := Value.int 21 268 }, { hash := PyData.keyHash P (Str.ofString "__static_attributes__"), key := Value.str (Str.ofString "__static_attributes__") 270, val := Value.ref 75 }, { hash := PyData.keyHash P (Str.ofString "__doc__"), key := Value.str (Str.ofString "__doc__") 271, val := Value.none }] 2, #[]⟩ : Obj) ::
  (⟨Value.type "type", Option.none, Data.cls { name := Str.ofString "RuleFault", bases := [Value.ref 52], mro := [Value.ref 77, Value.ref 52, Value.type "Exception", Value.type "BaseException", Value.type "object"], ns := 76, qualname := Str.ofString "RuleFault" }, #[Option.some (Value.ref 68), Option.none, Option.some (Value.str (Str.ofString "RuleFault") 258), Option.some (Value.str (Str.ofString "RuleFault") 266), Option.some (Value.builtin "Exception.__new__"), Option.some (Value.bool Bool.true)]⟩ : Obj) ::
  (⟨Value.type "super", Option.none, Data.fields #[Value.ref 77, Value.ref 77, Value.ref 77], #[]⟩ : Obj) ::
  (⟨Value.type "builtin_function_or_method", Option.none, Data.fields #[Value.builtin "object.__init_subclass__", Value.ref 77], #[]⟩ : Obj) ::
  (⟨Value.type "tuple", Option.none, Data.seq #[], #[]⟩ : Obj) ::
  (⟨Value.none, Option.none, Data.fields #[], #[]⟩ : Obj) ::
  (⟨Value.type "tuple", Option.none, Data.seq #[Value.str (Str.ofString "t") 279], #[]⟩ : Obj) ::
  (⟨Value.type "tuple", Option.none, Data.seq #[], #[]⟩ : Obj) ::
  fnT (sAt 8) "is_variable" ::
  (⟨Value.type "code", Option.none, Data.fields #[Value.str (Str.ofString "is_variable") 276, Value.str (Str.ofString "is_variable") 277, Value.str (Str.ofString "/claim/cut.py") 278, Value.int 24 0, Value.int 1 0, Value.int 0 0, Value.int 0 0, Value.int 3 0, Value.ref 80, Value.bool Bool.true, Value.int 181 0, Value.ref 81, Value.none, Value.ref 82, Value.ref 83, Value.ref 84, Value.int 280 0, Value.int 24 0, Value.str (Str.ofString "/claim/cut.py") 281], #[]⟩ : Obj) ::
  (fnO (sAt 8) "is_variable" [] (Value.str (Str.ofString "alikeheap.terms") 274) (Value.ref 85) (Value.none) : Obj) ::
  (⟨Value.type "tuple", Option.none, Data.seq #[], #[]⟩ : Obj) ::
  (⟨Value.none, Option.none, Data.fields #[], #[]⟩ : Obj) ::
  fnT (sAt 9) "variables" ::
  (⟨Value.type "code", Option.none, Data.fields #[Value.str (Str.ofString "variables") 283, Value.str (Str.ofString "variables") 284, Value.str (Str.ofString "/claim/cut.py") 285, Value.int 26 0, Value.int 1 0, Value.int 0 0, Value.int 0 0, Value.int 3 0, Value.ref 87, Value.bool Bool.true, Value.int 181 0, Value.ref 88, Value.none, Value.none, Value.none, Value.ref 89, Value.int 286 0, Value.int 26 0, Value.str (Str.ofString "/claim/cut.py") 287], #[]⟩ : Obj) ::
  (fnO (sAt 9) "variables" [] (Value.str (Str.ofString "alikeheap.terms") 274) (Value.ref 90) (Value.none) : Obj) ::
  (⟨Value.type "tuple", Option.none, Data.seq #[], #[]⟩ : Obj) ::
  (⟨Value.none, Option.none, Data.fields #[], #[]⟩ : Obj) ::
  fnT (sAt 10) "parts" ::
  (⟨Value.type "code", Option.none, Data.fields #[Value.str (Str.ofString "parts") 289, Value.str (Str.ofString "parts") 290, Value.str (Str.ofString "/claim/cut.py") 291, Value.int 28 0, Value.int 1 0, Value.int 0 0, Value.int 0 0, Value.int 3 0, Value.ref 92, Value.bool Bool.true, Value.int 181 0, Value.ref 93, Value.none, Value.none, Value.none, Value.ref 94, Value.int 292 0, Value.int 28 0, Value.str (Str.ofString "/claim/cut.py") 293], #[]⟩ : Obj) ::
  (fnO (sAt 10) "parts" [] (Value.str (Str.ofString "alikeheap.terms") 274) (Value.ref 95) (Value.none) : Obj) :: []⟩, {}⟩
theorem run_pre (w : World) (os : OsState) : topGo treeTable PySem.Challenge.rw_pq0039_01.prog w 11 (some (.ref 6)) 12 ⟨boot_heap w.params, #[], boot_drawn, boot_toks, os⟩ (topStub PySem.Challenge.rw_pq0039_01.prog) =
    some (⟨hdH0 w.params, #[], {}, 187, os⟩, ⟨denote treeTable hdCode, hdCode, ⟨0, 0, 0, 0⟩, hdB⟩) := by
  rw [Fast.te15667345088766844465, Fast.te14364793385576792824, Fast.te11892475500146522536]
  kernel_rfl
theorem run_block (w : World) (os : OsState) : segRun treeTable PySem.Challenge.rw_pq0039_01.prog w 11 (some (.ref 6)) 1 1 ⟨hdH0 w.params, #[], {}, 187, os⟩ (blockOf (behindTheImports PySem.Challenge.rw_pq0039_01.prog) hdEnv hdCode ⟨0, 0, 0, 0⟩ hdB) =
    some (.next, ⟨hdH0 w.params, #[], {}, 187, os⟩, hdCode, ⟨0, 0, 0, 0⟩) := by
  kernel_rfl
theorem run_one (w : World) (os : OsState) : segRun treeTable PySem.Challenge.rw_pq0039_01.prog w 11 (some (.ref 6)) 1 890 ⟨hdH0 w.params, #[], {}, 187, os⟩ (piecesOf hdOne hdEnv hdCode ⟨0, 0, 0, 0⟩ hdB) =
    some (.next, ⟨hdH1 w.params, #[], {}, 297, os⟩, hdCode, ⟨33, 0, 33, 8⟩) := by
  rw [Fast.te14374325043358763698, Fast.te14364793385576792824]
  kernel_rfl
/-- the heap that the top leaves -/
noncomputable def hdH2 : Params → Heap := fun P => ⟨⟨
  boot_o_0 P ::
  boot_o_1 P ::
  (⟨Value.none, Option.none, Data.dict #[{ hash := PyData.keyHash P (Str.ofString "type.__subclasses__.Exception.0"), key := Value.str (Str.ofString "type.__subclasses__.Exception.0") 238, val := Value.int 52 0 }, { hash := PyData.keyHash P (Str.ofString "type.__subclasses__.Exception.n"), key := Value.str (Str.ofString "type.__subclasses__.Exception.n") 239, val := Value.int 1 0 }] 2, #[]⟩ : Obj) ::
  (⟨Value.type "dict", Option.none, Data.dict #[{ hash := PyData.keyHash P (Str.ofString "__name__"), key := Value.str (Str.ofString "__name__") 165, val := Value.str (Str.ofString "law_pq0039_01") 401 }, { hash := PyData.keyHash P (Str.ofString "__doc__"), key := Value.str (Str.ofString "__doc__") 166, val := Value.none }, { hash := PyData.keyHash P (Str.ofString "__package__"), key := Value.str (Str.ofString "__package__") 167, val := Value.none }, { hash := PyData.keyHash P (Str.ofString "__loader__"), key := Value.str (Str.ofString "__loader__") 168, val := Value.builtin "__main__.__loader__#opaque" }, { hash := PyData.keyHash P (Str.ofString "__spec__"), key := Value.str (Str.ofString "__spec__") 169, val := Value.none }, { hash := PyData.keyHash P (Str.ofString "__annotations__"), key := Value.str (Str.ofString "__annotations__") 170, val := Value.ref 6 }, { hash := PyData.keyHash P (Str.ofString "__builtins__"), key := Value.str (Str.ofString "__builtins__") 171, val := Value.ref 4 }, { hash := PyData.keyHash P (Str.ofString "__file__"), key := Value.str (Str.ofString "__file__") 173, val := Value.str (Str.ofString "/claim/cut.py") 172 }, { hash := PyData.keyHash P (Str.ofString "__cached__"), key := Value.str (Str.ofString "__cached__") 174, val := Value.none }, { hash := PyData.keyHash P (Str.ofString "_wall"), key := Value.str (Str.ofString "_wall") 193, val := Value.ref 21 }, { hash := PyData.keyHash P (Str.ofString "whole_of"), key := Value.str (Str.ofString "whole_of") 201, val := Value.ref 26 }, { hash := PyData.keyHash P (Str.ofString "HeapError"), key := Value.str (Str.ofString "HeapError") 241, val := Value.ref 52 }, { hash := PyData.keyHash P (Str.ofString "TermFault"), key := Value.str (Str.ofString "TermFault") 257, val := Value.ref 65 }, { hash := PyData.keyHash P (Str.ofString "RuleFault"), key := Value.str (Str.ofString "RuleFault") 273, val := Value.ref 77 }, { hash := PyData.keyHash P (Str.ofString "is_variable"), key := Value.str (Str.ofString "is_variable") 282, val := Value.ref 86 }, { hash := PyData.keyHash P (Str.ofString "variables"), key := Value.str (Str.ofString "variables") 288, val := Value.ref 91 }, { hash := PyData.keyHash P (Str.ofString "parts"), key := Value.str (Str.ofString "parts") 294, val := Value.ref 96 }, { hash := PyData.keyHash P (Str.ofString "Rule"), key := Value.str (Str.ofString "Rule") 333, val := Value.ref 118 }, { hash := PyData.keyHash P (Str.ofString "A"), key := Value.str (Str.ofString "A") 339, val := Value.ref 123 }, { hash := PyData.keyHash P (Str.ofString "B"), key := Value.str (Str.ofString "B") 340, val := Value.ref 124 }, { hash := PyData.keyHash P (Str.ofString "C"), key := Value.str (Str.ofString "C") 341, val := Value.ref 125 }, { hash := PyData.keyHash P (Str.ofString "named_value"), key := Value.str (Str.ofString "named_value") 349, val := Value.ref 136 }, { hash := PyData.keyHash P (Str.ofString "laws_of"), key := Value.str (Str.ofString "laws_of") 357, val := Value.ref 143 }, { hash := PyData.keyHash P (Str.ofString "Ring"), key := Value.str (Str.ofString "Ring") 400, val := Value.ref 172 }, { hash := PyData.keyHash P (Str.ofString "_law_pick"), key := Value.str (Str.ofString "_law_pick") 410, val := Value.ref 183 }, { hash := PyData.keyHash P (Str.ofString "_law_gone"), key := Value.str (Str.ofString "_law_gone") 421, val := Value.ref 190 }, { hash := PyData.keyHash P (Str.ofString "_law_worth"), key := Value.str (Str.ofString "_law_worth") 427, val := Value.ref 195 }, { hash := PyData.keyHash P (Str.ofString "_law_names"), key := Value.str (Str.ofString "_law_names") 433, val := Value.ref 200 }, { hash := PyData.keyHash P (Str.ofString "_law_worlds"), key := Value.str (Str.ofString "_law_worlds") 447, val := Value.ref 207 }, { hash := PyData.keyHash P (Str.ofString "_law_drawn"), key := Value.str (Str.ofString "_law_drawn") 453, val := Value.ref 212 }, { hash := PyData.keyHash P (Str.ofString "_law_is_refused"), key := Value.str (Str.ofString "_law_is_refused") 462, val := Value.ref 219 }, { hash := PyData.keyHash P (Str.ofString "law"), key := Value.str (Str.ofString "law") 468, val := Value.ref 224 }] 32, #[]⟩ : Obj) ::
  boot_o_4 P ::
  boot_o_5 P ::
  boot_o_6 P ::
  boot_o_7 P ::
  boot_o_8 P ::
  boot_o_9 P ::
  boot_o_10 P ::
  (⟨Value.type "tuple", Option.none, Data.seq #[], #[]⟩ : Obj) ::
  (⟨Value.none, Option.none, Data.fields #[Value.int 1 0, Value.int 0 0, Value.ref 20, Value.int 5 0, Value.int 0 0, Value.ref 25, Value.int 11 0, Value.int 0 0, Value.ref 33, Value.int 19 0, Value.int 0 0, Value.ref 61, Value.int 21 0, Value.int 0 0, Value.ref 73, Value.int 24 0, Value.int 0 0, Value.ref 85, Value.int 26 0, Value.int 0 0, Value.ref 90, Value.int 28 0, Value.int 0 0, Value.ref 95, Value.int 34 0, Value.int 0 0, Value.ref 102, Value.int 56 0, Value.int 0 0, Value.ref 135, Value.int 60 0, Value.int 0 0, Value.ref 142, Value.int 62 0, Value.int 0 0, Value.ref 149, Value.int 82 0, Value.int 0 0, Value.ref 182, Value.int 85 0, Value.int 0 0, Value.ref 189, Value.int 90 0, Value.int 0 0, Value.ref 194, Value.int 108 0, Value.int 0 0, Value.ref 199, Value.int 112 0, Value.int 0 0, Value.ref 206, Value.int 123 0, Value.int 0 0, Value.ref 211, Value.int 129 0, Value.int 0 0, Value.ref 218, Value.int 135 0, Value.int 0 0, Value.ref 223], #[]⟩ : Obj) ::
  (⟨Value.type "code", Option.none, Data.fields #[Value.str (Str.ofString "<module>") 182, Value.str (Str.ofString "<module>") 183, Value.str (Str.ofString "/claim/cut.py") 184, Value.int 1 0, Value.int 0 0, Value.int 0 0, Value.int 0 0, Value.int 0 0, Value.ref 11, Value.bool Bool.false, Value.int 181 0, Value.ref 12, Value.none, Value.none, Value.none, Value.none, Value.int 185 0, Value.int 1 0, Value.str (Str.ofString "/claim/cut.py") 186], #[]⟩ : Obj) ::
  (⟨Value.type "frame", Option.none, Data.plain, #[Option.some (Value.ref 13), Option.some (Value.ref 3), Option.some (Value.ref 3), Option.none, Option.some (Value.str (Str.ofString "__main__") 164), Option.none, Option.some (Value.ref 0)]⟩ : Obj) ::
  (⟨Value.type "tuple", Option.none, Data.seq #[], #[]⟩ : Obj) ::
  (⟨Value.none, Option.none, Data.fields #[], #[]⟩ : Obj) ::
  (⟨Value.type "tuple", Option.none, Data.seq #[Value.str (Str.ofString "k") 190], #[]⟩ : Obj) ::
  (⟨Value.type "tuple", Option.none, Data.seq #[], #[]⟩ : Obj) ::
  fnT (sAt 0) "_wall" ::
  (⟨Value.type "code", Option.none, Data.fields #[Value.str (Str.ofString "_wall") 187, Value.str (Str.ofString "_wall") 188, Value.str (Str.ofString "/claim/cut.py") 189, Value.int 1 0, Value.int 1 0, Value.int 0 0, Value.int 0 0, Value.int 3 0, Value.ref 15, Value.bool Bool.true, Value.int 181 0, Value.ref 16, Value.none, Value.ref 17, Value.ref 18, Value.ref 19, Value.int 191 0, Value.int 1 0, Value.str (Str.ofString "/claim/cut.py") 192], #[]⟩ : Obj) ::
  (fnO (sAt 0) "_wall" [] (Value.str (Str.ofString "__main__") 164) (Value.ref 20) (Value.none) : Obj) ::
  (⟨Value.type "tuple", Option.none, Data.seq #[], #[]⟩ : Obj) ::
  (⟨Value.none, Option.none, Data.fields #[], #[]⟩ : Obj) ::
  fnT (sAt 2) "whole_of" ::
  (⟨Value.type "code", Option.none, Data.fields #[Value.str (Str.ofString "whole_of") 196, Value.str (Str.ofString "whole_of") 197, Value.str (Str.ofString "/claim/cut.py") 198, Value.int 5 0, Value.int 1 0, Value.int 0 0, Value.int 0 0, Value.int 3 0, Value.ref 22, Value.bool Bool.true, Value.int 181 0, Value.ref 23, Value.none, Value.none, Value.none, Value.ref 24, Value.int 199 0, Value.int 5 0, Value.str (Str.ofString "/claim/cut.py") 200], #[]⟩ : Obj) ::
  (fnO (sAt 2) "whole_of" [] (Value.str (Str.ofString "alikeheap.analyses") 194) (Value.ref 25) (Value.none) : Obj) ::
  (⟨Value.type "tuple", Option.none, Data.seq #[Value.type "Exception"], #[]⟩ : Obj) ::
  (⟨Value.type "builtin_function_or_method", Option.none, Data.fields #[Value.builtin "type.__prepare__", Value.type "type"], #[]⟩ : Obj) ::
  (⟨Value.type "dict", Option.none, Data.dict #[{ hash := PyData.keyHash P (Str.ofString "__module__"), key := Value.str (Str.ofString "__module__") 211, val := Value.str (Str.ofString "alikeheap.errors") 202 }, { hash := PyData.keyHash P (Str.ofString "__qualname__"), key := Value.str (Str.ofString "__qualname__") 213, val := Value.str (Str.ofString "HeapError") 212 }, { hash := PyData.keyHash P (Str.ofString "__firstlineno__"), key := Value.str (Str.ofString "__firstlineno__") 215, val := Value.int 11 214 }, { hash := PyData.keyHash P (Str.ofString "__init__"), key := Value.str (Str.ofString "__init__") 224, val := Value.ref 42 }, { hash := PyData.keyHash P (Str.ofString "told"), key := Value.str (Str.ofString "told") 231, val := Value.ref 49 }, { hash := PyData.keyHash P (Str.ofString "__static_attributes__"), key := Value.str (Str.ofString "__static_attributes__") 233, val := Value.ref 50 }, { hash := PyData.keyHash P (Str.ofString "__classcell__"), key := Value.str (Str.ofString "__classcell__") 234, val := Value.ref 30 }] 7, #[]⟩ : Obj) ::
  (⟨Value.type "cell", Option.none, Data.cell (Option.some (Value.ref 52)), #[]⟩ : Obj) ::
  (⟨Value.type "tuple", Option.none, Data.seq #[], #[]⟩ : Obj) ::
  (⟨Value.none, Option.none, Data.fields #[Value.int 13 0, Value.int 4 0, Value.ref 41, Value.int 17 0, Value.int 4 0, Value.ref 48], #[]⟩ : Obj) ::
  (⟨Value.type "code", Option.none, Data.fields #[Value.str (Str.ofString "HeapError") 206, Value.str (Str.ofString "HeapError") 207, Value.str (Str.ofString "/claim/cut.py") 208, Value.int 11 0, Value.int 0 0, Value.int 0 0, Value.int 0 0, Value.int 0 0, Value.ref 31, Value.bool Bool.false, Value.int 181 0, Value.ref 32, Value.none, Value.none, Value.none, Value.none, Value.int 209 0, Value.int 11 0, Value.str (Str.ofString "/claim/cut.py") 210], #[]⟩ : Obj) ::
  (⟨Value.type "frame", Option.none, Data.plain, #[Option.some (Value.ref 33), Option.some (Value.ref 3), Option.some (Value.ref 29), Option.none, Option.some (Value.str (Str.ofString "alikeheap.errors") 202), Option.none, Option.some (Value.ref 0)]⟩ : Obj) ::
  (⟨Value.type "tuple", Option.none, Data.seq #[Value.ref 30], #[]⟩ : Obj) ::
  (⟨Value.type "tuple", Option.none, Data.seq #[Value.str (Str.ofString "__class__") 219], #[]⟩ : Obj) ::
  (⟨Value.none, Option.none, Data.fields #[], #[]⟩ : Obj) ::
  (⟨Value.type "tuple", Option.none, Data.seq #[Value.str (Str.ofString "self") 220, Value.str (Str.ofString "what") 221], #[]⟩ : Obj) ::
  (⟨Value.type "tuple", Option.none, Data.seq #[], #[]⟩ : Obj) ::
  fnT (mAt 4 0) "HeapError.__init__" ::
  (⟨Value.type "code", Option.none, Data.fields #[Value.str (Str.ofString "__init__") 216, Value.str (Str.ofString "HeapError.__init__") 217, Value.str (Str.ofString "/claim/cut.py") 218, Value.int 13 0, Value.int 2 0, Value.int 0 0, Value.int 0 0, Value.int 3 0, Value.ref 36, Value.bool Bool.true, Value.int 181 0, Value.ref 37, Value.none, Value.ref 38, Value.ref 39, Value.ref 40, Value.int 222 0, Value.int 13 0, Value.str (Str.ofString "/claim/cut.py") 223], #[]⟩ : Obj) ::
  (fnO (mAt 4 0) "HeapError.__init__" [(Str.ofString "__class__", 30)] (Value.str (Str.ofString "alikeheap.errors") 202) (Value.ref 41) (Value.ref 35) : Obj) ::
  (⟨Value.type "tuple", Option.none, Data.seq #[], #[]⟩ : Obj) ::
  (⟨Value.none, Option.none, Data.fields #[], #[]⟩ : Obj) ::
  (⟨Value.type "tuple", Option.none, Data.seq #[Value.str (Str.ofString "self") 228], #[]⟩ : Obj) ::
  (⟨Value.type "tuple", Option.none, Data.seq #[], #[]⟩ : Obj) ::
  fnT (mAt 4 1) "HeapError.told" ::
  (⟨Value.type "code", Option.none, Data.fields #[Value.str (Str.ofString "told") 225, Value.str (Str.ofString "HeapError.told") 226, Value.str (Str.ofString "/claim/cut.py") 227, Value.int 17 0, Value.int 1 0, Value.int 0 0, Value.int 0 0, Value.int 3 0, Value.ref 43, Value.bool Bool.true, Value.int 181 0, Value.ref 44, Value.none, Value.ref 45, Value.ref 46, Value.ref 47, Value.int 229 0, Value.int 17 0, Value.str (Str.ofString "/claim/cut.py") 230], #[]⟩ : Obj) ::
  (fnO (mAt 4 1) "HeapError.told" [] (Value.str (Str.ofString "alikeheap.errors") 202) (Value.ref 48) (Value.none) : Obj) ::
  (⟨Value.type "tuple", Option.none, Data.seq #[Value.str (Str.ofString "what") 232], #[]⟩ : Obj) ::
  (⟨Value.type "dict", Option.none, Data.dict #[{ hash := PyData.keyHash P (Str.ofString "__module__"), key := Value.str (Str.ofString "__module__") 211, val := Value.str (Str.ofString "alikeheap.errors") 202 }, { hash := PyData.keyHash P (Str.ofString "__firstlineno__"), key := Value.str (Str.ofString "__firstlineno__") 215, val := Value.int 11 214 }, { hash := PyData.keyHash P (Str.ofString "__init__"), key := Value.str (Str.ofString "__init__") 224, val := Value.ref 42 }, { hash := PyData.keyHash P (Str.ofString "told"), key := Value.str (Str.ofString "told") 231, val := Value.ref 49 }, { hash := PyData.keyHash P (Str.ofString "__static_attributes__"), key := Value.str (Str.ofString "__static_attributes__") 233, val := Value.ref 50 }, { hash := PyData.keyHash P (Str.ofString "__weakref__"), key := Value.str (Str.ofString "__weakref__") 236, val := Value.ref 53 }, { hash := PyData.keyHash P (Str.ofString "__doc__"), key := Value.str (Str.ofString "__doc__") 237, val := Value.none }] 4, #[]⟩ : Obj) ::
  (⟨Value.type "type", Option.none, Data.cls { name := Str.ofString "HeapError", bases := [Value.type "Exception"], mro := [Value.ref 52, Value.type "Exception", Value.type "BaseException", Value.type "object"], ns := 51, qualname := Str.ofString "HeapError", subclasses := [Value.ref 65, Value.ref 77] }, #[Option.some (Value.ref 27), Option.none, Option.some (Value.str (Str.ofString "HeapError") 204), Option.some (Value.str (Str.ofString "HeapError") 212), Option.some (Value.builtin "Exception.__new__"), Option.some (Value.bool Bool.true)]⟩ : Obj) ::
  (⟨Value.type "getset_descriptor", Option.none, Data.fields #[Value.str (Str.ofString "__weakref__") 235, Value.ref 52, Value.builtin "ExceptionGroup.__weakref__", Value.none], #[]⟩ : Obj) ::
  (⟨Value.type "super", Option.none, Data.fields #[Value.ref 52, Value.ref 52, Value.ref 52], #[]⟩ : Obj) ::
  (⟨Value.type "builtin_function_or_method", Option.none, Data.fields #[Value.builtin "object.__init_subclass__", Value.ref 52], #[]⟩ : Obj) ::
  (⟨Value.type "tuple", Option.none, Data.seq #[Value.ref 52], #[]⟩ : Obj) ::
  (⟨Value.type "builtin_function_or_method", Option.none, Data.fields #[Value.builtin "type.__prepare__", Value.type "type"], #[]⟩ : Obj) ::
  (⟨Value.type "dict", Option.none, Data.dict #[{ hash := PyData.keyHash P (Str.ofString "__module__"), key := Value.str (Str.ofString "__module__") 249, val := Value.str (Str.ofString "alikeheap.errors") 202 }, { hash := PyData.keyHash P (Str.ofString "__qualname__"), key := Value.str (Str.ofString "__qualname__") 251, val := Value.str (Str.ofString "TermFault") 250 }, { hash := PyData.keyHash P (Str.ofString "__firstlineno__"), key := Value.str (Str.ofString "__firstlineno__") 253, val := Value.int 19 252 }, { hash := PyData.keyHash P (Str.ofString "__static_attributes__"), key := Value.str (Str.ofString "__static_attributes__") 254, val := Value.ref 63 }] 4, #[]⟩ : Obj) ::
  (⟨Value.type "tuple", Option.none, Data.seq #[], #[]⟩ : Obj) ::
  (⟨Value.none, Option.none, Data.fields #[], #[]⟩ : Obj) ::
  (⟨Value.type "code", Option.none, Data.fields #[Value.str (Str.ofString "TermFault") 244, Value.str (Str.ofString "TermFault") 245, Value.str (Str.ofString "/claim/cut.py") 246, Value.int 19 0, Value.int 0 0, Value.int 0 0, Value.int 0 0, Value.int 0 0, Value.ref 59, Value.bool Bool.false, Value.int 181 0, Value.ref 60, Value.none, Value.none, Value.none, Value.none, Value.int 247 0, Value.int 19 0, Value.str (Str.ofString "/claim/cut.py") 248], #[]⟩ : Obj) ::
  (⟨Value.type "frame", Option.none, Data.plain, #[Option.some (Value.ref 61), Option.some (Value.ref 3), Option.some (Value.ref 58), Option.none, Option.some (Value.str (Str.ofString "alikeheap.errors") 202), Option.none, Option.some (Value.ref 0)]⟩ : Obj) ::
  (⟨Value.type "tuple", Option.none, Data.seq #[], #[]⟩ : Obj) ::
  (⟨Value.type "dict", Option.none, Data.dict #[{ hash := PyData.keyHash P (Str.ofString "__module__"), key := Value.str (Str.ofString "__module__") 249, val := Value.str (Str.ofString "alikeheap.errors") 202 }, { hash := PyData.keyHash P (Str.ofString "__firstlineno__"), key := Value.str (Str.ofString "__firstlineno__") 253, val := Value.int 19 252 }, { hash := PyData.keyHash P (Str.ofString "__static_attributes__"), key := Value.str (Str.ofString "__static_attributes__") 254, val := Value.ref 63 }, { hash := PyData.keyHash P (Str.ofString "__doc__"), key := Value.str (Str.ofString "__doc__") 255, val := Value.none }] 2, #[]⟩ : Obj) ::
  (⟨Value.type "type", Option.none, Data.cls { name := Str.ofString "TermFault", bases := [Value.ref 52], mro := [Value.ref 65, Value.ref 52, Value.type "Exception", Value.type "BaseException", Value.type "object"], ns := 64, qualname := Str.ofString "TermFault" }, #[Option.some (Value.ref 56), Option.none, Option.some (Value.str (Str.ofString "TermFault") 242), Option.some (Value.str (Str.ofString "TermFault") 250), Option.some (Value.builtin "Exception.__new__"), Option.some (Value.bool Bool.true)]⟩ : Obj) ::
  (⟨Value.type "super", Option.none, Data.fields #[Value.ref 65, Value.ref 65, Value.ref 65], #[]⟩ : Obj) ::
  (⟨Value.type "builtin_function_or_method", Option.none, Data.fields #[Value.builtin "object.__init_subclass__", Value.ref 65], #[]⟩ : Obj) ::
  (⟨Value.type "tuple", Option.none, Data.seq #[Value.ref 52], #[]⟩ : Obj) ::
  (⟨Value.type "builtin_function_or_method", Option.none, Data.fields #[Value.builtin "type.__prepare__", Value.type "type"], #[]⟩ : Obj) ::
  (⟨Value.type "dict", Option.none, Data.dict #[{ hash := PyData.keyHash P (Str.ofString "__module__"), key := Value.str (Str.ofString "__module__") 265, val := Value.str (Str.ofString "alikeheap.errors") 202 }, { hash := PyData.keyHash P (Str.ofString "__qualname__"), key := Value.str (Str.ofString "__qualname__") 267, val := Value.str (Str.ofString "RuleFault") 266 }, { hash := PyData.keyHash P (Str.ofString "__firstlineno__"), key := Value.str (Str.ofString "__firstlineno__") 269, val := Value.int 21 268 }, { hash := PyData.keyHash P (Str.ofString "__static_attributes__"), key := Value.str (Str.ofString "__static_attributes__") 270, val := Value.ref 75 }] 4, #[]⟩ : Obj) ::
  (⟨Value.type "tuple", Option.none, Data.seq #[], #[]⟩ : Obj) ::
  (⟨Value.none, Option.none, Data.fields #[], #[]⟩ : Obj) ::
  (⟨Value.type "code", Option.none, Data.fields #[Value.str (Str.ofString "RuleFault") 260, Value.str (Str.ofString "RuleFault") 261, Value.str (Str.ofString "/claim/cut.py") 262, Value.int 21 0, Value.int 0 0, Value.int 0 0, Value.int 0 0, Value.int 0 0, Value.ref 71, Value.bool Bool.false, Value.int 181 0, Value.ref 72, Value.none, Value.none, Value.none, Value.none, Value.int 263 0, Value.int 21 0, Value.str (Str.ofString "/claim/cut.py") 264], #[]⟩ : Obj) ::
  (⟨Value.type "frame", Option.none, Data.plain, #[Option.some (Value.ref 73), Option.some (Value.ref 3), Option.some (Value.ref 70), Option.none, Option.some (Value.str (Str.ofString "alikeheap.errors") 202), Option.none, Option.some (Value.ref 0)]⟩ : Obj) ::
  (⟨Value.type "tuple", Option.none, Data.seq #[], #[]⟩ : Obj) ::
  (⟨Value.type "dict", Option.none, Data.dict #[{ hash := PyData.keyHash P (Str.ofString "__module__"), key := Value.str (Str.ofString "__module__") 265, val := Value.str (Str.ofString "alikeheap.errors") 202 }, { hash := PyData.keyHash P (Str.ofString "__firstlineno__"), key := Value.str (Str.ofString "__firstlineno__") 269, val := Value.int 21 268 }, { hash := PyData.keyHash P (Str.ofString "__static_attributes__"), key := Value.str (Str.ofString "__static_attributes__") 270, val := Value.ref 75 }, { hash := PyData.keyHash P (Str.ofString "__doc__"), key := Value.str (Str.ofString "__doc__") 271, val := Value.none }] 2, #[]⟩ : Obj) ::
  (⟨Value.type "type", Option.none, Data.cls { name := Str.ofString "RuleFault", bases := [Value.ref 52], mro := [Value.ref 77, Value.ref 52, Value.type "Exception", Value.type "BaseException", Value.type "object"], ns := 76, qualname := Str.ofString "RuleFault" }, #[Option.some (Value.ref 68), Option.none, Option.some (Value.str (Str.ofString "RuleFault") 258), Option.some (Value.str (Str.ofString "RuleFault") 266), Option.some (Value.builtin "Exception.__new__"), Option.some (Value.bool Bool.true)]⟩ : Obj) ::
  (⟨Value.type "super", Option.none, Data.fields #[Value.ref 77, Value.ref 77, Value.ref 77], #[]⟩ : Obj) ::
  (⟨Value.type "builtin_function_or_method", Option.none, Data.fields #[Value.builtin "object.__init_subclass__", Value.ref 77], #[]⟩ : Obj) ::
  (⟨Value.type "tuple", Option.none, Data.seq #[], #[]⟩ : Obj) ::
  (⟨Value.none, Option.none, Data.fields #[], #[]⟩ : Obj) ::
  (⟨Value.type "tuple", Option.none, Data.seq #[Value.str (Str.ofString "t") 279], #[]⟩ : Obj) ::
  (⟨Value.type "tuple", Option.none, Data.seq #[], #[]⟩ : Obj) ::
  fnT (sAt 8) "is_variable" ::
  (⟨Value.type "code", Option.none, Data.fields #[Value.str (Str.ofString "is_variable") 276, Value.str (Str.ofString "is_variable") 277, Value.str (Str.ofString "/claim/cut.py") 278, Value.int 24 0, Value.int 1 0, Value.int 0 0, Value.int 0 0, Value.int 3 0, Value.ref 80, Value.bool Bool.true, Value.int 181 0, Value.ref 81, Value.none, Value.ref 82, Value.ref 83, Value.ref 84, Value.int 280 0, Value.int 24 0, Value.str (Str.ofString "/claim/cut.py") 281], #[]⟩ : Obj) ::
  (fnO (sAt 8) "is_variable" [] (Value.str (Str.ofString "alikeheap.terms") 274) (Value.ref 85) (Value.none) : Obj) ::
  (⟨Value.type "tuple", Option.none, Data.seq #[], #[]⟩ : Obj) ::
  (⟨Value.none, Option.none, Data.fields #[], #[]⟩ : Obj) ::
  fnT (sAt 9) "variables" ::
  (⟨Value.type "code", Option.none, Data.fields #[Value.str (Str.ofString "variables") 283, Value.str (Str.ofString "variables") 284, Value.str (Str.ofString "/claim/cut.py") 285, Value.int 26 0, Value.int 1 0, Value.int 0 0, Value.int 0 0, Value.int 3 0, Value.ref 87, Value.bool Bool.true, Value.int 181 0, Value.ref 88, Value.none, Value.none, Value.none, Value.ref 89, Value.int 286 0, Value.int 26 0, Value.str (Str.ofString "/claim/cut.py") 287], #[]⟩ : Obj) ::
  (fnO (sAt 9) "variables" [] (Value.str (Str.ofString "alikeheap.terms") 274) (Value.ref 90) (Value.none) : Obj) ::
  (⟨Value.type "tuple", Option.none, Data.seq #[], #[]⟩ : Obj) ::
  (⟨Value.none, Option.none, Data.fields #[], #[]⟩ : Obj) ::
  fnT (sAt 10) "parts" ::
  (⟨Value.type "code", Option.none, Data.fields #[Value.str (Str.ofString "parts") 289, Value.str (Str.ofString "parts") 290, Value.str (Str.ofString "/claim/cut.py") 291, Value.int 28 0, Value.int 1 0, Value.int 0 0, Value.int 0 0, Value.int 3 0, Value.ref 92, Value.bool Bool.true, Value.int 181 0, Value.ref 93, Value.none, Value.none, Value.none, Value.ref 94, Value.int 292 0, Value.int 28 0, Value.str (Str.ofString "/claim/cut.py") 293], #[]⟩ : Obj) ::
  (fnO (sAt 10) "parts" [] (Value.str (Str.ofString "alikeheap.terms") 274) (Value.ref 95) (Value.none) : Obj) ::
  (⟨Value.type "tuple", Option.none, Data.seq #[], #[]⟩ : Obj) ::
  (⟨Value.type "builtin_function_or_method", Option.none, Data.fields #[Value.builtin "type.__prepare__", Value.type "type"], #[]⟩ : Obj) ::
  (⟨Value.type "dict", Option.none, Data.dict #[{ hash := PyData.keyHash P (Str.ofString "__module__"), key := Value.str (Str.ofString "__module__") 304, val := Value.str (Str.ofString "alikeheap.rules") 295 }, { hash := PyData.keyHash P (Str.ofString "__qualname__"), key := Value.str (Str.ofString "__qualname__") 306, val := Value.str (Str.ofString "Rule") 305 }, { hash := PyData.keyHash P (Str.ofString "__firstlineno__"), key := Value.str (Str.ofString "__firstlineno__") 308, val := Value.int 34 307 }, { hash := PyData.keyHash P (Str.ofString "__init__"), key := Value.str (Str.ofString "__init__") 314, val := Value.ref 108 }, { hash := PyData.keyHash P (Str.ofString "turned"), key := Value.str (Str.ofString "turned") 321, val := Value.ref 115 }, { hash := PyData.keyHash P (Str.ofString "__static_attributes__"), key := Value.str (Str.ofString "__static_attributes__") 326, val := Value.ref 116 }] 6, #[]⟩ : Obj) ::
  (⟨Value.type "tuple", Option.none, Data.seq #[], #[]⟩ : Obj) ::
  (⟨Value.none, Option.none, Data.fields #[Value.int 36 0, Value.int 4 0, Value.ref 107, Value.int 52 0, Value.int 4 0, Value.ref 114], #[]⟩ : Obj) ::
  (⟨Value.type "code", Option.none, Data.fields #[Value.str (Str.ofString "Rule") 299, Value.str (Str.ofString "Rule") 300, Value.str (Str.ofString "/claim/cut.py") 301, Value.int 34 0, Value.int 0 0, Value.int 0 0, Value.int 0 0, Value.int 0 0, Value.ref 100, Value.bool Bool.false, Value.int 181 0, Value.ref 101, Value.none, Value.none, Value.none, Value.none, Value.int 302 0, Value.int 34 0, Value.str (Str.ofString "/claim/cut.py") 303], #[]⟩ : Obj) ::
  (⟨Value.type "frame", Option.none, Data.plain, #[Option.some (Value.ref 102), Option.some (Value.ref 3), Option.some (Value.ref 99), Option.none, Option.some (Value.str (Str.ofString "alikeheap.rules") 295), Option.none, Option.some (Value.ref 0)]⟩ : Obj) ::
  (⟨Value.type "tuple", Option.none, Data.seq #[], #[]⟩ : Obj) ::
  (⟨Value.none, Option.none, Data.fields #[], #[]⟩ : Obj) ::
  fnT (mAt 12 0) "Rule.__init__" ::
  (⟨Value.type "code", Option.none, Data.fields #[Value.str (Str.ofString "__init__") 309, Value.str (Str.ofString "Rule.__init__") 310, Value.str (Str.ofString "/claim/cut.py") 311, Value.int 36 0, Value.int 5 0, Value.int 0 0, Value.int 0 0, Value.int 3 0, Value.ref 104, Value.bool Bool.true, Value.int 181 0, Value.ref 105, Value.none, Value.none, Value.none, Value.ref 106, Value.int 312 0, Value.int 36 0, Value.str (Str.ofString "/claim/cut.py") 313], #[]⟩ : Obj) ::
  (fnO (mAt 12 0) "Rule.__init__" [] (Value.str (Str.ofString "alikeheap.rules") 295) (Value.ref 107) (Value.none) : Obj) ::
  (⟨Value.type "tuple", Option.none, Data.seq #[], #[]⟩ : Obj) ::
  (⟨Value.none, Option.none, Data.fields #[], #[]⟩ : Obj) ::
  (⟨Value.type "tuple", Option.none, Data.seq #[Value.str (Str.ofString "self") 318], #[]⟩ : Obj) ::
  (⟨Value.type "tuple", Option.none, Data.seq #[], #[]⟩ : Obj) ::
  fnT (mAt 12 1) "Rule.turned" ::
  (⟨Value.type "code", Option.none, Data.fields #[Value.str (Str.ofString "turned") 315, Value.str (Str.ofString "Rule.turned") 316, Value.str (Str.ofString "/claim/cut.py") 317, Value.int 52 0, Value.int 1 0, Value.int 0 0, Value.int 0 0, Value.int 3 0, Value.ref 109, Value.bool Bool.true, Value.int 181 0, Value.ref 110, Value.none, Value.ref 111, Value.ref 112, Value.ref 113, Value.int 319 0, Value.int 52 0, Value.str (Str.ofString "/claim/cut.py") 320], #[]⟩ : Obj) ::
  (fnO (mAt 12 1) "Rule.turned" [] (Value.str (Str.ofString "alikeheap.rules") 295) (Value.ref 114) (Value.none) : Obj) ::
  (⟨Value.type "tuple", Option.none, Data.seq #[Value.str (Str.ofString "left") 322, Value.str (Str.ofString "name") 323, Value.str (Str.ofString "needs") 324, Value.str (Str.ofString "right") 325], #[]⟩ : Obj) ::
  (⟨Value.type "dict", Option.none, Data.dict #[{ hash := PyData.keyHash P (Str.ofString "__module__"), key := Value.str (Str.ofString "__module__") 304, val := Value.str (Str.ofString "alikeheap.rules") 295 }, { hash := PyData.keyHash P (Str.ofString "__firstlineno__"), key := Value.str (Str.ofString "__firstlineno__") 308, val := Value.int 34 307 }, { hash := PyData.keyHash P (Str.ofString "__init__"), key := Value.str (Str.ofString "__init__") 314, val := Value.ref 108 }, { hash := PyData.keyHash P (Str.ofString "turned"), key := Value.str (Str.ofString "turned") 321, val := Value.ref 115 }, { hash := PyData.keyHash P (Str.ofString "__static_attributes__"), key := Value.str (Str.ofString "__static_attributes__") 326, val := Value.ref 116 }, { hash := PyData.keyHash P (Str.ofString "__dict__"), key := Value.str (Str.ofString "__dict__") 328, val := Value.ref 119 }, { hash := PyData.keyHash P (Str.ofString "__weakref__"), key := Value.str (Str.ofString "__weakref__") 330, val := Value.ref 120 }, { hash := PyData.keyHash P (Str.ofString "__doc__"), key := Value.str (Str.ofString "__doc__") 331, val := Value.none }] 4, #[]⟩ : Obj) ::
  (⟨Value.type "type", Option.none, Data.cls { name := Str.ofString "Rule", bases := [Value.type "object"], mro := [Value.ref 118, Value.type "object"], ns := 117, qualname := Str.ofString "Rule" }, #[Option.none, Option.none, Option.some (Value.str (Str.ofString "Rule") 297), Option.some (Value.str (Str.ofString "Rule") 305), Option.some (Value.builtin "object.__new__"), Option.some (Value.bool Bool.true)]⟩ : Obj) ::
  (⟨Value.type "getset_descriptor", Option.none, Data.fields #[Value.str (Str.ofString "__dict__") 327, Value.ref 118, Value.builtin "function.__dict__", Value.builtin "function.__dict__#set"], #[]⟩ : Obj) ::
  (⟨Value.type "getset_descriptor", Option.none, Data.fields #[Value.str (Str.ofString "__weakref__") 329, Value.ref 118, Value.builtin "ExceptionGroup.__weakref__", Value.none], #[]⟩ : Obj) ::
  (⟨Value.type "super", Option.none, Data.fields #[Value.ref 118, Value.ref 118, Value.ref 118], #[]⟩ : Obj) ::
  (⟨Value.type "builtin_function_or_method", Option.none, Data.fields #[Value.builtin "object.__init_subclass__", Value.ref 118], #[]⟩ : Obj) ::
  (⟨Value.type "tuple", Option.none, Data.seq #[Value.str (Str.ofString "?a") 336], #[]⟩ : Obj) ::
  (⟨Value.type "tuple", Option.none, Data.seq #[Value.str (Str.ofString "?b") 337], #[]⟩ : Obj) ::
  (⟨Value.type "tuple", Option.none, Data.seq #[Value.str (Str.ofString "?c") 338], #[]⟩ : Obj) ::
  (⟨Value.type "tuple", Option.none, Data.seq #[Value.ref 123, Value.ref 124, Value.ref 125], #[]⟩ : Obj) ::
  (⟨Value.type "tuple_iterator", Option.none, Data.fields #[Value.none, Value.int 3 0], #[]⟩ : Obj) ::
  (⟨Value.type "tuple", Option.none, Data.seq #[], #[]⟩ : Obj) ::
  (⟨Value.type "StopIteration", Option.none, Data.fields #[Value.ref 128, Value.none, Value.none, Value.none, Value.bool Bool.false, Value.none], #[]⟩ : Obj) ::
  (⟨Value.type "tuple", Option.none, Data.seq #[], #[]⟩ : Obj) ::
  (⟨Value.none, Option.none, Data.fields #[], #[]⟩ : Obj) ::
  (⟨Value.type "tuple", Option.none, Data.seq #[Value.str (Str.ofString "term") 345, Value.str (Str.ofString "env") 346], #[]⟩ : Obj) ::
  (⟨Value.type "tuple", Option.none, Data.seq #[], #[]⟩ : Obj) ::
  fnT (sAt 15) "named_value" ::
  (⟨Value.type "code", Option.none, Data.fields #[Value.str (Str.ofString "named_value") 342, Value.str (Str.ofString "named_value") 343, Value.str (Str.ofString "/claim/cut.py") 344, Value.int 56 0, Value.int 2 0, Value.int 0 0, Value.int 0 0, Value.int 3 0, Value.ref 130, Value.bool Bool.true, Value.int 181 0, Value.ref 131, Value.none, Value.ref 132, Value.ref 133, Value.ref 134, Value.int 347 0, Value.int 56 0, Value.str (Str.ofString "/claim/cut.py") 348], #[]⟩ : Obj) ::
  (fnO (sAt 15) "named_value" [] (Value.str (Str.ofString "alikeheap.theories") 334) (Value.ref 135) (Value.none) : Obj) ::
  (⟨Value.type "tuple", Option.none, Data.seq #[], #[]⟩ : Obj) ::
  (⟨Value.none, Option.none, Data.fields #[], #[]⟩ : Obj) ::
  (⟨Value.type "tuple", Option.none, Data.seq #[Value.str (Str.ofString "op") 353, Value.str (Str.ofString "unit") 354], #[]⟩ : Obj) ::
  (⟨Value.type "tuple", Option.none, Data.seq #[], #[]⟩ : Obj) ::
  fnT (sAt 16) "laws_of" ::
  (⟨Value.type "code", Option.none, Data.fields #[Value.str (Str.ofString "laws_of") 350, Value.str (Str.ofString "laws_of") 351, Value.str (Str.ofString "/claim/cut.py") 352, Value.int 60 0, Value.int 2 0, Value.int 0 0, Value.int 0 0, Value.int 3 0, Value.ref 137, Value.bool Bool.true, Value.int 181 0, Value.ref 138, Value.none, Value.ref 139, Value.ref 140, Value.ref 141, Value.int 355 0, Value.int 60 0, Value.str (Str.ofString "/claim/cut.py") 356], #[]⟩ : Obj) ::
  (fnO (sAt 16) "laws_of" [] (Value.str (Str.ofString "alikeheap.theories") 334) (Value.ref 142) (Value.none) : Obj) ::
  (⟨Value.type "tuple", Option.none, Data.seq #[], #[]⟩ : Obj) ::
  (⟨Value.type "builtin_function_or_method", Option.none, Data.fields #[Value.builtin "type.__prepare__", Value.type "type"], #[]⟩ : Obj) ::
  (⟨Value.type "dict", Option.none, Data.dict #[{ hash := PyData.keyHash P (Str.ofString "__module__"), key := Value.str (Str.ofString "__module__") 365, val := Value.str (Str.ofString "alikeheap.theories") 334 }, { hash := PyData.keyHash P (Str.ofString "__qualname__"), key := Value.str (Str.ofString "__qualname__") 367, val := Value.str (Str.ofString "Ring") 366 }, { hash := PyData.keyHash P (Str.ofString "__firstlineno__"), key := Value.str (Str.ofString "__firstlineno__") 369, val := Value.int 62 368 }, { hash := PyData.keyHash P (Str.ofString "__init__"), key := Value.str (Str.ofString "__init__") 377, val := Value.ref 157 }, { hash := PyData.keyHash P (Str.ofString "rules"), key := Value.str (Str.ofString "rules") 385, val := Value.ref 164 }, { hash := PyData.keyHash P (Str.ofString "value"), key := Value.str (Str.ofString "value") 391, val := Value.ref 169 }, { hash := PyData.keyHash P (Str.ofString "__static_attributes__"), key := Value.str (Str.ofString "__static_attributes__") 393, val := Value.ref 170 }] 7, #[]⟩ : Obj) ::
  (⟨Value.type "tuple", Option.none, Data.seq #[], #[]⟩ : Obj) ::
  (⟨Value.none, Option.none, Data.fields #[Value.int 64 0, Value.int 4 0, Value.ref 156, Value.int 67 0, Value.int 4 0, Value.ref 163, Value.int 71 0, Value.int 4 0, Value.ref 168], #[]⟩ : Obj) ::
  (⟨Value.type "code", Option.none, Data.fields #[Value.str (Str.ofString "Ring") 360, Value.str (Str.ofString "Ring") 361, Value.str (Str.ofString "/claim/cut.py") 362, Value.int 62 0, Value.int 0 0, Value.int 0 0, Value.int 0 0, Value.int 0 0, Value.ref 147, Value.bool Bool.false, Value.int 181 0, Value.ref 148, Value.none, Value.none, Value.none, Value.none, Value.int 363 0, Value.int 62 0, Value.str (Str.ofString "/claim/cut.py") 364], #[]⟩ : Obj) ::
  (⟨Value.type "frame", Option.none, Data.plain, #[Option.some (Value.ref 149), Option.some (Value.ref 3), Option.some (Value.ref 146), Option.none, Option.some (Value.str (Str.ofString "alikeheap.theories") 334), Option.none, Option.some (Value.ref 0)]⟩ : Obj) ::
  (⟨Value.type "tuple", Option.none, Data.seq #[], #[]⟩ : Obj) ::
  (⟨Value.none, Option.none, Data.fields #[], #[]⟩ : Obj) ::
  (⟨Value.type "tuple", Option.none, Data.seq #[Value.str (Str.ofString "self") 373, Value.str (Str.ofString "n") 374], #[]⟩ : Obj) ::
  (⟨Value.type "tuple", Option.none, Data.seq #[], #[]⟩ : Obj) ::
  fnT (mAt 17 0) "Ring.__init__" ::
  (⟨Value.type "code", Option.none, Data.fields #[Value.str (Str.ofString "__init__") 370, Value.str (Str.ofString "Ring.__init__") 371, Value.str (Str.ofString "/claim/cut.py") 372, Value.int 64 0, Value.int 2 0, Value.int 0 0, Value.int 0 0, Value.int 3 0, Value.ref 151, Value.bool Bool.true, Value.int 181 0, Value.ref 152, Value.none, Value.ref 153, Value.ref 154, Value.ref 155, Value.int 375 0, Value.int 64 0, Value.str (Str.ofString "/claim/cut.py") 376], #[]⟩ : Obj) ::
  (fnO (mAt 17 0) "Ring.__init__" [] (Value.str (Str.ofString "alikeheap.theories") 334) (Value.ref 156) (Value.none) : Obj) ::
  (⟨Value.type "tuple", Option.none, Data.seq #[], #[]⟩ : Obj) ::
  (⟨Value.none, Option.none, Data.fields #[], #[]⟩ : Obj) ::
  (⟨Value.type "tuple", Option.none, Data.seq #[Value.str (Str.ofString "self") 381, Value.str (Str.ofString "zero") 382], #[]⟩ : Obj) ::
  (⟨Value.type "tuple", Option.none, Data.seq #[], #[]⟩ : Obj) ::
  fnT (mAt 17 1) "Ring.rules" ::
  (⟨Value.type "code", Option.none, Data.fields #[Value.str (Str.ofString "rules") 378, Value.str (Str.ofString "Ring.rules") 379, Value.str (Str.ofString "/claim/cut.py") 380, Value.int 67 0, Value.int 1 0, Value.int 0 0, Value.int 0 0, Value.int 3 0, Value.ref 158, Value.bool Bool.true, Value.int 181 0, Value.ref 159, Value.none, Value.ref 160, Value.ref 161, Value.ref 162, Value.int 383 0, Value.int 67 0, Value.str (Str.ofString "/claim/cut.py") 384], #[]⟩ : Obj) ::
  (fnO (mAt 17 1) "Ring.rules" [] (Value.str (Str.ofString "alikeheap.theories") 334) (Value.ref 163) (Value.none) : Obj) ::
  (⟨Value.type "tuple", Option.none, Data.seq #[], #[]⟩ : Obj) ::
  (⟨Value.none, Option.none, Data.fields #[], #[]⟩ : Obj) ::
  fnT (mAt 17 2) "Ring.value" ::
  (⟨Value.type "code", Option.none, Data.fields #[Value.str (Str.ofString "value") 386, Value.str (Str.ofString "Ring.value") 387, Value.str (Str.ofString "/claim/cut.py") 388, Value.int 71 0, Value.int 3 0, Value.int 0 0, Value.int 0 0, Value.int 3 0, Value.ref 165, Value.bool Bool.true, Value.int 181 0, Value.ref 166, Value.none, Value.none, Value.none, Value.ref 167, Value.int 389 0, Value.int 71 0, Value.str (Str.ofString "/claim/cut.py") 390], #[]⟩ : Obj) ::
  (fnO (mAt 17 2) "Ring.value" [] (Value.str (Str.ofString "alikeheap.theories") 334) (Value.ref 168) (Value.none) : Obj) ::
  (⟨Value.type "tuple", Option.none, Data.seq #[Value.str (Str.ofString "n") 392], #[]⟩ : Obj) ::
  (⟨Value.type "dict", Option.none, Data.dict #[{ hash := PyData.keyHash P (Str.ofString "__module__"), key := Value.str (Str.ofString "__module__") 365, val := Value.str (Str.ofString "alikeheap.theories") 334 }, { hash := PyData.keyHash P (Str.ofString "__firstlineno__"), key := Value.str (Str.ofString "__firstlineno__") 369, val := Value.int 62 368 }, { hash := PyData.keyHash P (Str.ofString "__init__"), key := Value.str (Str.ofString "__init__") 377, val := Value.ref 157 }, { hash := PyData.keyHash P (Str.ofString "rules"), key := Value.str (Str.ofString "rules") 385, val := Value.ref 164 }, { hash := PyData.keyHash P (Str.ofString "value"), key := Value.str (Str.ofString "value") 391, val := Value.ref 169 }, { hash := PyData.keyHash P (Str.ofString "__static_attributes__"), key := Value.str (Str.ofString "__static_attributes__") 393, val := Value.ref 170 }, { hash := PyData.keyHash P (Str.ofString "__dict__"), key := Value.str (Str.ofString "__dict__") 395, val := Value.ref 173 }, { hash := PyData.keyHash P (Str.ofString "__weakref__"), key := Value.str (Str.ofString "__weakref__") 397, val := Value.ref 174 }, { hash := PyData.keyHash P (Str.ofString "__doc__"), key := Value.str (Str.ofString "__doc__") 398, val := Value.none }] 4, #[]⟩ : Obj) ::
  (⟨Value.type "type", Option.none, Data.cls { name := Str.ofString "Ring", bases := [Value.type "object"], mro := [Value.ref 172, Value.type "object"], ns := 171, qualname := Str.ofString "Ring" }, #[Option.none, Option.none, Option.some (Value.str (Str.ofString "Ring") 358), Option.some (Value.str (Str.ofString "Ring") 366), Option.some (Value.builtin "object.__new__"), Option.some (Value.bool Bool.true)]⟩ : Obj) ::
  (⟨Value.type "getset_descriptor", Option.none, Data.fields #[Value.str (Str.ofString "__dict__") 394, Value.ref 172, Value.builtin "function.__dict__", Value.builtin "function.__dict__#set"], #[]⟩ : Obj) ::
  (⟨Value.type "getset_descriptor", Option.none, Data.fields #[Value.str (Str.ofString "__weakref__") 396, Value.ref 172, Value.builtin "ExceptionGroup.__weakref__", Value.none], #[]⟩ : Obj) ::
  (⟨Value.type "super", Option.none, Data.fields #[Value.ref 172, Value.ref 172, Value.ref 172], #[]⟩ : Obj) ::
  (⟨Value.type "builtin_function_or_method", Option.none, Data.fields #[Value.builtin "object.__init_subclass__", Value.ref 172], #[]⟩ : Obj) ::
  (⟨Value.type "tuple", Option.none, Data.seq #[], #[]⟩ : Obj) ::
  (⟨Value.none, Option.none, Data.fields #[], #[]⟩ : Obj) ::
  (⟨Value.type "tuple", Option.none, Data.seq #[Value.str (Str.ofString "pool") 406, Value.str (Str.ofString "many") 407], #[]⟩ : Obj) ::
  (⟨Value.type "tuple", Option.none, Data.seq #[], #[]⟩ : Obj) ::
  fnT (sAt 19) "_law_pick" ::
  (⟨Value.type "code", Option.none, Data.fields #[Value.str (Str.ofString "_law_pick") 403, Value.str (Str.ofString "_law_pick") 404, Value.str (Str.ofString "/claim/cut.py") 405, Value.int 82 0, Value.int 2 0, Value.int 0 0, Value.int 0 0, Value.int 3 0, Value.ref 177, Value.bool Bool.true, Value.int 181 0, Value.ref 178, Value.none, Value.ref 179, Value.ref 180, Value.ref 181, Value.int 408 0, Value.int 82 0, Value.str (Str.ofString "/claim/cut.py") 409], #[]⟩ : Obj) ::
  (fnO (sAt 19) "_law_pick" [] (Value.str (Str.ofString "law_pq0039_01") 401) (Value.ref 182) (Value.none) : Obj) ::
  (⟨Value.type "tuple", Option.none, Data.seq #[], #[]⟩ : Obj) ::
  (⟨Value.none, Option.none, Data.fields #[], #[]⟩ : Obj) ::
  (⟨Value.type "tuple", Option.none, Data.seq #[Value.str (Str.ofString "n") 414, Value.str (Str.ofString "begin") 415, Value.str (Str.ofString "many") 416, Value.str (Str.ofString "spot") 417, Value.str (Str.ofString "step") 418], #[]⟩ : Obj) ::
  (⟨Value.type "tuple", Option.none, Data.seq #[], #[]⟩ : Obj) ::
  fnT (sAt 20) "_law_gone" ::
  (⟨Value.type "code", Option.none, Data.fields #[Value.str (Str.ofString "_law_gone") 411, Value.str (Str.ofString "_law_gone") 412, Value.str (Str.ofString "/claim/cut.py") 413, Value.int 85 0, Value.int 3 0, Value.int 0 0, Value.int 0 0, Value.int 3 0, Value.ref 184, Value.bool Bool.true, Value.int 181 0, Value.ref 185, Value.none, Value.ref 186, Value.ref 187, Value.ref 188, Value.int 419 0, Value.int 85 0, Value.str (Str.ofString "/claim/cut.py") 420], #[]⟩ : Obj) ::
  (fnO (sAt 20) "_law_gone" [] (Value.str (Str.ofString "law_pq0039_01") 401) (Value.ref 189) (Value.none) : Obj) ::
  (⟨Value.type "tuple", Option.none, Data.seq #[], #[]⟩ : Obj) ::
  (⟨Value.none, Option.none, Data.fields #[], #[]⟩ : Obj) ::
  fnT (sAt 21) "_law_worth" ::
  (⟨Value.type "code", Option.none, Data.fields #[Value.str (Str.ofString "_law_worth") 422, Value.str (Str.ofString "_law_worth") 423, Value.str (Str.ofString "/claim/cut.py") 424, Value.int 90 0, Value.int 3 0, Value.int 0 0, Value.int 0 0, Value.int 3 0, Value.ref 191, Value.bool Bool.true, Value.int 181 0, Value.ref 192, Value.none, Value.none, Value.none, Value.ref 193, Value.int 425 0, Value.int 90 0, Value.str (Str.ofString "/claim/cut.py") 426], #[]⟩ : Obj) ::
  (fnO (sAt 21) "_law_worth" [] (Value.str (Str.ofString "law_pq0039_01") 401) (Value.ref 194) (Value.none) : Obj) ::
  (⟨Value.type "tuple", Option.none, Data.seq #[], #[]⟩ : Obj) ::
  (⟨Value.none, Option.none, Data.fields #[], #[]⟩ : Obj) ::
  fnT (sAt 22) "_law_names" ::
  (⟨Value.type "code", Option.none, Data.fields #[Value.str (Str.ofString "_law_names") 428, Value.str (Str.ofString "_law_names") 429, Value.str (Str.ofString "/claim/cut.py") 430, Value.int 108 0, Value.int 1 0, Value.int 0 0, Value.int 0 0, Value.int 3 0, Value.ref 196, Value.bool Bool.true, Value.int 181 0, Value.ref 197, Value.none, Value.none, Value.none, Value.ref 198, Value.int 431 0, Value.int 108 0, Value.str (Str.ofString "/claim/cut.py") 432], #[]⟩ : Obj) ::
  (fnO (sAt 22) "_law_names" [] (Value.str (Str.ofString "law_pq0039_01") 401) (Value.ref 199) (Value.none) : Obj) ::
  (⟨Value.type "tuple", Option.none, Data.seq #[], #[]⟩ : Obj) ::
  (⟨Value.none, Option.none, Data.fields #[], #[]⟩ : Obj) ::
  (⟨Value.type "tuple", Option.none, Data.seq #[Value.str (Str.ofString "names") 437, Value.str (Str.ofString "n") 438, Value.str (Str.ofString "found") 439, Value.str (Str.ofString "name") 440, Value.str (Str.ofString "late") 441, Value.str (Str.ofString "world") 442, Value.str (Str.ofString "place") 443, Value.str (Str.ofString "more") 444], #[]⟩ : Obj) ::
  (⟨Value.type "tuple", Option.none, Data.seq #[], #[]⟩ : Obj) ::
  fnT (sAt 23) "_law_worlds" ::
  (⟨Value.type "code", Option.none, Data.fields #[Value.str (Str.ofString "_law_worlds") 434, Value.str (Str.ofString "_law_worlds") 435, Value.str (Str.ofString "/claim/cut.py") 436, Value.int 112 0, Value.int 2 0, Value.int 0 0, Value.int 0 0, Value.int 3 0, Value.ref 201, Value.bool Bool.true, Value.int 181 0, Value.ref 202, Value.none, Value.ref 203, Value.ref 204, Value.ref 205, Value.int 445 0, Value.int 112 0, Value.str (Str.ofString "/claim/cut.py") 446], #[]⟩ : Obj) ::
  (fnO (sAt 23) "_law_worlds" [] (Value.str (Str.ofString "law_pq0039_01") 401) (Value.ref 206) (Value.none) : Obj) ::
  (⟨Value.type "tuple", Option.none, Data.seq #[], #[]⟩ : Obj) ::
  (⟨Value.none, Option.none, Data.fields #[], #[]⟩ : Obj) ::
  fnT (sAt 24) "_law_drawn" ::
  (⟨Value.type "code", Option.none, Data.fields #[Value.str (Str.ofString "_law_drawn") 448, Value.str (Str.ofString "_law_drawn") 449, Value.str (Str.ofString "/claim/cut.py") 450, Value.int 123 0, Value.int 2 0, Value.int 0 0, Value.int 0 0, Value.int 3 0, Value.ref 208, Value.bool Bool.true, Value.int 181 0, Value.ref 209, Value.none, Value.none, Value.none, Value.ref 210, Value.int 451 0, Value.int 123 0, Value.str (Str.ofString "/claim/cut.py") 452], #[]⟩ : Obj) ::
  (fnO (sAt 24) "_law_drawn" [] (Value.str (Str.ofString "law_pq0039_01") 401) (Value.ref 211) (Value.none) : Obj) ::
  (⟨Value.type "tuple", Option.none, Data.seq #[], #[]⟩ : Obj) ::
  (⟨Value.none, Option.none, Data.fields #[], #[]⟩ : Obj) ::
  (⟨Value.type "tuple", Option.none, Data.seq #[Value.str (Str.ofString "ring") 457, Value.str (Str.ofString "term") 458, Value.str (Str.ofString "env") 459], #[]⟩ : Obj) ::
  (⟨Value.type "tuple", Option.none, Data.seq #[], #[]⟩ : Obj) ::
  fnT (sAt 25) "_law_is_refused" ::
  (⟨Value.type "code", Option.none, Data.fields #[Value.str (Str.ofString "_law_is_refused") 454, Value.str (Str.ofString "_law_is_refused") 455, Value.str (Str.ofString "/claim/cut.py") 456, Value.int 129 0, Value.int 3 0, Value.int 0 0, Value.int 0 0, Value.int 3 0, Value.ref 213, Value.bool Bool.true, Value.int 181 0, Value.ref 214, Value.none, Value.ref 215, Value.ref 216, Value.ref 217, Value.int 460 0, Value.int 129 0, Value.str (Str.ofString "/claim/cut.py") 461], #[]⟩ : Obj) ::
  (fnO (sAt 25) "_law_is_refused" [] (Value.str (Str.ofString "law_pq0039_01") 401) (Value.ref 218) (Value.none) : Obj) ::
  (⟨Value.type "tuple", Option.none, Data.seq #[], #[]⟩ : Obj) ::
  (⟨Value.none, Option.none, Data.fields #[], #[]⟩ : Obj) ::
  fnT (sAt 26) "law" ::
  (⟨Value.type "code", Option.none, Data.fields #[Value.str (Str.ofString "law") 463, Value.str (Str.ofString "law") 464, Value.str (Str.ofString "/claim/cut.py") 465, Value.int 135 0, Value.int 1 0, Value.int 0 0, Value.int 0 0, Value.int 3 0, Value.ref 220, Value.bool Bool.true, Value.int 181 0, Value.ref 221, Value.none, Value.none, Value.none, Value.ref 222, Value.int 466 0, Value.int 135 0, Value.str (Str.ofString "/claim/cut.py") 467], #[]⟩ : Obj) ::
  (fnO (sAt 26) "law" [] (Value.str (Str.ofString "law_pq0039_01") 401) (Value.ref 223) (Value.none) : Obj) :: []⟩, {}⟩
/-- the rest of the top's run, at a world -/
noncomputable def RunAt (w : World) : Prop := ∀ os : OsState, topRun treeTable PySem.Challenge.rw_pq0039_01.prog w 11 (some (.ref 6)) 960 ⟨hdH1 w.params, #[], {}, 297, os⟩ (restOf hdTwo hdEnv hdCode ⟨33, 0, 33, 8⟩ hdB) = some ⟨hdH2 w.params, #[], {}, 469, os⟩
theorem run_false (w : World) : RunAt (w.withFollow "special-get-raises" false) := by
  intro os
  rw [Fast.te14082659384304107361, Fast.te14364793385576792824]
  kernel_rfl
theorem run_true (w : World) : RunAt (w.withFollow "special-get-raises" true) := by
  intro os
  rw [Fast.te14082659384304107361, Fast.te14364793385576792824]
  kernel_rfl
theorem hd_run (w : World) (os : OsState) : topRun treeTable PySem.Challenge.rw_pq0039_01.prog w 11 (some (.ref 6)) (12 + (1 + (890 + 960))) ⟨boot_heap w.params, #[], boot_drawn, boot_toks, os⟩ (topStub PySem.Challenge.rw_pq0039_01.prog) = some ⟨hdH2 w.params, #[], {}, 469, os⟩ := by
  have e0 : behindTheImports PySem.Challenge.rw_pq0039_01.prog = hdOne ++ hdTwo := by kernel_rfl
  have k1 := piece_app (l := hdOne) (rest := hdTwo) (run_one w os) (byRow2 "special-get-raises" (P := RunAt) run_false run_true w os)
  rw [← e0] at k1
  exact go_top (run_pre w os) (piece_block (b := behindTheImports PySem.Challenge.rw_pq0039_01.prog) (run_block w os) k1)
theorem hd_looks (w : World) : (fun os => ((staticsOk (importedModules PySem.Challenge.rw_pq0039_01.prog.main.body) (boot_heap w.params) (hdH2 w.params) && namesBound PySem.Challenge.rw_pq0039_01.prog (hdH2 w.params) && gensDone ⟨hdH2 w.params, #[], {}, 469, os⟩ && laidKept (boot_heap w.params) (hdH2 w.params)),
    openSeen Mine.hd.view_39 hdLoose (importedModules PySem.Challenge.rw_pq0039_01.prog.main.body) (fun s => xlAt Mine.hd.view_39 hdLv s && recOk PySem.Challenge.rw_pq0039_01.row.toRowW.records s) true ⟨hdH2 w.params, #[], {}, 469, os⟩, hdAs.map (⟨hdH2 w.params, #[], {}, 469, os⟩ : Shared).heap.get?)) =
    fun _ => (true, openGood Mine.hd.view_39 hdLoose, (Mine.hd.heap_39 w.params).map fun p => some p.2) := by
  rw [Fast.te4187177175401517315]
  kernel_rfl
theorem hd_left : LeftO PySem.Challenge.rw_pq0039_01.prog Mine.hd.view_39 hdLoose (fun s => xlAt Mine.hd.view_39 hdLv s && recOk PySem.Challenge.rw_pq0039_01.row.toRowW.records s) (fun s => hdAs.map s.heap.get?) (fun w => (Mine.hd.heap_39 w.params).map fun p => some p.2) 3742 :=
  LeftO.of_pieces (boot_open (by kernel_rfl) (by rfl) (fun s => by kernel_rfl)) (fun w => by kernel_rfl) hd_run (by rfl) hd_looks
theorem hd_said : PySem.Challenge.rw_pq0039_01.wellSaid = true := by
  rw [Fast.te9446332074065402090]
  kernel_rfl
theorem hd_as (P : Params) : hdAs = (Mine.hd.heap_39 P).map (·.1) := by kernel_rfl
/-- the goal under a name, while facts are taken apart -/
theorem hide9 {P : Prop} (k : ∀ G : Prop, (P → G) → G) : P := k P id
theorem roomL {a b c m : Nat} (h : a + b < m) (e : Nat.ble c b = true) : a + c < m := Nat.lt_of_le_of_lt (Nat.add_le_add_left (Nat.le_of_ble_eq_true e) a) h
local macro_rules | `(tactic| obtain $p:rcasesPatMed := $e:term) => `(tactic| (refine hide9 fun G9 h9 => ?_; rcases $e:term with $p:rcasesPatMed; all_goals (refine h9 ?_; clear h9; (try clear G9))))

/-- the caller's surroundings -/
noncomputable abbrev topA (dp un : Nat) (gd : Option (List Code)) (env : Env) (outer : List Env) : Around :=
  { handled := none, depth := dp, frames := some (env :: outer), guards := gd, units := un }

/-- a call that gives an int and leaves nothing behind: the ledger stands as it stood -/
noncomputable def TellI (prog : Program) (w : World) (K : Frag) (p : Program) (loose : List Str) (mean : ExcName → Option Value) (mg mb : Str → Option Value) (f : Addr) (size : Nat)
    (pre : List (Addr × Obj) → List Value → Prop) (post : Int → Prop) : Prop :=
  ∀ (dp un : Nat) (gd : Option (List Code)) (env : Env) (outer : List Env) (A₀ : Around) (base h₀ : Heap) (L : Addr) (m : Str → Option Value) (news : List (Addr × Obj)) (s : Shared) (vs : List Value)
    (Q E : Value → Shared → Prop),
    Below A₀ base outer h₀ → Fr h₀ L s.heap m → K.In h₀ → News h₀ L s.heap news → Top p loose mean mg mb h₀ → env.frame = some L → env.scope.kind = .function →
    dp + size < recursionLimit → un + 8 * size < cLine → pre news vs →
    (∀ (k : Int) (t : Tok) h' tk', Fr h₀ L h' m → News h₀ L h' news → post k → Q (.int k t) { s with heap := h', toks := tk' }) →
    wpAny (model prog w) (topA dp un gd env outer) (call (.ref f) vs) Q E s

theorem TellI.use {prog : Program} {w : World} {K : Frag} {p : Program} {loose : List Str} {mean : ExcName → Option Value} {mg mb : Str → Option Value} {f : Addr} {size : Nat}
    {pre : List (Addr × Obj) → List Value → Prop} {post : Int → Prop} {dp un : Nat} {gd : Option (List Code)} {env : Env} {outer : List Env} {A₀ : Around} {base h₀ : Heap} {L : Addr} {m : Str → Option Value} {news : List (Addr × Obj)} {s : Shared} {vs : List Value}
    {Q E : Value → Shared → Prop} (C : TellI prog w K p loose mean mg mb f size pre post)
    (B : Below A₀ base outer h₀) (F : Fr h₀ L s.heap m) (X : K.In h₀) (N : News h₀ L s.heap news) (T : Top p loose mean mg mb h₀) (hf : env.frame = some L) (hk : env.scope.kind = .function)
    (hd : dp + size < recursionLimit) (hu : un + 8 * size < cLine) (hp : pre news vs)
    (k : ∀ (k : Int) (t : Tok) h' tk', Fr h₀ L h' m → News h₀ L h' news → post k → Q (.int k t) { s with heap := h', toks := tk' }) :
    wpAny (model prog w) (topA dp un gd env outer) (call (.ref f) vs) Q E s := C _ _ _ _ _ _ _ _ _ _ _ _ _ _ _ B F X N T hf hk hd hu hp k

inductive Tm where
  | leaf (s : Str)
  | un (op : Str) (a : Tm)
  | bin (op : Str) (a b : Tm)
noncomputable abbrev tupO (l : List Value) (n : Nat) : Obj := { cls := .type "tuple", data := .seq l.toArray n }
inductive TmIn (news : List (Addr × Obj)) : Value → Tm → Prop where
  | leaf {a : Addr} {s : Str} {t : Tok} {n : Nat} : (a, tupO [.str s t] n) ∈ news → TmIn news (.ref a) (.leaf s)
  | un {a : Addr} {s : Str} {t : Tok} {v : Value} {T : Tm} {n : Nat} : (a, tupO [.str s t, v] n) ∈ news → TmIn news v T → TmIn news (.ref a) (.un s T)
  | bin {a : Addr} {s : Str} {t : Tok} {v u : Value} {T U : Tm} {n : Nat} : (a, tupO [.str s t, v, u] n) ∈ news → TmIn news v T → TmIn news u U → TmIn news (.ref a) (.bin s T U)
  | A : TmIn news (.ref 123) (.leaf "?a")
  | B : TmIn news (.ref 124) (.leaf "?b")
  | C : TmIn news (.ref 125) (.leaf "?c")
theorem TmIn.mono {news news' : List (Addr × Obj)} {v : Value} {T : Tm} (h : TmIn news v T) (hs : ∀ p ∈ news, p ∈ news') : TmIn news' v T := by
  induction h with
  | leaf m => exact .leaf (hs _ m)
  | un m _ ih => exact .un (hs _ m) ih
  | bin m _ _ ih1 ih2 => exact .bin (hs _ m) ih1 ih2
  | A => exact .A
  | B => exact .B
  | C => exact .C
noncomputable def Tm.size : Tm → Nat
  | .leaf _ => 1
  | .un _ a => a.size + 1
  | .bin _ a b => a.size + b.size + 1

/-- the dict of a world -/
structure EnvIn (prog : Program) (w : World) (news : List (Addr × Obj)) (d : Addr) (D : List (PyData × PyData)) : Prop where
  lo : (d == sysModules) = false
  it : ∃ o kvs, (d, o) ∈ news ∧ o.IsDictOf (PySem.strKind prog w) kvs ∧ FlatPairs PyData.str kvs D

noncomputable def numOf (s : Str) : Int := if s = "0" then 0 else if s = "1" then 1 else if s = "-1" then -1 else if s = "12" then 12 else if s = "-7" then -7 else if s = "007" then 7 else if s = "2" then 2 else 3
/-- the ring's own value -/
noncomputable def V (n : Int) (D : List (PyData × PyData)) : Tm → Int
  | .leaf s => match lookup (.str s) D with | some (.int v) => v | _ => numOf s % n
  | .un _ a => (- V n D a) % n
  | .bin op a b => if op = "add" then (V n D a + V n D b) % n else (V n D a * V n D b) % n
/-- a term that has a value -/
inductive Okay (n : Int) (D : List (PyData × PyData)) : Tm → Prop where
  | var {s : Str} {v : Int} : lookup (.str s) D = some (.int v) → 0 ≤ v → v < n → PyData.canLay0 (.str s) = true → Okay n D (.leaf s)
  | n0 : lookup (.str "0") D = none → Okay n D (.leaf "0")
  | n1 : lookup (.str "1") D = none → Okay n D (.leaf "1")
  | nm1 : lookup (.str "-1") D = none → Okay n D (.leaf "-1")
  | n12 : lookup (.str "12") D = none → Okay n D (.leaf "12")
  | nm7 : lookup (.str "-7") D = none → Okay n D (.leaf "-7")
  | n007 : lookup (.str "007") D = none → Okay n D (.leaf "007")
  | n2 : lookup (.str "2") D = none → Okay n D (.leaf "2")
  | n3 : lookup (.str "3") D = none → Okay n D (.leaf "3")
  | neg {a : Tm} : lookup (.str "neg") D = none → Okay n D a → Okay n D (.un "neg" a)
  | add {a b : Tm} : lookup (.str "add") D = none → Okay n D a → Okay n D b → Okay n D (.bin "add" a b)
  | mul {a b : Tm} : lookup (.str "mul") D = none → Okay n D a → Okay n D b → Okay n D (.bin "mul" a b)
theorem TmIn.leaf_inv {news : List (Addr × Obj)} {v : Value} {s : Str} (h : TmIn news v (.leaf s)) :
    (∃ a t n, v = .ref a ∧ (a, tupO [.str s t] n) ∈ news) ∨ (v = .ref 123 ∧ s = "?a") ∨ (v = .ref 124 ∧ s = "?b") ∨ (v = .ref 125 ∧ s = "?c") := by
  generalize e : Tm.leaf s = T at h
  cases h with
  | leaf m => cases e; exact .inl ⟨_, _, _, rfl, m⟩
  | un m _ => cases e
  | bin m _ _ => cases e
  | A => injection e with e; exact .inr (.inl ⟨rfl, e⟩)
  | B => injection e with e; exact .inr (.inr (.inl ⟨rfl, e⟩))
  | C => injection e with e; exact .inr (.inr (.inr ⟨rfl, e⟩))
theorem TmIn.un_inv {news : List (Addr × Obj)} {v : Value} {s : Str} {T : Tm} (h : TmIn news v (.un s T)) :
    ∃ a t u n, v = .ref a ∧ (a, tupO [.str s t, u] n) ∈ news ∧ TmIn news u T := by
  cases h with
  | un m h => exact ⟨_, _, _, _, rfl, m, h⟩
theorem TmIn.bin_inv {news : List (Addr × Obj)} {v : Value} {s : Str} {T U : Tm} (h : TmIn news v (.bin s T U)) :
    ∃ a t u u' n, v = .ref a ∧ (a, tupO [.str s t, u, u'] n) ∈ news ∧ TmIn news u T ∧ TmIn news u' U := by
  cases h with
  | bin m h h' => exact ⟨_, _, _, _, _, rfl, m, h, h'⟩
theorem TmIn.isRef {news : List (Addr × Obj)} {v : Value} {T : Tm} (h : TmIn news v T) : ∃ a, v = .ref a := by
  cases h <;> exact ⟨_, rfl⟩
theorem News.sub {h₀ h : Heap} {L : Addr} {l l' : List (Addr × Obj)} (N : News h₀ L h l') (hs : ∀ p ∈ l, p ∈ l') : News h₀ L h l := fun p hp => N p (hs p hp)
theorem EnvIn.mono {prog : Program} {w : World} {news news' : List (Addr × Obj)} {d : Addr} {D : List (PyData × PyData)} (h : EnvIn prog w news d D) (hs : ∀ p ∈ news, p ∈ news') : EnvIn prog w news' d D :=
  ⟨h.lo, let ⟨o, kvs, m, r⟩ := h.it; ⟨o, kvs, hs _ m, r⟩⟩
section
variable {prog : Program} {w : World} {A : Around} {E : Value → Shared → Prop} {s : Shared} {h₀ : Heap} {L : Addr} {m : Str → Option Value} {news : List (Addr × Obj)}
/-- t[1:] of a tuple whose items are written -/
theorem tup_from {value slice : Expr} {t : Addr} {x : Value} {l : List Value} {u : Tok} {Q : Value → Shared → Prop}
    (F : Fr h₀ L s.heap m) (N : News h₀ L s.heap news) (ht : IsTup s.heap t (x :: l).toArray)
    (h : ∀ D h', Fr h₀ L h' m → News h₀ L h' ((D, tupO l 0) :: news) → (∀ p ∈ news, p.1 < D) → Q (.ref D) { s with heap := h' })
    (hs : subscripted slice false (.ref t) (.ref s.heap.objs.size) = operate [.ref s.heap.objs.size, .ref t] (getItem (.ref t) (.ref s.heap.objs.size)))
    (hg : ∀ r, letTemporaryGo value (.ref t) r = pure ()) (hsz : (x :: l).toArray.size ≤ sizeLine) :
    wpAny (model prog w) A (subscriptTail value slice (.ref t) (.ref s.heap.objs.size)) Q E { s with heap := s.heap.push { cls := .type "slice", data := .fields #[.int 1 u, .none, .none] } } := by
  refine slice_tuple_from (a := 1) F N ht (Nat.le_refl _) (by simp) (fun h' F' N' => h _ h' F' ?_ fun p hp => Nat.lt_succ_of_lt (Heap.lt_size (N p hp).1)) hs hg hsz
  exact N'
end
theorem lst_item {prog : Program} {w : World} {A : Around} {E : Value → Shared → Prop} {s : Shared} {value slice : PySem.Expr} {l : Addr} {vs : List Value} {k : Int} {u : Tok} {v : Value} {Q : Value → Shared → Prop}
    (hl : s.heap.IsList l vs.toArray) (h0 : 0 ≤ k) (hhi : k < 2 ^ 63) (hx : vs[k.toNat]? = some v) (h : Q v s)
    (hs : subscripted slice false (.ref l) (.int k u) = operate [.ref l, .int k u] (getItem (.ref l) (.int k u))) :
    wpAny (model prog w) A (subscriptTail value slice (.ref l) (.int k u)) Q E s :=
  tail_any hl.typeIs slot_list_getitem.lookup (wpAny_getItem_list hl h0 hhi (by simpa using hx) h) hs
theorem TmIn.leaf_num {news : List (Addr × Obj)} {v : Value} {s : Str} (h : TmIn news v (.leaf s)) (ha : s ≠ "?a") (hb : s ≠ "?b") (hc : s ≠ "?c") : ∃ a t n, v = .ref a ∧ (a, tupO [.str s t] n) ∈ news := by
  rcases h.leaf_inv with h | ⟨_, e⟩ | ⟨_, e⟩ | ⟨_, e⟩
  · exact h
  · exact absurd e ha
  · exact absurd e hb
  · exact absurd e hc
theorem index_lit {prog : Program} {w : World} {A : Around} {E : Value → Shared → Prop} {s : Shared} {x y : Str} {t u : Tok} {k : Int} {Q : Value → Shared → Prop} (hA : A.handled = none) (e : Txt.find x y = k) (hk : 0 ≤ k)
    (h : Q (.int k s.toks) { s with toks := s.toks + 1 }) : wpAny (model prog w) A (call (.builtin "str.index") [.str x t, .str y u]) Q E s := by
  subst e
  exact index_or hA (fun e => absurd hk (by rw [e]; decide)) fun _ _ => h
theorem off_lt {I : Addr} {l : List (Addr × Obj)} (h : AllLt I l) : ∀ p ∈ l, p.1 ≠ I := fun p hp => Nat.ne_of_lt (ktn_ltOf h p hp)
/-- one run's state behind another's: the heap, the tokens and the draws may be others -/
noncomputable def Sm (b : Bool) (s s' : Shared) : Prop := ∃ h tk dr, (b = false → dr = s.drawn) ∧ s' = { s with heap := h, toks := tk, drawn := dr }
theorem Sm.refl {b : Bool} {s : Shared} : Sm b s s := ⟨_, _, _, fun _ => rfl, rfl⟩
theorem Sm.trans {b : Bool} {s s' s'' : Shared} (x : Sm b s s') (y : Sm b s' s'') : Sm b s s'' := by
  obtain ⟨h, tk, dr, e, rfl⟩ := x
  obtain ⟨h', tk', dr', e', rfl⟩ := y
  exact ⟨_, _, _, fun q => (e' q).trans (e q), rfl⟩
theorem Sm.ht {b : Bool} {s : Shared} {h : Heap} {tk : Nat} : Sm b s { s with heap := h, toks := tk } := ⟨_, _, _, fun _ => rfl, rfl⟩
theorem Sm.htd {s : Shared} {h : Heap} {tk : Nat} {dr : Drawn} : Sm true s { s with heap := h, toks := tk, drawn := dr } := ⟨_, _, _, (fun q => nomatch q), rfl⟩
theorem Sm.is {s s' : Shared} (x : Sm false s s') : ∃ h tk, s' = { s with heap := h, toks := tk } := by
  obtain ⟨h, tk, dr, e, rfl⟩ := x
  obtain rfl := e rfl
  exact ⟨_, _, rfl⟩
theorem Sm.isD {b : Bool} {s s' : Shared} (x : Sm b s s') : ∃ h tk dr, s' = { s with heap := h, toks := tk, drawn := dr } := by
  obtain ⟨h, tk, dr, e, rfl⟩ := x
  exact ⟨_, _, _, rfl⟩
theorem Sm.lift {b : Bool} {s s' : Shared} (x : Sm false s s') : Sm b s s' := by
  obtain ⟨h, tk, dr, e, rfl⟩ := x
  exact ⟨_, _, _, fun _ => e rfl, rfl⟩

section
variable {prog : Program} {w : World} {A : Around} {E : Value → Shared → Prop} {s : Shared} {h₀ : Heap} {L : Addr} {m : Str → Option Value} {env : Env}

/-- what a turn of a comprehension must leave -/
noncomputable def TurnE (bb : Bool) (h₀ : Heap) (L : Addr) (m : Str → Option Value) (I : Addr) (oI : Obj) (C : Addr) (oC : Obj) (D : Addr) (oD : Obj) (J : List (Addr × Obj) → Prop) (s s' : Shared) : Prop :=
  ∃ news', Sm bb s s' ∧ Fr h₀ L s'.heap m ∧ News h₀ L s'.heap ((I, oI) :: (C, oC) :: (D, oD) :: news') ∧ Off3 I C D news' ∧ J news'
theorem TurnE.intro {bb : Bool} {I C D : Addr} {oI oC oD : Obj} {J : List (Addr × Obj) → Prop} {s s' : Shared} {all : List (Addr × Obj)} (hs : Sm bb s s') (F : Fr h₀ L s'.heap m) (N : News h₀ L s'.heap all) (news' : List (Addr × Obj))
    (sub : ∀ p ∈ (I, oI) :: (C, oC) :: (D, oD) :: news', p ∈ all) (off : Off3 I C D news') (j : J news') : TurnE bb h₀ L m I oI C oC D oD J s s' := ⟨news', hs, F, fun p hp => N p (sub p hp), off, j⟩

/-- the turn's tree: the tests (none or one), the element -/
noncomputable def TurnT (prog : Program) (w : World) (A : Around) (cenv : Env) (ifs : List Expr) (elt : Expr) (Y : Value → Shared → Prop) (Z : Shared → Prop) (E' : Value → Shared → Prop) (s : Shared) : Prop :=
  match ifs with
  | [] => wpAny (model prog w) A (eval elt cenv) Y E' s
  | [c] => wpAny (model prog w) A (isTrue c cenv (eval c cenv)) (fun ok s' => if ok = true then wpAny (model prog w) A (eval elt cenv) Y E' s' else Z s') E' s
  | _ => False
theorem turnT_wp {cenv : Env} {ifs : List Expr} {elt : Expr} {Y : Value → Shared → Prop} {Z : Shared → Prop} {E' : Value → Shared → Prop} {s : Shared} (h : TurnT prog w A cenv ifs elt Y Z E' s) :
    wpAny (model prog w) A (forIn ifs true fun c r => if r = true then do let ok ← isTrue c cenv (eval c cenv); pure (ForInStep.yield ok) else pure (ForInStep.yield r))
      (fun ok s₃ => if ok = true then wpAny (model prog w) A (eval elt cenv) Y E' s₃ else Z s₃) E' s := by
  match ifs, h with
  | [], h => exact wpAny_tests_nil (by rw [if_pos rfl]; exact h)
  | [c], h => exact wpAny_tests_one h

theorem comp_loopE {Err : Addr → Addr → Value → Shared → Prop} {bb : Bool} {elt target iter : Expr} {ifs : List Expr} {scope : Scope} {cl : List (Str × Addr)} {pos : Pos} {s₂ : Shared} {I : Addr} {fp : List Addr} {n : Nat} {P : Nat → Value → Prop} {St : Nat → Heap → Prop} {news : List (Addr × Obj)}
    {Bd : Value → (Str → Option Value) → Prop} (J : Nat → List Value → List (Addr × Obj) → Prop) {RR : Value → Addr → Result → Shared → Prop}
    (W : Walks prog w A I fp [I] n P St) (hsz : n ≤ sizeLine) (hIo : ∀ i h, St i h → ∃ o, h.get? I = some o)
    (hSt : ∀ i h h' o nw ys, St i h → h.get? I = some o → h'.get? I = some o → (∀ b o, h₀.get? b = some o → h'.get? b = some o) → News h₀ L h' nw → J i ys nw → St i h')
    (hlen : ∀ i ys nw, J i ys nw → ys.length ≤ i)
    (hgo : ∀ v, letOwnedTupleGo target (.ref I) v = pure ())
    (hcell : ∀ y ∈ scope.names, y.2 ≠ .cell) (hkind : scope.kind = .function) (hst : St 0 s₂.heap) (hfp : ∀ b ∈ fp, b < s₂.heap.objs.size)
    (F : Fr h₀ L s₂.heap m) (N : News h₀ L s₂.heap news) (hIL : L ≠ I) (hI₀ : h₀.get? I = none) (off : ∀ p ∈ news, p.1 ≠ I) (h0 : J 0 [] news)
    (hasg : ∀ i v ys nw C mC s' (Q' : Unit → Shared → Prop) (E' : Value → Shared → Prop), P i v → J i ys nw → s'.heap.Ns C mC → C ≠ L → h₀.get? C = none → News h₀ L s'.heap nw → Fr h₀ L s'.heap m → (∀ p ∈ nw, p.1 ≠ C) →
      (∀ h' tk m', Heap.SameBut C s'.heap h' → h'.Ns C m' → Bd v m' → Q' () { s' with heap := h', toks := tk }) → wpAny (model prog w) A (assign target (compEnvC scope cl C env) v) Q' E' s')
    (turn : ∀ i v ys nw oI C oC D mC s' (E' : Value → Shared → Prop), i < n → P i v → J i ys nw → NsObj oC mC → Bd v mC → Sm bb s₂ s' → Fr h₀ L s'.heap m → News h₀ L s'.heap ((I, oI) :: (C, oC) :: (D, lst ys) :: nw) → Off3 I C D nw → ((@Ne Nat I C) ∧ (@Ne Nat I D) ∧ (@Ne Nat C D)) → (∀ x s'', Err C D x s'' → E' x s'') →
      TurnT prog w A (compEnvC scope cl C env) ifs elt (fun y s'' => TurnE bb h₀ L m I oI C oC D (lst ys) (J (i + 1) (ys ++ [y])) s' s'') (fun s'' => TurnE bb h₀ L m I oI C oC D (lst ys) (J (i + 1) ys) s' s'') E' s')
    (hErr : ∀ C D x s'', Err C D x s'' → notedBy (model prog w) A (compEnvC scope cl C env) (fun e s' => RR (.ref D) C (.error e) s') x s'')
    (hRR : ∀ D C m' ys nw s', J n ys nw → Sm bb s₂ s' → Fr h₀ L s'.heap m → News h₀ L s'.heap ((D, lst ys) :: nw) → Off1 D nw → s'.heap.Ns C m' → h₀.get? C = none → h₀.get? D = none → C ≠ L → D ≠ L → C ≠ D → (∀ p ∈ nw, p.1 ≠ C) → RR (.ref D) C (.ok .next) s') :
    wpAny (model prog w) A (newList []) (fun acc s₃ => wpAny (model prog w) A (newFunctionEnv scope env.globals cl [] env.qual none .none (some env)) (fun cenv s₄ =>
      codeAny (model prog w) A (.compStart (.ListComp elt [⟨target, iter, ifs, 0⟩] scope pos) 0 (.ref I) acc { cenv with scope := relabel scope env }) (RR acc cenv.locals) s₄) E s₃) E s₂ := by
  refine wpAny_newObj_type (wpAny_newFunctionEnv hcell (by intro y hy; simp at hy) (fun h₁ hns₁ hsb₁ => ?_) hkind)
  dsimp only at hns₁ hsb₁ ⊢
  generalize hH2 : s₂.heap.push { cls := .type "list", dict := none, data := .seq ([] : List Value).toArray } = H2 at hns₁ hsb₁ ⊢
  have hC : H2.objs.size = s₂.heap.objs.size + 1 := by rw [← hH2, Heap.size_push]
  have hDC : s₂.heap.objs.size ≠ H2.objs.size := by rw [hC]; exact Nat.ne_of_lt (Nat.lt_succ_self _)
  have below : ∀ b, b < s₂.heap.objs.size → b ≠ H2.objs.size ∧ b ≠ s₂.heap.objs.size := fun b hb => ⟨by rw [hC]; exact Nat.ne_of_lt (Nat.lt_succ_of_lt hb), Nat.ne_of_lt hb⟩
  have hDf : s₂.heap.objs.size ∉ fp := fun hm => Nat.lt_irrefl _ (hfp _ hm)
  have hCf : H2.objs.size ∉ fp := fun hm => by have := hfp _ hm; rw [hC] at this; exact Nat.lt_irrefl _ (Nat.lt_of_succ_lt this)
  have hIf : I ∈ fp := W.sub I (List.mem_singleton.mpr rfl)
  have hIlt : I < s₂.heap.objs.size := hfp I hIf
  have old : ∀ b o, s₂.heap.get? b = some o → h₁.get? b = some o := fun b o e => hsb₁.extBut b o (below b (Heap.lt_size e)).1 (Heap.get?_push_of_some _ (hH2 ▸ Heap.get?_push_of_some _ e))
  have hacc : h₁.get? s₂.heap.objs.size = some (lst []) := hsb₁.extBut _ _ hDC (Heap.get?_push_of_some _ (hH2 ▸ Heap.get?_push_size _ rfl))
  have hst₁ : St 0 h₁ := W.frame _ _ _ hst fun b _ o e => old b o e
  have fresh : ∀ a, s₂.heap.objs.size ≤ a → h₀.get? a = none := fun a ha => by
    cases e : h₀.get? a with
    | none => rfl
    | some o' => exact absurd (Heap.lt_size (F.keep a o' e)) (Nat.not_lt.mpr ha)
  have hD₀ : h₀.get? s₂.heap.objs.size = none := fresh _ (Nat.le_refl _)
  have hC₀ : h₀.get? H2.objs.size = none := fresh _ (by rw [hC]; exact Nat.le_succ _)
  have hLlt : L < s₂.heap.objs.size := F.ns.lt
  have hDL : s₂.heap.objs.size ≠ L := Ne.symm (below L hLlt).2
  have hCL : H2.objs.size ≠ L := Ne.symm (below L hLlt).1
  have hCI : I ≠ H2.objs.size := (below I hIlt).1
  have hDI : I ≠ s₂.heap.objs.size := (below I hIlt).2
  have off₀ : Off3 I H2.objs.size s₂.heap.objs.size news := Off3.of fun p hp => ⟨off p hp, (below _ (Heap.lt_size (N p hp).1)).1, (below _ (Heap.lt_size (N p hp).1)).2⟩
  have loop : ∀ s₃ : Shared, s₃ = { s₂ with heap := h₁, toks := s₂.toks + ([] : List (Str × Value)).length } →
      codeAny (model prog w) A (.compLoop (.ListComp elt [⟨target, iter, ifs, 0⟩] scope pos) 0 (.ref I) (.ref s₂.heap.objs.size) (compEnvC scope cl H2.objs.size env))
        (RR (.ref s₂.heap.objs.size) H2.objs.size) s₃ := by
    rintro s₃ rfl
    refine codeAny_compLoop_tests
      (fun k s' => ∃ i ys m' news', Sm bb s₂ s' ∧ i ≤ n ∧ k = n + 1 - i ∧ St i s'.heap ∧ Fr h₀ L s'.heap m ∧ s'.heap.Ns H2.objs.size m' ∧ News h₀ L s'.heap ((s₂.heap.objs.size, lst ys) :: news') ∧
        Off3 I H2.objs.size s₂.heap.objs.size news' ∧ J i ys news') ?_ (n + 1)
      ⟨0, [], _, news, Sm.ht, Nat.zero_le _, rfl, hst₁, F.keeps old, hns₁, fun p hp => ?_, off₀, h0⟩ hgo
    · intro k s' hr5
      refine hide9 fun G9 h9 => ?_
      rcases hr5 with ⟨i, ys, m', news', hsm, hi, rfl, hst', F', hn', N', off', hJ⟩
      refine h9 ?_
      clear h9 G9
      by_cases hlt : i < n
      · refine W.item i _ _ _ hlt hst' fun v h₂ tk₂ hPv hst₂ hk₂ => ?_
        have off3 := off'.mem
        have N₂ : News h₀ L h₂ ((s₂.heap.objs.size, lst ys) :: news') := news_but N' hk₂ fun p hp => by
          rcases List.mem_cons.mp hp with rfl | hp
          · exact Ne.symm hDI
          · exact (off3 p hp).1
        have F₂ : Fr h₀ L h₂ m := fr_but F' hk₂ hIL hI₀
        refine hasg i v ys news' _ _ _ _ _ hPv hJ (hn'.at' fun o e => hk₂ _ o (by simpa using Ne.symm hCI) e) hCL hC₀ (fun p hp => N₂ p (List.mem_cons_of_mem _ hp)) F₂ (fun p hp => (off3 p hp).2.1) (fun h₃ tk₃ m₃ hs₃ hn₃ hB => ?_)
        have hst₃ : St (i + 1) h₃ := W.frame _ _ _ hst₂ fun b hb o e => hs₃.extBut b o (fun q => hCf (by have q' : b = H2.objs.size := q; rw [← q']; exact hb)) e
        obtain ⟨oI, heI⟩ := hIo _ _ hst₃
        obtain ⟨oC, heC, hoC⟩ := ns_obj hn₃
        have F₃ : Fr h₀ L h₃ m := F₂.change hs₃ hCL hC₀
        have N₃ : News h₀ L h₃ ((I, oI) :: (H2.objs.size, oC) :: (s₂.heap.objs.size, lst ys) :: news') := fun p hp => by
          rcases List.mem_cons.mp hp with rfl | hp
          · exact ⟨heI, Ne.symm hIL, hI₀⟩
          · rcases List.mem_cons.mp hp with rfl | hp
            · exact ⟨heC, hCL, hC₀⟩
            · have z := N₂ p hp
              refine ⟨hs₃.extBut _ _ ?_ z.1, z.2⟩
              rcases List.mem_cons.mp hp with rfl | hp
              · exact hDC
              · exact (off3 p hp).2.1
        have hsm₃ : Sm bb s₂ { s' with heap := h₃, toks := tk₃ } := hsm.trans Sm.ht
        refine wpAny_mono (turnT_wp (turn i v ys news' oI H2.objs.size oC s₂.heap.objs.size m₃ { s' with heap := h₃, toks := tk₃ } _ hlt hPv hJ hoC hB hsm₃ F₃ N₃ off' ⟨hCI, hDI, Ne.symm hDC⟩ (fun x s'' h => hErr _ _ x s'' h))) (fun ok s₄ h₄ => ?_) fun _ _ e => e
        cases ok with
        | true =>
          rw [if_pos rfl] at h₄ ⊢
          refine wpAny_mono h₄ (fun y s₅ h₅ => ?_) fun _ _ e => e
          obtain ⟨news₄, hsm₄, F₄, N₄, off₄, J₄⟩ := h₅
          have zI := (N₄ (I, oI) List.mem_cons_self).1
          have zC := (N₄ (H2.objs.size, oC) (List.mem_cons_of_mem _ List.mem_cons_self)).1
          have zD := (N₄ (s₂.heap.objs.size, lst ys) (List.mem_cons_of_mem _ (List.mem_cons_of_mem _ List.mem_cons_self))).1
          have N₄' : News h₀ L s₅.heap news₄ := fun p hp => N₄ p (List.mem_cons_of_mem _ (List.mem_cons_of_mem _ (List.mem_cons_of_mem _ hp)))
          have hst₄ : St (i + 1) s₅.heap := hSt _ _ _ _ _ _ hst₃ heI zI F₄.keep N₄' J₄
          refine append_at (hsz := by show ys.toArray.size ≤ sizeLine; rw [List.size_toArray]; exact Nat.le_trans (hlen _ _ _ hJ) (Nat.le_trans hi hsz)) zD fun h₆ hs₆ hD₆ => ?_
          have off4 := off₄.mem
          refine ⟨n + 1 - (i + 1), by omega, i + 1, ys ++ [y], _, news₄, (hsm₃.trans hsm₄).trans Sm.ht, hlt, rfl, W.frame _ _ _ hst₄ fun b hb o e => hs₆.extBut b o (fun q => hDf (q ▸ hb)) e, F₄.change hs₆ hDL hD₀,
            (hoC.ns zC).sameBut hs₆ (Ne.symm hDC), fun p hp => ?_, off₄, J₄⟩
          rcases List.mem_cons.mp hp with rfl | hp
          · exact ⟨hD₆.trans (congrArg some (lst_snoc ys y)), hDL, hD₀⟩
          · exact ⟨hs₆.extBut _ _ (off4 p hp).2.2 (N₄' p hp).1, (N₄' p hp).2⟩
        | false =>
          rw [if_neg Bool.false_ne_true] at h₄ ⊢
          obtain ⟨news₄, hsm₄, F₄, N₄, off₄, J₄⟩ := h₄
          have zI := (N₄ (I, oI) List.mem_cons_self).1
          have zC := (N₄ (H2.objs.size, oC) (List.mem_cons_of_mem _ List.mem_cons_self)).1
          have N₄' : News h₀ L s₄.heap news₄ := fun p hp => N₄ p (List.mem_cons_of_mem _ (List.mem_cons_of_mem _ (List.mem_cons_of_mem _ hp)))
          exact ⟨n + 1 - (i + 1), by omega, i + 1, ys, _, news₄, hsm₃.trans hsm₄, hlt, rfl, hSt _ _ _ _ _ _ hst₃ heI zI F₄.keep N₄' J₄, F₄, hoC.ns zC, fun p hp => N₄ p (List.mem_cons_of_mem _ (List.mem_cons_of_mem _ hp)), off₄, J₄⟩
      · obtain rfl : i = n := Nat.le_antisymm hi (Nat.not_lt.mp hlt)
        refine W.done _ _ _ hst' fun h₂ tk₂ hk₂ => ?_
        have off3 := off'.mem
        exact hRR _ _ _ ys news' _ hJ (hsm.trans Sm.ht) (fr_but F' hk₂ hIL hI₀) (news_but N' hk₂ fun p hp => by
          rcases List.mem_cons.mp hp with rfl | hp
          · exact Ne.symm hDI
          · exact (off3 p hp).1) off'.one (hn'.at' fun o e => hk₂ _ o (by simpa using Ne.symm hCI) e) hC₀ hD₀ hCL hDL (Ne.symm hDC) (fun p hp => (off3 p hp).2.1)
    · rcases List.mem_cons.mp hp with rfl | hp
      · exact ⟨hacc, hDL, hD₀⟩
      · exact ⟨old _ _ (N p hp).1, (N p hp).2⟩
  exact codeAny_compStart_list (loop _ rfl) (W.self 0 _ _ _ hst₁ (loop _ rfl))
theorem comp_loop {bb : Bool} {elt target iter : Expr} {ifs : List Expr} {scope : Scope} {cl : List (Str × Addr)} {pos : Pos} {s₂ : Shared} {I : Addr} {fp : List Addr} {n : Nat} {P : Nat → Value → Prop} {St : Nat → Heap → Prop} {news : List (Addr × Obj)}
    {Bd : Value → (Str → Option Value) → Prop} (J : Nat → List Value → List (Addr × Obj) → Prop) {RR : Value → Addr → Result → Shared → Prop}
    (W : Walks prog w A I fp [I] n P St) (hsz : n ≤ sizeLine) (hIo : ∀ i h, St i h → ∃ o, h.get? I = some o)
    (hSt : ∀ i h h' o nw ys, St i h → h.get? I = some o → h'.get? I = some o → (∀ b o, h₀.get? b = some o → h'.get? b = some o) → News h₀ L h' nw → J i ys nw → St i h')
    (hlen : ∀ i ys nw, J i ys nw → ys.length ≤ i)
    (hgo : ∀ v, letOwnedTupleGo target (.ref I) v = pure ())
    (hcell : ∀ y ∈ scope.names, y.2 ≠ .cell) (hkind : scope.kind = .function) (hst : St 0 s₂.heap) (hfp : ∀ b ∈ fp, b < s₂.heap.objs.size)
    (F : Fr h₀ L s₂.heap m) (N : News h₀ L s₂.heap news) (hIL : L ≠ I) (hI₀ : h₀.get? I = none) (off : ∀ p ∈ news, p.1 ≠ I) (h0 : J 0 [] news)
    (hasg : ∀ i v ys nw C mC s' (Q' : Unit → Shared → Prop) (E' : Value → Shared → Prop), P i v → J i ys nw → s'.heap.Ns C mC → C ≠ L → h₀.get? C = none → News h₀ L s'.heap nw → Fr h₀ L s'.heap m → (∀ p ∈ nw, p.1 ≠ C) →
      (∀ h' tk m', Heap.SameBut C s'.heap h' → h'.Ns C m' → Bd v m' → Q' () { s' with heap := h', toks := tk }) → wpAny (model prog w) A (assign target (compEnvC scope cl C env) v) Q' E' s')
    (turn : ∀ i v ys nw oI C oC D mC s' (E' : Value → Shared → Prop), i < n → P i v → J i ys nw → NsObj oC mC → Bd v mC → Sm bb s₂ s' → Fr h₀ L s'.heap m → News h₀ L s'.heap ((I, oI) :: (C, oC) :: (D, lst ys) :: nw) → Off3 I C D nw → ((@Ne Nat I C) ∧ (@Ne Nat I D) ∧ (@Ne Nat C D)) →
      TurnT prog w A (compEnvC scope cl C env) ifs elt (fun y s'' => TurnE bb h₀ L m I oI C oC D (lst ys) (J (i + 1) (ys ++ [y])) s' s'') (fun s'' => TurnE bb h₀ L m I oI C oC D (lst ys) (J (i + 1) ys) s' s'') E' s')
    (hRR : ∀ D C m' ys nw s', J n ys nw → Sm bb s₂ s' → Fr h₀ L s'.heap m → News h₀ L s'.heap ((D, lst ys) :: nw) → Off1 D nw → s'.heap.Ns C m' → h₀.get? C = none → h₀.get? D = none → C ≠ L → D ≠ L → C ≠ D → (∀ p ∈ nw, p.1 ≠ C) → RR (.ref D) C (.ok .next) s') :
    wpAny (model prog w) A (newList []) (fun acc s₃ => wpAny (model prog w) A (newFunctionEnv scope env.globals cl [] env.qual none .none (some env)) (fun cenv s₄ =>
      codeAny (model prog w) A (.compStart (.ListComp elt [⟨target, iter, ifs, 0⟩] scope pos) 0 (.ref I) acc { cenv with scope := relabel scope env }) (RR acc cenv.locals) s₄) E s₃) E s₂ :=
  comp_loopE (Err := fun _ _ _ _ => False) J W hsz hIo hSt hlen hgo hcell hkind hst hfp F N hIL hI₀ off h0 hasg
    (fun i v ys nw oI C oC D mC s' E' h1 h2 h3 h4 h5 h6 h7 h8 h9 h10 _ => turn i v ys nw oI C oC D mC s' E' h1 h2 h3 h4 h5 h6 h7 h8 h9 h10) (fun _ _ _ _ h => h.elim) hRR
/-- what is left of a list comprehension behind its iterable -/
noncomputable def CompGo (prog : Program) (w : World) (A : Around) (bb : Bool) (h₀ : Heap) (L : Addr) (m : Str → Option Value) (env : Env) (elt target iter : Expr) (ifs : List Expr) (scope : Scope) (cl : List (Str × Addr)) (pos : Pos) (E : Value → Shared → Prop)
    (End : Shared → Addr → List Value → List (Addr × Obj) → Prop) (xv : Value) (s₁ : Shared) : Prop :=
  ∀ RR : Value → Addr → Result → Shared → Prop,
    (∀ D C m' ys nw s', End s₁ D ys nw → Sm bb s₁ s' → Fr h₀ L s'.heap m → News h₀ L s'.heap ((D, lst ys) :: nw) → Off1 D nw → s'.heap.Ns C m' → h₀.get? C = none → h₀.get? D = none → C ≠ L → D ≠ L → C ≠ D → (∀ p ∈ nw, p.1 ≠ C) → RR (.ref D) C (.ok .next) s') →
    wpAny (model prog w) A (pyIter xv) (fun it s₂ => wpAny (model prog w) A (newList []) (fun acc s₃ => wpAny (model prog w) A (newFunctionEnv scope env.globals cl [] env.qual none .none (some env)) (fun cenv s₄ =>
      codeAny (model prog w) A (.compStart (.ListComp elt [⟨target, iter, ifs, 0⟩] scope pos) 0 it acc { cenv with scope := relabel scope env }) (RR acc cenv.locals) s₄) E s₃) E s₂) E s₁
noncomputable def EndE (bb : Bool) (h₀ : Heap) (L : Addr) (m : Str → Option Value) (Q : Value → Shared → Prop) (s₁ : Shared) (D : Addr) (ys : List Value) (nw : List (Addr × Obj)) : Prop :=
  ∀ s', Sm bb s₁ s' → Fr h₀ L s'.heap m → News h₀ L s'.heap ((D, lst ys) :: nw) → Off1 D nw → Q (.ref D) s'
noncomputable def EndA (bb : Bool) (h₀ : Heap) (L : Addr) (m : Str → Option Value) (y : Str) (Q : Flow → Shared → Prop) (s₁ : Shared) (D : Addr) (ys : List Value) (nw : List (Addr × Obj)) : Prop :=
  ∀ s', Sm bb s₁ s' → Fr h₀ L s'.heap (fun z => if z = y then some (.ref D) else m z) → News h₀ L s'.heap ((D, lst ys) :: nw) → Off1 D nw → Q .next s'

theorem ListComp_go (bb : Bool) {elt target iter : Expr} {ifs : List Expr} {scope : Scope} {cl : List (Str × Addr)} {pos : Pos} {Q : Value → Shared → Prop} (F₀ : Fr h₀ L s.heap m)
    (hclos : closureFor scope env = pure cl) (hkind : scope.kind = .function)
    (hnames : ∀ y ∈ scope.names, y.2 = .local → scope.names.lookup y.1 = some .local)
    (h : wpAny (model prog w) A (eval iter env) (CompGo prog w A bb h₀ L m env elt target iter ifs scope cl pos E (EndE bb h₀ L m Q)) E s)
    (hs : ∀ x, foldedSetIterable iter env x = pure x := by intro _; rfl) :
    wpAny (model prog w) A (eval (.ListComp elt [⟨target, iter, ifs, 0⟩] scope pos) env) Q E s := by
  rw [eval_ListComp]
  refine wpAny_comprehension_free (use := none) rfl hs hclos hkind hnames (wpAny_mono h (fun xv s₁ h₁ => ?_) fun _ _ e => e)
  refine h₁ (fun acc C r s' => compPost (model prog w) A E none Q acc C r s') fun D C m' ys nw s' fin hsm F' N' o1 hn hC₀ hD₀ hCL hDL hCD offC => ?_
  refine ⟨m', hn, fun h'' hs'' => fin _ (hsm.trans ⟨h'', s'.toks, s'.drawn, fun _ => rfl, rfl⟩) (F'.change hs'' hCL hC₀) (fun p hp => ?_) o1⟩
  refine ⟨hs''.extBut _ _ ?_ (N' p hp).1, (N' p hp).2⟩
  rcases List.mem_cons.mp hp with rfl | hp
  · exact Ne.symm hCD
  · exact offC p hp
theorem Assign_go (bb : Bool) {elt target iter : Expr} {ifs : List Expr} {y : Str} {py spos : Pos} {scope : Scope} {cl : List (Str × Addr)} {pos : Pos} {Q : Flow → Shared → Prop} (F₀ : Fr h₀ L s.heap m) (hLe : env.locals = L)
    (hsw : swapsWith (.ListComp elt [⟨target, iter, ifs, 0⟩] scope pos) (some (.Name y py)) spos.line env = pure true)
    (hclos : closureFor scope env = pure cl) (hkind : scope.kind = .function)
    (hnames : ∀ z ∈ scope.names, z.2 = .local → scope.names.lookup z.1 = some .local)
    (hy : env.kindOf y = some .local) (hp : (env.scope.kind == .class || (env.scope.kind == .module && env.locals != env.globals)) = false)
    (h : wpAny (model prog w) A (eval iter env) (CompGo prog w A bb h₀ L m env elt target iter ifs scope cl pos E (EndA bb h₀ L m y Q)) E s)
    (hs : ∀ x, foldedSetIterable iter env x = pure x := by intro _; rfl) :
    wpAny (model prog w) A (exec (.Assign [.Name y py] (.ListComp elt [⟨target, iter, ifs, 0⟩] scope pos) spos) env) Q E s := by
  subst hLe
  rw [exec_Assign_Name_used _ _ _ _ hsw]
  refine wpAny_bind (wpAny_standAt (wpAny_bind ?_))
  show wpAny _ A (do let _ ← comprehension (.ListComp elt [⟨target, iter, ifs, 0⟩] scope pos) scope env _ (newList []) false (eval iter env) (some (assign (.Name y py) env))) _ _ s
  refine wpAny_bind (wpAny_mono (wpAny_comprehension_free (use := some (assign (.Name y py) env)) (Q := fun _ s' => Q .next s') rfl hs hclos hkind hnames
    (wpAny_mono h (fun xv s₁ h₁ => ?_) fun _ _ e => e)) (fun _ s' hq => wpAny_pure (wpAny_pure hq)) fun _ _ e => e)
  refine h₁ (fun acc C r s' => compPost (model prog w) A E (some (assign (.Name y py) env)) (fun _ s' => Q .next s') acc C r s') fun D C m' ys nw s' fin hsm F' N' o1 hn hC₀ hD₀ hCL hDL hCD offC => ?_
  show wpAny _ A (assign (.Name y py) env (.ref D)) _ _ _
  refine wpAny_assign_Name (wpAny_storeName_local hy F'.ns (fun h₂ hn₂ hs₂ => ?_) hp)
  have hL₀ : h₀.get? env.locals = none := Heap.get?_none_of_le F'.above
  have F₂ : Fr h₀ env.locals h₂ (fun z => if z = y then some (.ref D) else m z) := ⟨hn₂, fun b o e => hs₂.extBut b o (fun q => by rw [q, hL₀] at e; cases e) (F'.keep b o e), F'.above⟩
  refine ⟨m', hn.sameBut hs₂ hCL, fun h'' hs'' => fin _ (hsm.trans ⟨h'', _, s'.drawn, fun _ => rfl, rfl⟩) (F₂.change hs'' hCL hC₀) (fun p hp => ?_) o1⟩
  have z : h₂.get? p.1 = some p.2 := hs₂.extBut _ _ (N' p hp).2.1 (N' p hp).1
  refine ⟨hs''.extBut _ _ ?_ z, (N' p hp).2⟩
  rcases List.mem_cons.mp hp with rfl | hp
  · exact Ne.symm hCD
  · exact offC p hp

/-- a source that stands in the ledger or below it -/
noncomputable def SrcT (c : String) (h₀ : Heap) (ax : Addr) (its : Array Value) (news : List (Addr × Obj)) : Prop := (∃ o, h₀.get? ax = some o ∧ o.cls = .type c ∧ ∃ n, o.data = .seq its n) ∨ ∃ o, (ax, o) ∈ news ∧ o.cls = .type c ∧ ∃ n, o.data = .seq its n
theorem SrcT.at {c : String} {h : Heap} {ax : Addr} {its : Array Value} {news : List (Addr × Obj)} (x : SrcT c h₀ ax its news) (k : ∀ b o, h₀.get? b = some o → h.get? b = some o) (N : News h₀ L h news) :
    ∃ o, h.get? ax = some o ∧ o.cls = .type c ∧ ∃ n, o.data = .seq its n := by
  rcases x with ⟨o, e, r⟩ | ⟨o, hm, r⟩
  · exact ⟨o, k _ _ e, r⟩
  · exact ⟨o, (N _ hm).1, r⟩

theorem asg_name {x : Str} {px : Pos} {scope : Scope} {cl : List (Str × Addr)} (hkind : scope.kind = .function) (hx : scope.names.lookup x = some .local) {C : Addr} {v : Value} {mC : Str → Option Value} {s' : Shared} {Q' : Unit → Shared → Prop} {E' : Value → Shared → Prop}
    (hn : s'.heap.Ns C mC) (k : ∀ h' tk m', Heap.SameBut C s'.heap h' → h'.Ns C m' → m' x = some v → Q' () { s' with heap := h', toks := tk }) : wpAny (model prog w) A (assign (.Name x px) (compEnvC scope cl C env) v) Q' E' s' :=
  wpAny_assign_Name (wpAny_storeName_local (lookup_relabel_local hx) hn (fun h₃ hn₃ hs₃ => k h₃ _ _ hs₃ hn₃ (by simp)) (by simp [compEnvC, relabel, hkind]))

theorem CompGo.tup {bb : Bool} {elt iter : Expr} {x : Str} {px : Pos} {ifs : List Expr} {scope : Scope} {cl : List (Str × Addr)} {pos : Pos} {End : Shared → Addr → List Value → List (Addr × Obj) → Prop} {s₁ : Shared} {news : List (Addr × Obj)} {ax : Addr} {its : Array Value}
    (J : Nat → List Value → List (Addr × Obj) → Prop)
    (hcell : ∀ y ∈ scope.names, y.2 ≠ .cell) (hkind : scope.kind = .function) (hx : scope.names.lookup x = some .local) (hh : A.handled = none)
    (F : Fr h₀ L s₁.heap m) (N : News h₀ L s₁.heap news) (hsrc : SrcT "tuple" h₀ ax its news) (hsz : its.size ≤ sizeLine) (h0 : J 0 [] news)
    (hJs : ∀ i ys nw, J i ys nw → SrcT "tuple" h₀ ax its nw ∧ ys.length ≤ i)
    (turn : ∀ i v ys nw I oI C oC D mC s' (E' : Value → Shared → Prop), its[i]? = some v → J i ys nw → NsObj oC mC → mC x = some v → Sm bb s₁ s' → Fr h₀ L s'.heap m → News h₀ L s'.heap ((I, oI) :: (C, oC) :: (D, lst ys) :: nw) → Off3 I C D nw → ((@Ne Nat I C) ∧ (@Ne Nat I D) ∧ (@Ne Nat C D)) →
      TurnT prog w A (compEnvC scope cl C env) ifs elt (fun y s'' => TurnE bb h₀ L m I oI C oC D (lst ys) (J (i + 1) (ys ++ [y])) s' s'') (fun s'' => TurnE bb h₀ L m I oI C oC D (lst ys) (J (i + 1) ys) s' s'') E' s')
    (fin : ∀ D ys nw, J its.size ys nw → End s₁ D ys nw) :
    CompGo prog w A bb h₀ L m env elt (.Name x px) iter ifs scope cl pos E End (.ref ax) s₁ := by
  intro RR hRR
  have ht : IsTup s₁.heap ax its := hsrc.at F.keep N
  have hlt : ax < s₁.heap.objs.size := by obtain ⟨_, e, _⟩ := ht; exact Heap.lt_size e
  refine wpAny_pyIter_tuple ht ?_
  have up : ∀ b o, s₁.heap.get? b = some o → (s₁.heap.push { cls := .type "tuple_iterator", data := .fields #[.ref ax, .int 0 0] }).get? b = some o := fun b o e => Heap.get?_push_of_some _ e
  refine comp_loop (bb := bb) (Bd := fun v m' => m' x = some v) J (Walks.tuple hh s₁.heap.objs.size ax (Nat.ne_of_lt hlt) its) hsz (fun i h st => by obtain ⟨o, e, _⟩ := st.1; exact ⟨o, e⟩)
    (fun i h h' o nw ys st e e' k N' j => ⟨by obtain ⟨o', q, r⟩ := st.1; rw [e] at q; cases q; exact ⟨o, e', r⟩, (hJs _ _ _ j).1.at k N'⟩) (fun i ys nw j => (hJs _ _ _ j).2) (fun v => rfl) hcell hkind
    ⟨⟨_, Heap.get?_push_size _ rfl, rfl, rfl⟩, IsTup.keeps ht up⟩ (fun b hb => ?_)
    (F.keeps up) (N.grown up) (Nat.ne_of_lt F.ns.lt) (next_is_new F) (fun p hp => Nat.ne_of_lt (Heap.lt_size (N p hp).1)) h0
    (fun i v ys nw C mC s' Q' E' _ _ hn _ _ _ _ _ k => asg_name hkind hx hn k)
    (fun i v ys nw oI C oC D mC s' E' hi hP j hoC hB hsm F' N' o3 ne => turn i v ys nw _ oI C oC D mC s' E' hP j hoC hB (Sm.trans ⟨_, s₁.toks, s₁.drawn, fun _ => rfl, rfl⟩ hsm) F' N' o3 ne)
    (fun D C m' ys nw s' j hsm F' N' o1 hn hC₀ hD₀ hCL hDL hCD offC => hRR D C m' ys nw s' (fin D ys nw j) (Sm.trans ⟨_, s₁.toks, s₁.drawn, fun _ => rfl, rfl⟩ hsm) F' N' o1 hn hC₀ hD₀ hCL hDL hCD offC)
  show b < (s₁.heap.push _).objs.size
  rw [Heap.size_push]
  rcases List.mem_cons.mp hb with rfl | hb
  · exact Nat.lt_succ_self _
  · rw [List.mem_singleton.mp hb]; exact Nat.lt_succ_of_lt hlt
end
noncomputable abbrev PostV (n : Int) (D : List (PyData × PyData)) (T : Tm) (k : Int) : Prop := k = V n D T ∧ 0 ≤ k ∧ k < n
noncomputable abbrev OutV (n : Int) (D : List (PyData × PyData)) (T : Tm) (r : Value) : Prop := ∃ (k : Int) (t : Tok), r = .int k t ∧ k = V n D T ∧ 0 ≤ k ∧ k < n
inductive Kids (n : Int) (D : List (PyData × PyData)) : List Tm → List Value → Prop where
  | nil : Kids n D [] []
  | cons {T : Tm} {v : Value} {Ts : List Tm} {vs : List Value} : OutV n D T v → Kids n D Ts vs → Kids n D (T :: Ts) (v :: vs)
theorem Kids.snoc {n : Int} {D : List (PyData × PyData)} {T : Tm} {v : Value} : ∀ {Ts : List Tm} {vs : List Value}, Kids n D Ts vs → OutV n D T v → Kids n D (Ts ++ [T]) (vs ++ [v])
  | _, _, .nil, h => .cons h .nil
  | _, _, .cons a b, h => .cons a (b.snoc h)
theorem Kids.length {n : Int} {D : List (PyData × PyData)} : ∀ {Ts : List Tm} {vs : List Value}, Kids n D Ts vs → vs.length = Ts.length
  | _, _, .nil => rfl
  | _, _, .cons _ b => congrArg (· + 1) b.length
theorem Kids.one {n : Int} {D : List (PyData × PyData)} {T : Tm} {vs : List Value} (h : Kids n D [T] vs) : ∃ k t, vs = [.int k t] ∧ k = V n D T ∧ 0 ≤ k ∧ k < n := by
  cases h with
  | cons a b => cases b; obtain ⟨k, t, rfl, r⟩ := a; exact ⟨k, t, rfl, r⟩
theorem Kids.two {n : Int} {D : List (PyData × PyData)} {T U : Tm} {vs : List Value} (h : Kids n D [T, U] vs) : ∃ k t k' t', vs = [.int k t, .int k' t'] ∧ (k = V n D T ∧ 0 ≤ k ∧ k < n) ∧ k' = V n D U ∧ 0 ≤ k' ∧ k' < n := by
  cases h with
  | cons a b =>
    obtain ⟨k, t, rfl, r⟩ := a
    obtain ⟨k', t', rfl, r'⟩ := b.one
    exact ⟨k, t, k', t', rfl, r, r'⟩
local macro_rules | `(tactic| k_mem) => `(tactic| assumption)
theorem rows_03 : True := by
  k_with "m:room0" => (((with_reducible rename @LT.lt Nat _ _ recursionLimit => hd9R9); (have hd8R9 := hd9R9); (simp only [recursionLimit] at hd8R9); (try simp only [depth_under_make, depth_under_kw, depth_in1, depth_deeper, depth_caller]); (simp only [recursionLimit]); omega))
  k_with "m:units0" => (((with_reducible rename @LT.lt Nat _ _ cLine => hu9R9); (have hu8R9 := hu9R9); (simp only [cLine_is] at hu8R9); (try simp only [units_in1, units_deeper, Around.mark_units, units_caller]); (simp only [cLine_is]); omega))
  k_with "m:room" => (((with_reducible rename @LT.lt Nat _ _ recursionLimit => hd9R9); first | exact roomL (c := 0) hd9R9 rfl | exact roomL (c := 1) hd9R9 rfl | exact roomL (c := 2) hd9R9 rfl | exact roomL (c := 3) hd9R9 rfl | exact roomL (c := 4) hd9R9 rfl | exact roomL (c := 5) hd9R9 rfl | exact roomL (c := 6) hd9R9 rfl | exact roomL (c := 7) hd9R9 rfl | exact roomL (c := 8) hd9R9 rfl | walk_at "m:room0"))
  k_with "m:units" => (((with_reducible rename @LT.lt Nat _ _ cLine => hu9R9); first | exact roomL (c := 0) hu9R9 rfl | exact roomL (c := 1) hu9R9 rfl | exact roomL (c := 2) hu9R9 rfl | exact roomL (c := 3) hu9R9 rfl | exact roomL (c := 4) hu9R9 rfl | exact roomL (c := 5) hu9R9 rfl | exact roomL (c := 6) hu9R9 rfl | exact roomL (c := 7) hu9R9 rfl | exact roomL (c := 8) hu9R9 rfl | exact roomL (c := 9) hu9R9 rfl | exact roomL (c := 10) hu9R9 rfl | exact roomL (c := 11) hu9R9 rfl | exact roomL (c := 12) hu9R9 rfl | exact roomL (c := 13) hu9R9 rfl | exact roomL (c := 14) hu9R9 rfl | exact roomL (c := 15) hu9R9 rfl | exact roomL (c := 16) hu9R9 rfl | exact roomL (c := 17) hu9R9 rfl | exact roomL (c := 18) hu9R9 rfl | exact roomL (c := 19) hu9R9 rfl | exact roomL (c := 20) hu9R9 rfl | exact roomL (c := 21) hu9R9 rfl | exact roomL (c := 22) hu9R9 rfl | exact roomL (c := 23) hu9R9 rfl | walk_at "m:units0"))
  k_with "m:enter" => (first
    | (refine' code_def ?k1R9 ?k2R9 ?k3R9 ?k4R9 ?k5R9 ?kAR9 ?kFR9 ?kKR9 ?k6R9 ?k7R9 ?k8R9 ?k9R9 ?kBR9 ?_ ?c2R9 ?c3R9 ?c4R9 ?c5R9; (case kAR9 => exact rfl); (case kFR9 => first | assumption | exact rfl); (case kKR9 => first | assumption | exact rfl); (case k1R9 => k_asm); (case k2R9 => k_asm); (case k3R9 => k_asm); (case k4R9 => k_asm); (case k5R9 => k_asm); (case k6R9 => k_is); (case k7R9 => k_is); (case k8R9 => walk_at "m:room"); (case k9R9 => exact BindsTo.of_eq rfl); (case c5R9 => decide); (case kBR9 => exact locs rfl); (case c2R9 => exact rfl); (case c3R9 => exact rfl); (case c4R9 => exact rfl); k_whole; intro g'R9 L'R9 h'R9 FG'R9 F'R9 N'R9 B'R9 X'R9 T'R9; (try dsimp only); (try k_unmd); (try k_fold))
    | (refine' code_defC ?k1R9 ?k2R9 ?k3R9 ?k4R9 ?k5R9 ?kAR9 ?kFR9 ?kKR9 ?k6R9 ?k7R9 ?k8R9 ?k9R9 ?kBR9 ?kDR9 ?_ ?c2R9 ?c3R9 ?c4R9; (case kAR9 => exact rfl); (case kFR9 => first | assumption | exact rfl); (case kKR9 => first | assumption | exact rfl); (case k1R9 => k_asm); (case k2R9 => k_asm); (case k3R9 => k_asm); (case k4R9 => k_asm); (case k5R9 => k_asm); (case k6R9 => k_is); (case k7R9 => k_is); (case k8R9 => walk_at "m:room"); (case k9R9 => exact BindsTo.of_eq rfl); (case kBR9 => exact rfl); (case kDR9 => decide +kernel); (case c2R9 => exact rfl); (case c3R9 => exact rfl); (case c4R9 => exact rfl); k_whole; intro g'R9 L'R9 h'R9 tk'R9 cells'R9 FG'R9 F'R9 N'R9 Y'R9 B'R9 X'R9 T'R9 l1R9; (try k_lt l1R9); refine hide9 fun G9R9 h9R9 => ?_; k_cells Y'R9; (try simp only [List.cons_append, List.nil_append] at N'R9); refine h9R9 ?_; clear h9R9; (try clear G9R9); (try dsimp only); (try k_unmd); (try k_fold)))
  k_with "subscriptTail Name Slice ref ref" => ((k_here; (with_reducible show wpAny _ _ (subscriptTail _ (PySem.Expr.Slice _ _ none _) (Value.ref _) (Value.ref _)) _ _ _); k_dflt (refine' tup_from ?FR9 ?NR9 ?lR9 ?_ ?sR9 ?tR9 ?zR9; (case FR9 => k_asm); (case NR9 => k_asm); (case lR9 => exact News.isTup (by k_asm) (by k_mem)); (case sR9 => with_unfolding_all rfl); (case tR9 => intro _; with_unfolding_all rfl); (case zR9 => exact Nat.le_of_ble_eq_true rfl)); intro D'R9 h'R9 F'R9 N'R9 l1R9; (try k_lt l1R9)))
  k_with "exec Assign cons ListComp" => ((k_here; k_dflt (refine Assign_go false (F₀ := by k_asm) (by rfl) (by with_unfolding_all rfl) (by with_unfolding_all rfl) (by rfl) (by decide) (by rfl) (by rfl) ?_)))
  k_with "eval ListComp" => ((k_here; k_dflt (refine ListComp_go false (F₀ := by k_asm) (by with_unfolding_all rfl) (by rfl) (by decide) ?_)))
  k_with "call ref" => (k_extra "m:call")
  k_with "m:sides" => (((case k1 => k_asm); (case k2 => k_asm); (case k3 => k_asm); (case k4 => k_asm); (case k5 => k_asm); (case kf => first | assumption | exact rfl); (case kk => first | assumption | exact rfl); (case kd => walk_at "m:room"); (case ku => walk_at "m:units")))
  k_with "m:mem9" => (first | with_reducible assumption | with_reducible exact List.mem_cons_self | (with_reducible refine List.mem_cons_of_mem _ ?_; walk_at "m:mem9") | (refine List.mem_append_left _ ?_; walk_at "m:mem9") | (refine List.mem_append_right _ ?_; walk_at "m:mem9"))
  k_with "m:perm" => (((try simp only [List.cons_append, List.nil_append]); repeat' (first | (with_reducible refine List.forall_mem_cons.2 ⟨?_, ?_⟩) | (with_reducible refine List.forall_mem_append.2 ⟨?_, ?_⟩) | (with_reducible exact List.forall_mem_nil _) | (intro p9R9 hp9R9; walk_at "m:mem9") | walk_at "m:mem9")))
  k_with "m:sub" => ((intro p9R9 hp9R9; first | exact hp9R9 | ((repeat (first | exact hp9R9 | refine List.Mem.tail _ ?_ | refine List.mem_append_right _ ?_)); done) | (simp only [List.mem_cons, List.mem_append, hp9R9, or_true, true_or]; done)))
  k_with "subscriptTail Name Constant ref int" => ((k_here; (with_reducible show wpAny _ _ (subscriptTail _ _ (Value.ref _) (Value.int _ _)) _ _ _); k_dflt (first | (refine' lst_item ?lR9 ?aR9 ?bR9 ?dR9 ?_ ?sR9; (case lR9 => exact News.isList (by k_asm) (by k_mem)); (case aR9 => decide); (case bR9 => decide); (case dR9 => rfl); (case sR9 => with_unfolding_all rfl)) | (refine' item_tupleT ?tR9 ?aR9 ?bR9 ?cR9 ?dR9 ?_; (case tR9 => exact News.isTup (by k_asm) (by k_mem)); (case aR9 => decide); (case bR9 => decide); (case cR9 => rfl); (case dR9 => rfl)))))
  k_with "call builtin:str.index" => (first | refine index_lit (k := 0) (by rfl) (by decide +kernel) (by decide) ?_ | refine index_lit (k := 1) (by rfl) (by decide +kernel) (by decide) ?_ | refine index_lit (k := 2) (by rfl) (by decide +kernel) (by decide) ?_ | refine index_lit (k := 3) (by rfl) (by decide +kernel) (by decide) ?_ | refine index_lit (k := 7) (by rfl) (by decide +kernel) (by decide) ?_)
  k_with "UnrEnd" => ((refine' UnrEnd.intro ?FR9 ?NR9 _ (fun _ h => h) ?oR9 ?rR9; (case FR9 => k_asm); (case NR9 => k_asm); (case oR9 => (refine off_lt ?_; first | assumption | (simp only [AllLt]; assumption))); (try simp only [List.cons_append, List.nil_append])))
  trivial
theorem fold_gone (n : Int) (hn : 0 < n) (ks : List Int) : ∀ b : Int, 0 ≤ b → b < n →
    (List.foldl (fun (σ : Int × Unit) (_ : Int) => if σ.fst + 1 < n then (σ.fst + 1, ()) else (0, ())) (b, ()) ks).fst = (b + (ks.length : Int)) % n := by
  induction ks with
  | nil => intro b h0 h1; simp only [List.foldl_nil, List.length_nil]; rw [Int.emod_eq_of_lt (by omega) (by omega)]; omega
  | cons k r ih =>
    intro b h0 h1
    simp only [List.foldl_cons, List.length_cons]
    by_cases h : b + 1 < n
    · rw [if_pos h, ih (b + 1) (by omega) h]; congr 1; omega
    · rw [if_neg h, ih 0 (by omega) hn]
      have e : b + ((r.length + 1 : Nat) : Int) = (0 + (r.length : Int)) + n := by omega
      rw [e, Int.add_emod_right]
inductive GoneR (n b m : Int) : List Value → Prop
  | mk {t1 t2 t3} : GoneR n b m [.int n t1, .int b t2, .int m t3]
/-- the place that is gone to: what _law_gone gives back -/
theorem gone_tell (w : World) (p : Program) (loose : List Str) (mean : ExcName → Option Value) (mg mb : Str → Option Value) (n b m : Int) (h1 : 0 ≤ b) (h2 : b < n) (h3 : 0 ≤ m) (h4 : m ≤ 1000) :
    TellI PySem.Challenge.rw_pq0039_01.prog w (Mine.hd.heap_39 w.params) p loose mean mg mb 190 1 (fun _ vs => GoneR n b m vs) (fun k => k = (b + m) % n ∧ 0 ≤ k ∧ k < n) := by
  k_fill
  unfold TellI
  intro dp un gd env outer A₀ base h₀ L mm news s vs Q E B F X N T hf hk hd hu hp hret
  cases hp
  refine wpAny_call ?_
  k_dflt (walk_at "m:enter")
  k_steps
  all_goals (
    refine hret _ _ _ _ (by k_asm) (by k_asm) ?_
    exact (show ∀ x : Int, x = (b + m) % n → x = (b + m) % n ∧ 0 ≤ x ∧ x < n from fun x e => ⟨e, e ▸ Int.emod_nonneg _ (by omega), e ▸ Int.emod_lt_of_pos _ (by omega)⟩) _
      ((fold_gone n (by omega) (rangeInts 0 1 (m - 0).toNat) b h1 h2).trans (by rw [rangeInts_length]; congr 1; omega)))
inductive WorthR (prog : Program) (w : World) (n : Int) (D : List (PyData × PyData)) (T : Tm) (news : List (Addr × Obj)) : List Value → Prop
  | mk {t : Tok} {v : Value} {d : Addr} : TmIn news v T → EnvIn prog w news d D → WorthR prog w n D T news [.int n t, v, .ref d]
noncomputable def WorthT (w : World) (p : Program) (loose : List Str) (mean : ExcName → Option Value) (mg mb : Str → Option Value) (n : Int) (D : List (PyData × PyData)) (T : Tm) : Prop :=
  TellI PySem.Challenge.rw_pq0039_01.prog w (Mine.hd.heap_39 w.params) p loose mean mg mb 195 (2 * T.size + 2) (fun news vs => WorthR PySem.Challenge.rw_pq0039_01.prog w n D T news vs) (PostV n D T)
/-- a tuple of the top's, whatever its place -/
noncomputable def TupB (K : Frag) (ad : Addr) (l : List Value) : Prop := ∀ g, K.In g → IsTup g ad l.toArray
theorem TupB.at {K : Frag} {ad : Addr} {l : List Value} {h : Heap} (x : TupB K ad l) (k : K.In h) : IsTup h ad l.toArray := x h k
theorem TupB.of {K : Frag} {ad : Addr} {l : List Value} {n : Nat} {dd : Option Addr} {sl : Array (Option Value)} (e : K.lookup ad = some ⟨.type "tuple", dd, .seq l.toArray n, sl⟩) : TupB K ad l := fun _ X => tupK X e
theorem TmIn.leaf_base {news : List (Addr × Obj)} {v : Value} {s : Str} (h : TmIn news v (.leaf s)) :
    (∃ a t n, v = .ref a ∧ (a, tupO [.str s t] n) ∈ news) ∨ ((v = .ref 123 ∧ s = "?a") ∨ (v = .ref 124 ∧ s = "?b") ∨ (v = .ref 125 ∧ s = "?c")) := h.leaf_inv
/-- a tuple that can be read, wherever it stands -/
noncomputable def TupAt (K : Frag) (g : Heap) (L : Addr) (news : List (Addr × Obj)) (ad : Addr) (l : List Value) : Prop := ∀ h, K.In h → News g L h news → IsTup h ad l.toArray
/-- a tuple of the top's, or one of the ledger -/
noncomputable def TupR (K : Frag) (news : List (Addr × Obj)) (ad : Addr) (l : List Value) : Prop := TupB K ad l ∨ ∃ n, (ad, tupO l n) ∈ news
theorem TupR.ofK {K : Frag} {news : List (Addr × Obj)} {ad : Addr} {l : List Value} (h : TupB K ad l) : TupR K news ad l := .inl h
theorem TupR.ofN {K : Frag} {news : List (Addr × Obj)} {ad : Addr} {l : List Value} {n : Nat} (h : (ad, tupO l n) ∈ news) : TupR K news ad l := .inr ⟨n, h⟩
theorem TupR.at {K : Frag} {news nw : List (Addr × Obj)} {ad : Addr} {l : List Value} {g h : Heap} {L : Addr} (t : TupR K news ad l) (X : K.In h) (N : News g L h nw) (s : ∀ p ∈ news, p ∈ nw) : IsTup h ad l.toArray :=
  match t with
  | .inl b => b h X
  | .inr ⟨_, m⟩ => N.isTup (s _ m)
theorem TupR.tup {K : Frag} {news nw : List (Addr × Obj)} {ad : Addr} {l : List Value} {g : Heap} {L : Addr} (t : TupR K news ad l) (s : ∀ p ∈ news, p ∈ nw) : TupAt K g L nw ad l := fun _ X N => t.at X N s
theorem TupR.mono {K : Frag} {news nw : List (Addr × Obj)} {ad : Addr} {l : List Value} (t : TupR K news ad l) (s : ∀ p ∈ news, p ∈ nw) : TupR K nw ad l :=
  match t with
  | .inl b => .inl b
  | .inr ⟨n, m⟩ => .inr ⟨n, s _ m⟩
theorem TupAt.mem {K : Frag} {g : Heap} {L : Addr} {news : List (Addr × Obj)} {ad : Addr} {l : List Value} {n : Nat} (h : (ad, tupO l n) ∈ news) : TupAt K g L news ad l := fun _ _ N => N.isTup h
theorem len_one {prog : Program} {w : World} {A : Around} {E : Value → Shared → Prop} {s : Shared} {t : Addr} {x : Value} {Q : Value → Shared → Prop} (ht : IsTup s.heap t [x].toArray) (h : Q (.int 1 (s.toks + 1)) { s with toks := s.toks + 1 + 1 }) : wpAny (model prog w) A (call (.builtin "len") [.ref t]) Q E s :=
  len_tuple ht (by show ((1 : Nat) : Int) < 2 ^ 63; decide) h
/-- a leaf's tuple -/
theorem TmIn.leaf_tup {w : World} {news : List (Addr × Obj)} {v : Value} {z : Str} (h : TmIn news v (.leaf z)) : ∃ ad tt, v = .ref ad ∧ TupR (Mine.hd.heap_39 w.params) news ad [.str z tt] := by
  rcases h.leaf_inv with ⟨a, t, n, rfl, hm⟩ | ⟨rfl, rfl⟩ | ⟨rfl, rfl⟩ | ⟨rfl, rfl⟩
  · exact ⟨a, t, rfl, .ofN hm⟩
  · exact ⟨123, 336, rfl, .ofK (TupB.of (n := 0) (dd := none) (sl := #[]) (by kernel_rfl))⟩
  · exact ⟨124, 337, rfl, .ofK (TupB.of (n := 0) (dd := none) (sl := #[]) (by kernel_rfl))⟩
  · exact ⟨125, 338, rfl, .ofK (TupB.of (n := 0) (dd := none) (sl := #[]) (by kernel_rfl))⟩
theorem rows_05c : True := by
  k_with "subscriptTail Name Constant ref int" => ((k_here; (with_reducible show wpAny _ _ (subscriptTail _ _ (Value.ref _) (Value.int _ _)) _ _ _); (with_reducible rename TupR _ _ _ _ => tBR9); k_dflt (refine' item_tupleT ?tR9 ?aR9 ?bR9 ?cR9 ?dR9 ?_; (case tR9 => exact TupR.at tBR9 (by k_in) (by k_asm) (by walk_at "m:sub")); (case aR9 => decide); (case bR9 => decide); (case cR9 => rfl); (case dR9 => rfl))))
  k_with "call builtin:len" => ((k_here; (with_reducible show wpAny _ _ (call (Value.builtin "len") [Value.ref _]) _ _ _); (with_reducible rename TupR _ _ _ _ => tBR9); k_dflt (refine len_one (TupR.at tBR9 (by k_in) (by k_asm) (by walk_at "m:sub")) ?_)))
  trivial
theorem rows_06 : True := by
  k_with "m:out" => ((intro k9R9 t9R9 h9R9 tk9R9 F9R9 N9R9 ho9R9; have g9R9 := ho9R9.1; have l9R9 := ho9R9.2.1; have u9R9 := ho9R9.2.2; clear ho9R9; (try k_unmd); (try k_sweep); (try dsimp only); (try k_fold)))
  k_with "call ref" => ((k_here; (with_reducible show wpAny _ _ (call (Value.ref 190) [Value.int _ _, Value.int _ _, Value.int _ _]) _ _ _); (refine' TellI.use (gone_tell _ _ _ _ _ _ _ _ _ ?h1R9 ?h2R9 ?h3R9 ?h4R9) ?k1R9 ?k2R9 ?k3R9 ?k4R9 ?k5R9 ?kfR9 ?kkR9 ?kdR9 ?kuR9 (GoneR.mk) ?_); (case h1R9 => omega); (case h2R9 => omega); (case h3R9 => omega); (case h4R9 => omega); (case k1R9 => k_asm); (case k2R9 => k_asm); (case k3R9 => k_asm); (case k4R9 => k_asm); (case k5R9 => k_asm); (case kfR9 => first | assumption | exact rfl); (case kkR9 => first | assumption | exact rfl); (case kdR9 => walk_at "m:room"); (case kuR9 => walk_at "m:units"); walk_at "m:out"))
  k_with "ite" => (first | refine ite_pos (by assumption) ?_ | refine ite_neg (by assumption) ?_)
  trivial
theorem worth_neg (w : World) (p : Program) (loose : List Str) (mean : ExcName → Option Value) (mg mb : Str → Option Value) (n : Int) (hn : 0 < n) (hn3 : n ≤ 3) (D : List (PyData × PyData)) (a : Tm) (hl : lookup (.str "neg") D = none) (IH : WorthT w p loose mean mg mb n D a) : WorthT w p loose mean mg mb n D (Tm.un "neg" a) := by
  unfold WorthT
  k_fill
  unfold TellI
  intro dp un gd env outer A₀ base h₀ L mm news s vs Q E B F X N T hf hk hd hu hp hret
  cases hp with
  | mk hT hE =>
  have hE2 := hE
  obtain ⟨lo, o, kvs, hm, hdo, hfl⟩ := hE
  obtain ⟨ad, tt, uv, nn, rfl, hmem, hT1⟩ := hT.un_inv
  obtain ⟨ua, rfl⟩ := hT1.isRef
  have hln : ¬ (lookup (.str "neg") D).isSome = true := by rw [hl]; simp
  have hsz : (Tm.un "neg" a).size = a.size + 1 := rfl
  rw [hsz] at hd hu
  refine wpAny_call ?_
  k_dflt (walk_at "m:enter")
  k_steps
  rename Fr _ _ _ _ => F9
  rename News _ _ _ _ => N9
  refine CompGo.tup (fun i ys nw => nw = _ ∧ Kids n D ([a].take i) ys) (by decide) (by rfl) (by rfl) (by rfl) F9 N9 (.inr ⟨_, by k_mem, rfl, _, rfl⟩) (Nat.le_of_ble_eq_true rfl) ⟨rfl, .nil⟩ ?hJs ?turn ?fin
  case hJs =>
    intro i ys nw hr5
    refine hide9 fun G9 h9 => ?_
    rcases hr5 with ⟨rfl, hK⟩
    refine h9 ?_
    clear h9 G9
    refine ⟨.inr ⟨_, by k_mem, rfl, _, rfl⟩, ?_⟩
    rw [hK.length, List.length_take]
    exact Nat.min_le_left _ _
  case turn =>
    intro i v ys nw I oI C oC D' mC s' E' hv hj hoC hx hs F1 N1 o3 ne
    obtain ⟨rfl, hK⟩ := hj
    obtain ⟨h1, tk1, rfl⟩ := hs.is
    show wpAny _ _ (eval _ _) _ _ _
    clear F9 N9
    rcases i with _ | i
    · obtain rfl : Value.ref ua = v := by simpa using hv
      k_with "m:call" => ((with_reducible show wpAny _ _ (call (Value.ref 195) _) _ _ _); refine' TellI.use IH ?k1 ?k2 ?k3 ?k4 ?k5 ?kf ?kk ?kd ?ku (WorthR.mk (TmIn.mono hT1 ?s1) (EnvIn.mono hE2 ?s2)) ?_; (walk_at "m:sides"); (case s1 => walk_at "m:sub"); (case s2 => walk_at "m:sub"); walk_at "m:out")
      k_steps
      all_goals exact TurnE.intro Sm.ht (by k_asm) (by k_asm) _ (fun _ h => h) o3 ⟨rfl, by rw [List.take_zero] at hK; cases hK; exact .cons ⟨_, _, rfl, by assumption, by assumption, by assumption⟩ .nil⟩
    simp at hv
  case fin =>
    intro D' ys nw hj s' hs F1 N1 o1
    obtain ⟨rfl, hK⟩ := hj
    obtain ⟨k, t, rfl, hk1, hk2, hk3⟩ := Kids.one hK
    obtain ⟨h1, tk1, rfl⟩ := hs.is
    clear F9 N9 hK hs
    try k_fold
    k_steps
    all_goals refine hret _ _ _ _ (by k_asm) (News.sub (by k_asm) (by walk_at "m:sub")) ⟨?_, by assumption, by assumption⟩
    all_goals (rename _ = (0 + (n - k)) % n => g9; rw [g9]; show _ = (- V n D a) % n; rw [← hk1, show 0 + (n - k) = -k + n from by omega, Int.add_emod_right])
theorem worth_add (w : World) (p : Program) (loose : List Str) (mean : ExcName → Option Value) (mg mb : Str → Option Value) (n : Int) (hn : 0 < n) (hn3 : n ≤ 3) (D : List (PyData × PyData)) (a b : Tm) (hl : lookup (.str "add") D = none) (IH1 : WorthT w p loose mean mg mb n D a) (IH2 : WorthT w p loose mean mg mb n D b) : WorthT w p loose mean mg mb n D (Tm.bin "add" a b) := by
  unfold WorthT
  k_fill
  unfold TellI
  intro dp un gd env outer A₀ base h₀ L mm news s vs Q E B F X N T hf hk hd hu hp hret
  cases hp with
  | mk hT hE =>
  have hE2 := hE
  obtain ⟨lo, o, kvs, hm, hdo, hfl⟩ := hE
  obtain ⟨ad, tt, uv, uv', nn, rfl, hmem, hT1, hT2⟩ := hT.bin_inv
  obtain ⟨ua, rfl⟩ := hT1.isRef
  obtain ⟨ub, rfl⟩ := hT2.isRef
  have hln : ¬ (lookup (.str "add") D).isSome = true := by rw [hl]; simp
  have hsz : (Tm.bin "add" a b).size = a.size + b.size + 1 := rfl
  rw [hsz] at hd hu
  refine wpAny_call ?_
  k_dflt (walk_at "m:enter")
  k_steps
  rename Fr _ _ _ _ => F9
  rename News _ _ _ _ => N9
  refine CompGo.tup (fun i ys nw => nw = _ ∧ Kids n D ([a, b].take i) ys) (by decide) (by rfl) (by rfl) (by rfl) F9 N9 (.inr ⟨_, by k_mem, rfl, _, rfl⟩) (Nat.le_of_ble_eq_true rfl) ⟨rfl, .nil⟩ ?hJs ?turn ?fin
  case hJs =>
    intro i ys nw hr5
    refine hide9 fun G9 h9 => ?_
    rcases hr5 with ⟨rfl, hK⟩
    refine h9 ?_
    clear h9 G9
    refine ⟨.inr ⟨_, by k_mem, rfl, _, rfl⟩, ?_⟩
    rw [hK.length, List.length_take]
    exact Nat.min_le_left _ _
  case turn =>
    intro i v ys nw I oI C oC D' mC s' E' hv hj hoC hx hs F1 N1 o3 ne
    obtain ⟨rfl, hK⟩ := hj
    obtain ⟨h1, tk1, rfl⟩ := hs.is
    show wpAny _ _ (eval _ _) _ _ _
    clear F9 N9
    rcases i with _ | i
    · obtain rfl : Value.ref ua = v := by simpa using hv
      k_with "m:call" => ((with_reducible show wpAny _ _ (call (Value.ref 195) _) _ _ _); refine' TellI.use IH1 ?k1 ?k2 ?k3 ?k4 ?k5 ?kf ?kk ?kd ?ku (WorthR.mk (TmIn.mono hT1 ?s1) (EnvIn.mono hE2 ?s2)) ?_; (walk_at "m:sides"); (case s1 => walk_at "m:sub"); (case s2 => walk_at "m:sub"); walk_at "m:out")
      k_steps
      all_goals exact TurnE.intro Sm.ht (by k_asm) (by k_asm) _ (fun _ h => h) o3 ⟨rfl, by rw [List.take_zero] at hK; cases hK; exact .cons ⟨_, _, rfl, by assumption, by assumption, by assumption⟩ .nil⟩
    rcases i with _ | i
    · obtain rfl : Value.ref ub = v := by simpa using hv
      k_with "m:call" => ((with_reducible show wpAny _ _ (call (Value.ref 195) _) _ _ _); refine' TellI.use IH2 ?k1 ?k2 ?k3 ?k4 ?k5 ?kf ?kk ?kd ?ku (WorthR.mk (TmIn.mono hT2 ?s1) (EnvIn.mono hE2 ?s2)) ?_; (walk_at "m:sides"); (case s1 => walk_at "m:sub"); (case s2 => walk_at "m:sub"); walk_at "m:out")
      k_steps
      all_goals exact TurnE.intro Sm.ht (by k_asm) (by k_asm) _ (fun _ h => h) o3 ⟨rfl, hK.snoc ⟨_, _, rfl, by assumption, by assumption, by assumption⟩⟩
    simp at hv
  case fin =>
    intro D' ys nw hj s' hs F1 N1 o1
    obtain ⟨rfl, hK⟩ := hj
    obtain ⟨k, t, k', t', rfl, ⟨hk1, hk2, hk3⟩, hk4, hk5, hk6⟩ := Kids.two hK
    obtain ⟨h1, tk1, rfl⟩ := hs.is
    clear F9 N9 hK hs
    try k_fold
    k_steps
    all_goals refine hret _ _ _ _ (by k_asm) (News.sub (by k_asm) (by walk_at "m:sub")) ⟨?_, by assumption, by assumption⟩
    all_goals (rename _ = (k + k') % n => g9; rw [g9]; show _ = if _ then _ else _; rw [if_pos rfl, ← hk1, ← hk4])
theorem mul_step {k n f r x : Int} {pre : List Int} (h1 : f = (k * (pre.length : Int)) % n) (h2 : r = (f + k) % n) (h3 : 0 ≤ r) (h4 : r < n) : r = (k * ((pre ++ [x]).length : Int)) % n ∧ 0 ≤ r ∧ r < n := by
  refine ⟨?_, h3, h4⟩
  rw [h2, h1, Int.emod_add_emod, List.length_append, List.length_singleton, Int.natCast_add, Int.mul_add]
  congr 2
  show k = k * 1
  rw [Int.mul_one]
theorem rangeKs_len (a : Int) (n : Nat) : (rangeKs a n).length = n := by simp [rangeKs]
theorem worth_mul (w : World) (p : Program) (loose : List Str) (mean : ExcName → Option Value) (mg mb : Str → Option Value) (n : Int) (hn : 0 < n) (hn3 : n ≤ 3) (D : List (PyData × PyData)) (a b : Tm) (hl : lookup (.str "mul") D = none) (IH1 : WorthT w p loose mean mg mb n D a) (IH2 : WorthT w p loose mean mg mb n D b) : WorthT w p loose mean mg mb n D (Tm.bin "mul" a b) := by
  unfold WorthT
  k_fill
  unfold TellI
  intro dp un gd env outer A₀ base h₀ L mm news s vs Q E B F X N T hf hk hd hu hp hret
  cases hp with
  | mk hT hE =>
  have hE2 := hE
  obtain ⟨lo, o, kvs, hm, hdo, hfl⟩ := hE
  obtain ⟨ad, tt, uv, uv', nn, rfl, hmem, hT1, hT2⟩ := hT.bin_inv
  obtain ⟨ua, rfl⟩ := hT1.isRef
  obtain ⟨ub, rfl⟩ := hT2.isRef
  have hln : ¬ (lookup (.str "mul") D).isSome = true := by rw [hl]; simp
  have hsz : (Tm.bin "mul" a b).size = a.size + b.size + 1 := rfl
  rw [hsz] at hd hu
  refine wpAny_call ?_
  k_dflt (walk_at "m:enter")
  k_steps
  rename Fr _ _ _ _ => F9
  rename News _ _ _ _ => N9
  refine CompGo.tup (fun i ys nw => nw = _ ∧ Kids n D ([a, b].take i) ys) (by decide) (by rfl) (by rfl) (by rfl) F9 N9 (.inr ⟨_, by k_mem, rfl, _, rfl⟩) (Nat.le_of_ble_eq_true rfl) ⟨rfl, .nil⟩ ?hJs ?turn ?fin
  case hJs =>
    intro i ys nw hr5
    refine hide9 fun G9 h9 => ?_
    rcases hr5 with ⟨rfl, hK⟩
    refine h9 ?_
    clear h9 G9
    refine ⟨.inr ⟨_, by k_mem, rfl, _, rfl⟩, ?_⟩
    rw [hK.length, List.length_take]
    exact Nat.min_le_left _ _
  case turn =>
    intro i v ys nw I oI C oC D' mC s' E' hv hj hoC hx hs F1 N1 o3 ne
    obtain ⟨rfl, hK⟩ := hj
    obtain ⟨h1, tk1, rfl⟩ := hs.is
    show wpAny _ _ (eval _ _) _ _ _
    clear F9 N9
    rcases i with _ | i
    · obtain rfl : Value.ref ua = v := by simpa using hv
      k_with "m:call" => ((with_reducible show wpAny _ _ (call (Value.ref 195) _) _ _ _); refine' TellI.use IH1 ?k1 ?k2 ?k3 ?k4 ?k5 ?kf ?kk ?kd ?ku (WorthR.mk (TmIn.mono hT1 ?s1) (EnvIn.mono hE2 ?s2)) ?_; (walk_at "m:sides"); (case s1 => walk_at "m:sub"); (case s2 => walk_at "m:sub"); walk_at "m:out")
      k_steps
      all_goals exact TurnE.intro Sm.ht (by k_asm) (by k_asm) _ (fun _ h => h) o3 ⟨rfl, by rw [List.take_zero] at hK; cases hK; exact .cons ⟨_, _, rfl, by assumption, by assumption, by assumption⟩ .nil⟩
    rcases i with _ | i
    · obtain rfl : Value.ref ub = v := by simpa using hv
      k_with "m:call" => ((with_reducible show wpAny _ _ (call (Value.ref 195) _) _ _ _); refine' TellI.use IH2 ?k1 ?k2 ?k3 ?k4 ?k5 ?kf ?kk ?kd ?ku (WorthR.mk (TmIn.mono hT2 ?s1) (EnvIn.mono hE2 ?s2)) ?_; (walk_at "m:sides"); (case s1 => walk_at "m:sub"); (case s2 => walk_at "m:sub"); walk_at "m:out")
      k_steps
      all_goals exact TurnE.intro Sm.ht (by k_asm) (by k_asm) _ (fun _ h => h) o3 ⟨rfl, hK.snoc ⟨_, _, rfl, by assumption, by assumption, by assumption⟩⟩
    simp at hv
  case fin =>
    intro D' ys nw hj s' hs F1 N1 o1
    obtain ⟨rfl, hK⟩ := hj
    obtain ⟨k, t, k', t', rfl, ⟨hk1, hk2, hk3⟩, hk4, hk5, hk6⟩ := Kids.two hK
    obtain ⟨h1, tk1, rfl⟩ := hs.is
    clear F9 N9 hK hs
    try k_fold
    k_with "pyIter ref" => k_state (fun (pre : List Int) pl => pl = (k * (pre.length : Int)) % n ∧ 0 ≤ pl ∧ pl < n) "place"
    k_with "state" => exact mul_step (by assumption) (by assumption) (by assumption) (by assumption)
    k_steps
    all_goals refine hret _ _ _ _ (by k_asm) (News.sub (by k_asm) (by walk_at "m:sub")) ⟨?_, by assumption, by assumption⟩
    all_goals (rename _ = _ % n => g9; rw [g9]; show _ = if _ then _ else _; rw [if_neg (by decide), ← hk1, ← hk4]; congr 2; rw [rangeKs_len]; omega)
theorem rows_10 : True := by
  k_with "call builtin:str.strip" => (k_extra "m:strip")
  k_with "call builtin:str.index" => (k_extra "m:index")
  trivial
/-- one figure more, in places gone round -/
noncomputable def fig (n a c : Int) : Int := ((0 + 10 * a) % n + (c - 48)) % n
theorem find_digit (c : Nat) (h0 : 48 ≤ c) (h1 : c ≤ 57) : Txt.find "0123456789" ⟨#[c]⟩ = (c : Int) - 48 := by
  have h : ∀ d : Fin 10, Txt.find "0123456789" ⟨#[48 + d.val]⟩ = ((48 + d.val : Nat) : Int) - 48 := by decide +kernel
  have e := h ⟨c - 48, by omega⟩
  dsimp only at e
  rwa [show 48 + (c - 48) = c by omega] at e
theorem digits_of {f : Str} (h : f.cps.toList.all (fun c => decide (48 ≤ c) && decide (c ≤ 57)) = true) (pre post : List Int) (c : Nat) (e : KStt.codes f = pre ++ (c : Int) :: post) :
    Txt.find "0123456789" ⟨#[c]⟩ = (c : Int) - 48 ∧ 0 ≤ (c : Int) - 48 ∧ (c : Int) - 48 ≤ 9 := by
  have hm : (c : Int) ∈ KStt.codes f := by rw [e]; simp
  obtain ⟨c', hc', e'⟩ := List.mem_map.mp hm
  obtain rfl : c' = c := by have : ((c' : Nat) : Int) = (c : Int) := e'; omega
  have hb := List.all_eq_true.mp h _ hc'
  simp only [Bool.and_eq_true, decide_eq_true_eq] at hb
  exact ⟨find_digit _ hb.1 hb.2, by omega, by omega⟩
theorem fig_step {n f k r c : Int} {pre : List Int} (h1 : f = pre.foldl (fig n) 0) (h2 : k = (0 + 10 * f) % n) (h3 : r = (k + (c - 48)) % n) (h4 : 0 ≤ r) (h5 : r < n) : r = (pre ++ [c]).foldl (fig n) 0 ∧ 0 ≤ r ∧ r < n := by
  refine ⟨?_, h4, h5⟩
  rw [List.foldl_append, ← h1, h3, h2]
  rfl
theorem worth_num (w : World) (p : Program) (loose : List Str) (mean : ExcName → Option Value) (mg mb : Str → Option Value) (n : Int) (hn : 0 < n) (hn3 : n ≤ 3) (D : List (PyData × PyData)) (x f : Str) (hl : lookup (.str x) D = none)
    (ha : x ≠ "?a") (hb : x ≠ "?b") (hc : x ≠ "?c") (hx : x.length ≤ sizeLine) (hf0 : Txt.stripChars x "-" = f) (hdig : f.cps.toList.all (fun c => decide (48 ≤ c) && decide (c ≤ 57)) = true)
    (e1 : (f == x) = true → (KStt.codes f).foldl (fig n) 0 = numOf x % n) (e2 : (f == x) = false → (0 + (n - (KStt.codes f).foldl (fig n) 0)) % n = numOf x % n) : WorthT w p loose mean mg mb n D (.leaf x) := by
  unfold WorthT
  k_fill
  unfold TellI
  intro dp un gd env outer A₀ base h₀ L mm news s vs Q E B F X N T hf hk hd hu hp hret
  cases hp with
  | mk hT hE =>
  obtain ⟨lo, o, kvs, hm, hdo, hfl⟩ := hE
  obtain ⟨ad, tt, nn, rfl, hmem⟩ := hT.leaf_num ha hb hc
  have hln : ¬ (lookup (.str x) D).isSome = true := by rw [hl]; simp
  refine wpAny_call ?_
  k_dflt (walk_at "m:enter")
  k_with "m:strip" => (refine KXw.stripChars hf0 hx ?_; intro _ _)
  k_with "m:index" => ((have hd9 := digits_of hdig _ _ _ kEq); refine index_lit (by rfl) hd9.1 hd9.2.1 ?_)
  k_with "pyIter str" => k_state (fun (pre : List Int) pl => pl = pre.foldl (fig n) 0 ∧ 0 ≤ pl ∧ pl < n) "place"
  k_with "state" => exact fig_step (by assumption) (by assumption) (by assumption) (by assumption) (by assumption)
  k_steps
  all_goals refine hret _ _ _ _ (by k_asm) (News.sub (by k_asm) (by walk_at "m:sub")) ⟨?_, by assumption, by assumption⟩
  all_goals (simp only [V, hl]; show _ = numOf x % n)
  · rename _ = (KStt.codes f).foldl (fig n) 0 => g9
    rw [g9]; exact e1 (by assumption)
  · rename _ = _ % n => g8
    rename _ = (KStt.codes f).foldl (fig n) 0 => g9
    rw [g8, g9]; exact e2 (by assumption)
theorem worth_var (w : World) (p : Program) (loose : List Str) (mean : ExcName → Option Value) (mg mb : Str → Option Value) (n : Int) (hn : 0 < n) (hn3 : n ≤ 3) (D : List (PyData × PyData)) (x : Str) (v : Int) (hl : lookup (.str x) D = some (.int v)) (h0 : 0 ≤ v) (h1 : v < n) :
    WorthT w p loose mean mg mb n D (.leaf x) := by
  unfold WorthT
  k_fill
  unfold TellI
  intro dp un gd env outer A₀ base h₀ L mm news s vs Q E B F X N T hf hk hd hu hp hret
  cases hp with
  | mk hT hE =>
  obtain ⟨lo, o, kvs, hm, hdo, hfl⟩ := hE
  have hls : (lookup (.str x) D).isSome = true := by rw [hl]; rfl
  have hV : V n D (.leaf x) = v := by simp only [V, hl]
  obtain ⟨ad, tt, rfl, hB⟩ := hT.leaf_tup (w := w)
  refine wpAny_call ?_
  k_dflt (walk_at "m:enter")
  k_steps
  all_goals exact hret _ _ _ _ (by k_asm) (News.sub (by k_asm) (by walk_at "m:sub")) ⟨hV.symm, h0, h1⟩
theorem worth_lit (w : World) (p : Program) (loose : List Str) (mean : ExcName → Option Value) (mg mb : Str → Option Value) (n : Int) (hn : 0 < n) (hn3 : n ≤ 3) (D : List (PyData × PyData)) (x f : Str) (hl : lookup (.str x) D = none)
    (ha : x ≠ "?a" ∧ x ≠ "?b" ∧ x ≠ "?c" ∧ x.length ≤ sizeLine) (hf0 : Txt.stripChars x "-" = f) (hdig : f.cps.toList.all (fun c => decide (48 ≤ c) && decide (c ≤ 57)) = true)
    (h : ((f == x) = true ∧ (KStt.codes f).foldl (fig 1) 0 = numOf x % 1 ∧ (KStt.codes f).foldl (fig 2) 0 = numOf x % 2 ∧ (KStt.codes f).foldl (fig 3) 0 = numOf x % 3) ∨
      ((f == x) = false ∧ (0 + (1 - (KStt.codes f).foldl (fig 1) 0)) % 1 = numOf x % 1 ∧ (0 + (2 - (KStt.codes f).foldl (fig 2) 0)) % 2 = numOf x % 2 ∧ (0 + (3 - (KStt.codes f).foldl (fig 3) 0)) % 3 = numOf x % 3)) : WorthT w p loose mean mg mb n D (.leaf x) := by
  refine worth_num w p loose mean mg mb n hn hn3 D x f hl ha.1 ha.2.1 ha.2.2.1 ha.2.2.2 hf0 hdig (fun e => ?_) (fun e => ?_)
  · rcases h with ⟨_, h1, h2, h3⟩ | ⟨e', _⟩
    · obtain rfl | rfl | rfl : n = 1 ∨ n = 2 ∨ n = 3 := by omega
      · exact h1
      · exact h2
      · exact h3
    · rw [e] at e'; cases e'
  · rcases h with ⟨e', _⟩ | ⟨_, h1, h2, h3⟩
    · rw [e] at e'; cases e'
    · obtain rfl | rfl | rfl : n = 1 ∨ n = 2 ∨ n = 3 := by omega
      · exact h1
      · exact h2
      · exact h3
/-- what _law_worth gives back: the term's value in the ring, gone round step by step -/
theorem worth_tell (w : World) (p : Program) (loose : List Str) (mean : ExcName → Option Value) (mg mb : Str → Option Value) (n : Int) (hn : 0 < n) (hn3 : n ≤ 3) (D : List (PyData × PyData)) {T : Tm} (h : Okay n D T) : WorthT w p loose mean mg mb n D T := by
  induction h with
  | var hl h0 h1 _ => exact worth_var w p loose mean mg mb n hn hn3 D _ _ hl h0 h1
  | n0 hl => exact worth_lit w p loose mean mg mb n hn hn3 D "0" "0" hl (by decide +kernel) (by decide +kernel) (by decide +kernel) (by decide +kernel)
  | n1 hl => exact worth_lit w p loose mean mg mb n hn hn3 D "1" "1" hl (by decide +kernel) (by decide +kernel) (by decide +kernel) (by decide +kernel)
  | nm1 hl => exact worth_lit w p loose mean mg mb n hn hn3 D "-1" "1" hl (by decide +kernel) (by decide +kernel) (by decide +kernel) (by decide +kernel)
  | n12 hl => exact worth_lit w p loose mean mg mb n hn hn3 D "12" "12" hl (by decide +kernel) (by decide +kernel) (by decide +kernel) (by decide +kernel)
  | nm7 hl => exact worth_lit w p loose mean mg mb n hn hn3 D "-7" "7" hl (by decide +kernel) (by decide +kernel) (by decide +kernel) (by decide +kernel)
  | n007 hl => exact worth_lit w p loose mean mg mb n hn hn3 D "007" "007" hl (by decide +kernel) (by decide +kernel) (by decide +kernel) (by decide +kernel)
  | n2 hl => exact worth_lit w p loose mean mg mb n hn hn3 D "2" "2" hl (by decide +kernel) (by decide +kernel) (by decide +kernel) (by decide +kernel)
  | n3 hl => exact worth_lit w p loose mean mg mb n hn hn3 D "3" "3" hl (by decide +kernel) (by decide +kernel) (by decide +kernel) (by decide +kernel)
  | neg hl _ ih => exact worth_neg w p loose mean mg mb n hn hn3 D _ hl ih
  | add hl _ _ ih1 ih2 => exact worth_add w p loose mean mg mb n hn hn3 D _ _ hl ih1 ih2
  | mul hl _ _ ih1 ih2 => exact worth_mul w p loose mean mg mb n hn hn3 D _ _ hl ih1 ih2
theorem CompGo.str {prog : Program} {w : World} {A : Around} {E : Value → Shared → Prop} {h₀ : Heap} {L : Addr} {m : Str → Option Value} {env : Env} {bb : Bool} {elt iter : Expr} {x : Str} {px : Pos} {ifs : List Expr} {scope : Scope} {cl : List (Str × Addr)} {pos : Pos} {End : Shared → Addr → List Value → List (Addr × Obj) → Prop} {s₁ : Shared} {news : List (Addr × Obj)} {f : Str} {t : Tok}
    (J : Nat → List Value → List (Addr × Obj) → Prop)
    (hcell : ∀ y ∈ scope.names, y.2 ≠ .cell) (hkind : scope.kind = .function) (hx : scope.names.lookup x = some .local) (hh : A.handled = none)
    (F : Fr h₀ L s₁.heap m) (N : News h₀ L s₁.heap news) (ha : f.cps.all (· < 128) = true) (hsz : f.cps.size ≤ sizeLine) (h0 : J 0 [] news) (hJs : ∀ i ys nw, J i ys nw → ys.length ≤ i)
    (turn : ∀ i (c : Nat) u ys nw I oI C oC D mC s' (E' : Value → Shared → Prop), f.cps[i]? = some c → J i ys nw → NsObj oC mC → mC x = some (.str ⟨#[c]⟩ u) → Sm bb s₁ s' → Fr h₀ L s'.heap m → News h₀ L s'.heap ((I, oI) :: (C, oC) :: (D, lst ys) :: nw) → Off3 I C D nw → ((@Ne Nat I C) ∧ (@Ne Nat I D) ∧ (@Ne Nat C D)) →
      TurnT prog w A (compEnvC scope cl C env) ifs elt (fun y s'' => TurnE bb h₀ L m I oI C oC D (lst ys) (J (i + 1) (ys ++ [y])) s' s'') (fun s'' => TurnE bb h₀ L m I oI C oC D (lst ys) (J (i + 1) ys) s' s'') E' s')
    (fin : ∀ D ys nw, J f.cps.size ys nw → End s₁ D ys nw) :
    CompGo prog w A bb h₀ L m env elt (.Name x px) iter ifs scope cl pos E End (.str f t) s₁ := by
  intro RR hRR
  refine wpAny_pyIter_ascii ha ?_
  have up : ∀ b o, s₁.heap.get? b = some o → (s₁.heap.push { cls := .type "str_ascii_iterator", data := .fields #[.str f t, .int 0 0] }).get? b = some o := fun b o e => Heap.get?_push_of_some _ e
  refine comp_loop (bb := bb) (Bd := fun v m' => m' x = some v) J (Walks.strAscii hh s₁.heap.objs.size f t) hsz (fun i h st => by obtain ⟨o, e, _⟩ := st; exact ⟨o, e⟩)
    (fun i h h' o nw ys st e e' k N' j => by obtain ⟨o', q, r⟩ := st; rw [e] at q; cases q; exact ⟨o, e', r⟩) (fun i ys nw j => hJs _ _ _ j) (fun v => rfl) hcell hkind
    ⟨_, Heap.get?_push_size _ rfl, rfl, rfl⟩ (fun b hb => ?_)
    (F.keeps up) (N.grown up) (Nat.ne_of_lt F.ns.lt) (next_is_new F) (fun p hp => Nat.ne_of_lt (Heap.lt_size (N p hp).1)) h0
    (fun i v ys nw C mC s' Q' E' _ _ hn _ _ _ _ _ k => asg_name hkind hx hn k)
    (fun i v ys nw oI C oC D mC s' E' hi hP j hoC hB hsm F' N' o3 ne => by
      obtain ⟨c, u, hc, rfl⟩ := hP
      exact turn i c u ys nw _ oI C oC D mC s' E' hc j hoC hB (Sm.trans ⟨_, s₁.toks, s₁.drawn, fun _ => rfl, rfl⟩ hsm) F' N' o3 ne)
    (fun D C m' ys nw s' j hsm F' N' o1 hn hC₀ hD₀ hCL hDL hCD offC => hRR D C m' ys nw s' (fin D ys nw j) (Sm.trans ⟨_, s₁.toks, s₁.drawn, fun _ => rfl, rfl⟩ hsm) F' N' o1 hn hC₀ hD₀ hCL hDL hCD offC)
  rw [List.mem_singleton.mp hb]
  show s₁.heap.objs.size < (s₁.heap.push _).objs.size
  rw [Heap.size_push]
  exact Nat.lt_succ_self _
local macro_rules | `(tactic| ke_room) => `(tactic| walk_at "m:units")
theorem rows_13b : True := by
  k_with "compareOp NotIn str str" => (k_extra "m:notin")
  k_with "m:steps" => (repeat' (first | (k_unmd; k_unfold; (try dsimp only)) | walk1 | (dsimp only; walk1) | fail "no step"))
  k_with "subscriptTail Name Slice str ref" => (first | ((with_reducible show wpAny _ _ (subscriptTail _ (Expr.Slice none (some _) none _) _ _) _ _ _); (with_reducible rename Fr _ _ _ _ => F'R9); (with_reducible rename News _ _ _ _ => N'R9); (refine slice_strN_ns (hsz := ?hszR9) (s := ⟨_, _, _, _, _⟩) F'R9 N'R9 ?_); (case hszR9 => assumption); intro _ _ _ _ _) | ((with_reducible show wpAny _ _ (subscriptTail _ (Expr.Slice (some _) none none _) _ _) _ _ _); (with_reducible rename Fr _ _ _ _ => F'R9); (with_reducible rename News _ _ _ _ => N'R9); (refine slice_strN_sn (hsz := ?hszR9) (s := ⟨_, _, _, _, _⟩) F'R9 N'R9 ?_); (case hszR9 => assumption); intro _ _ _ _ _))
  k_with "call type:int" => ((k_here; (with_reducible show wpAny _ _ (call (Value.type "int") [Value.str _ _]) _ _ _); refine KIN.call_text (by assumption) (by assumption) ?_))
  trivial
theorem notin_digit {prog : Program} {w : World} {A : Around} {E : Value → Shared → Prop} {s : Shared} {c : Nat} {t u : Tok} {Q : Value → Shared → Prop} (h0 : 48 ≤ c) (h1 : c ≤ 57) (h : Q (.bool false) s) :
    wpAny (model prog w) A (compareOp .NotIn (.str ⟨#[c]⟩ t) (.str "0123456789" u)) Q E s := by
  refine notIn_str ?_
  have e : (!(!(Builtin.Str.occurrences "0123456789" ⟨#[c]⟩ 0 (Str.ofString "0123456789").length 1).isEmpty)) = false := by
    obtain rfl | rfl | rfl | rfl | rfl | rfl | rfl | rfl | rfl | rfl : c = 48 ∨ c = 49 ∨ c = 50 ∨ c = 51 ∨ c = 52 ∨ c = 53 ∨ c = 54 ∨ c = 55 ∨ c = 56 ∨ c = 57 := by omega
    all_goals decide +kernel
  rw [e]; exact h
theorem digit_at {f : Str} (h : f.cps.toList.all (fun c => decide (48 ≤ c) && decide (c ≤ 57)) = true) {i c : Nat} (e : f.cps[i]? = some c) : 48 ≤ c ∧ c ≤ 57 := by
  have hm : c ∈ f.cps.toList := by rw [← Array.getElem?_toList] at e; exact List.mem_of_getElem? e
  have hb := List.all_eq_true.mp h _ hm
  simp only [Bool.and_eq_true, decide_eq_true_eq] at hb
  exact hb
theorem ascii_digits {f : Str} (h : f.cps.toList.all (fun c => decide (48 ≤ c) && decide (c ≤ 57)) = true) : f.cps.all (· < 128) = true := by
  rw [← Array.all_toList]
  refine List.all_eq_true.mpr fun c hc => ?_
  have hb := List.all_eq_true.mp h _ hc
  simp only [Bool.and_eq_true, decide_eq_true_eq] at hb
  exact decide_eq_true (by omega)
theorem size_of_len {f : Str} (h : (f.length : Int) ≤ 1000) : f.cps.size ≤ sizeLine := by
  have e : f.length = f.cps.size := rfl
  have h2 : f.cps.size ≤ 1000 := by omega
  exact Nat.le_trans h2 (by decide)
theorem whole_neg (w : World) (p : Program) (loose : List Str) (mean : ExcName → Option Value) (mg mb : Str → Option Value) (x : Str) (t0 : Tok) (k0 : Int) (hx : x.length ≤ sizeLine) (hx6 : x.length ≤ 640) (hint : PySem.intText? x = some k0)
    (hm : (Txt.slice x none (some 1) == Str.ofString "-") = true) (hdig : (Txt.slice x (some 1) none).cps.toList.all (fun c => decide (48 ≤ c) && decide (c ≤ 57)) = true) (hl0 : 0 < ((Txt.slice x (some 1) none).length : Int)) (hl1 : ((Txt.slice x (some 1) none).length : Int) ≤ 1000) :
    TellI PySem.Challenge.rw_pq0039_01.prog w (Mine.hd.heap_39 w.params) p loose mean mg mb 26 10 (fun _ vs => vs = [.str x t0]) (fun k => k = k0) := by
  k_fill
  unfold TellI
  intro dp un gd env outer A₀ base h₀ L mm news s vs Q E B F X N T hf hk hd hu hp hret
  subst hp
  have h128 : (Txt.slice x (some 1) none).cps.all (· < 128) = true := ascii_digits hdig
  have hsz : (Txt.slice x (some 1) none).cps.size ≤ sizeLine := size_of_len hl1
  refine wpAny_call ?_
  k_dflt (walk_at "m:enter")
  walk_at "m:steps"
  rename Fr _ _ _ _ => F9
  rename News _ _ _ _ => N9
  refine CompGo.str (fun i ys nw => nw = _ ∧ ys = []) (by decide) (by rfl) (by rfl) (by rfl) F9 N9 h128 hsz ⟨rfl, rfl⟩ (fun i ys nw h => by rw [h.2]; exact Nat.zero_le _) ?turn ?fin
  case turn =>
    intro i c u ys nw I oI C oC D' mC s' E' hc hj hoC hxx hs F1 N1 o3 ne
    obtain ⟨rfl, rfl⟩ := hj
    obtain ⟨h1, tk1, rfl⟩ := hs.is
    have hb := digit_at hdig hc
    show wpAny _ _ (isTrue _ _ _) _ _ _
    clear F9 N9
    k_with "m:notin" => refine notin_digit hb.1 hb.2 ?_
    walk_at "m:steps"
    all_goals exact TurnE.intro Sm.ht (by k_asm) (by k_asm) _ (fun _ h => h) o3 ⟨rfl, rfl⟩
  case fin =>
    intro D' ys nw hj s' hs F1 N1 o1
    obtain ⟨rfl, rfl⟩ := hj
    obtain ⟨h1, tk1, rfl⟩ := hs.is
    clear F9 N9 hs
    try k_fold
    walk_at "m:steps"
    all_goals exact hret _ _ _ _ (by k_asm) (News.sub (by k_asm) (by walk_at "m:sub")) rfl
theorem whole_pos (w : World) (p : Program) (loose : List Str) (mean : ExcName → Option Value) (mg mb : Str → Option Value) (x : Str) (t0 : Tok) (k0 : Int) (hx : x.length ≤ sizeLine) (hx6 : x.length ≤ 640) (hint : PySem.intText? x = some k0)
    (hm : ¬ (Txt.slice x none (some 1) == Str.ofString "-") = true) (hdig : (x).cps.toList.all (fun c => decide (48 ≤ c) && decide (c ≤ 57)) = true) (hl0 : 0 < ((x).length : Int)) (hl1 : ((x).length : Int) ≤ 1000) :
    TellI PySem.Challenge.rw_pq0039_01.prog w (Mine.hd.heap_39 w.params) p loose mean mg mb 26 10 (fun _ vs => vs = [.str x t0]) (fun k => k = k0) := by
  k_fill
  unfold TellI
  intro dp un gd env outer A₀ base h₀ L mm news s vs Q E B F X N T hf hk hd hu hp hret
  subst hp
  have h128 : (x).cps.all (· < 128) = true := ascii_digits hdig
  have hsz : (x).cps.size ≤ sizeLine := size_of_len hl1
  refine wpAny_call ?_
  k_dflt (walk_at "m:enter")
  walk_at "m:steps"
  rename Fr _ _ _ _ => F9
  rename News _ _ _ _ => N9
  refine CompGo.str (fun i ys nw => nw = _ ∧ ys = []) (by decide) (by rfl) (by rfl) (by rfl) F9 N9 h128 hsz ⟨rfl, rfl⟩ (fun i ys nw h => by rw [h.2]; exact Nat.zero_le _) ?turn ?fin
  case turn =>
    intro i c u ys nw I oI C oC D' mC s' E' hc hj hoC hxx hs F1 N1 o3 ne
    obtain ⟨rfl, rfl⟩ := hj
    obtain ⟨h1, tk1, rfl⟩ := hs.is
    have hb := digit_at hdig hc
    show wpAny _ _ (isTrue _ _ _) _ _ _
    clear F9 N9
    k_with "m:notin" => refine notin_digit hb.1 hb.2 ?_
    walk_at "m:steps"
    all_goals exact TurnE.intro Sm.ht (by k_asm) (by k_asm) _ (fun _ h => h) o3 ⟨rfl, rfl⟩
  case fin =>
    intro D' ys nw hj s' hs F1 N1 o1
    obtain ⟨rfl, rfl⟩ := hj
    obtain ⟨h1, tk1, rfl⟩ := hs.is
    clear F9 N9 hs
    try k_fold
    walk_at "m:steps"
    all_goals exact hret _ _ _ _ (by k_asm) (News.sub (by k_asm) (by walk_at "m:sub")) rfl
/-- the ring: an object of Ring whose n is n -/
structure RingIn (news : List (Addr × Obj)) (R : Addr) (n : Int) : Prop where
  it : ∃ rd h t t', (R, instObj 172 rd) ∈ news ∧ (rd, dictOf [⟨h, .str "n" t, .int n t'⟩] 1) ∈ news
theorem RingIn.mono {news news' : List (Addr × Obj)} {R : Addr} {n : Int} (h : RingIn news R n) (hs : ∀ p ∈ news, p ∈ news') : RingIn news' R n :=
  let ⟨rd, a, t, t', m1, m2⟩ := h.it; ⟨rd, a, t, t', hs _ m1, hs _ m2⟩
inductive ValueR (prog : Program) (w : World) (n : Int) (D : List (PyData × PyData)) (T : Tm) (news : List (Addr × Obj)) : List Value → Prop
  | mk {R : Addr} {v : Value} {d : Addr} : RingIn news R n → TmIn news v T → EnvIn prog w news d D → ValueR prog w n D T news [.ref R, v, .ref d]
noncomputable def ValueT (w : World) (p : Program) (loose : List Str) (mean : ExcName → Option Value) (mg mb : Str → Option Value) (n : Int) (D : List (PyData × PyData)) (T : Tm) : Prop :=
  TellI PySem.Challenge.rw_pq0039_01.prog w (Mine.hd.heap_39 w.params) p loose mean mg mb 169 (2 * T.size + 20) (fun news vs => ValueR PySem.Challenge.rw_pq0039_01.prog w n D T news vs) (PostV n D T)
theorem notin_ops {prog : Program} {w : World} {A : Around} {E : Value → Shared → Prop} {s : Shared} {c x : Value} {xs : List PyData} {d : PyData} {as bs : List Addr} {b : Bool} {Q : Value → Shared → Prop}
    (rc : Reads s.heap c (.tuple xs) as) (rx : Reads s.heap x d bs) (hc : SeqAt.shaped (PyData.tuple xs) = true) (hd : SeqAt.shaped d = true) (hu : A.units + 65 < cLine) (e : (!xs.any fun y => PyData.eqv y d) = b) (h : Q (.bool b) s) :
    wpAny (model prog w) A (compareOp .NotIn x c) Q E s := PySem.SeqAt.notIn_tuple_reads rc rx (SeqAt.canLay_of_shaped hc) (SeqAt.canLay_of_shaped hd) (room_in_shaped hd hu) (by rw [e]; exact h)
theorem not_op1 (x : Str) : (!List.any [PyData.tuple [.str "add", .int 3], .tuple [.str "mul", .int 3], .tuple [.str "neg", .int 2]] fun y => PyData.eqv y (.tuple [.str x, .int 1])) = true := by
  simp [PyData.eqv, PyData.eqvAll]
theorem newTuple_D {M : Model} {A : Around} {E : Value → Shared → Prop} {s : Shared} {h₀ : Heap} {L : Addr} {m : Str → Option Value} {news : List (Addr × Obj)} {vs : List Value} {Q : Value → Shared → Prop} (F : Fr h₀ L s.heap m) (N : News h₀ L s.heap news) (hsz : vs.length ≤ sizeLine)
    (h : ∀ D h', Fr h₀ L h' m → News h₀ L h' ((D, tupO vs 0) :: news) → (∀ p ∈ news, p.1 < D) → Q (.ref D) { s with heap := h' }) : wpAny M A (newTuple vs) Q E s :=
  newTuple_N F N (fun h' F' N' => h _ h' F' N' fun p hp => Heap.lt_size (N p hp).1) hsz
theorem shaped_pair {x : Str} {k : Int} (h : PyData.canLay0 (.str x) = true) : SeqAt.shaped (.tuple [.str x, .int k]) = true := by
  have e : (PyData.tuple [.str x, .int k]).depth ≤ 64 := Nat.le_of_ble_eq_true rfl
  unfold SeqAt.shaped
  rw [decide_eq_true e, Bool.and_true]
  simp only [PyData.canLay0, PyData.canLayAll0, Bool.and_true] at h ⊢
  exact h
theorem rows_16 : True := by
  k_with "compareOp NotIn ref ref" => ((k_here; (with_reducible show wpAny _ _ (compareOp CmpOp.NotIn (Value.ref _) (Value.ref _)) _ _ _); k_dflt (refine notin_ops (by ke_read) (by ke_read) (by decide +kernel) (by first | exact shaped_pair (by assumption) | decide +kernel) (by walk_at "m:units") (by first | exact not_op1 _ | rfl | decide) ?_)))
  k_with "newTuple" => ((k_here; k_dflt (refine newTuple_D (by k_asm) (by k_asm) (by exact Nat.le_of_ble_eq_true rfl) ?_); intro D'R9 h'R9 F'R9 N'R9 l1R9; (try k_lt l1R9); (try k_sweep)))
  k_with "call ref" => ((k_here; (with_reducible show wpAny _ _ (call (Value.ref 136) _) _ _ _); refine wpAny_call ?_; k_dflt (walk_at "m:enter")))
  trivial
noncomputable def ifTest : Stmt → Expr
  | .If t _ _ _ => t
  | _ => .Constant .none 0 ⟨0, 0, 0, 0⟩
noncomputable def bodyOf : Stmt → List Stmt
  | .FunctionDef _ _ b _ _ _ _ _ _ _ => b
  | _ => []
noncomputable def scopeOf : Stmt → Scope
  | .FunctionDef _ _ _ _ _ _ s _ _ _ => s
  | _ => { kind := .module, names := [], isGenerator := false, isCoroutine := false, more := [] }
/-- the test of Ring.value that asks which ops there are -/
noncomputable def opsE : Expr := ifTest (nthS (bodyOf (mAt 17 2)) 2)
theorem seq0 {x : Value} {r : List Value} : seqIndex? 0 (x :: r).length = some 0 := by simp [seqIndex?]
noncomputable abbrev OPS : List PyData := [PyData.tuple [.str "add", .int 3], .tuple [.str "mul", .int 3], .tuple [.str "neg", .int 2]]
theorem ops_tell {w : World} {p : Program} {loose : List Str} {mean : ExcName → Option Value} {mg mb : Str → Option Value} {A : Around} {E : Value → Shared → Prop} {s : Shared} {g : Heap} {L : Addr} {m : Str → Option Value} {news : List (Addr × Obj)} {Q : Bool → Shared → Prop} {ad : Addr} {x : Str} {tt : Tok} {rest : List Value} {k : Nat} {b : Bool}
    (F : Fr g L s.heap m) (X : (Mine.hd.heap_39 w.params).In g) (N : News g L s.heap news) (T : Top p loose mean mg mb g) (hm : m "term" = some (.ref ad)) (hT : TupAt (Mine.hd.heap_39 w.params) g L news ad (.str x tt :: rest)) (hu : A.units + 65 < cLine)
    (hc : PyData.canLay0 (.str x) = true) (hr : rest.length ≤ 9) (hk : (.str x tt :: rest : List Value).toArray.size = k) (hb : (!List.any OPS fun y => PyData.eqv y (.tuple [.str x, .int k])) = b)
    (h : ∀ h' tk', Fr g L h' m → News g L h' news → Q b { s with heap := h', toks := tk' }) :
    wpAny (model PySem.Challenge.rw_pq0039_01.prog w) A (PySem.isTrue opsE (envOfC "Ring.value" (scopeOf (mAt 17 2)) L 169 (.ref 168)) (eval opsE (envOfC "Ring.value" (scopeOf (mAt 17 2)) L 169 (.ref 168)))) Q E s := by
  subst hk
  revert X
  k_fill
  intro X
  dsimp only [opsE, ifTest, bodyOf, scopeOf, mAt, sAt, nthS, PySem.Challenge.pw_pq0039_01]
  k_with "compareOp NotIn ref ref" => (k_here; (with_reducible show wpAny _ _ (compareOp CmpOp.NotIn (Value.ref _) (Value.ref _)) _ _ _); k_dflt (refine notin_ops (by ke_read) (by ke_read) (by decide +kernel) (by exact shaped_pair (by assumption)) (by assumption) (by assumption) ?_))
  k_with "subscriptTail Name Constant ref int" => (k_here; (with_reducible show wpAny _ _ (subscriptTail _ _ (Value.ref _) (Value.int _ _)) _ _ _); k_dflt (refine' item_tupleT ?t ?a ?b ?c ?d ?_; (case t => exact hT _ (by k_in) (by k_asm)); (case a => decide); (case b => decide); (case c => exact seq0); (case d => rfl)))
  k_with "call builtin:len" => (k_here; (with_reducible show wpAny _ _ (call (Value.builtin "len") [Value.ref _]) _ _ _); k_dflt (refine' len_tuple ?t ?a ?_; (case t => exact hT _ (by k_in) (by k_asm)); (case a => (simp only [List.size_toArray, List.length_cons]; omega))))
  k_with "eval Name" => (k_here; k_dflt (refine nameX_L (by k_asm) hm ?_))
  refine wpAny_isTrue_Compare1 ?_ (by with_unfolding_all rfl)
  walk_at "m:steps"
  all_goals exact h _ _ (by k_asm) (News.sub (by k_asm) (by walk_at "m:sub"))
theorem isT {a : Bool} (h : a = true) : a = true := h
theorem isF {a : Bool} (h : a = false) : a = false := h
theorem rows_16c : True := by
  k_with "isTrue Compare" => ((k_here; (with_reducible show wpAny _ _ (PySem.isTrue (Expr.Compare (Expr.Tuple _ _ _) _ _ _) _ _) _ _ _); k_dflt (refine' ops_tell ?FR9 ?XR9 ?NR9 ?TR9 ?mR9 ?tR9 ?uR9 ?cR9 ?rR9 ?kR9 ?bR9 ?_; (case FR9 => k_asm); (case XR9 => k_in); (case NR9 => k_asm); (case TR9 => assumption); (case mR9 => first | rfl | walk_at "m:frame"); (case tR9 => first | exact TupAt.mem (by k_mem) | exact TupR.tup (by assumption) (by walk_at "m:sub")); (case uR9 => walk_at "m:units"); (case cR9 => first | assumption | decide +kernel); (case rR9 => exact Nat.le_of_ble_eq_true rfl); (case kR9 => first | exact (rfl : _ = 1) | exact (rfl : _ = 2) | exact (rfl : _ = 3) | exact (rfl : _ = 4)); (case bR9 => first | assumption | exact not_op1 _ | exact isT (by decide +kernel) | exact isF (by decide +kernel))); intro h'R9 tk'R9 F'R9 N'R9; (try k_sweep); (try dsimp only)))
  trivial
theorem value_var (w : World) (p : Program) (loose : List Str) (mean : ExcName → Option Value) (mg mb : Str → Option Value) (n : Int) (hn : 0 < n) (hn3 : n ≤ 3) (D : List (PyData × PyData)) (x : Str) (v : Int) (hl : lookup (.str x) D = some (.int v)) (h0 : 0 ≤ v) (h1 : v < n) (hok : PyData.canLay0 (.str x) = true) :
    ValueT w p loose mean mg mb n D (.leaf x) := by
  unfold ValueT
  k_fill
  unfold TellI
  intro dp un gd env outer A₀ base h₀ L mm news s vs Q E B F X N T hf hk hd hu hp hret
  cases hp with
  | @mk R v0 d hR hT hE =>
  obtain ⟨lo, o, kvs, hm, hdo, hfl⟩ := hE
  obtain ⟨rd, rh, rt, rt', hm1, hm2⟩ := hR
  have hls : (lookup (.str x) D).isSome = true := by rw [hl]; rfl
  have hns : ¬ ((!(lookup (.str x) D).isSome) = true) := by rw [hl]; simp
  have hV : V n D (.leaf x) = v := by simp only [V, hl]
  obtain ⟨ad, tt, rfl, hB⟩ := hT.leaf_tup (w := w)
  refine wpAny_call ?_
  k_dflt (walk_at "m:enter")
  walk_at "m:steps"
  all_goals exact hret _ _ _ _ (by k_asm) (News.sub (by k_asm) (by walk_at "m:sub")) ⟨hV.symm, h0, h1⟩
theorem value_num (w : World) (p : Program) (loose : List Str) (mean : ExcName → Option Value) (mg mb : Str → Option Value) (n : Int) (hn : 0 < n) (hn3 : n ≤ 3) (D : List (PyData × PyData)) (x : Str) (hl : lookup (.str x) D = none)
    (ha : x ≠ "?a") (hb : x ≠ "?b") (hc : x ≠ "?c") (C : ∀ t0, TellI PySem.Challenge.rw_pq0039_01.prog w (Mine.hd.heap_39 w.params) p loose mean mg mb 26 10 (fun _ vs => vs = [.str x t0]) (fun k => k = numOf x)) : ValueT w p loose mean mg mb n D (.leaf x) := by
  unfold ValueT
  k_fill
  unfold TellI
  intro dp un gd env outer A₀ base h₀ L mm news s vs Q E B F X N T hf hk hd hu hp hret
  cases hp with
  | @mk R v0 d hR hT hE =>
  obtain ⟨lo, o, kvs, hm, hdo, hfl⟩ := hE
  obtain ⟨rd, rh, rt, rt', hm1, hm2⟩ := hR
  obtain ⟨ad, tt, nn, rfl, hmem⟩ := hT.leaf_num ha hb hc
  have hns : (!(lookup (.str x) D).isSome) = true := by rw [hl]; rfl
  refine wpAny_call ?_
  k_dflt (walk_at "m:enter")
  k_with "m:call" => ((with_reducible show wpAny _ _ (call (Value.ref 26) _) _ _ _); refine' TellI.use (C _) ?k1 ?k2 ?k3 ?k4 ?k5 ?kf ?kk ?kd ?ku rfl ?_; (walk_at "m:sides"); intro k9 t9 h9 tk9 F9 N9 g9; (try k_unmd); (try k_sweep); (try dsimp only); (try k_fold))
  walk_at "m:steps"
  all_goals unfold PostV at hret
  all_goals refine hret _ _ _ _ (by k_asm) (News.sub (by k_asm) (by walk_at "m:sub")) ?_
  all_goals (rw [Int.fmod_eq_emod_of_nonneg _ (Int.le_of_lt hn), show V n D (.leaf x) = numOf x % n from by simp only [V, hl], ← g9]; exact ⟨rfl, Int.emod_nonneg _ (by omega), Int.emod_lt_of_pos _ hn⟩)
theorem post_of {n r : Int} {D : List (PyData × PyData)} {T : Tm} (hn : 0 < n) (e : ∃ a, r = a % n ∧ a % n = V n D T) : PostV n D T r := by
  obtain ⟨a, rfl, e⟩ := e
  exact ⟨e, Int.emod_nonneg _ (by omega), Int.emod_lt_of_pos _ hn⟩
theorem value_neg (w : World) (p : Program) (loose : List Str) (mean : ExcName → Option Value) (mg mb : Str → Option Value) (n : Int) (hn : 0 < n) (hn3 : n ≤ 3) (D : List (PyData × PyData)) (a : Tm) (IH : ValueT w p loose mean mg mb n D a) : ValueT w p loose mean mg mb n D (Tm.un "neg" a) := by
  unfold ValueT
  k_fill
  unfold TellI
  intro dp un gd env outer A₀ base h₀ L mm news s vs Q E B F X N T hf hk hd hu hp hret
  cases hp with
  | @mk R v0 d hR hT hE =>
  have hE2 := hE
  have hR2 := hR
  obtain ⟨lo, o, kvs, hm, hdo, hfl⟩ := hE
  obtain ⟨rd, rh, rt, rt', hm1, hm2⟩ := hR
  obtain ⟨ad, tt, uv, nn, rfl, hmem, hT1⟩ := hT.un_inv
  obtain ⟨ua, rfl⟩ := hT1.isRef
  have hsz : (Tm.un "neg" a).size = a.size + 1 := rfl
  rw [hsz] at hd hu
  refine wpAny_call ?_
  k_dflt (walk_at "m:enter")
  walk_at "m:steps"
  rename Fr _ _ _ _ => F9
  rename News _ _ _ _ => N9
  refine CompGo.tup (fun i ys nw => nw = _ ∧ Kids n D ([a].take i) ys) (by decide) (by rfl) (by rfl) (by rfl) F9 N9 (.inr ⟨_, by k_mem, rfl, _, rfl⟩) (Nat.le_of_ble_eq_true rfl) ⟨rfl, .nil⟩ ?hJs ?turn ?fin
  case hJs =>
    intro i ys nw hr5
    refine hide9 fun G9 h9 => ?_
    rcases hr5 with ⟨rfl, hK⟩
    refine h9 ?_
    clear h9 G9
    refine ⟨.inr ⟨_, by k_mem, rfl, _, rfl⟩, ?_⟩
    rw [hK.length, List.length_take]
    exact Nat.min_le_left _ _
  case turn =>
    intro i v ys nw I oI C oC D' mC s' E' hv hj hoC hx hs F1 N1 o3 ne
    obtain ⟨rfl, hK⟩ := hj
    obtain ⟨h1, tk1, rfl⟩ := hs.is
    show wpAny _ _ (eval _ _) _ _ _
    clear F9 N9
    rcases i with _ | i
    · obtain rfl : Value.ref ua = v := by simpa using hv
      k_with "m:call" => ((with_reducible show wpAny _ _ (call (Value.ref 169) _) _ _ _); refine' TellI.use IH ?k1 ?k2 ?k3 ?k4 ?k5 ?kf ?kk ?kd ?ku (ValueR.mk (RingIn.mono hR2 ?s0) (TmIn.mono hT1 ?s1) (EnvIn.mono hE2 ?s2)) ?_; (walk_at "m:sides"); (case s0 => walk_at "m:sub"); (case s1 => walk_at "m:sub"); (case s2 => walk_at "m:sub"); walk_at "m:out")
      walk_at "m:steps"
      all_goals exact TurnE.intro Sm.ht (by k_asm) (by k_asm) _ (fun _ h => h) o3 ⟨rfl, by rw [List.take_zero] at hK; cases hK; exact .cons ⟨_, _, rfl, by assumption, by assumption, by assumption⟩ .nil⟩
    simp at hv
  case fin =>
    intro D' ys nw hj s' hs F1 N1 o1
    obtain ⟨rfl, hK⟩ := hj
    obtain ⟨k, t, rfl, hk1, hk2, hk3⟩ := Kids.one hK
    obtain ⟨h1, tk1, rfl⟩ := hs.is
    clear F9 N9 hK hs
    try k_fold
    walk_at "m:steps"
    all_goals refine hret _ _ _ _ (by k_asm) (News.sub (by k_asm) (by walk_at "m:sub")) (post_of hn ?_)
    all_goals rw [Int.fmod_eq_emod_of_nonneg _ (Int.le_of_lt hn), hk1]; exact ⟨_, rfl, rfl⟩
theorem value_add (w : World) (p : Program) (loose : List Str) (mean : ExcName → Option Value) (mg mb : Str → Option Value) (n : Int) (hn : 0 < n) (hn3 : n ≤ 3) (D : List (PyData × PyData)) (a b : Tm) (IH1 : ValueT w p loose mean mg mb n D a) (IH2 : ValueT w p loose mean mg mb n D b) : ValueT w p loose mean mg mb n D (Tm.bin "add" a b) := by
  unfold ValueT
  k_fill
  unfold TellI
  intro dp un gd env outer A₀ base h₀ L mm news s vs Q E B F X N T hf hk hd hu hp hret
  cases hp with
  | @mk R v0 d hR hT hE =>
  have hE2 := hE
  have hR2 := hR
  obtain ⟨lo, o, kvs, hm, hdo, hfl⟩ := hE
  obtain ⟨rd, rh, rt, rt', hm1, hm2⟩ := hR
  obtain ⟨ad, tt, uv, uv', nn, rfl, hmem, hT1, hT2⟩ := hT.bin_inv
  obtain ⟨ua, rfl⟩ := hT1.isRef
  obtain ⟨ub, rfl⟩ := hT2.isRef
  have hsz : (Tm.bin "add" a b).size = a.size + b.size + 1 := rfl
  rw [hsz] at hd hu
  refine wpAny_call ?_
  k_dflt (walk_at "m:enter")
  walk_at "m:steps"
  rename Fr _ _ _ _ => F9
  rename News _ _ _ _ => N9
  refine CompGo.tup (fun i ys nw => nw = _ ∧ Kids n D ([a, b].take i) ys) (by decide) (by rfl) (by rfl) (by rfl) F9 N9 (.inr ⟨_, by k_mem, rfl, _, rfl⟩) (Nat.le_of_ble_eq_true rfl) ⟨rfl, .nil⟩ ?hJs ?turn ?fin
  case hJs =>
    intro i ys nw hr5
    refine hide9 fun G9 h9 => ?_
    rcases hr5 with ⟨rfl, hK⟩
    refine h9 ?_
    clear h9 G9
    refine ⟨.inr ⟨_, by k_mem, rfl, _, rfl⟩, ?_⟩
    rw [hK.length, List.length_take]
    exact Nat.min_le_left _ _
  case turn =>
    intro i v ys nw I oI C oC D' mC s' E' hv hj hoC hx hs F1 N1 o3 ne
    obtain ⟨rfl, hK⟩ := hj
    obtain ⟨h1, tk1, rfl⟩ := hs.is
    show wpAny _ _ (eval _ _) _ _ _
    clear F9 N9
    rcases i with _ | i
    · obtain rfl : Value.ref ua = v := by simpa using hv
      k_with "m:call" => ((with_reducible show wpAny _ _ (call (Value.ref 169) _) _ _ _); refine' TellI.use IH1 ?k1 ?k2 ?k3 ?k4 ?k5 ?kf ?kk ?kd ?ku (ValueR.mk (RingIn.mono hR2 ?s0) (TmIn.mono hT1 ?s1) (EnvIn.mono hE2 ?s2)) ?_; (walk_at "m:sides"); (case s0 => walk_at "m:sub"); (case s1 => walk_at "m:sub"); (case s2 => walk_at "m:sub"); walk_at "m:out")
      walk_at "m:steps"
      all_goals exact TurnE.intro Sm.ht (by k_asm) (by k_asm) _ (fun _ h => h) o3 ⟨rfl, by rw [List.take_zero] at hK; cases hK; exact .cons ⟨_, _, rfl, by assumption, by assumption, by assumption⟩ .nil⟩
    rcases i with _ | i
    · obtain rfl : Value.ref ub = v := by simpa using hv
      k_with "m:call" => ((with_reducible show wpAny _ _ (call (Value.ref 169) _) _ _ _); refine' TellI.use IH2 ?k1 ?k2 ?k3 ?k4 ?k5 ?kf ?kk ?kd ?ku (ValueR.mk (RingIn.mono hR2 ?s0) (TmIn.mono hT2 ?s1) (EnvIn.mono hE2 ?s2)) ?_; (walk_at "m:sides"); (case s0 => walk_at "m:sub"); (case s1 => walk_at "m:sub"); (case s2 => walk_at "m:sub"); walk_at "m:out")
      walk_at "m:steps"
      all_goals exact TurnE.intro Sm.ht (by k_asm) (by k_asm) _ (fun _ h => h) o3 ⟨rfl, hK.snoc ⟨_, _, rfl, by assumption, by assumption, by assumption⟩⟩
    simp at hv
  case fin =>
    intro D' ys nw hj s' hs F1 N1 o1
    obtain ⟨rfl, hK⟩ := hj
    obtain ⟨k, t, k', t', rfl, ⟨hk1, hk2, hk3⟩, hk4, hk5, hk6⟩ := Kids.two hK
    obtain ⟨h1, tk1, rfl⟩ := hs.is
    clear F9 N9 hK hs
    try k_fold
    walk_at "m:steps"
    all_goals refine hret _ _ _ _ (by k_asm) (News.sub (by k_asm) (by walk_at "m:sub")) (post_of hn ?_)
    all_goals rw [Int.fmod_eq_emod_of_nonneg _ (Int.le_of_lt hn), hk1, hk4]; exact ⟨_, rfl, (if_pos rfl).symm⟩
theorem value_mul (w : World) (p : Program) (loose : List Str) (mean : ExcName → Option Value) (mg mb : Str → Option Value) (n : Int) (hn : 0 < n) (hn3 : n ≤ 3) (D : List (PyData × PyData)) (a b : Tm) (IH1 : ValueT w p loose mean mg mb n D a) (IH2 : ValueT w p loose mean mg mb n D b) : ValueT w p loose mean mg mb n D (Tm.bin "mul" a b) := by
  unfold ValueT
  k_fill
  unfold TellI
  intro dp un gd env outer A₀ base h₀ L mm news s vs Q E B F X N T hf hk hd hu hp hret
  cases hp with
  | @mk R v0 d hR hT hE =>
  have hE2 := hE
  have hR2 := hR
  obtain ⟨lo, o, kvs, hm, hdo, hfl⟩ := hE
  obtain ⟨rd, rh, rt, rt', hm1, hm2⟩ := hR
  obtain ⟨ad, tt, uv, uv', nn, rfl, hmem, hT1, hT2⟩ := hT.bin_inv
  obtain ⟨ua, rfl⟩ := hT1.isRef
  obtain ⟨ub, rfl⟩ := hT2.isRef
  have hsz : (Tm.bin "mul" a b).size = a.size + b.size + 1 := rfl
  rw [hsz] at hd hu
  refine wpAny_call ?_
  k_dflt (walk_at "m:enter")
  walk_at "m:steps"
  rename Fr _ _ _ _ => F9
  rename News _ _ _ _ => N9
  refine CompGo.tup (fun i ys nw => nw = _ ∧ Kids n D ([a, b].take i) ys) (by decide) (by rfl) (by rfl) (by rfl) F9 N9 (.inr ⟨_, by k_mem, rfl, _, rfl⟩) (Nat.le_of_ble_eq_true rfl) ⟨rfl, .nil⟩ ?hJs ?turn ?fin
  case hJs =>
    intro i ys nw hr5
    refine hide9 fun G9 h9 => ?_
    rcases hr5 with ⟨rfl, hK⟩
    refine h9 ?_
    clear h9 G9
    refine ⟨.inr ⟨_, by k_mem, rfl, _, rfl⟩, ?_⟩
    rw [hK.length, List.length_take]
    exact Nat.min_le_left _ _
  case turn =>
    intro i v ys nw I oI C oC D' mC s' E' hv hj hoC hx hs F1 N1 o3 ne
    obtain ⟨rfl, hK⟩ := hj
    obtain ⟨h1, tk1, rfl⟩ := hs.is
    show wpAny _ _ (eval _ _) _ _ _
    clear F9 N9
    rcases i with _ | i
    · obtain rfl : Value.ref ua = v := by simpa using hv
      k_with "m:call" => ((with_reducible show wpAny _ _ (call (Value.ref 169) _) _ _ _); refine' TellI.use IH1 ?k1 ?k2 ?k3 ?k4 ?k5 ?kf ?kk ?kd ?ku (ValueR.mk (RingIn.mono hR2 ?s0) (TmIn.mono hT1 ?s1) (EnvIn.mono hE2 ?s2)) ?_; (walk_at "m:sides"); (case s0 => walk_at "m:sub"); (case s1 => walk_at "m:sub"); (case s2 => walk_at "m:sub"); walk_at "m:out")
      walk_at "m:steps"
      all_goals exact TurnE.intro Sm.ht (by k_asm) (by k_asm) _ (fun _ h => h) o3 ⟨rfl, by rw [List.take_zero] at hK; cases hK; exact .cons ⟨_, _, rfl, by assumption, by assumption, by assumption⟩ .nil⟩
    rcases i with _ | i
    · obtain rfl : Value.ref ub = v := by simpa using hv
      k_with "m:call" => ((with_reducible show wpAny _ _ (call (Value.ref 169) _) _ _ _); refine' TellI.use IH2 ?k1 ?k2 ?k3 ?k4 ?k5 ?kf ?kk ?kd ?ku (ValueR.mk (RingIn.mono hR2 ?s0) (TmIn.mono hT2 ?s1) (EnvIn.mono hE2 ?s2)) ?_; (walk_at "m:sides"); (case s0 => walk_at "m:sub"); (case s1 => walk_at "m:sub"); (case s2 => walk_at "m:sub"); walk_at "m:out")
      walk_at "m:steps"
      all_goals exact TurnE.intro Sm.ht (by k_asm) (by k_asm) _ (fun _ h => h) o3 ⟨rfl, hK.snoc ⟨_, _, rfl, by assumption, by assumption, by assumption⟩⟩
    simp at hv
  case fin =>
    intro D' ys nw hj s' hs F1 N1 o1
    obtain ⟨rfl, hK⟩ := hj
    obtain ⟨k, t, k', t', rfl, ⟨hk1, hk2, hk3⟩, hk4, hk5, hk6⟩ := Kids.two hK
    obtain ⟨h1, tk1, rfl⟩ := hs.is
    clear F9 N9 hK hs
    try k_fold
    walk_at "m:steps"
    all_goals refine hret _ _ _ _ (by k_asm) (News.sub (by k_asm) (by walk_at "m:sub")) (post_of hn ?_)
    all_goals rw [Int.fmod_eq_emod_of_nonneg _ (Int.le_of_lt hn), hk1, hk4]; exact ⟨_, rfl, (if_neg (by decide)).symm⟩
theorem value_pos (w : World) (p : Program) (loose : List Str) (mean : ExcName → Option Value) (mg mb : Str → Option Value) (n : Int) (hn : 0 < n) (hn3 : n ≤ 3) (D : List (PyData × PyData)) (x : Str) (hl : lookup (.str x) D = none)
    (ha : x ≠ "?a" ∧ x ≠ "?b" ∧ x ≠ "?c" ∧ x.length ≤ sizeLine ∧ x.length ≤ 640) (hint : PySem.intText? x = some (numOf x)) (hm : ¬ (Txt.slice x none (some 1) == Str.ofString "-") = true) (hdig : x.cps.toList.all (fun c => decide (48 ≤ c) && decide (c ≤ 57)) = true)
    (hl01 : 0 < (x.length : Int) ∧ (x.length : Int) ≤ 1000) : ValueT w p loose mean mg mb n D (.leaf x) :=
  value_num w p loose mean mg mb n hn hn3 D x hl ha.1 ha.2.1 ha.2.2.1 fun t0 => whole_pos w p loose mean mg mb x t0 (numOf x) ha.2.2.2.1 ha.2.2.2.2 hint hm hdig hl01.1 hl01.2
theorem value_min (w : World) (p : Program) (loose : List Str) (mean : ExcName → Option Value) (mg mb : Str → Option Value) (n : Int) (hn : 0 < n) (hn3 : n ≤ 3) (D : List (PyData × PyData)) (x : Str) (hl : lookup (.str x) D = none)
    (ha : x ≠ "?a" ∧ x ≠ "?b" ∧ x ≠ "?c" ∧ x.length ≤ sizeLine ∧ x.length ≤ 640) (hint : PySem.intText? x = some (numOf x)) (hm : (Txt.slice x none (some 1) == Str.ofString "-") = true) (hdig : (Txt.slice x (some 1) none).cps.toList.all (fun c => decide (48 ≤ c) && decide (c ≤ 57)) = true)
    (hl01 : 0 < ((Txt.slice x (some 1) none).length : Int) ∧ ((Txt.slice x (some 1) none).length : Int) ≤ 1000) : ValueT w p loose mean mg mb n D (.leaf x) :=
  value_num w p loose mean mg mb n hn hn3 D x hl ha.1 ha.2.1 ha.2.2.1 fun t0 => whole_neg w p loose mean mg mb x t0 (numOf x) ha.2.2.2.1 ha.2.2.2.2 hint hm hdig hl01.1 hl01.2
/-- what Ring.value gives back: the term's value in the ring -/
theorem value_tell (w : World) (p : Program) (loose : List Str) (mean : ExcName → Option Value) (mg mb : Str → Option Value) (n : Int) (hn : 0 < n) (hn3 : n ≤ 3) (D : List (PyData × PyData)) {T : Tm} (h : Okay n D T) : ValueT w p loose mean mg mb n D T := by
  induction h with
  | var hl h0 h1 hok => exact value_var w p loose mean mg mb n hn hn3 D _ _ hl h0 h1 hok
  | n0 hl => exact value_pos w p loose mean mg mb n hn hn3 D "0" hl (by decide +kernel) (by decide +kernel) (by decide +kernel) (by decide +kernel) (by decide +kernel)
  | n1 hl => exact value_pos w p loose mean mg mb n hn hn3 D "1" hl (by decide +kernel) (by decide +kernel) (by decide +kernel) (by decide +kernel) (by decide +kernel)
  | nm1 hl => exact value_min w p loose mean mg mb n hn hn3 D "-1" hl (by decide +kernel) (by decide +kernel) (by decide +kernel) (by decide +kernel) (by decide +kernel)
  | n12 hl => exact value_pos w p loose mean mg mb n hn hn3 D "12" hl (by decide +kernel) (by decide +kernel) (by decide +kernel) (by decide +kernel) (by decide +kernel)
  | nm7 hl => exact value_min w p loose mean mg mb n hn hn3 D "-7" hl (by decide +kernel) (by decide +kernel) (by decide +kernel) (by decide +kernel) (by decide +kernel)
  | n007 hl => exact value_pos w p loose mean mg mb n hn hn3 D "007" hl (by decide +kernel) (by decide +kernel) (by decide +kernel) (by decide +kernel) (by decide +kernel)
  | n2 hl => exact value_pos w p loose mean mg mb n hn hn3 D "2" hl (by decide +kernel) (by decide +kernel) (by decide +kernel) (by decide +kernel) (by decide +kernel)
  | n3 hl => exact value_pos w p loose mean mg mb n hn hn3 D "3" hl (by decide +kernel) (by decide +kernel) (by decide +kernel) (by decide +kernel) (by decide +kernel)
  | neg _ _ ih => exact value_neg w p loose mean mg mb n hn hn3 D _ ih
  | add _ _ _ ih1 ih2 => exact value_add w p loose mean mg mb n hn hn3 D _ _ ih1 ih2
  | mul _ _ _ ih1 ih2 => exact value_mul w p loose mean mg mb n hn hn3 D _ _ ih1 ih2
/-- the pool of draws: the script's cells, the number drawn so far -/
noncomputable abbrev poolO (Cl : Addr) (k : Int) (t : Tok) (n : Nat) : Obj := { cls := .type "list", data := .seq [.ref Cl, .int k t].toArray n }
noncomputable abbrev cellsO (vs : List Value) (n : Nat) : Obj := { cls := .type "list", data := .seq vs.toArray n }
theorem cell_len {prog : Program} {w : World} {A : Around} {E : Value → Shared → Prop} {s : Shared} {l : Addr} {vs : List Value} {ns : List Int} {Q : Value → Shared → Prop} (hl : s.heap.IsList l vs.toArray) (hi : IntsAre vs ns) (h63 : ns.length ≤ 63)
    (h : ∀ t s', s' = { s with toks := s.toks + 1 + 1 } → Q (.int ns.length t) s') : wpAny (model prog w) A (call (.builtin "len") [.ref l]) Q E s := by
  have e : vs.toArray.size = ns.length := by rw [List.size_toArray]; exact hi.length
  refine call_len_list hl ?_ ?_
  · rw [e]
    have h2 : (ns.length : Int) ≤ 63 := by omega
    exact Int.lt_of_le_of_lt h2 (by decide)
  · rw [e]; exact h _ _ rfl
theorem cell_item {prog : Program} {w : World} {A : Around} {E : Value → Shared → Prop} {s : Shared} {value slice : PySem.Expr} {l : Addr} {vs : List Value} {ns : List Int} {k : Int} {u : Tok} {Q : Value → Shared → Prop}
    (hl : s.heap.IsList l vs.toArray) (hi : IntsAre vs ns) (h0 : 0 ≤ k) (h1 : k < ns.length) (h63 : ns.length ≤ 63) (h : ∀ c t, Q (.int c t) s)
    (hs : subscripted slice false (.ref l) (.int k u) = operate [.ref l, .int k u] (getItem (.ref l) (.int k u))) :
    wpAny (model prog w) A (subscriptTail value slice (.ref l) (.int k u)) Q E s := by
  have hlt : k.toNat < ns.length := by omega
  obtain ⟨t, hx⟩ := hi.get k.toNat ns[k.toNat] (by simp [hlt])
  refine lst_item hl h0 ?_ hx (h _ t) hs
  have h2 : k ≤ 63 := by omega
  exact Int.lt_of_le_of_lt h2 (by decide)
local macro_rules | `(tactic| k_all) => `(tactic| assumption)
theorem rows_24 : True := by
  k_with "call builtin:len" => (k_extra "m:len")
  k_with "subscriptTail Subscript" => (k_extra "m:cell")
  trivial
/-- what _law_pick gives back, and what it leaves in the pool -/
theorem pick_tell (w : World) (p : Program) (loose : List Str) (mean : ExcName → Option Value) (mg mb : Str → Option Value)
    (dp un : Nat) (gd : Option (List Code)) (env : Env) (outer : List Env) (A₀ : Around) (base h₀ : Heap) (L : Addr) (m : Str → Option Value) (rest : List (Addr × Obj)) (s : Shared) (P Cl : Addr) (k many : Int) (t tm : Tok) (n nn : Nat) (vs : List Value) (ns : List Int)
    (Q E : Value → Shared → Prop) (B : Below A₀ base outer h₀) (F : Fr h₀ L s.heap m) (X : (Mine.hd.heap_39 w.params).In h₀) (N : News h₀ L s.heap ((P, poolO Cl k t n) :: rest)) (T : Top p loose mean mg mb h₀) (hf : env.frame = some L) (hk : env.scope.kind = .function)
    (hd : dp + 1 < recursionLimit) (hu : un + 8 < cLine) (hoff : ∀ p ∈ rest, p.1 ≠ P) (hcl : (Cl, cellsO vs nn) ∈ rest) (hi : IntsAre vs ns) (hns : ns.length ≤ 63) (hk0 : 0 ≤ k) (hk1 : k ≤ 1000) (hm0 : 0 < many) (hm1 : many ≤ 100)
    (hret : ∀ r t' h' tk' t'' n', Fr h₀ L h' m → News h₀ L h' ((P, poolO Cl (k + 1) t'' n') :: rest) → 0 ≤ r → r < many → Q (.int r t') { s with heap := h', toks := tk' }) :
    wpAny (model PySem.Challenge.rw_pq0039_01.prog w) (topA dp un gd env outer) (call (.ref 183) [.ref P, .int many tm]) Q E s := by
  revert X
  k_fill
  intro X
  k_with "m:len" => (refine cell_len (News.isList (by k_asm) (by k_mem)) hi hns ?_; intro tl9 s9 e9; subst e9; (try dsimp only))
  k_with "m:cell" => (refine cell_item (News.isList (by k_asm) (by k_mem)) hi (by omega) (by omega) hns ?_ (by with_unfolding_all rfl); intro c9 t9)
  refine wpAny_call ?_
  k_dflt (walk_at "m:enter")
  walk_at "m:steps"
  all_goals exact hret _ _ _ _ _ _ (by k_asm) (by k_asm) (by rw [Int.fmod_eq_emod_of_nonneg _ (by omega)]; exact Int.emod_nonneg _ (by omega)) (by rw [Int.fmod_eq_emod_of_nonneg _ (by omega)]; exact Int.emod_lt_of_pos _ hm0)
theorem CompGo.rng {prog : Program} {w : World} {A : Around} {E : Value → Shared → Prop} {h₀ : Heap} {L : Addr} {m : Str → Option Value} {env : Env} {bb : Bool} {elt iter : Expr} {x : Str} {px : Pos} {ifs : List Expr} {scope : Scope} {cl : List (Str × Addr)} {pos : Pos} {End : Shared → Addr → List Value → List (Addr × Obj) → Prop} {s₁ : Shared} {news : List (Addr × Obj)} {r : Addr} {a b : Int} {t u v : Tok} {n : Nat}
    (J : Nat → List Value → List (Addr × Obj) → Prop)
    (hcell : ∀ y ∈ scope.names, y.2 ≠ .cell) (hkind : scope.kind = .function) (hx : scope.names.lookup x = some .local) (hh : A.handled = none)
    (F : Fr h₀ L s₁.heap m) (N : News h₀ L s₁.heap news) (hr : IsRange s₁.heap r a b 1 t u v) (hsm : Builtin.Range.small a b 1 = true) (hn : Builtin.Range.rangeSize a b 1 = ((n : Nat) : Int)) (hsz : n ≤ sizeLine) (h0 : J 0 [] news) (hJs : ∀ i ys nw, J i ys nw → ys.length ≤ i)
    (turn : ∀ i ys nw I oI C oC D mC s' (E' : Value → Shared → Prop), i < n → J i ys nw → NsObj oC mC → Sm bb s₁ s' → Fr h₀ L s'.heap m → News h₀ L s'.heap ((I, oI) :: (C, oC) :: (D, lst ys) :: nw) → Off3 I C D nw → ((@Ne Nat I C) ∧ (@Ne Nat I D) ∧ (@Ne Nat C D)) →
      TurnT prog w A (compEnvC scope cl C env) ifs elt (fun y s'' => TurnE bb h₀ L m I oI C oC D (lst ys) (J (i + 1) (ys ++ [y])) s' s'') (fun s'' => TurnE bb h₀ L m I oI C oC D (lst ys) (J (i + 1) ys) s' s'') E' s')
    (fin : ∀ D ys nw, J n ys nw → End s₁ D ys nw) :
    CompGo prog w A bb h₀ L m env elt (.Name x px) iter ifs scope cl pos E End (.ref r) s₁ := by
  intro RR hRR
  refine wpAny_pyIter_range hr hsm ?_
  refine comp_loop (bb := bb) (Bd := fun v m' => m' x = some v) J (PyProof.Rows.LCg.range_walks hh a n) hsz (fun i h st => ⟨_, st⟩)
    (fun i h h' o nw ys st e e' k N' j => PyProof.Rows.LCg.range_st i h h' o nw st e e' k N' trivial) (fun i ys nw j => hJs _ _ _ j) (fun v => rfl) hcell hkind
    (by show IsRangeIter _ _ _ _ _; rw [hn]; simpa using Heap.get?_push_size _ rfl) (fun b hb => ?_)
    (F.keeps fun _ _ e => Heap.get?_push_of_some _ e) (N.grown fun _ _ e => Heap.get?_push_of_some _ e) (Nat.ne_of_lt F.ns.lt) (next_is_new F) (fun p hp => Nat.ne_of_lt (Heap.lt_size (N p hp).1)) h0
    (fun i v ys nw C mC s' Q' E' _ _ hn _ _ _ _ _ k => asg_name hkind hx hn k)
    (fun i v ys nw oI C oC D mC s' E' hi hP j hoC hB hsm F' N' o3 ne => turn i ys nw _ oI C oC D mC s' E' hi j hoC (Sm.trans ⟨_, s₁.toks, s₁.drawn, fun _ => rfl, rfl⟩ hsm) F' N' o3 ne)
    (fun D C m' ys nw s' j hsm F' N' o1 hn hC₀ hD₀ hCL hDL hCD offC => hRR D C m' ys nw s' (fin D ys nw j) (Sm.trans ⟨_, s₁.toks, s₁.drawn, fun _ => rfl, rfl⟩ hsm) F' N' o1 hn hC₀ hD₀ hCL hDL hCD offC)
  rw [List.mem_singleton.mp hb]
  show s₁.heap.objs.size < (s₁.heap.push _).objs.size
  rw [Heap.size_push]; exact Nat.lt_succ_self _

inductive DrawnT : Tm → Prop where
  | leaf {s : Str} : s ∈ (("x" : Str) :: "2" :: ["0", "1", "-1", "12", "-7", "007"]) → DrawnT (.leaf s)
  | neg {a : Tm} : DrawnT a → DrawnT (.un "neg" a)
  | add {a b : Tm} : DrawnT a → DrawnT b → DrawnT (.bin "add" a b)
  | mul {a b : Tm} : DrawnT a → DrawnT b → DrawnT (.bin "mul" a b)
noncomputable def cost : Nat → Int
  | 0 => 2
  | h + 1 => 1 + 2 * cost h
theorem cost_pos : ∀ h, 2 ≤ cost h
  | 0 => by decide
  | h + 1 => by have := cost_pos h; show 2 ≤ 1 + 2 * cost h; omega
inductive Mark1 : Prop where
  | mk
noncomputable def DrawTell (w : World) (p : Program) (loose : List Str) (mean : ExcName → Option Value) (mg mb : Str → Option Value) (high : Nat) : Prop :=
  ∀ (dp un : Nat) (gd : Option (List Code)) (env : Env) (outer : List Env) (A₀ : Around) (base h₀ : Heap) (L : Addr) (m : Str → Option Value) (rest : List (Addr × Obj)) (s : Shared) (P Cl : Addr) (k hv : Int) (t th : Tok) (n nn : Nat) (vs : List Value) (ns : List Int)
    (Q E : Value → Shared → Prop), Below A₀ base outer h₀ → Fr h₀ L s.heap m → (Mine.hd.heap_39 w.params).In h₀ → News h₀ L s.heap ((P, poolO Cl k t n) :: rest) → Top p loose mean mg mb h₀ → env.frame = some L → env.scope.kind = .function →
    dp + (2 * high + 3) < recursionLimit → un + 8 * (2 * high + 3) < cLine → (∀ p ∈ rest, p.1 ≠ P) → (Cl, cellsO vs nn) ∈ rest → IntsAre vs ns → ns.length ≤ 63 → 0 ≤ k → k + cost high ≤ 900 → hv = (high : Int) →
    (∀ a T tl h' tk' k' t'' n', Fr h₀ L h' m → News h₀ L h' ((P, poolO Cl k' t'' n') :: (tl ++ rest)) → (∀ q ∈ (P, poolO Cl k t n) :: rest, ∀ p ∈ tl, q.1 < p.1) → k ≤ k' → k' ≤ k + cost high → TmIn tl (.ref a) T → DrawnT T → T.size < 2 ^ (high + 1) →
      Q (.ref a) { s with heap := h', toks := tk' }) →
    wpAny (model PySem.Challenge.rw_pq0039_01.prog w) (topA dp un gd env outer) (call (.ref 212) [.ref P, .int hv th]) Q E s
theorem menu_item {prog : Program} {w : World} {A : Around} {E : Value → Shared → Prop} {s : Shared} {value slice : PySem.Expr} {l : Addr} {vs : List Value} {k : Int} {u : Tok} {Q : Value → Shared → Prop}
    (hl : s.heap.IsList l vs.toArray) (h0 : 0 ≤ k) (h1 : k < (vs.length : Int)) (h63 : (vs.length : Int) ≤ 63) (h : ∀ v, v ∈ vs → Q v s)
    (hs : subscripted slice false (.ref l) (.int k u) = operate [.ref l, .int k u] (getItem (.ref l) (.int k u))) :
    wpAny (model prog w) A (subscriptTail value slice (.ref l) (.int k u)) Q E s := by
  have hlt : k.toNat < vs.length := by omega
  refine lst_item (v := vs[k.toNat]) hl h0 ?_ (by simp [hlt]) (h _ (List.getElem_mem _)) hs
  have h2 : k ≤ 63 := by omega
  exact Int.lt_of_le_of_lt h2 (by decide)
section
variable {h₀ h : Heap} {L : Addr} {a b c d e q : Addr × Obj} {r : List (Addr × Obj)}
theorem pull1 (N : News h₀ L h (a :: q :: r)) : News h₀ L h (q :: a :: r) := fun p hp => by
  rcases List.mem_cons.mp hp with rfl | hp
  · exact N _ (.tail _ (.head _))
  · rcases List.mem_cons.mp hp with rfl | hp
    · exact N _ (.head _)
    · exact N _ (.tail _ (.tail _ hp))
theorem pull2 (N : News h₀ L h (a :: b :: q :: r)) : News h₀ L h (q :: a :: b :: r) := pull1 (fun p hp => by
  rcases List.mem_cons.mp hp with rfl | hp
  · exact N _ (.head _)
  · exact (pull1 (fun p hp => N p (.tail _ hp))) _ hp)
theorem pull3 (N : News h₀ L h (a :: b :: c :: q :: r)) : News h₀ L h (q :: a :: b :: c :: r) := pull1 (fun p hp => by
  rcases List.mem_cons.mp hp with rfl | hp
  · exact N _ (.head _)
  · exact (pull2 (fun p hp => N p (.tail _ hp))) _ hp)
end
noncomputable abbrev S6 : List Str := ["0", "1", "-1", "12", "-7", "007"]
noncomputable def StrIn (S : List Str) (v : Value) : Prop := ∃ z t, v = .str z t ∧ z ∈ S
inductive DKids (tl : List (Addr × Obj)) (z : Nat) : List Tm → List Value → Prop where
  | nil : DKids tl z [] []
  | cons {T : Tm} {v : Value} {Ts : List Tm} {vs : List Value} : TmIn tl v T → DrawnT T → T.size < 2 ^ (z + 1) → DKids tl z Ts vs → DKids tl z (T :: Ts) (v :: vs)
theorem DKids.snoc {tl : List (Addr × Obj)} {z : Nat} {T : Tm} {v : Value} : ∀ {Ts : List Tm} {vs : List Value}, DKids tl z Ts vs → TmIn tl v T → DrawnT T → T.size < 2 ^ (z + 1) → DKids tl z (Ts ++ [T]) (vs ++ [v])
  | _, _, .nil, h, i, j => .cons h i j .nil
  | _, _, .cons a b c d, h, i, j => .cons a b c (d.snoc h i j)
theorem DKids.mono {tl tl' : List (Addr × Obj)} {z : Nat} (s : ∀ p ∈ tl, p ∈ tl') : ∀ {Ts : List Tm} {vs : List Value}, DKids tl z Ts vs → DKids tl' z Ts vs
  | _, _, .nil => .nil
  | _, _, .cons a b c d => .cons (a.mono s) b c (d.mono s)
theorem DKids.length {tl : List (Addr × Obj)} {z : Nat} : ∀ {Ts : List Tm} {vs : List Value}, DKids tl z Ts vs → vs.length = Ts.length
  | _, _, .nil => rfl
  | _, _, .cons _ _ _ d => congrArg (· + 1) d.length
theorem DKids.one {tl : List (Addr × Obj)} {z : Nat} {Ts : List Tm} {vs : List Value} (h : DKids tl z Ts vs) (e : Ts.length = 1) : ∃ T v, vs = [v] ∧ TmIn tl v T ∧ DrawnT T ∧ T.size < 2 ^ (z + 1) := by
  cases h with
  | nil => cases e
  | @cons T v _ _ a b c d => cases d with
    | nil => exact ⟨T, v, rfl, a, b, c⟩
    | cons _ _ _ _ => simp only [List.length_cons] at e; omega
theorem DKids.two {tl : List (Addr × Obj)} {z : Nat} {Ts : List Tm} {vs : List Value} (h : DKids tl z Ts vs) (e : Ts.length = 2) : ∃ T v T' v', vs = [v, v'] ∧ TmIn tl v T ∧ DrawnT T ∧ T.size < 2 ^ (z + 1) ∧ TmIn tl v' T' ∧ DrawnT T' ∧ T'.size < 2 ^ (z + 1) := by
  cases h with
  | nil => cases e
  | @cons T v _ _ a b c d =>
    obtain ⟨T', v', rfl, a', b', c'⟩ := d.one (by simp only [List.length_cons] at e; omega)
    exact ⟨T, v, T', v', rfl, a, b, c, a', b', c'⟩
noncomputable def DJ (P Cl : Addr) (k : Int) (z : Nat) (c1 c2 : Addr × Obj) (rest : List (Addr × Obj)) (i : Nat) (ys : List Value) (nw : List (Addr × Obj)) : Prop :=
  ∃ k' t' n' tl Ts, nw = (P, poolO Cl k' t' n') :: c1 :: c2 :: (tl ++ rest) ∧ (∀ q ∈ (P, poolO Cl k' t' n') :: c1 :: c2 :: rest, ∀ p ∈ tl, q.1 < p.1) ∧ k + 1 ≤ k' ∧ k' ≤ k + 1 + i * cost z ∧ DKids tl z Ts ys ∧ Ts.length = i
theorem one_cost {i z : Nat} (h : i < 2) : (i : Int) * cost z ≤ cost z := by
  have := cost_pos z
  rcases i with _ | _ | i
  · simp; omega
  · simp
  · omega
theorem DJ.next {P Cl : Addr} {k : Int} {z : Nat} {c1 c2 : Addr × Obj} {rest tl tl' : List (Addr × Obj)} {i : Nat} {ys : List Value} {Ts : List Tm} {k' k9 : Int} {t' t9 : Tok} {n' n9 : Nat} {v : Value} {T : Tm} {more : List (Addr × Obj)}
    (o : ∀ q ∈ (P, poolO Cl k' t' n') :: c1 :: c2 :: rest, ∀ p ∈ tl, q.1 < p.1) (h0 : k + 1 ≤ k') (h1 : k' ≤ k + 1 + i * cost z) (K : DKids tl z Ts ys) (e : Ts.length = i)
    (o' : ∀ q ∈ (P, poolO Cl k' t' n') :: (more ++ c1 :: c2 :: (tl ++ rest)), ∀ p ∈ tl', q.1 < p.1) (h2 : k' ≤ k9) (h3 : k9 ≤ k' + cost z) (a : TmIn tl' v T) (b : DrawnT T) (c : T.size < 2 ^ (z + 1)) :
    DJ P Cl k z c1 c2 rest (i + 1) (ys ++ [v]) ((P, poolO Cl k9 t9 n9) :: c1 :: c2 :: ((tl' ++ tl) ++ rest)) := by
  refine ⟨k9, t9, n9, tl' ++ tl, Ts ++ [T], rfl, fun q hq p hp => ?_, by omega, ?_, (K.mono fun p hp => List.mem_append_right _ hp).snoc (a.mono fun p hp => List.mem_append_left _ hp) b c, by simp [e]⟩
  · have hq1 : ∃ q' ∈ (P, poolO Cl k' t' n') :: c1 :: c2 :: rest, q'.1 = q.1 := by
      rcases List.mem_cons.mp hq with rfl | hq
      · exact ⟨_, .head _, rfl⟩
      · exact ⟨q, .tail _ hq, rfl⟩
    obtain ⟨q', hq', e'⟩ := hq1
    rw [← e']
    rcases List.mem_append.mp hp with hp | hp
    · refine o' q' ?_ p hp
      simp only [List.mem_cons, List.mem_append] at hq' ⊢
      rcases hq' with h | h | h | h <;> simp [h]
    · exact o q' hq' p hp
  · have : ((i + 1 : Nat) : Int) * cost z = i * cost z + cost z := by rw [Int.natCast_add, Int.add_mul]; simp
    omega
theorem DJ.off {P : Addr} {o o' : Obj} {c1 c2 : Addr × Obj} {rest tl tl' : List (Addr × Obj)} {I C D : Addr} {oI oC oD : Obj} (h : Off3 I C D ((P, o) :: c1 :: c2 :: (tl ++ rest)))
    (hq : ∀ q ∈ (P, o) :: ([(I, oI), (C, oC), (D, oD)] ++ c1 :: c2 :: (tl ++ rest)), ∀ p ∈ tl', q.1 < p.1) : Off3 I C D ((P, o') :: c1 :: c2 :: ((tl' ++ tl) ++ rest)) := by
  refine Off3.of fun p hp => ?_
  have hm := h.mem
  simp only [List.mem_cons, List.mem_append] at hp hm hq
  rcases hp with rfl | rfl | rfl | ((hp | hp) | hp)
  · exact hm (P, o) (.inl rfl)
  · exact hm _ (.inr (.inl rfl))
  · exact hm _ (.inr (.inr (.inl rfl)))
  · exact ⟨Nat.ne_of_gt (hq (I, oI) (by simp) p hp), Nat.ne_of_gt (hq (C, oC) (by simp) p hp), Nat.ne_of_gt (hq (D, oD) (by simp) p hp)⟩
  · exact hm p (.inr (.inr (.inr (.inl hp))))
  · exact hm p (.inr (.inr (.inr (.inr hp))))
theorem DJ.ho {P Cl : Addr} {k' : Int} {t' : Tok} {n' : Nat} {c1 c2 : Addr × Obj} {rest tl : List (Addr × Obj)} {I C D : Addr} {oI oC oD : Obj} (h : Off3 I C D ((P, poolO Cl k' t' n') :: c1 :: c2 :: (tl ++ rest))) (o : ∀ q ∈ (P, poolO Cl k' t' n') :: c1 :: c2 :: rest, ∀ p ∈ tl, q.1 < p.1)
    (hoff : ∀ p ∈ rest, p.1 ≠ P) (h1 : c1.1 ≠ P) (h2 : c2.1 ≠ P) : ∀ p ∈ (I, oI) :: (C, oC) :: (D, oD) :: c1 :: c2 :: (tl ++ rest), p.1 ≠ P := by
  intro p hp
  have hm := h.mem (P, poolO Cl k' t' n') (.head _)
  simp only [List.mem_cons, List.mem_append] at hp
  rcases hp with rfl | rfl | rfl | rfl | rfl | hp | hp
  · exact Ne.symm hm.1
  · exact Ne.symm hm.2.1
  · exact Ne.symm hm.2.2
  · exact h1
  · exact h2
  · exact Nat.ne_of_gt (o _ (.head _) p hp)
  · exact hoff p hp
theorem DJ.zero {P Cl : Addr} {k : Int} {z : Nat} {c1 c2 : Addr × Obj} {rest : List (Addr × Obj)} {t : Tok} {n : Nat} : DJ P Cl k z c1 c2 rest 0 [] ((P, poolO Cl (k + 1) t n) :: c1 :: c2 :: rest) :=
  ⟨k + 1, t, n, [], [], rfl, fun _ _ _ h => (List.not_mem_nil h).elim, Int.le_refl _, by rw [show ((0 : Nat) : Int) = 0 from rfl, Int.zero_mul]; omega, .nil, rfl⟩
theorem above2 {D P : Addr} {o o' : Obj} {tl rest : List (Addr × Obj)} {A B C G X Y : Prop} (h : A ∧ B ∧ C ∧ G ∧ P < D ∧ X ∧ Y ∧ AllLt D (tl ++ rest)) (hord : ∀ q ∈ rest, ∀ p ∈ tl, q.1 < p.1) (hP : ∀ p ∈ tl, P < p.1) : ∀ q ∈ (P, o) :: rest, ∀ p ∈ (D, o') :: tl, q.1 < p.1 := by
  intro q hq p hp
  rcases List.mem_cons.mp hp with rfl | hp
  · rcases List.mem_cons.mp hq with rfl | hq
    · exact h.2.2.2.2.1
    · exact ktn_ltOf h.2.2.2.2.2.2.2 q (List.mem_append_right _ hq)
  · rcases List.mem_cons.mp hq with rfl | hq
    · exact hP p hp
    · exact hord q hq p hp
theorem two_size {a b z : Nat} (h : a < 2 ^ (z + 1)) (h' : b < 2 ^ (z + 1)) : a + b + 1 < 2 ^ (z + 1 + 1) := by rw [Nat.pow_succ 2 (z + 1)]; omega
theorem one_size {a z : Nat} (h : a < 2 ^ (z + 1)) : a + 1 < 2 ^ (z + 1 + 1) := by rw [Nat.pow_succ 2 (z + 1)]; omega
theorem sub_tail {h₀ h : Heap} {L : Addr} {X X1 X2 X3 X4 Pp c1 c2 : Addr × Obj} {tl rest : List (Addr × Obj)} (N : News h₀ L h (X :: X1 :: X2 :: X3 :: X4 :: Pp :: c1 :: c2 :: (tl ++ rest))) : News h₀ L h (Pp :: ((X :: tl) ++ rest)) := by
  refine News.sub N fun q hq => ?_
  simp only [List.cons_append, List.mem_cons, List.mem_append] at hq ⊢
  rcases hq with h | h | h | h <;> simp [h]
theorem rows_27 : True := by
  k_with "subscriptTail Name Call" => (k_extra "m:menu6")
  k_with "subscriptTail Name Name" => (k_extra "m:menu3")
  k_with "m:drsub" => (first | (walk_at "m:perm"; done) | (intro p9R9 hp9R9; (simp only [List.mem_cons, List.mem_append, List.append_assoc] at hp9R9 ⊢); rcases hp9R9 with hR9 | hR9 | hR9 | hR9 | hR9 | hR9 | hR9 | hR9 | hR9 <;> simp [hR9]))
  trivial
theorem above1 {D P : Addr} {o o' : Obj} {rest : List (Addr × Obj)} {A B C G : Prop} (h : A ∧ P < D ∧ B ∧ C ∧ G ∧ AllLt D rest) : ∀ q ∈ (P, o) :: rest, ∀ p ∈ [(D, o')], q.1 < p.1 := by
  intro q hq p hp
  rw [List.mem_singleton.mp hp]
  rcases List.mem_cons.mp hq with rfl | hq
  · exact h.2.1
  · exact ktn_ltOf h.2.2.2.2.2 q hq
theorem drawn_zero (w : World) (p : Program) (loose : List Str) (mean : ExcName → Option Value) (mg mb : Str → Option Value) : DrawTell w p loose mean mg mb 0 := by
  unfold DrawTell
  k_fill
  intro dp un gd env outer A₀ base h₀ L m rest s P Cl k hv t th n nn vs ns Q E B F X N T hf hk hd hu hoff hcl hi hns hk0 hk1 hhv hret
  have hc : cost 0 = 2 := rfl
  k_with "m:call" => ((with_reducible show wpAny _ _ (call (Value.ref 183) _) _ _ _); first
    | ((fail_if_success (rename Mark1 => mk9)); refine' pick_tell _ _ _ _ _ _ _ _ _ _ _ _ _ _ _ _ _ _ _ _ _ _ _ _ _ _ vs ns _ _ ?k1 ?k2 ?k3 (pull2 (by k_asm)) ?k5 ?kf ?kk ?kd ?ku ?o ?c hi hns ?x1 ?x2 ?x3 ?x4 ?_; (case k1 => k_asm); (case k2 => k_asm); (case k3 => k_asm); (case k5 => k_asm); (case kf => first | assumption | exact rfl); (case kk => first | assumption | exact rfl); (case kd => walk_at "m:room"); (case ku => walk_at "m:units"); (case o => k_all); (case c => k_mem); (case x1 => omega); (case x2 => omega); (case x3 => decide); (case x4 => decide); intro r9 t9 h9 tk9 t8 n8 F9 N9 r0 r1; have mk9 := Mark1.mk; (try k_unmd); (try k_sweep); (try dsimp only); (try k_fold))
    | (refine' pick_tell _ _ _ _ _ _ _ _ _ _ _ _ _ _ _ _ _ _ _ _ _ _ _ _ _ _ vs ns _ _ ?k1 ?k2 ?k3 (pull1 (by k_asm)) ?k5 ?kf ?kk ?kd ?ku ?o ?c hi hns ?x1 ?x2 ?x3 ?x4 ?_; (case k1 => k_asm); (case k2 => k_asm); (case k3 => k_asm); (case k5 => k_asm); (case kf => first | assumption | exact rfl); (case kk => first | assumption | exact rfl); (case kd => walk_at "m:room"); (case ku => walk_at "m:units"); (case o => k_all); (case c => k_mem); (case x1 => omega); (case x2 => omega); (case x3 => decide); (case x4 => decide); intro r9 t9 h9 tk9 t8 n8 F9 N9 r2 r3; (try k_unmd); (try k_sweep); (try dsimp only); (try k_fold)))
  k_with "m:menu6" => (refine menu_item (News.isList (by k_asm) (by k_mem)) (by omega) (by exact r3) (by simp only [List.length_cons, List.length_nil]; decide) ?_ (by with_unfolding_all rfl); intro v9 hv9; (obtain ⟨z9, t9, e9, hz9⟩ : StrIn S6 v9 := (by
        simp only [List.mem_cons, List.not_mem_nil, or_false] at hv9
        rcases hv9 with e | e | e | e | e | e <;> exact ⟨_, _, e, by decide +kernel⟩)); subst e9; clear hv9)
  k_with "m:menu3" => (refine menu_item (News.isList (by k_asm) (by k_mem)) (by omega) (by exact r1) (by simp only [List.length_cons, List.length_nil]; decide) ?_ (by with_unfolding_all rfl); intro v9 hv9; (obtain ⟨z8, t9, e9, hz8⟩ : StrIn ("x" :: "2" :: S6) v9 := (by
        simp only [List.mem_cons, List.not_mem_nil, or_false] at hv9
        rcases hv9 with e | e | e
        · exact ⟨_, _, e, by decide +kernel⟩
        · exact ⟨_, _, e, by decide +kernel⟩
        · exact ⟨_, _, e, .tail _ (.tail _ hz9)⟩)); subst e9; clear hv9)
  refine wpAny_call ?_
  k_dflt (walk_at "m:enter")
  walk_at "m:steps"
  rename News h₀ L _ _ => kN9
  rename Fr h₀ L _ m => kF9
  refine hret _ (.leaf z8) [(_, tupO [.str z8 t9] 0)] _ _ (k + 1 + 1) t8 n8 kF9 (News.sub kN9 ?_) (above1 (by assumption)) (by omega) (by omega) (.leaf (.head _)) (.leaf hz8) (Nat.le_of_ble_eq_true rfl)
  intro q hq
  simp only [List.cons_append, List.nil_append, List.mem_cons] at hq ⊢
  rcases hq with h | h | h <;> simp [h]
theorem drawn_succ (w : World) (p : Program) (loose : List Str) (mean : ExcName → Option Value) (mg mb : Str → Option Value) (z : Nat) (IH : DrawTell w p loose mean mg mb z) : DrawTell w p loose mean mg mb (z + 1) := by
  unfold DrawTell
  k_fill
  intro dp un gd env outer A₀ base h₀ L m rest s P Cl k hv t th n nn vs ns Q E B F X N T hf hk hd hu hoff hcl hi hns hk0 hk1 hhv hret
  have hc : cost (z + 1) = 1 + 2 * cost z := rfl
  have hcp := cost_pos z
  k_with "m:call" => ((with_reducible show wpAny _ _ (call (Value.ref 183) _) _ _ _); first
    | ((fail_if_success (rename Mark1 => mk9)); refine' pick_tell _ _ _ _ _ _ _ _ _ _ _ _ _ _ _ _ _ _ _ _ _ _ _ _ _ _ vs ns _ _ ?k1 ?k2 ?k3 (pull2 (by k_asm)) ?k5 ?kf ?kk ?kd ?ku ?o ?c hi hns ?x1 ?x2 ?x3 ?x4 ?_; (case k1 => k_asm); (case k2 => k_asm); (case k3 => k_asm); (case k5 => k_asm); (case kf => first | assumption | exact rfl); (case kk => first | assumption | exact rfl); (case kd => walk_at "m:room"); (case ku => walk_at "m:units"); (case o => k_all); (case c => k_mem); (case x1 => omega); (case x2 => omega); (case x3 => decide); (case x4 => decide); intro r9 t9 h9 tk9 t8 n8 F9 N9 r0 r1; have mk9 := Mark1.mk; (rcases (by omega : r9 < 3 ∨ (3 ≤ r9 ∧ r9 ≤ 4) ∨ r9 = 5) with r5 | r5 | r5); (rotate_left; rotate_left; subst r5; rotate_left); all_goals ((try k_unmd); (try k_sweep); (try dsimp only); (try k_fold)))
    | (refine' pick_tell _ _ _ _ _ _ _ _ _ _ _ _ _ _ _ _ _ _ _ _ _ _ _ _ _ _ vs ns _ _ ?k1 ?k2 ?k3 (pull1 (by k_asm)) ?k5 ?kf ?kk ?kd ?ku ?o ?c hi hns ?x1 ?x2 ?x3 ?x4 ?_; (case k1 => k_asm); (case k2 => k_asm); (case k3 => k_asm); (case k5 => k_asm); (case kf => first | assumption | exact rfl); (case kk => first | assumption | exact rfl); (case kd => walk_at "m:room"); (case ku => walk_at "m:units"); (case o => k_all); (case c => k_mem); (case x1 => omega); (case x2 => omega); (case x3 => decide); (case x4 => decide); intro r9 t9 h9 tk9 t8 n8 F9 N9 r2 r3; (try k_unmd); (try k_sweep); (try dsimp only); (try k_fold)))
  k_with "m:menu6" => (refine menu_item (News.isList (by k_asm) (by k_mem)) (by omega) (by exact r3) (by simp only [List.length_cons, List.length_nil]; decide) ?_ (by with_unfolding_all rfl); intro v9 hv9; (obtain ⟨z9, t9, e9, hz9⟩ : StrIn S6 v9 := (by
        simp only [List.mem_cons, List.not_mem_nil, or_false] at hv9
        rcases hv9 with e | e | e | e | e | e <;> exact ⟨_, _, e, by decide +kernel⟩)); subst e9; clear hv9)
  k_with "m:menu3" => (refine menu_item (News.isList (by k_asm) (by k_mem)) (by omega) (by exact r5) (by simp only [List.length_cons, List.length_nil]; decide) ?_ (by with_unfolding_all rfl); intro v9 hv9; (obtain ⟨z8, t9, e9, hz8⟩ : StrIn ("x" :: "2" :: S6) v9 := (by
        simp only [List.mem_cons, List.not_mem_nil, or_false] at hv9
        rcases hv9 with e | e | e
        · exact ⟨_, _, e, by decide +kernel⟩
        · exact ⟨_, _, e, by decide +kernel⟩
        · exact ⟨_, _, e, .tail _ (.tail _ hz9)⟩)); subst e9; clear hv9)
  k_with "ite" => (first | refine ite_neg (fun e => absurd (of_decide_eq_true e) (by omega)) ?_ | refine ite_neg (fun e => absurd (eq_of_beq e) (by omega)) ?_)
  refine wpAny_call ?_
  k_dflt (walk_at "m:enter")
  walk_at "m:steps"
  · rename News h₀ L _ _ => kN9
    rename Fr h₀ L _ m => kF9
    refine hret _ (.leaf z8) [(_, tupO [.str z8 t9] 0)] _ _ (k + 1 + 1) t8 n8 kF9 (News.sub kN9 ?_) (above1 (by assumption)) (by omega) (by omega) (.leaf (.head _)) (.leaf hz8) (Nat.one_lt_two_pow (by omega))
    intro q hq
    simp only [List.cons_append, List.nil_append, List.mem_cons] at hq ⊢
    rcases hq with h | h | h <;> simp [h]
  · rename Fr _ _ _ _ => F9
    rename News _ _ _ _ => N9
    rename IsRange _ _ _ _ _ _ _ _ => R9
    refine CompGo.rng (n := 2) (DJ P Cl k z (_, _) (_, _) rest) (by decide) (by rfl) (by rfl) (by rfl) F9 N9 R9 (by decide) (by decide) (Nat.le_of_ble_eq_true rfl) DJ.zero ?hJs ?turn ?fin
    case hJs =>
      intro i ys nw hr5
      refine hide9 fun G9 h9 => ?_
      rcases hr5 with ⟨k', t', n', tl, Ts, rfl, _, _, _, hK, e⟩
      refine h9 ?_
      clear h9 G9
      rw [hK.length]; omega
    case turn =>
      intro i ys nw I oI C oC D mC s' E' hin hr5 hoC hs F1 N1 o3 ne
      refine hide9 fun G9 h9 => ?_
      rcases hr5 with ⟨k', t', n', tl, Ts, rfl, hord, hk0', hk1', hK, hTs⟩
      rcases hs.is with ⟨h1, tk1, rfl⟩
      refine h9 ?_
      clear h9 G9
      have hcl' := List.mem_append_right tl hcl
      have hb := one_cost (i := i) (z := z) (by omega)
      have ho := DJ.ho (oI := oI) (oC := oC) (oD := lst ys) (I := I) (C := C) (D := D) o3 hord hoff (Nat.ne_of_gt (show @LT.lt Nat _ P _ by dsimp only; omega)) (Nat.ne_of_gt (show @LT.lt Nat _ P _ by dsimp only; omega))
      show wpAny _ _ (eval _ _) _ _ _
      clear F9 N9
      k_with "m:call" => ((with_reducible show wpAny _ _ (call (Value.ref 212) _) _ _ _); (refine' IH _ _ _ _ _ _ _ _ _ _ _ _ _ _ _ _ _ _ _ _ vs ns _ _ ?k1 ?k2 ?k3 (pull3 (by k_asm)) ?k5 ?kf ?kk ?kd ?ku ho (.tail _ (.tail _ (.tail _ (.tail _ (.tail _ hcl'))))) hi hns ?x1 ?x2 ?x3 ?_); (case k1 => k_asm); (case k2 => k_asm); (case k3 => k_asm); (case k5 => k_asm); (case kf => first | assumption | exact rfl); (case kk => first | assumption | exact rfl); (case kd => walk_at "m:room"); (case ku => walk_at "m:units"); (case x1 => omega); (case x2 => omega); (case x3 => omega); intro a7 T7 tl7 h7 tk7 k7 t7 n7 F7 N7 O7 b1 b2 tm7 dt7 sz7; (try k_unmd); (try k_sweep); (try dsimp only); (try k_fold))
      walk_at "m:steps"
      all_goals exact TurnE.intro Sm.ht (by k_asm) (by k_asm) ((P, poolO Cl k7 t7 n7) :: (_, _) :: (_, _) :: ((tl7 ++ tl) ++ rest)) (by walk_at "m:drsub") (DJ.off o3 O7) (DJ.next (more := [(I, oI), (C, oC), (D, lst ys)]) hord hk0' hk1' hK hTs O7 b1 b2 tm7 dt7 sz7)
    case fin =>
      intro D ys nw hr5 s' hs F1 N1 o1
      refine hide9 fun G9 h9 => ?_
      rcases hr5 with ⟨k', t', n', tl, Ts, rfl, hord, hk0', hk1', hK, hTs⟩
      rcases hs.is with ⟨h1, tk1, rfl⟩
      refine h9 ?_
      clear h9 G9
      clear F9 N9
      obtain ⟨T1, v1, T2, v2, rfl, tm1, dt1, sz1, tm2, dt2, sz2⟩ := hK.two hTs
      obtain ⟨a1, rfl⟩ := tm1.isRef
      obtain ⟨a2, rfl⟩ := tm2.isRef
      try k_fold
      rcases (by omega : r9 = 3 ∨ r9 = 4) with e5 | e5
      all_goals subst e5
      all_goals walk_at "m:steps"
      all_goals (rename News h₀ L _ _ => kN9; rename Fr h₀ L _ m => kF9)
      · refine hret _ (.bin "add" T1 T2) (_ :: tl) _ _ k' t' n' kF9 (sub_tail kN9) (above2 (by assumption) (fun q hq p hp => hord q (.tail _ (.tail _ (.tail _ hq))) p hp) (fun p hp => hord _ (.head _) p hp)) (by omega) (by omega) (.bin (.head _) (tm1.mono fun p hp => .tail _ hp) (tm2.mono fun p hp => .tail _ hp)) (.add dt1 dt2) (two_size sz1 sz2)
      · refine hret _ (.bin "mul" T1 T2) (_ :: tl) _ _ k' t' n' kF9 (sub_tail kN9) (above2 (by assumption) (fun q hq p hp => hord q (.tail _ (.tail _ (.tail _ hq))) p hp) (fun p hp => hord _ (.head _) p hp)) (by omega) (by omega) (.bin (.head _) (tm1.mono fun p hp => .tail _ hp) (tm2.mono fun p hp => .tail _ hp)) (.mul dt1 dt2) (two_size sz1 sz2)
  · rename Fr _ _ _ _ => F9
    rename News _ _ _ _ => N9
    rename IsRange _ _ _ _ _ _ _ _ => R9
    refine CompGo.rng (n := 1) (DJ P Cl k z (_, _) (_, _) rest) (by decide) (by rfl) (by rfl) (by rfl) F9 N9 R9 (by decide) (by decide) (Nat.le_of_ble_eq_true rfl) DJ.zero ?hJs ?turn ?fin
    case hJs =>
      intro i ys nw hr5
      refine hide9 fun G9 h9 => ?_
      rcases hr5 with ⟨k', t', n', tl, Ts, rfl, _, _, _, hK, e⟩
      refine h9 ?_
      clear h9 G9
      rw [hK.length]; omega
    case turn =>
      intro i ys nw I oI C oC D mC s' E' hin hr5 hoC hs F1 N1 o3 ne
      refine hide9 fun G9 h9 => ?_
      rcases hr5 with ⟨k', t', n', tl, Ts, rfl, hord, hk0', hk1', hK, hTs⟩
      rcases hs.is with ⟨h1, tk1, rfl⟩
      refine h9 ?_
      clear h9 G9
      have hcl' := List.mem_append_right tl hcl
      have hb := one_cost (i := i) (z := z) (by omega)
      have ho := DJ.ho (oI := oI) (oC := oC) (oD := lst ys) (I := I) (C := C) (D := D) o3 hord hoff (Nat.ne_of_gt (show @LT.lt Nat _ P _ by dsimp only; omega)) (Nat.ne_of_gt (show @LT.lt Nat _ P _ by dsimp only; omega))
      show wpAny _ _ (eval _ _) _ _ _
      clear F9 N9
      k_with "m:call" => ((with_reducible show wpAny _ _ (call (Value.ref 212) _) _ _ _); (refine' IH _ _ _ _ _ _ _ _ _ _ _ _ _ _ _ _ _ _ _ _ vs ns _ _ ?k1 ?k2 ?k3 (pull3 (by k_asm)) ?k5 ?kf ?kk ?kd ?ku ho (.tail _ (.tail _ (.tail _ (.tail _ (.tail _ hcl'))))) hi hns ?x1 ?x2 ?x3 ?_); (case k1 => k_asm); (case k2 => k_asm); (case k3 => k_asm); (case k5 => k_asm); (case kf => first | assumption | exact rfl); (case kk => first | assumption | exact rfl); (case kd => walk_at "m:room"); (case ku => walk_at "m:units"); (case x1 => omega); (case x2 => omega); (case x3 => omega); intro a7 T7 tl7 h7 tk7 k7 t7 n7 F7 N7 O7 b1 b2 tm7 dt7 sz7; (try k_unmd); (try k_sweep); (try dsimp only); (try k_fold))
      walk_at "m:steps"
      all_goals exact TurnE.intro Sm.ht (by k_asm) (by k_asm) ((P, poolO Cl k7 t7 n7) :: (_, _) :: (_, _) :: ((tl7 ++ tl) ++ rest)) (by walk_at "m:drsub") (DJ.off o3 O7) (DJ.next (more := [(I, oI), (C, oC), (D, lst ys)]) hord hk0' hk1' hK hTs O7 b1 b2 tm7 dt7 sz7)
    case fin =>
      intro D ys nw hr5 s' hs F1 N1 o1
      refine hide9 fun G9 h9 => ?_
      rcases hr5 with ⟨k', t', n', tl, Ts, rfl, hord, hk0', hk1', hK, hTs⟩
      rcases hs.is with ⟨h1, tk1, rfl⟩
      refine h9 ?_
      clear h9 G9
      clear F9 N9
      obtain ⟨T1, v1, rfl, tm1, dt1, sz1⟩ := hK.one hTs
      obtain ⟨a1, rfl⟩ := tm1.isRef
      try k_fold
      walk_at "m:steps"
      rename News h₀ L _ _ => kN9
      rename Fr h₀ L _ m => kF9
      refine hret _ (.un "neg" T1) (_ :: tl) _ _ k' t' n' kF9 (sub_tail kN9) (above2 (by assumption) (fun q hq p hp => hord q (.tail _ (.tail _ (.tail _ hq))) p hp) (fun p hp => hord _ (.head _) p hp)) (by omega) (by omega) (.un (.head _) (tm1.mono fun p hp => .tail _ hp)) (.neg dt1) (one_size sz1)
theorem drawn_tell (w : World) (p : Program) (loose : List Str) (mean : ExcName → Option Value) (mg mb : Str → Option Value) : ∀ z, DrawTell w p loose mean mg mb z
  | 0 => drawn_zero w p loose mean mg mb
  | z + 1 => drawn_succ w p loose mean mg mb z (drawn_tell w p loose mean mg mb z)
theorem DrawnT.okay {n a b : Int} {D : List (PyData × PyData)} (hx : lookup (.str "x") D = some (.int a)) (h2 : lookup (.str "2") D = some (.int b)) (hn : ∀ s ∈ S6, lookup (.str s) D = none) (hk : ∀ s ∈ ((["neg", "add", "mul"] : List Str)), lookup (.str s) D = none) (ha : 0 ≤ a ∧ a < n) (hb : 0 ≤ b ∧ b < n) : ∀ {T : Tm}, DrawnT T → Okay n D T
  | _, .leaf hs => by
    simp only [S6, List.mem_cons, List.not_mem_nil, or_false] at hs hn
    rcases hs with rfl | rfl | rfl | rfl | rfl | rfl | rfl | rfl
    · exact .var hx ha.1 ha.2 (by decide +kernel)
    · exact .var h2 hb.1 hb.2 (by decide +kernel)
    · exact .n0 (hn _ (by simp))
    · exact .n1 (hn _ (by simp))
    · exact .nm1 (hn _ (by simp))
    · exact .n12 (hn _ (by simp))
    · exact .nm7 (hn _ (by simp))
    · exact .n007 (hn _ (by simp))
  | _, .neg a => .neg (hk _ (by simp)) (a.okay hx h2 hn hk ha hb)
  | _, .add a b => .add (hk _ (by simp)) (a.okay hx h2 hn hk ha hb) (b.okay hx h2 hn hk ha hb)
  | _, .mul a b => .mul (hk _ (by simp)) (a.okay hx h2 hn hk ha hb) (b.okay hx h2 hn hk ha hb)
theorem layNew_led (t : SetTable) (es : Array (Int × Value)) (h : Int) (x : Value) : (layNew t es h x).2.1.led = t.led := by
  unfold layNew
  cases t.freeSlot h with
  | none => rfl
  | some q => dsimp only [SetTable.put, SetTable.orStandIn]; split <;> split <;> rfl
theorem layNew_plain {t : SetTable} (es : Array (Int × Value)) (h : Int) (x : Value) (e : t.plain = false) : (layNew t es h x).2.1.plain = false := by
  unfold layNew
  cases t.freeSlot h with
  | none => rfl
  | some q => dsimp only [SetTable.put, SetTable.orStandIn]; split <;> split <;> first | exact e | rfl
theorem relayAll_flags (t : SetTable) (es : Array (Int × Value)) (wanted : Nat) : (relayAll t es wanted).2.1.led = t.led ∧ (t.plain = false → (relayAll t es wanted).2.1.plain = false) := by
  unfold relayAll
  split
  · rename_i t' order e
    have e2 : t'.led = t.led ∧ t'.plain = t.plain := by
      unfold SetTable.relaid SetTable.laid at e
      cases hl : SetTable.layClean (SetTable.sizeAbove wanted - 1) (es.map (·.1)) with
      | none => rw [hl] at e; cases e
      | some owner => rw [hl] at e; cases e; exact ⟨rfl, rfl⟩
    dsimp only
    split
    · exact ⟨e2.1, fun q => e2.2.trans q⟩
    · exact ⟨rfl, fun _ => rfl⟩
  · exact ⟨rfl, fun _ => rfl⟩
/-- a set of strs, with what its walk needs -/
noncomputable def SData (prog : Program) (w : World) (es : Array (Int × Value)) (t : SetTable) (zs : List Str) : Prop :=
  ElemsOf (strKind prog w) es.toList ∧ (es.toList.map (fun e => strOf e.2)).Perm zs ∧ es.size < scanBound ∧ t.fits es.size = true ∧ (w.params.followText "set-order" = false → t.led = true) ∧ (es.size ≠ 0 → t.plain = false)
noncomputable def SSet (prog : Program) (w : World) (h : Heap) (a : Addr) (zs : List Str) : Prop :=
  ∃ o es ep t, h.get? a = some o ∧ o.ExactSet ∧ o.data = .set es ep t ∧ SData prog w es t zs
section
variable {prog : Program} {w : World} {A : Around} {E : Value → Shared → Prop} {s : Shared}
theorem SData.size {es : Array (Int × Value)} {t : SetTable} {zs : List Str} (x : SData prog w es t zs) : es.size = zs.length := by
  have := x.2.1.length_eq
  simpa using this
theorem SSet.store {h : Heap} {a : Addr} {o : Obj} {es : Array (Int × Value)} {ep : Nat} {t : SetTable} (ho : h.get? a = some o) (hex : o.ExactSet) (hd : o.data = .set es ep t)
    {es' : Array (Int × Value)} {t' : SetTable} {zs : List Str} (x : SData prog w es' t' zs) :
    (h.update a (Obj.putSet es' t')).get? a = some { o with data := .set es' (ep + 1) t' } ∧ SSet prog w (h.update a (Obj.putSet es' t')) a zs := by
  have hg : (h.update a (Obj.putSet es' t')).get? a = some { o with data := .set es' (ep + 1) t' } := by
    have := Heap.get?_update_self (Obj.putSet es' t') ho (by rw [putSet_of es' t' hd]; rfl)
    rw [putSet_of es' t' hd] at this; exact this
  exact ⟨hg, _, es', ep + 1, t', hg, hex, rfl, x⟩
theorem strKind_strOf {e : Int × Value} {k : Str} (h : (strKind prog w).is k e.2 = true) : strOf e.2 = k := by
  obtain ⟨t, ht⟩ := Value.isStrOf_shape (show Value.isStrOf k e.2 = true from h)
  rw [ht]; rfl
theorem SSet.add {a : Addr} {zs : List Str} {k : Str} {tk : Tok} {Q : Bool → Shared → Prop} (hS : SSet prog w s.heap a zs) (hroom : zs.length + 1 < scanBound)
    (h : ∀ h' b, Heap.SameBut a s.heap h' → SSet prog w h' a (if k ∈ zs then zs else zs ++ [k]) → Q b { s with heap := h' }) :
    wpAny (model prog w) A (setAddHashed a (.str k tk) ((strKind prog w).hash k)) Q E s := by
  obtain ⟨o, es, ep, t, ho, hex, hd, hx⟩ := id hS
  have hsz := hx.size
  obtain ⟨hel, hpm, hb, hf, hled, hpl⟩ := id hx
  have hkey := strKind_is prog w k tk
  have hsc : (Value.str k tk).scannable = true := rfl
  have hb1 : es.size + 1 < scanBound := by rw [hsz]; exact hroom
  unfold setAddHashed setAddHashedIn
  refine wpAny_holding (wpAny_bind (wpAny_setState_of ho hd hf ?_))
  dsimp only
  rw [byScan_of hsc hb hel]
  simp only [↓reduceIte]
  unfold setAddByScan
  refine wpAny_bind ?_
  refine wpAny_bind (wpAny_rule ?_)
  refine wpAny_bind (wpAny_setScan_of hkey ho hd hf hel ?_)
  have e0 : s = { s with heap := s.heap } := by cases s; rfl
  cases hr : List.findIdx? (fun e => (strKind prog w).is k e.2) es.toList with
  | some j =>
    dsimp only
    obtain ⟨hj, hpj, _⟩ := List.findIdx?_eq_some_iff_getElem.mp hr
    have hk : k ∈ zs := hpm.mem_iff.mp (List.mem_map.mpr ⟨es.toList[j], List.getElem_mem hj, strKind_strOf hpj⟩)
    refine wpAny_pure (wpAny_pure ?_)
    have := h s.heap false (Heap.SameBut.refl a s.heap) (by rw [if_pos hk]; exact hS)
    rw [e0]; exact this
  | none =>
    dsimp only
    have hk : k ∉ zs := fun hk => by
      obtain ⟨e, he, hke⟩ := List.mem_map.mp (hpm.mem_iff.mpr hk)
      have h1 := List.findIdx?_eq_none_iff.mp hr e he
      obtain ⟨⟨k', hk', _⟩, _⟩ := hel e he
      rw [strKind_strOf hk'] at hke
      rw [hke] at hk'
      rw [hk'] at h1; exact Bool.noConfusion h1
    have hgw : ∀ (b : Bool) {s₁ : Shared} {Q' : Unit → Shared → Prop}, Q' () s₁ → wpAny (model prog w) A (match b with | true => rule "set.scan.the-table-gave-way" | false => pure ()) Q' E s₁ :=
      fun b s₁ Q' hq => by cases b <;> first | exact wpAny_pure hq | exact wpAny_rule hq
    have hperm := layNew_perm t es ((strKind prog w).hash k) (.str k tk)
    have hfits := layNew_fits t es ((strKind prog w).hash k) (.str k tk)
    have hL1 := layNew_led t es ((strKind prog w).hash k) (.str k tk)
    have hP1 : t.plain = false → _ := layNew_plain es ((strKind prog w).hash k) (.str k tk)
    generalize hL : layNew t es ((strKind prog w).hash k) (.str k tk) = L at hperm hfits hL1 hP1 ⊢
    obtain ⟨es1, t1, wasDummy, gave⟩ := L
    dsimp only at hperm hfits hL1 hP1 ⊢
    rw [Array.toList_push] at hperm
    have hel1 : ElemsOf (strKind prog w) es1.toList := (hel.push hkey hsc).perm hperm
    have hpm1 : (es1.toList.map (fun e => strOf e.2)).Perm (zs ++ [k]) := by
      refine (hperm.map _).trans ?_
      rw [List.map_append]
      exact hpm.append_right [k]
    have hsz1 : es1.size = es.size + 1 := by rw [← Array.length_toList, hperm.length_eq, List.length_append, Array.length_toList]; rfl
    have hb1' : es1.size < scanBound := by rw [hsz1]; exact hb1
    have fin : ∀ t2 : SetTable, t2.fits es1.size = true → (w.params.followText "set-order" = false → t2.led = true) → t2.plain = false → wpAny (model prog w) A (do
        storeSet a es1 t2
        if (!wasDummy && t2.tooFull) = true then do
            (match (relayAll t2 es1 (SetTable.grown es1.size)).2.2 with | true => rule "set.scan.the-table-gave-way" | false => pure ())
            storeSet a (relayAll t2 es1 (SetTable.grown es1.size)).1 (relayAll t2 es1 (SetTable.grown es1.size)).2.1
            pure (some true)
          else pure (some true)) (fun r s' => wpAny (model prog w) A (match r with | some added => pure added | none => setAddHashedIn a (.str k tk) ((strKind prog w).hash k) 99999) Q E s') E s := by
      intro t2 hf2 hl2 hp2
      have hx1 : SData prog w es1 t2 (zs ++ [k]) := ⟨hel1, hpm1, hb1', hf2, hl2, fun _ => hp2⟩
      refine wpAny_bind (wpAny_storeSet_of ho hd ?_ (fits_of_scanBound hb1'))
      obtain ⟨ho1, hS1⟩ := SSet.store ho hex hd hx1
      have hsb1 := Heap.SameBut.update s.heap a (Obj.putSet es1 t2)
      split
      · have hp := relayAll_perm t2 es1 (SetTable.grown es1.size)
        have hfr := relayAll_fits t2 es1 (SetTable.grown es1.size)
        have hfl := relayAll_flags t2 es1 (SetTable.grown es1.size)
        generalize hRl : relayAll t2 es1 (SetTable.grown es1.size) = Rl at hp hfr hfl ⊢
        obtain ⟨es2, t3, gave2⟩ := Rl
        dsimp only at hp hfr hfl ⊢
        have hsz2 : es2.size = es1.size := by rw [← Array.length_toList, hp.length_eq, Array.length_toList]
        have hb2 : es2.size < scanBound := by rw [hsz2]; exact hb1'
        refine wpAny_bind (hgw _ ?_)
        refine wpAny_bind (wpAny_storeSet_of ho1 rfl ?_ (fits_of_scanBound hb2))
        obtain ⟨_, hS2⟩ := SSet.store (prog := prog) (w := w) (zs := zs ++ [k]) ho1 hex rfl ⟨hel1.perm hp, (hp.map _).trans hpm1, hb2, hfr, fun q => hfl.1.trans (hl2 q), fun _ => hfl.2 hp2⟩
        exact wpAny_pure (wpAny_pure (h _ true (hsb1.trans (Heap.SameBut.update _ a _)) (by rw [if_neg hk]; exact hS2)))
      · exact wpAny_pure (wpAny_pure (h _ true hsb1 (by rw [if_neg hk]; exact hS1)))
    refine wpAny_bind (hgw _ ?_)
    split
    · refine wpAny_bind ?_
      rw [hashByValue_scannable 8 hsc]
      refine wpAny_pure ?_
      exact fin _ (by first | exact hfits | exact SetTable.fits_plain_off hfits) (fun q => hL1.trans (hled q)) rfl
    · refine wpAny_bind (wpAny_pure ?_)
      simp only [↓reduceIte]
      exact fin _ hfits (fun q => hL1.trans (hled q)) (by simpa using ‹¬ t1.plain = true›)
end
section
variable {prog : Program} {w : World} {A : Around} {R : Result → Shared → Prop} {I : Addr} {fp wr : List Addr} {G : Array GenState → Array GenState → Prop} {n : Nat} {P : Nat → Value → Prop} {St : Nat → Shared → Prop}
theorem SSet.keep {prog : Program} {w : World} {h h' : Heap} {a : Addr} {zs : List Str} (x : SSet prog w h a zs) (k : ∀ o, h.get? a = some o → h'.get? a = some o) : SSet prog w h' a zs := by
  obtain ⟨o, es, ep, t, ho, r⟩ := x
  exact ⟨o, es, ep, t, k _ ho, r⟩
theorem update_loop_str (W : WalksS prog w A.in1 I fp wr G n P St) (S : Addr) (hSf : S ∉ fp)
    (val : Nat → Str) (hval : ∀ i v, i < n → P i v → ∃ t, v = .str (val i) t) (hb : n + 1 < scanBound) :
    ∀ (k i : Nat) (s : Shared) (zs : List Str), n - i = k → i ≤ n → St i s →
      SSet prog w s.heap S zs → zs.Nodup → zs.length ≤ i → (∀ x, x ∈ zs ↔ ∃ j, j < i ∧ x = val j) →
      (∀ s' zs', Moved (S :: wr) G s s' → SSet prog w s'.heap S zs' → zs'.Nodup → zs'.length ≤ n → (∀ x, x ∈ zs' ↔ ∃ j, j < n ∧ x = val j) → R (.ok (.ret .none)) s') →
      codeAny (model prog w) A (.builtin "set.update.loop" ⟨[.ref S, .ref I], []⟩) R s := by
  have hSw : S ∉ wr := fun h => hSf (W.sub _ h)
  have hsub : ∀ b ∈ wr, b ∈ S :: wr := fun b hb => List.mem_cons_of_mem _ hb
  intro k
  induction k with
  | zero =>
    intro i s zs hk hi hst hS hnd hln hmem hR
    have hin : i = n := by omega
    subst hin
    refine codeAny_builtin PyProof.Rows.F.entry_set_update_loop ?_
    rw [Around.under_plainId PyProof.Rows.F.plain_set_update_loop _]
    show wpAny _ A.in1 (pyNext (.ref I) >>= _) _ _ s
    refine wpAny_bind (W.done s _ _ hst fun s' hm => ?_)
    show wpAny _ A.in1 (ret Value.none) _ _ s'
    exact wpAny_pure (hR s' zs (hm.mono hsub) (hS.keep fun o e => hm.heap S _ hSw e) hnd hln hmem)
  | succ k ih =>
    intro i s zs hk hi hst hS hnd hln hmem hR
    have hlt : i < n := by omega
    refine codeAny_builtin PyProof.Rows.F.entry_set_update_loop ?_
    rw [Around.under_plainId PyProof.Rows.F.plain_set_update_loop _]
    show wpAny _ A.in1 (pyNext (.ref I) >>= _) _ _ s
    refine wpAny_bind (W.item i s _ _ hlt hst fun v s' hP hst' hm => ?_)
    obtain ⟨t, rfl⟩ := hval i v hlt hP
    have hS' : SSet prog w s'.heap S zs := hS.keep fun o e => hm.heap S _ hSw e
    show wpAny _ A.in1 (holding [Value.str (val i) t] (setAdd S (.str (val i) t)) >>= _) _ _ s'
    refine wpAny_bind (wpAny_holding ?_)
    unfold setAdd
    refine wpAny_holding ?_
    refine wpAny_bind ((strKind prog w).pyHash (k := val i) (strKind_is _ _ _ _) ?_)
    refine SSet.add (s := { s' with toks := s'.toks + 1 }) hS' (by omega) fun h' b hsb hS2 => ?_
    refine wpAny_pure ⟨plainId_quiet PyProof.Rows.F.plain_set_update_loop _, ih (i + 1) _ _ (by omega) hlt (W.frame _ s' _ _ hst' (Nat.le_succ _) fun b hb o e => ?_) hS2 ?_ ?_ ?_ fun s'' zs' hm'' hS'' => ?_⟩
    · rw [hsb.2 b (fun h : b = S => hSf (by rw [← h]; exact hb))]; exact e
    · split
      · exact hnd
      · rename_i hx
        exact List.nodup_append.mpr ⟨hnd, by simp, fun a ha b hb e => hx (by rw [← List.mem_singleton.mp hb, ← e]; exact ha)⟩
    · split
      · omega
      · simp; omega
    · intro x
      split
      · rename_i hx
        rw [hmem x]
        refine ⟨fun ⟨j, hj, e⟩ => ⟨j, by omega, e⟩, fun ⟨j, hj, e⟩ => ?_⟩
        rcases Nat.lt_or_ge j i with h | h
        · exact ⟨j, h, e⟩
        · have : j = i := by omega
          subst this
          rw [← e] at hx
          exact (hmem x).mp hx
      · rw [List.mem_append, hmem x, List.mem_singleton]
        constructor
        · rintro (⟨j, hj, e⟩ | e)
          · exact ⟨j, by omega, e⟩
          · exact ⟨i, by omega, e⟩
        · rintro ⟨j, hj, e⟩
          rcases Nat.lt_or_ge j i with h | h
          · exact .inl ⟨j, h, e⟩
          · have : j = i := by omega
            subst this
            exact .inr e
    · refine hR s'' zs' (Moved.trans W.gtrans ((hm.mono hsub).then_heap (Nat.le_succ _) fun b o hb e => ?_) hm'') hS''
      rw [hsb.2 b (fun h : b = S => hb (by rw [h]; exact List.mem_cons_self))]; exact e
end
section
variable {prog : Program} {w : World} {A : Around} {E : Value → Shared → Prop} {s : Shared}
theorem newset_code (a : Value) {Q₁ : Value → Shared → Prop}
    (h : ∀ led : Bool, (w.params.followText "set-order" = false → led = true) → Q₁ (.ref s.heap.objs.size) { s with heap := s.heap.push { cls := .type "set", dict := none, data := .set #[] 0 (.fresh 0 0 led) } }) :
    codeAny (model prog w) A (.call (.builtin "set.__new__") ⟨[.type "set", a], []⟩) (wants Q₁ E) s := by
  refine codeAny_of_tree ?_
  show wpAny _ A.in1 (do checkBuiltinCall "set.__new__" ⟨[.type "set", a], []⟩; again (.builtin "set.__new__" ⟨[.type "set", a], []⟩)) _ _ s
  refine wpAny_bind (wpAny_of_eq (PySem.F.newCall_set_1 a) (wpAny_pure ⟨plainId_quiet PySem.F.plain_set_new _, codeAny_builtin PySem.F.entry_set_new ?_⟩))
  rw [Around.under_plainId PySem.F.plain_set_new _]
  unfold Builtin.«set.__new__» Builtin.Frozenset.newClass
  have hsub := sub_set_self
  obtain ⟨hp, g, d, tk, os⟩ := s
  dsimp only
  wp_walk
  refine wpAny_askSetting (wpAny_pure ?_)
  dsimp only
  simp only [newObj]
  refine wpAny_bind (wpAny_alloc (wpAny_pure ?_))
  refine wpAny_pure (h _ fun q => ?_)
  show (!w.params.followText "set-order") = true
  rw [q]; rfl
end
section
variable {prog : Program} {w : World} {A : Around} {E : Value → Shared → Prop} {s : Shared}
theorem StrsAre_at {vs : List Value} {ss : List Str} (h : StrsAre vs ss) : ∀ (i : Nat) (v : Value), vs[i]? = some v → ∃ t, v = .str (ss.getD i ⟨#[]⟩) t := by
  induction h with
  | nil => intro i v e; simp at e
  | cons x t hs ih =>
    intro i v e
    cases i with
    | zero => simp only [List.getElem?_cons_zero, Option.some.injEq] at e; exact ⟨t, by rw [← e]; rfl⟩
    | succ i => rw [List.getElem?_cons_succ] at e; obtain ⟨u, hu⟩ := ih i v e; exact ⟨u, by rw [hu]; rfl⟩
theorem StrsAre_length {vs : List Value} {ss : List Str} (h : StrsAre vs ss) : vs.length = ss.length := by
  induction h with
  | nil => rfl
  | cons x t hs ih => simp [ih]
set_option maxHeartbeats 3200000 in
theorem call_set_strs {l : Addr} {items : Array Value} {ss : List Str} {Q : Value → Shared → Prop}
    (hh : A.handled = none) (hl : s.heap.IsList l items) (hi : StrsAre items.toList ss) (hb : items.size + 1 < scanBound)
    (h : ∀ (h' : Heap) (tk : Nat) zs, SSet prog w h' s.heap.objs.size zs → zs.Nodup → zs.length ≤ ss.length → (∀ x, x ∈ zs ↔ x ∈ ss) →
      (∀ b o, b < s.heap.objs.size → s.heap.get? b = some o → h'.get? b = some o) → Q (.ref s.heap.objs.size) { s with heap := h', toks := tk }) :
    wpAny (model prog w) A (call (.type "set") [.ref l]) Q E s := by
  have hlen : items.size = ss.length := by rw [← Array.length_toList]; exact StrsAre_length hi
  have hin : ∀ x, (∃ j, j < items.size ∧ x = ss.getD j ⟨#[]⟩) ↔ x ∈ ss := by
    intro x
    rw [hlen, List.mem_iff_getElem]
    constructor
    · rintro ⟨j, hj, e⟩; exact ⟨j, hj, by rw [e]; simp [hj]⟩
    · rintro ⟨j, hj, e⟩; exact ⟨j, hj, by rw [← e]; simp [hj]⟩
  obtain ⟨c, tl, hmro⟩ := PySem.F.called_set.mro
  have hmade := PySem.F.called_set.made
  have hsub := PySem.F.called_set.sub
  refine wpAny_call (codeAny_of_tree ?_)
  show wpAny _ _ (callAny (.type "set") _) _ _ _
  refine wpAny_pure ⟨Code.quiet_builtin _ (by decide +kernel), codeAny_builtin PySem.F.entry_type_call ?_⟩
  rw [Around.under_plain (weight_type_call_type "set" [.ref l] []) rfl]
  have h1 := PySem.F.called_set.notType
  have h2 := PySem.F.called_set.canCreate
  have hct := PySem.F.typeCall_set_1 (.ref l)
  repeat (any_goals (first | assumption | wp_step))
  refine codeAny_mono (newset_code (.ref l) (E := E) (Q₁ := fun obj s₁ => ∃ led : Bool, (w.params.followText "set-order" = false → led = true) ∧ obj = .ref s.heap.objs.size ∧ s₁ = { s with heap := s.heap.push { cls := .type "set", dict := none, data := .set #[] 0 (.fresh 0 0 led) } }) fun led hled => ⟨led, hled, rfl, rfl⟩) fun r s₁ hr => ?_
  cases r with
  | error e => exact hr
  | ok fl =>
    cases fl with
    | ret obj =>
      obtain ⟨led, hled, rfl, rfl⟩ := hr
      have hS : (s.heap.push { cls := .type "set", dict := none, data := .set #[] 0 (.fresh 0 0 led) }).get? s.heap.objs.size = some { cls := .type "set", dict := none, data := .set #[] 0 (.fresh 0 0 led) } := Heap.get?_push_size _ rfl
      have hT : Shared.TypeIs { s with heap := s.heap.push { cls := .type "set", dict := none, data := .set #[] 0 (.fresh 0 0 led) } } (.ref s.heap.objs.size) "set" := ⟨_, hS, rfl⟩
      have hli := PySem.F.called_set.init.lookup
      have hbi := PySem.F.called_set.init.bind (.ref s.heap.objs.size)
      repeat (any_goals (first | assumption | wp_step))
      refine codeAny_mono (codeAny_call_builtin (R := wants (fun r s₂ => r = .none ∧ ∃ h' tk zs, s₂ = { s with heap := h', toks := tk } ∧
          SSet prog w h' s.heap.objs.size zs ∧ zs.Nodup ∧ zs.length ≤ ss.length ∧ (∀ x, x ∈ zs ↔ x ∈ ss) ∧
          (∀ b o, b < s.heap.objs.size → s.heap.get? b = some o → h'.get? b = some o)) E) PySem.F.called_set.init.plain PySem.F.entry_set_init (check_set_init_1 hT ?_)) fun r₂ s₂ hr₂ => ?_
      · obtain ⟨ol, hol, hcl, nl, hdl⟩ := hl
        obtain ⟨ocls, odict, odata, oslots⟩ := ol
        simp only at hcl hdl
        subst hcl; subst hdl
        have hol' : (s.heap.push { cls := .type "set", dict := none, data := .set #[] 0 (.fresh 0 0 led) }).get? l = some { cls := .type "list", dict := odict, data := .seq items nl, slots := oslots } := Heap.get?_push_of_some _ hol
        have hsls := PySem.F.sub_list_set
        have hslf := PySem.F.sub_list_frozenset
        have hne : (Value.type "list" == Value.type "dict") = false := by decide
        have hl1 : (s.heap.push { cls := .type "set", dict := none, data := .set #[] 0 (.fresh 0 0 led) }).IsList l items := ⟨_, hol', rfl, nl, rfl⟩
        unfold Builtin.«set.__init__» noKeywords Builtin.Frozenset.updateFrom
        generalize hPI : pyIter = PI
        wp_walk
        subst hPI
        refine wpAny_pyIter_list hl1 ?_
        refine wpAny_bind (wpAny_runValue ?_)
        have hlS : l < s.heap.objs.size := Heap.lt_size hol
        have hh3 : A.in1.in1.in1.handled = none := by simp [hh]
        have hneI : l ≠ (s.heap.push { cls := .type "set", dict := none, data := .set #[] 0 (.fresh 0 0 led) }).objs.size := by
          rw [Heap.size_push]; exact Nat.ne_of_lt (Nat.lt_succ_of_lt hlS)
        have hSf : s.heap.objs.size ∉ [(s.heap.push { cls := .type "set", dict := none, data := .set #[] 0 (.fresh 0 0 led) }).objs.size, l] := by
          rw [Heap.size_push]; simp only [List.mem_cons, List.mem_singleton, List.not_mem_nil, or_false, not_or]
          exact ⟨Nat.ne_of_lt (Nat.lt_succ_self _), Nat.ne_of_gt hlS⟩
        have hval : ∀ (i : Nat) (v : Value), i < items.size → items[i]? = some v → ∃ t, v = .str ((fun i => ss.getD i ⟨#[]⟩) i) t := fun i v _ hv =>
          StrsAre_at hi i v (by rw [Array.getElem?_toList]; exact hv)
        refine update_loop_str ((Walks.list hh3 _ l hneI items).toS) s.heap.objs.size
          hSf (fun i => ss.getD i ⟨#[]⟩) hval hb (items.size - 0) 0 _ [] (by omega) (Nat.zero_le _)
          ⟨⟨_, Heap.get?_push_size _ rfl, rfl, rfl⟩, (hl1.push _)⟩ ?hS0 .nil (Nat.le_refl _) (by intro x; simp) ?hR
        case hS0 =>
          have hget : ((s.heap.push { cls := .type "set", dict := none, data := .set #[] 0 (.fresh 0 0 led) }).push { cls := .type "list_iterator", data := .fields #[.ref l, .int 0 0] }).get? s.heap.objs.size
              = some { cls := .type "set", dict := none, data := .set #[] 0 (.fresh 0 0 led) } := Heap.get?_push_of_some _ hS
          exact ⟨_, _, _, _, hget, ⟨rfl, rfl, rfl⟩, rfl, fun e he => by simp at he, by simp, by decide, rfl, hled, fun q => (q rfl).elim⟩
        case hR =>
          intro s' zs' hm hS' hnd hln hmem
          obtain ⟨h', g', d', tk', os'⟩ := s'
          have eg : g' = s.gens := hm.gens
          have ed : d' = s.drawn := hm.drawn
          have eo : os' = s.os := hm.os
          subst eg; subst ed; subst eo
          show wpAny _ _ _ _ _ _
          refine wpAny_pure ?_
          show wpAny _ _ (ret Value.none) _ _ _
          refine wpAny_pure ⟨rfl, h', tk', zs', rfl, hS', hnd, by omega, fun x => (hmem x).trans (hin x), fun b o hb e => ?_⟩
          have hb1 : b ≠ s.heap.objs.size := Nat.ne_of_lt hb
          have hb2 : b ≠ (s.heap.push { cls := .type "set", dict := none, data := .set #[] 0 (.fresh 0 0 led) }).objs.size := by
            rw [Heap.size_push]; exact Nat.ne_of_lt (Nat.lt_succ_of_lt hb)
          exact hm.heap b o (by simp only [List.mem_cons, List.mem_singleton, List.not_mem_nil, or_false, not_or]; exact ⟨hb1, hb2⟩) (Heap.get?_push_of_some _ (Heap.get?_push_of_some _ e))
      · cases r₂ with
        | error e => exact hr₂
        | ok fl₂ =>
          cases fl₂ with
          | ret r =>
            obtain ⟨rfl, h', tk, zs, rfl, hS', hnd, hln, hmem, hk'⟩ := hr₂
            repeat (any_goals (first | assumption | wp_step))
            exact h _ _ _ hS' hnd hln hmem hk'
          | _ => exact hr₂.elim
    | _ => exact hr.elim
end
theorem wpAny_draw {M : Model} {A : Around} {E : Value → Shared → Prop} {s : Shared} {src : Source} {n : Nat} {Q : Nat → Shared → Prop} (hn : n ≠ 0) (h : ∀ i dr, i < n → Q i { s with drawn := dr }) : wpAny M A (choose src n) Q E s := by
  intro Γ p _
  unfold choose
  rw [Sem.wp_choose]
  exact ⟨hn, h _ _ (Nat.mod_lt _ (Nat.pos_of_ne_zero hn))⟩
theorem eraseIdx_perm {α : Type} : ∀ (l : List α) (i : Nat) (x : α), l[i]? = some x → (x :: l.eraseIdx i).Perm l
  | [], i, x, h => by simp at h
  | y :: r, 0, x, h => by simp at h; subst h; exact .refl _
  | y :: r, i + 1, x, h => by
    rw [List.getElem?_cons_succ] at h
    rw [List.eraseIdx_cons_succ]
    exact (List.Perm.swap _ _ _).trans (.cons _ (eraseIdx_perm r i x h))
theorem drawOrder_wp {M : Model} {A : Around} {E : Value → Shared → Prop} {α : Type} : ∀ (n : Nat) (xs : List α) {s : Shared} {Q : List α → Shared → Prop}, xs.length ≤ n → (∀ ys dr, ys.Perm xs → Q ys { s with drawn := dr }) → wpAny M A (drawOrder n xs) Q E s
  | 0, xs, s, Q, hl, h => by
    have : xs = [] := List.length_eq_zero_iff.mp (Nat.le_zero.mp hl)
    subst this
    unfold drawOrder
    exact wpAny_pure (h [] s.drawn (.refl _))
  | n + 1, [], s, Q, hl, h => by unfold drawOrder; exact wpAny_pure (h [] s.drawn (.refl _))
  | n + 1, x :: r, s, Q, hl, h => by
    unfold drawOrder
    refine wpAny_bind (wpAny_draw (by simp) fun i dr hi => ?_)
    obtain ⟨y, hy⟩ : ∃ y, (x :: r)[i]? = some y := ⟨(x :: r)[i], by simp [hi]⟩
    have hp := eraseIdx_perm _ _ _ hy
    rw [hy]
    dsimp only
    refine wpAny_bind (drawOrder_wp n _ ?_ fun ys dr' hys => ?_)
    · have := hp.length_eq
      simp only [List.length_cons] at this hl ⊢
      omega
    · exact wpAny_pure (h _ dr' ((List.Perm.cons _ hys).trans hp))
theorem pickOrder_go {α : Type} (next : Nat → Nat) : ∀ (fuel k : Nat) (left : List α) (out : Array α), left.length ≤ fuel → (pickOrder.go next fuel k left out).toList.Perm (out.toList ++ left)
  | 0, k, left, out, h => by
    have : left = [] := List.length_eq_zero_iff.mp (Nat.le_zero.mp h)
    subst this
    simp [pickOrder.go]
  | fuel + 1, k, [], out, h => by simp [pickOrder.go]
  | fuel + 1, k, x :: r, out, h => by
    have hi : next k % (x :: r).length < (x :: r).length := Nat.mod_lt _ (by simp)
    obtain ⟨y, hy⟩ : ∃ y, (x :: r)[next k % (x :: r).length]? = some y := ⟨(x :: r)[next k % (x :: r).length], by simp [hi]⟩
    have hp := eraseIdx_perm _ _ _ hy
    unfold pickOrder.go
    rw [hy]
    dsimp only
    refine (pickOrder_go next fuel (k + 1) _ _ ?_).trans ?_
    · have := hp.length_eq
      simp only [List.length_cons] at this h ⊢
      omega
    · rw [Array.toList_push, List.append_assoc]
      exact List.Perm.append_left _ hp
theorem pickOrder_perm {α : Type} (next : Nat → Nat) (xs : Array α) : (pickOrder next xs).toList.Perm xs.toList := by
  have := pickOrder_go next xs.size 0 xs.toList #[] (by simp)
  simpa [pickOrder] using this
theorem entry_set_iter : entryFor table "set.__iter__" = some Builtin.«frozenset.__iter__» := entryFor_alias (id' := "frozenset.__iter__") (by kernel_rfl) rfl (by decide +kernel) (by kernel_rfl)
theorem slot_setit_next : Slot "set_iterator" "__next__" "set_iterator.__next__" :=
  .of (owner := "set_iterator") (n := "__next__") (by rw [typeLookup_type, builtinLookup_eq_fast]; kernel_rfl) (by decide +kernel) (by decide +kernel) (by decide +kernel)
    (by first | exact .inl (by decide +kernel) | exact .inr (by decide +kernel)) (by rw [isSubtype_type]; kernel_rfl)
theorem slot_setit_iter : Slot "set_iterator" "__iter__" "set_iterator.__iter__" :=
  .of (owner := "set_iterator") (n := "__iter__") (by rw [typeLookup_type, builtinLookup_eq_fast]; kernel_rfl) (by decide +kernel) (by decide +kernel) (by decide +kernel)
    (by first | exact .inl (by decide +kernel) | exact .inr (by decide +kernel)) (by rw [isSubtype_type]; kernel_rfl)
theorem entry_setit_next : entryFor table "set_iterator.__next__" = some Builtin.«set_iterator.__next__» := entryFor_of_tree (by kernel_rfl)
theorem entry_setit_iter : entryFor table "set_iterator.__iter__" = some Builtin.«dict_keyiterator.__iter__» := entryFor_alias (id' := "dict_keyiterator.__iter__") (by kernel_rfl) rfl (by decide +kernel) (by kernel_rfl)
theorem owner_setit : Manifest.owners.lookup (String.ofList ['r', 'o', 't', 'a', 'r', 'e', 't', 'i', '_', 't', 'e', 's'].reverse) = some Manifest.sig_set_iterator := by kernel_rfl
theorem args_setit_next (a : Value) : argsOk "set_iterator.__next__" ⟨[a], []⟩ := by
  unfold argsOk; rw [signature?_of (id := "set_iterator.__next__") (n := ['_', '_', 't', 'x', 'e', 'n', '_', '_']) (o := ['r', 'o', 't', 'a', 'r', 'e', 't', 'i', '_', 't', 'e', 's']) (by kernel_rfl) owner_setit]; kernel_rfl
theorem args_setit_iter (a : Value) : argsOk "set_iterator.__iter__" ⟨[a], []⟩ := by
  unfold argsOk; rw [signature?_of (id := "set_iterator.__iter__") (n := ['_', '_', 'r', 'e', 't', 'i', '_', '_']) (o := ['r', 'o', 't', 'a', 'r', 'e', 't', 'i', '_', 't', 'e', 's']) (by kernel_rfl) owner_setit]; kernel_rfl
noncomputable def SIt (h : Heap) (I : Addr) (first : Value) (i : Nat) (a : Addr) (n ep : Nat) : Prop := ∃ o, h.get? I = some o ∧ o.cls = .type "set_iterator" ∧ o.data = .fields #[first, .int i 0, .ref a, .int n 0, .int ep 0]
noncomputable def SAt (prog : Program) (w : World) (h : Heap) (a : Addr) (es : Array (Int × Value)) (ep : Nat) (t : SetTable) (zs : List Str) : Prop := ∃ o, h.get? a = some o ∧ o.ExactSet ∧ o.data = .set es ep t ∧ SData prog w es t zs
section
variable {prog : Program} {w : World} {A : Around} {E : Value → Shared → Prop} {s : Shared} {I a : Addr} {first : Value} {i n ep : Nat} {es : Array (Int × Value)} {t : SetTable} {zs : List Str}
theorem SIt.typeIs (x : SIt s.heap I first i a n ep) : s.TypeIs (.ref I) "set_iterator" := let ⟨o, ho, hc, _⟩ := x; ⟨o, ho, hc⟩
theorem SIt.at {h h' : Heap} (x : SIt h I first i a n ep) (e : ∀ o, h.get? I = some o → h'.get? I = some o) : SIt h' I first i a n ep := let ⟨o, ho, r⟩ := x; ⟨o, e _ ho, r⟩
theorem SAt.at {h h' : Heap} (x : SAt prog w h a es ep t zs) (e : ∀ o, h.get? a = some o → h'.get? a = some o) : SAt prog w h' a es ep t zs := let ⟨o, ho, r⟩ := x; ⟨o, e _ ho, r⟩
theorem SAt.typeIs (x : SAt prog w s.heap a es ep t zs) : s.TypeIs (.ref a) "set" := let ⟨o, ho, hc, _⟩ := x; ⟨o, ho, hc.1⟩
theorem setit_self {Q : Value → Shared → Prop} (hit : SIt s.heap I first i a n ep) (h : Q (.ref I) s) : wpAny (model prog w) A (pyIter (.ref I)) Q E s := by
  refine wpAny_pyIter_slot hit.typeIs slot_setit_iter (wpAny_call_entry slot_setit_iter hit.typeIs entry_setit_iter ?_ (args_setit_iter _))
  show wpAny _ _ (ret (.ref I)) _ _ s
  exact wpAny_pure ⟨_, rfl, "set_iterator", _, hit.typeIs, slot_setit_next.lookup, h⟩
theorem setit_set {x : Value} {k : Nat} (hit : SIt s.heap I first i a n ep) :
    (k = 1 → ∀ j : Nat, x = rawInt (j : Int) → SIt (s.heap.update I (Obj.mapFields (·.setIfInBounds k x))) I first j a n ep) ∧ (k = 0 → SIt (s.heap.update I (Obj.mapFields (·.setIfInBounds k x))) I x i a n ep) := by
  obtain ⟨o, ho, hc, hd⟩ := hit
  have hg := Heap.get?_update_self (Obj.mapFields (·.setIfInBounds k x)) ho (Obj.isFreed_of_fields (Obj.data_mapFields hd _))
  refine ⟨fun hk j e => ⟨_, hg, (Obj.cls_mapFields ..).trans hc, ?_⟩, fun hk => ⟨_, hg, (Obj.cls_mapFields ..).trans hc, ?_⟩⟩
  · rw [Obj.data_mapFields hd, hk, e]; rfl
  · rw [Obj.data_mapFields hd, hk]; rfl
/-- the end of the walk: StopIteration, caught -/
theorem setit_stop {Q : Option Value → Shared → Prop} (hh : A.handled = none) (hQ : ∀ h', Heap.ExtBut I s.heap h' → Q none { s with heap := h' }) {R : Fin → Shared → Prop} :
    wpAny (model prog w) A.in1 (do raiseNew (← newExc (.type "StopIteration") []) : Sem Fin) R (fun e s' => wpAny (model prog w) A (do if ← isInstance e (.type "StopIteration") then pure none else throw e) Q E s') s := by
  refine wpAny_bind ?_
  simp only [newExc, newTuple]
  refine wpAny_bind (wpAny_newObj_type ?_ (by size_fits))
  refine wpAny_bind (m := firstArgMember _ _) (wpAny_of_eq (a := Value.none) (by first | rfl | (simp only [firstArgMember]; rfl)) ?_)
  refine wpAny_newObj_type ?_ (by size_fits)
  simp only [raiseNew]
  refine wpAny_bind (wpAny_handled ?_)
  rw [show A.in1.handled = none from hh]
  refine wpAny_bind (wpAny_pure (wpAny_throw ?_))
  refine wpAny_bind (wpAny_isInstance (T := "StopIteration") (b := true) ⟨_, Heap.get?_push_size _ rfl, rfl⟩ isSubtype_stop ?_)
  exact wpAny_pure (hQ _ (((Heap.ExtBut.refl I s.heap).push _).push _))
end
section
variable {prog : Program} {w : World} {A : Around} {E : Value → Shared → Prop} {s : Shared} {I a T : Addr} {first : Value} {i n ep : Nat} {es : Array (Int × Value)} {t : SetTable} {zs : List Str}
theorem setsByText_wp {Q : Bool → Shared → Prop} (h : Q (w.params.followText "set-order") s) : wpAny (model prog w) A setsByText Q E s := by
  unfold setsByText
  exact wpAny_bind (wpAny_askSetting (wpAny_pure h))
theorem setWalk_text {Q : Array (Int × Value) → Shared → Prop} (hb : w.params.followText "set-order" = true) (hS : SAt prog w s.heap a es ep t zs) (h : Q (pickOrder (w.params.setOrder a ep) es) s) : wpAny (model prog w) A (setWalk a) Q E s := by
  obtain ⟨o, ho, hex, hd, hx⟩ := hS
  unfold setWalk
  refine wpAny_bind (wpAny_setState_of ho hd hx.2.2.2.1 ?_)
  dsimp only
  refine wpAny_bind (setsByText_wp ?_)
  rw [hb, if_pos rfl]
  exact wpAny_bind (wpAny_askSetting (wpAny_pure h))
theorem setNext_text {sl : Nat} {Q : Option (Value × Nat) → Shared → Prop} (hb : w.params.followText "set-order" = true) (hS : SAt prog w s.heap a es ep t zs)
    (h : Q (((pickOrder (w.params.setOrder a ep) es)[i]?).map fun e => (e.2, sl)) s) : wpAny (model prog w) A (setNext a sl i ep) Q E s := by
  obtain ⟨o, ho, hex, hd, hx⟩ := id hS
  unfold setNext
  refine wpAny_bind (wpAny_setState_of ho hd hx.2.2.2.1 ?_)
  dsimp only
  refine wpAny_bind (setsByText_wp ?_)
  rw [hb, if_pos rfl, if_neg (by simp)]
  exact wpAny_bind (setWalk_text hb hS (wpAny_pure h))
theorem setNext_one {sl : Nat} {Q : Option (Value × Nat) → Shared → Prop} (hb : w.params.followText "set-order" = false) (hS : SAt prog w s.heap a es ep t zs) (h1 : es.size ≤ 1)
    (h : Q (match es[SetTable.below t.place sl]?, t.place[SetTable.below t.place sl]? with | some (_, x), some j => some (x, j + 1) | _, _ => none) s) : wpAny (model prog w) A (setNext a sl i ep) Q E s := by
  obtain ⟨o, ho, hex, hd, hx⟩ := id hS
  unfold setNext
  refine wpAny_bind (wpAny_setState_of ho hd hx.2.2.2.1 ?_)
  dsimp only
  refine wpAny_bind (setsByText_wp ?_)
  rw [hb, if_neg (by simp)]
  have hd0 : (!t.plain && decide (es.size > 1)) = false := by simp; intro _; omega
  have hl : t.led = true := hx.2.2.2.2.1 hb
  show wpAny _ _ (if (!t.plain && decide (es.size > 1)) = true then _ else _) _ _ _
  rw [hd0, if_neg (by simp)]
  have hl0 : (!t.led && !es.isEmpty) = false := by rw [hl]; rfl
  refine wpAny_bind (m := if (!t.led && !es.isEmpty) = true then _ else _) ?_
  rw [hl0, if_neg (by simp)]
  refine wpAny_pure ?_
  exact wpAny_pure h
theorem setit_item {sl nx : Nat} {x : Value} {Q : Option Value → Shared → Prop} (hit : SIt s.heap I (rawInt (sl : Nat)) i a n ep) (hS : SAt prog w s.heap a es ep t zs) (hn : es.size = n)
    (hnext : ∀ (A : Around) (Q : Option (Value × Nat) → Shared → Prop) (E : Value → Shared → Prop), Q (some (x, nx)) s → wpAny (model prog w) A (setNext a sl i ep) Q E s)
    (hQ : ∀ h', SIt h' I (rawInt (nx : Nat)) (i + 1) a n ep → Heap.SameBut I s.heap h' → Q (some x) { s with heap := h' }) : wpAny (model prog w) A (pyNext (.ref I)) Q E s := by
  obtain ⟨oi, hoi, hci, hdi⟩ := id hit
  obtain ⟨o, ho, hex, hd, hx⟩ := id hS
  unfold pyNext
  refine wpAny_bind (wpAny_attempt (wpAny_callSpecial?_slot (name := Str.ofString "__next__") hit.typeIs slot_setit_next
    (wpAny_call_entry slot_setit_next hit.typeIs entry_setit_next ?_ (args_setit_next _))))
  unfold Builtin.«set_iterator.__next__»
  refine wpAny_bind (wpAny_pure ?_)
  refine wpAny_bind (wpAny_fieldsOf hoi hdi ?_)
  dsimp only [rawInt]
  refine wpAny_bind (wpAny_setEntries_of ho hd hx.2.2.2.1 ?_)
  rw [if_neg (by simp [hn])]
  refine wpAny_bind (hnext _ _ _ ?_)
  dsimp only
  refine wpAny_bind (wpAny_setField hoi hdi (by simp) ?_)
  have h1 := (setit_set (s := s) (k := 0) (x := rawInt (nx : Nat)) hit).2 rfl
  obtain ⟨o1, ho1, hc1, hd1⟩ := id h1
  refine wpAny_bind (wpAny_setField ho1 hd1 (by simp) ?_)
  have h2 := (setit_set (s := { s with heap := s.heap.update I (Obj.mapFields (·.setIfInBounds 0 (rawInt (nx : Nat)))) }) (k := 1) (x := rawInt ((i : Int) + 1)) h1).1 rfl (i + 1) (by simp [rawInt])
  refine wpAny_pure ⟨_, rfl, ?_⟩
  exact wpAny_pure (hQ _ h2 ((Heap.SameBut.update ..).trans (Heap.SameBut.update ..)))
theorem setit_end {sl : Nat} {Q : Option Value → Shared → Prop} (hh : A.handled = none) (hit : SIt s.heap I (rawInt (sl : Nat)) i a n ep) (hS : SAt prog w s.heap a es ep t zs) (hn : es.size = n)
    (hnext : ∀ (A : Around) (Q : Option (Value × Nat) → Shared → Prop) (E : Value → Shared → Prop), Q none s → wpAny (model prog w) A (setNext a sl i ep) Q E s)
    (hQ : ∀ h', Heap.ExtBut I s.heap h' → Q none { s with heap := h' }) : wpAny (model prog w) A (pyNext (.ref I)) Q E s := by
  obtain ⟨oi, hoi, hci, hdi⟩ := id hit
  obtain ⟨o, ho, hex, hd, hx⟩ := id hS
  unfold pyNext
  refine wpAny_bind (wpAny_attempt (wpAny_callSpecial?_slot (name := Str.ofString "__next__") hit.typeIs slot_setit_next
    (wpAny_call_entry slot_setit_next hit.typeIs entry_setit_next ?_ (args_setit_next _))))
  unfold Builtin.«set_iterator.__next__»
  refine wpAny_bind (wpAny_pure ?_)
  refine wpAny_bind (wpAny_fieldsOf hoi hdi ?_)
  dsimp only [rawInt]
  refine wpAny_bind (wpAny_setEntries_of ho hd hx.2.2.2.1 ?_)
  rw [if_neg (by simp [hn])]
  refine wpAny_bind (hnext _ _ _ ?_)
  dsimp only
  refine wpAny_bind (wpAny_setField hoi hdi (by simp) ?_)
  refine setit_stop (I := I) (s := { s with heap := s.heap.update I (Obj.mapFields (·.setIfInBounds 2 Value.none)) }) hh fun h' e => ?_
  exact hQ _ ((Heap.SameBut.update s.heap I _).extBut.trans e)
end
section
variable {prog : Program} {w : World} {A : Around} {E : Value → Shared → Prop} {s : Shared} {I a T : Addr} {first : Value} {i n ep : Nat} {es : Array (Int × Value)} {t : SetTable} {zs : List Str}
theorem setNextDrawn_wp {place : Nat} {h0 : Int} {x : Value} {Q : Value → Shared → Prop} (hS : SAt prog w s.heap a es ep t zs) (he : es[place]? = some (h0, x)) (h : Q x s) : wpAny (model prog w) A (setNextDrawn a place ep) Q E s := by
  obtain ⟨o, ho, hex, hd, hx⟩ := id hS
  unfold setNextDrawn
  refine wpAny_bind (wpAny_setState_of ho hd hx.2.2.2.1 ?_)
  dsimp only
  rw [if_neg (by simp), he]
  exact wpAny_pure h
theorem setit_itemD {pl : List Nat} {place : Nat} {h0 : Int} {x : Value} {Q : Option Value → Shared → Prop} (hit : SIt s.heap I (.ref T) i a n ep) (hT : s.heap.IsTuple T (pl.map fun i : Nat => rawInt i).toArray) (hS : SAt prog w s.heap a es ep t zs) (hn : es.size = n)
    (hp : pl[i]? = some place) (he : es[place]? = some (h0, x))
    (hQ : ∀ h', SIt h' I (.ref T) (i + 1) a n ep → Heap.SameBut I s.heap h' → Q (some x) { s with heap := h' }) : wpAny (model prog w) A (pyNext (.ref I)) Q E s := by
  obtain ⟨oi, hoi, hci, hdi⟩ := id hit
  obtain ⟨o, ho, hex, hd, hx⟩ := id hS
  obtain ⟨oT, hoT, hcT, nT, hdT⟩ := id hT
  unfold pyNext
  refine wpAny_bind (wpAny_attempt (wpAny_callSpecial?_slot (name := Str.ofString "__next__") hit.typeIs slot_setit_next
    (wpAny_call_entry slot_setit_next hit.typeIs entry_setit_next ?_ (args_setit_next _))))
  unfold Builtin.«set_iterator.__next__»
  refine wpAny_bind (wpAny_pure ?_)
  refine wpAny_bind (wpAny_fieldsOf hoi hdi ?_)
  dsimp only
  refine wpAny_bind (wpAny_setEntries_of ho hd hx.2.2.2.1 ?_)
  rw [if_neg (by simp [hn])]
  refine wpAny_bind (wpAny_seqItems hoT hdT ?_)
  dsimp only
  have hpp : ((pl.map fun i : Nat => rawInt i).toArray)[(i : Int).toNat]? = some (rawInt place) := by simp [hp]
  rw [hpp]
  dsimp only [rawInt]
  refine wpAny_bind (setNextDrawn_wp hS he ?_)
  refine wpAny_bind (wpAny_setField hoi hdi (by simp) ?_)
  have h2 := (setit_set (s := s) (k := 1) (x := rawInt ((i : Int) + 1)) hit).1 rfl (i + 1) (by simp [rawInt])
  refine wpAny_pure ⟨_, rfl, ?_⟩
  exact wpAny_pure (hQ _ h2 (Heap.SameBut.update ..))
theorem setit_endD {pl : List Nat} {Q : Option Value → Shared → Prop} (hh : A.handled = none) (hit : SIt s.heap I (.ref T) i a n ep) (hT : s.heap.IsTuple T (pl.map fun i : Nat => rawInt i).toArray) (hS : SAt prog w s.heap a es ep t zs) (hn : es.size = n)
    (hp : pl[i]? = none)
    (hQ : ∀ h', Heap.ExtBut I s.heap h' → Q none { s with heap := h' }) : wpAny (model prog w) A (pyNext (.ref I)) Q E s := by
  obtain ⟨oi, hoi, hci, hdi⟩ := id hit
  obtain ⟨o, ho, hex, hd, hx⟩ := id hS
  obtain ⟨oT, hoT, hcT, nT, hdT⟩ := id hT
  unfold pyNext
  refine wpAny_bind (wpAny_attempt (wpAny_callSpecial?_slot (name := Str.ofString "__next__") hit.typeIs slot_setit_next
    (wpAny_call_entry slot_setit_next hit.typeIs entry_setit_next ?_ (args_setit_next _))))
  unfold Builtin.«set_iterator.__next__»
  refine wpAny_bind (wpAny_pure ?_)
  refine wpAny_bind (wpAny_fieldsOf hoi hdi ?_)
  dsimp only
  refine wpAny_bind (wpAny_setEntries_of ho hd hx.2.2.2.1 ?_)
  rw [if_neg (by simp [hn])]
  refine wpAny_bind (wpAny_seqItems hoT hdT ?_)
  dsimp only
  have hpp : ((pl.map fun i : Nat => rawInt i).toArray)[(i : Int).toNat]? = none := by simp [hp]
  rw [hpp]
  dsimp only [rawInt]
  refine wpAny_bind (wpAny_setField hoi hdi (by simp) ?_)
  have h1 := (setit_set (s := s) (k := 0) (x := rawInt 0) hit).2 rfl
  obtain ⟨o1, ho1, hc1, hd1⟩ := id h1
  refine wpAny_bind (wpAny_setField ho1 hd1 (by simp) ?_)
  refine setit_stop (I := I) (s := { s with heap := (s.heap.update I (Obj.mapFields (·.setIfInBounds 0 (rawInt 0)))).update I (Obj.mapFields (·.setIfInBounds 2 Value.none)) }) hh fun h' e => ?_
  exact hQ _ (((Heap.SameBut.update s.heap I _).trans (Heap.SameBut.update _ I _)).extBut.trans e)
theorem SData.str_at {L : List (Int × Value)} {e : Int × Value} (x : SData prog w es t zs) (hp : L.Perm es.toList) (he : L[i]? = some e) : ∃ tk, e.2 = .str ((L.map fun e => strOf e.2).getD i ⟨#[]⟩) tk := by
  obtain ⟨⟨k, hk, _⟩, _⟩ := x.1 e (hp.mem_iff.mp (List.mem_of_getElem? he))
  obtain ⟨tk, ht⟩ := Value.isStrOf_shape (show Value.isStrOf k e.2 = true from hk)
  refine ⟨tk, ?_⟩
  have : (L.map fun e => strOf e.2).getD i ⟨#[]⟩ = k := by rw [List.getD_eq_getElem?_getD, List.getElem?_map, he]; show strOf e.2 = k; rw [ht]; rfl
  rw [this, ht]
end
section
variable {prog : Program} {w : World} {A : Around} {E : Value → Shared → Prop} {s : Shared} {I a T : Addr} {first : Value} {i n ep : Nat} {es : Array (Int × Value)} {t : SetTable} {zs : List Str}
theorem walks_text (hh : A.handled = none) (hb : w.params.followText "set-order" = true) (hne : a ≠ I) (hn : es.size = n) :
    Walks prog w A I [I, a] [I] n (fun i v => ∃ tk, v = .str (((pickOrder (w.params.setOrder a ep) es).toList.map fun e => strOf e.2).getD i ⟨#[]⟩) tk) (fun i h => SIt h I (rawInt (0 : Nat)) i a n ep ∧ SAt prog w h a es ep t zs) where
  sub := fun b hb => by simp at hb; simp [hb]
  frame := fun _ _ _ st hk => ⟨st.1.at fun o e => hk I (by simp) o e, st.2.at fun o e => hk a (by simp) o e⟩
  item := fun i s Q E hi st hQ => by
    obtain ⟨o, ho, hex, hd, hx⟩ := id st.2
    have hp := pickOrder_perm (w.params.setOrder a ep) es
    have hlen : (pickOrder (w.params.setOrder a ep) es).size = n := by rw [← Array.length_toList, hp.length_eq, Array.length_toList, hn]
    obtain ⟨e, he⟩ : ∃ e, (pickOrder (w.params.setOrder a ep) es)[i]? = some e := ⟨(pickOrder (w.params.setOrder a ep) es)[i]'(by omega), by simp [hlen, hi]⟩
    obtain ⟨tk, htk⟩ := hx.str_at hp (i := i) (e := e) (by rw [Array.getElem?_toList]; exact he)
    refine setit_item (sl := 0) (nx := 0) (x := e.2) st.1 st.2 hn (fun A Q E q => setNext_text hb st.2 (by rw [he]; exact q)) fun h' hit' hs' => ?_
    exact hQ e.2 h' s.toks ⟨tk, htk⟩ ⟨hit', st.2.at fun o e => hs'.extBut a o hne e⟩ fun b o hb e => hs'.extBut b o (fun h => hb (by simp [h])) e
  done := fun s Q E st hQ => by
    have hp := pickOrder_perm (w.params.setOrder a ep) es
    have hlen : (pickOrder (w.params.setOrder a ep) es).size = n := by rw [← Array.length_toList, hp.length_eq, Array.length_toList, hn]
    refine setit_end (sl := 0) hh st.1 st.2 hn (fun A Q E q => setNext_text hb st.2 (by rw [Array.getElem?_eq_none (by omega)]; exact q)) fun h' he' => hQ h' s.toks fun b o hb e => he' b o (fun h => hb (by simp [h])) e
  self := fun _ _ _ _ st hQ => setit_self st.1 hQ
theorem walks_drawn (hh : A.handled = none) {pl : List Nat} (hpl : pl.Perm (List.range n)) (hne : a ≠ I) (hneT : T ≠ I) (hn : es.size = n) :
    Walks prog w A I [I, a, T] [I] n (fun i v => ∃ tk, v = .str (((pl.filterMap fun j => es[j]?).map fun e => strOf e.2).getD i ⟨#[]⟩) tk) (fun i h => SIt h I (.ref T) i a n ep ∧ SAt prog w h a es ep t zs ∧ h.IsTuple T (pl.map fun i : Nat => rawInt i).toArray) where
  sub := fun b hb => by simp at hb; simp [hb]
  frame := fun _ _ _ st hk => ⟨st.1.at fun o e => hk I (by simp) o e, st.2.1.at fun o e => hk a (by simp) o e, st.2.2.at fun o e => hk T (by simp) o e⟩
  item := fun i s Q E hi st hQ => by
    obtain ⟨o, ho, hex, hd, hx⟩ := id st.2.1
    have hlen : pl.length = n := by rw [hpl.length_eq, List.length_range]
    obtain ⟨j, hj⟩ : ∃ j, pl[i]? = some j := ⟨pl[i], by simp [hlen, hi]⟩
    have hjn : j < es.size := by rw [hn]; exact List.mem_range.mp (hpl.mem_iff.mp (List.mem_of_getElem? hj))
    have hp : (pl.filterMap fun j => es[j]?).Perm es.toList := by
      refine (hpl.filterMap _).trans ?_
      rw [← hn, filterMap_getElem?_range]
    have hfm : ∀ (l : List Nat) (i j : Nat), (∀ x ∈ l, x < es.size) → l[i]? = some j → (l.filterMap fun j => es[j]?)[i]? = es[j]? := by
      intro l
      induction l with
      | nil => intro i j _ h; simp at h
      | cons x r ih =>
        intro i j hx h
        have hx0 : es[x]? = some (es[x]'(hx x (.head _))) := by simp [hx x (.head _)]
        rw [List.filterMap_cons_some hx0]
        cases i with
        | zero => simp only [List.getElem?_cons_zero, Option.some.injEq] at h; subst h; rw [List.getElem?_cons_zero, hx0]
        | succ i => rw [List.getElem?_cons_succ] at h ⊢; exact ih i j (fun y hy => hx y (.tail _ hy)) h
    have he : es[j]? = some (es[j].1, es[j].2) := by simp [hjn]
    obtain ⟨tk, htk⟩ := hx.str_at hp (i := i) (e := (es[j].1, es[j].2)) (by rw [hfm pl i j (fun x hx => by rw [hn]; exact List.mem_range.mp (hpl.mem_iff.mp hx)) hj]; exact he)
    refine setit_itemD st.1 st.2.2 st.2.1 hn hj he fun h' hit' hs' => ?_
    exact hQ _ h' s.toks ⟨tk, htk⟩ ⟨hit', st.2.1.at fun o e => hs'.extBut a o hne e, st.2.2.at fun o e => hs'.extBut T o hneT e⟩ fun b o hb e => hs'.extBut b o (fun h => hb (by simp [h])) e
  done := fun s Q E st hQ => by
    have hlen : pl.length = n := by rw [hpl.length_eq, List.length_range]
    exact setit_endD hh st.1 st.2.2 st.2.1 hn (List.getElem?_eq_none (by omega)) fun h' he' => hQ h' s.toks fun b o hb e => he' b o (fun h => hb (by simp [h])) e
  self := fun _ _ _ _ st hQ => setit_self st.1 hQ
theorem below_one0 (p : Nat) : SetTable.below #[p] 0 = 0 := by simp [SetTable.below, SetTable.below.go]
theorem below_one1 (p : Nat) : SetTable.below #[p] (p + 1) = 1 := by simp [SetTable.below, SetTable.below.go]
theorem walks_few (hh : A.handled = none) (hb : w.params.followText "set-order" = false) (h1 : es.size ≤ 1) (hne : a ≠ I) (hn : es.size = n) :
    Walks prog w A I [I, a] [I] n (fun i v => ∃ tk, v = .str ((es.toList.map fun e => strOf e.2).getD i ⟨#[]⟩) tk) (fun i h => (∃ sl : Nat, SIt h I (rawInt sl) i a n ep ∧ (i = 0 → sl = 0) ∧ (i = 1 → es[SetTable.below t.place sl]? = none)) ∧ SAt prog w h a es ep t zs) where
  sub := fun b hb => by simp at hb; simp [hb]
  frame := fun _ _ _ st hk => ⟨let ⟨sl, x, y⟩ := st.1; ⟨sl, x.at fun o e => hk I (by simp) o e, y⟩, st.2.at fun o e => hk a (by simp) o e⟩
  item := fun i s Q E hi st hQ => by
    obtain ⟨o, ho, hex, hd, hx⟩ := id st.2
    obtain ⟨⟨sl, hit, hs0, _⟩, hS⟩ := st
    have hi0 : i = 0 := by omega
    subst hi0
    obtain rfl := hs0 rfl
    have hn1 : es.size = 1 := by omega
    obtain ⟨⟨h0, x⟩, he⟩ : ∃ e, es[0]? = some e := ⟨es[0]'(by omega), by simp [hn1]⟩
    have hpl : t.place.size = 1 := by
      have := hx.2.2.2.1
      simp only [SetTable.fits, Bool.and_eq_true, beq_iff_eq] at this
      omega
    obtain ⟨p, hp⟩ : ∃ p, t.place = #[p] := Array.size_eq_one_iff.mp hpl
    obtain ⟨tk, htk⟩ := hx.str_at (.refl _) (i := 0) (e := (h0, x)) (by rw [Array.getElem?_toList]; exact he)
    refine setit_item (sl := 0) (nx := p + 1) (x := x) hit hS hn (fun A Q E q => setNext_one hb hS h1 (by rw [hp, below_one0, he]; exact q)) fun h' hit' hs' => ?_
    exact hQ x h' s.toks ⟨tk, htk⟩ ⟨⟨p + 1, hit', fun h => absurd h (by omega), fun _ => by rw [hp, below_one1]; simp [hn1]⟩, hS.at fun o e => hs'.extBut a o hne e⟩ fun b o hb e => hs'.extBut b o (fun h => hb (by simp [h])) e
  done := fun s Q E st hQ => by
    obtain ⟨⟨sl, hit, hs0, hs1⟩, hS⟩ := st
    have hnone : es[SetTable.below t.place sl]? = none := by
      rcases Nat.lt_or_ge 0 es.size with h | h
      · exact hs1 (by omega)
      · exact Array.getElem?_eq_none (by omega)
    refine setit_end hh hit hS hn (fun A Q E q => setNext_one hb hS h1 (by rw [hnone]; exact q)) fun h' he' => hQ h' s.toks fun b o hb e => he' b o (fun h => hb (by simp [h])) e
  self := fun _ _ _ _ st hQ => by obtain ⟨⟨sl, hit, _⟩, _⟩ := st; exact setit_self hit hQ
end
section
variable {prog : Program} {w : World} {A : Around} {E : Value → Shared → Prop} {s : Shared} {a : Addr} {ep : Nat} {es : Array (Int × Value)} {t : SetTable} {zs : List Str}
theorem sset_iter {Q : Value → Shared → Prop} (hh : A.handled = none) (hS : SAt prog w s.heap a es ep t zs)
    (h : ∀ I fp ord St h' dr, Walks prog w A I fp [I] zs.length (fun i v => ∃ tk, v = .str (List.getD ord i ⟨#[]⟩) tk) St → St 0 h' → ord.Perm zs → (∀ b o, s.heap.get? b = some o → h'.get? b = some o) →
      (∀ b ∈ fp, b = a ∨ s.heap.objs.size ≤ b) → s.heap.objs.size ≤ I → Q (.ref I) { s with heap := h', drawn := dr }) :
    wpAny (model prog w) A (pyIter (.ref a)) Q E s := by
  obtain ⟨o, ho, hex, hd, hx⟩ := id hS
  have hn := hx.size
  have ha : a < s.heap.objs.size := Heap.lt_size ho
  refine wpAny_pyIter_slot hS.typeIs PySem.F.slot_set_iter (wpAny_call_entry PySem.F.slot_set_iter hS.typeIs entry_set_iter ?_ (PySem.F.args_set_iter_1 _))
  unfold Builtin.«frozenset.__iter__» Builtin.Frozenset.slot0 slotArgs
  simp only [List.isEmpty_nil, Bool.not_true, Bool.false_eq_true, ↓reduceIte, bind_assoc, List.length_nil, bne_self_eq_false]
  unfold Builtin.Frozenset.addrOf Builtin.Frozenset.sizeOf
  refine wpAny_bind (wpAny_pure ?_)
  try dsimp only
  refine wpAny_bind (wpAny_pure ?_)
  refine wpAny_bind (wpAny_bind (wpAny_setEntries_of ho hd hx.2.2.2.1 (wpAny_pure ?_)))
  unfold setDrawn
  refine wpAny_bind (wpAny_bind (wpAny_setState_of ho hd hx.2.2.2.1 ?_))
  dsimp only
  refine wpAny_bind (setsByText_wp (wpAny_pure ?_))
  have hdrawn : ∀ b : Bool, (!b && (!t.plain && decide (es.size > 1))) = (!b && decide (es.size > 1)) := by
    intro b
    by_cases h1 : es.size > 1
    · rw [hx.2.2.2.2.2 (by omega)]; rfl
    · rw [decide_eq_false h1, Bool.and_false]
  show wpAny _ _ (if (!w.params.followText "set-order" && (!t.plain && decide (es.size > 1))) = true then _ else _) _ _ _
  rw [hdrawn]
  have hneS : a ≠ s.heap.objs.size := Nat.ne_of_lt ha
  cases hb : w.params.followText "set-order" with
  | true =>
    simp only [Bool.not_true, Bool.false_and, Bool.false_eq_true, if_false]
    refine wpAny_bind (wpAny_pure ?_)
    refine wpAny_bind (wpAny_setEpoch_of ho hd hx.2.2.2.1 ?_)
    refine wpAny_bind (wpAny_newObj_type (wpAny_pure ⟨_, rfl, "set_iterator", _, ⟨_, Heap.get?_push_size _ rfl, rfl⟩, slot_setit_next.lookup, ?_⟩))
    refine h s.heap.objs.size [s.heap.objs.size, a] _ _ _ s.drawn (walks_text (ep := ep) (es := es) (t := t) (zs := zs) (n := zs.length) hh hb hneS hn) ⟨⟨_, Heap.get?_push_size _ rfl, rfl, by rw [hn]; rfl⟩, hS.at fun o e => Heap.get?_push_of_some _ e⟩ ?_ (fun b o e => Heap.get?_push_of_some _ e) ?_ (Nat.le_refl _)
    · exact ((pickOrder_perm _ es).map _).trans hx.2.1
    · intro b hb
      rcases List.mem_cons.mp hb with rfl | hb
      · exact .inr (Nat.le_refl _)
      · exact .inl (List.mem_singleton.mp hb)
  | false =>
    by_cases h1 : es.size > 1
    · simp only [h1, decide_true, Bool.not_false, Bool.and_true, if_true]
      refine wpAny_bind (drawOrder_wp _ _ (by simp) fun pl dr hpl => ?_)
      refine wpAny_bind (wpAny_newTuple ?_ (by
        have := hx.2.2.1
        have h2 := fits_of_scanBound this
        simp only [List.length_map, hpl.length_eq, List.length_range]
        exact h2))
      have ho' : (s.heap.push { cls := .type "tuple", data := .seq (pl.map fun (i : Nat) => rawInt i).toArray }).get? a = some o := Heap.get?_push_of_some _ ho
      refine wpAny_bind (wpAny_setEpoch_of ho' hd hx.2.2.2.1 ?_)
      have hszT : (s.heap.push { cls := .type "tuple", data := .seq (pl.map fun (i : Nat) => rawInt i).toArray }).objs.size = s.heap.objs.size + 1 := size_push' _ _
      refine wpAny_bind (wpAny_newObj_type (wpAny_pure ⟨_, rfl, "set_iterator", _, ⟨_, Heap.get?_push_size _ rfl, rfl⟩, slot_setit_next.lookup, ?_⟩))
      show Q (.ref (s.heap.push { cls := .type "tuple", data := .seq (pl.map fun (i : Nat) => rawInt i).toArray }).objs.size) _
      rw [hszT]
      refine h (s.heap.objs.size + 1) [s.heap.objs.size + 1, a, s.heap.objs.size] _ _ _ dr (walks_drawn (T := s.heap.objs.size) (ep := ep) (es := es) (t := t) (zs := zs) (n := zs.length) hh (pl := pl) (by rw [← hn]; exact hpl) (Nat.ne_of_lt (Nat.lt_succ_of_lt ha)) (Nat.ne_of_lt (Nat.lt_succ_self _)) hn) ⟨⟨{ cls := .type "set_iterator", data := .fields #[.ref s.heap.objs.size, rawInt 0, .ref a, rawInt es.size, rawInt ep] }, ?_, rfl, by rw [hn]; rfl⟩, hS.at fun o e => Heap.get?_push_of_some _ (Heap.get?_push_of_some _ e), ⟨_, Heap.get?_push_of_some _ (Heap.get?_push_size _ rfl), rfl, 0, rfl⟩⟩ ?_ (fun b o e => Heap.get?_push_of_some _ (Heap.get?_push_of_some _ e)) ?_ (Nat.le_succ _)
      · rw [← hszT]; exact Heap.get?_push_size _ rfl
      · refine (((hpl.filterMap _).trans (by rw [filterMap_getElem?_range])).map _).trans hx.2.1
      · intro b hb
        simp only [List.mem_cons, List.not_mem_nil, or_false] at hb
        rcases hb with rfl | rfl | rfl
        · exact .inr (Nat.le_succ _)
        · exact .inl rfl
        · exact .inr (Nat.le_refl _)
    · simp only [h1, decide_false, Bool.and_false, Bool.false_eq_true, if_false]
      refine wpAny_bind (wpAny_pure ?_)
      refine wpAny_bind (wpAny_setEpoch_of ho hd hx.2.2.2.1 ?_)
      refine wpAny_bind (wpAny_newObj_type (wpAny_pure ⟨_, rfl, "set_iterator", _, ⟨_, Heap.get?_push_size _ rfl, rfl⟩, slot_setit_next.lookup, ?_⟩))
      refine h s.heap.objs.size [s.heap.objs.size, a] _ _ _ s.drawn (walks_few (ep := ep) (es := es) (t := t) (zs := zs) (n := zs.length) hh hb (by omega) hneS hn) ⟨⟨0, ⟨_, Heap.get?_push_size _ rfl, rfl, by rw [hn]; rfl⟩, fun _ => rfl, fun h => absurd h (by omega)⟩, hS.at fun o e => Heap.get?_push_of_some _ e⟩ hx.2.1 (fun b o e => Heap.get?_push_of_some _ e) ?_ (Nat.le_refl _)
      intro b hb
      rcases List.mem_cons.mp hb with rfl | hb
      · exact .inr (Nat.le_refl _)
      · exact .inl (List.mem_singleton.mp hb)
theorem sset_hint {r : Addr} {Q : Bool → Shared → Prop} (hT : s.TypeIs (.ref r) "set") (h : Q false s) : wpAny (model prog w) A (Builtin.List.listLengthHint (.ref r)) Q E s := by
  unfold Builtin.List.listLengthHint
  refine wpAny_bind (wpAny_specialOf hT PySem.F.slot_set_len.lookup ?_)
  generalize hid : ("set.__len__" : String) = id0
  wp_delta
  rw [show splitId id0 = some ("set", "__len__") from by subst hid; decide +kernel]
  subst hid
  refine wpAny_bind (wpAny_isInstance (T := "set") (b := true) hT (by rw [isSubtype_type]; kernel_rfl) ?_)
  refine wpAny_ite_split (fun hab => absurd hab (by decide)) (fun _ => ?_)
  refine wpAny_ite_split (fun _ => ?_) (fun hab => absurd (by decide +kernel) hab)
  refine wpAny_bind (wpAny_typeOf hT ?_)
  exact wpAny_pure h
end
theorem strsAre_of {vs : List Value} {ord : List Str} (hl : vs.length = ord.length) (h : ∀ (j : Nat) v, vs[j]? = some v → ∃ tk, v = .str (ord.getD j ⟨#[]⟩) tk) : StrsAre vs ord := by
  induction vs generalizing ord with
  | nil => cases ord with
    | nil => exact .nil
    | cons _ _ => simp at hl
  | cons x r ih => cases ord with
    | nil => simp at hl
    | cons z zs =>
      obtain ⟨tk, e⟩ := h 0 x rfl
      have e' : x = .str z tk := e
      subst e'
      exact .cons _ _ (ih (by simpa using hl) fun j v hj => by
        obtain ⟨u, hu⟩ := h (j + 1) v (by rw [List.getElem?_cons_succ]; exact hj)
        exact ⟨u, hu⟩)
section
variable {prog : Program} {w : World} {A : Around} {E : Value → Shared → Prop} {s : Shared} {a : Addr} {zs : List Str}
theorem sset_extend {R : Result → Shared → Prop} (hh : A.handled = none) (hS : SSet prog w s.heap a zs) (S : Addr) (hSa : S ≠ a) (res : Value) (c₀ : Nat) (hS0 : s.heap.get? S = some { cls := .type "list", data := .seq #[] c₀ })
    (hR : ∀ h' tk dr acc' c' ord, (∀ b o, b ≠ S → s.heap.get? b = some o → h'.get? b = some o) → h'.get? S = some { cls := .type "list", dict := none, data := .seq acc' c', slots := #[] } → StrsAre acc'.toList ord → ord.Perm zs → R (.ok (.ret res)) { s with heap := h', toks := tk, drawn := dr }) :
    wpAny (model prog w) A.in1 (Builtin.List.listExtendWith (.ref S) (.ref a) res)
      (fun fin s' => match fin with | .done f => R (.ok f) s' | .again c' => c'.quiet = true ∧ codeAny (model prog w) A c' R s') (fun e s' => R (.error e) s') s := by
  obtain ⟨o, es, ep, t, ho, hex, hd, hx⟩ := hS
  have hSA : SAt prog w s.heap a es ep t zs := ⟨o, ho, hex, hd, hx⟩
  have hSlt : S < s.heap.objs.size := Heap.lt_size hS0
  have hlen : zs.length ≤ sizeLine := by rw [← hx.size]; exact fits_of_scanBound hx.2.2.1
  unfold Builtin.List.listExtendWith
  refine wpAny_bind (wpAny_typeOf (T := "set") hSA.typeIs ?_)
  have h1' : Builtin.List.listSameRef (.ref S) (.ref a) = false := by simp [Builtin.List.listSameRef, hSa]
  have n1 : (Value.type "set" == Value.type "list") = false := by decide
  have n2 : (Value.type "set" == Value.type "tuple") = false := by decide
  simp only [h1', n1, n2, Bool.or_false, Bool.false_eq_true, if_false]
  refine wpAny_bind (sset_iter (A := A.in1) hh hSA fun I fp ord St h' dr W st hord hk hfp hI => ?_)
  have hSI : S ≠ I := fun e => by subst e; exact absurd hSlt (Nat.not_lt.mpr hI)
  have hSf : S ∉ fp := fun hm => by
    rcases hfp _ hm with e | e
    · exact hSa e
    · exact absurd hSlt (Nat.not_lt.mpr e)
  have hT' : ({ s with heap := h', drawn := dr } : Shared).TypeIs (.ref a) "set" := (hSA.at fun o e => hk a o e).typeIs
  have key : ∀ (h2 : Heap) (c₁ tk : Nat), St 0 h2 → (∀ b o, b ≠ S → s.heap.get? b = some o → h2.get? b = some o) → h2.get? S = some { cls := .type "list", data := .seq #[] c₁ } →
      codeAny (model prog w) A (.builtin "list.extend.loop" ⟨[.ref S, .ref I, res], []⟩) R { s with heap := h2, toks := tk, drawn := dr } := by
    intro h2 c₁ tk hst hk2 hS2
    refine codeAny_extend_loopS W.toS hlen S hSf res zs.length 0 { s with heap := h2, toks := tk, drawn := dr } #[] c₁ rfl (Nat.zero_le _) hst hS2 (ItemsOf.nil _) fun s' acc' c' hm hS' hacc => ?_
    rw [Moved.eq_with hm]
    refine hR s'.heap s'.toks dr acc' c' ord (fun b o hb e => hm.heap b o (fun hmem => ?_) (hk2 b o hb e)) hS' ?_ hord
    · rcases List.mem_cons.mp hmem with e' | hmem
      · exact hb e'
      · have h3 := Heap.lt_size e
        rw [List.mem_singleton.mp hmem] at h3
        exact absurd h3 (Nat.not_lt.mpr hI)
    · exact strsAre_of (by rw [Array.length_toList, hacc.1, hord.length_eq]) fun j v e => hacc.2 j v (by rw [← Array.getElem?_toList]; exact e)
  have hS₁ := hk S _ hS0
  refine wpAny_bind (wpAny_holding (sset_hint hT' ?_))
  refine wpAny_ite_split (fun _ => ?_) (fun _ => wpAny_pure ⟨plainId_quiet PySem.F.plain_extend_loop _, key _ c₀ _ st (fun b o _ e => hk b o e) hS₁⟩)
  refine wpAny_bind (wpAny_rule ?_)
  refine wpAny_bind ?_
  show wpAny _ _ (updateSeq S (·.push .none) >>= fun _ => updateSeq S (·.pop)) _ _ _
  refine wpAny_bind (wpAny_updateSeq hS₁ rfl ?_)
  have hS₂ := Heap.get?_update_self (Obj.mapSeq (·.push Value.none)) hS₁ rfl
  refine wpAny_updateSeq (hz := by seq_fits) hS₂ rfl ?_
  have hS₃ := Heap.get?_update_self (Obj.mapSeq (·.pop)) hS₂ rfl
  refine wpAny_pure ⟨plainId_quiet PySem.F.plain_extend_loop _, key _ _ _ ?_ (fun b o hb e => ?_) hS₃⟩
  · refine W.frame 0 _ _ st fun b hb o e => ?_
    have hbS : b ≠ S := fun h => hSf (h ▸ hb)
    exact (Heap.get?_update_other _ _ (Ne.symm hbS)).trans ((Heap.get?_update_other _ _ (Ne.symm hbS)).trans e)
  · exact (Heap.get?_update_other _ _ (Ne.symm hb)).trans ((Heap.get?_update_other _ _ (Ne.symm hb)).trans (hk b o e))
theorem sset_collect {R : List Value → Shared → Prop} (hh : A.handled = none) (hS : SSet prog w s.heap a zs)
    (h : ∀ (h' : Heap) (tk : Nat) dr (vs : List Value) ord, (∀ b o, s.heap.get? b = some o → h'.get? b = some o) → StrsAre vs ord → ord.Perm zs → R vs { s with heap := h', toks := tk, drawn := dr }) :
    wpAny (model prog w) A (collect (.ref a)) R E s := by
  have ha : a < s.heap.objs.size := let ⟨o, es, ep, t, ho, _⟩ := hS; Heap.lt_size ho
  unfold collect
  refine wpAny_bind (wpAny_runValue (codeAny_builtin entry_proto_collect' ?_))
  rw [Around.under_plainId PySem.F.plain_proto_collect _]
  show wpAny _ A.in1 (newList [] >>= fun l => again (.builtin "list.__iadd__" ⟨[l, .ref a], []⟩)) _ _ s
  refine wpAny_bind (wpAny_newObj_type ?_)
  refine wpAny_pure ⟨plainId_quiet PySem.F.plain_list_iadd _, codeAny_builtin entry_list_iadd' ?_⟩
  rw [Around.under_plainId PySem.F.plain_list_iadd _]
  have hS₁ : (s.heap.push { cls := .type "list", data := .seq ([] : List Value).toArray }).get? s.heap.objs.size = some { cls := .type "list", data := .seq #[] } := Heap.get?_push_size _ rfl
  show wpAny _ A.in1 (Builtin.List.listExtendWith (.ref s.heap.objs.size) (.ref a) (.ref s.heap.objs.size)) _ _ _
  have key := sset_extend (A := A) (s := { s with heap := s.heap.push { cls := .type "list", data := .seq ([] : List Value).toArray } })
    (R := fun (q : Result) (s' : Shared) => ∃ (h' : Heap) (tk : Nat) (dr : Drawn) (acc' : Array Value) (c' : Nat) (ord : List Str), q = .ok (.ret (.ref s.heap.objs.size)) ∧ s' = { s with heap := h', toks := tk, drawn := dr } ∧
      (∀ b o, s.heap.get? b = some o → h'.get? b = some o) ∧ h'.get? s.heap.objs.size = some { cls := .type "list", dict := none, data := .seq acc' c', slots := #[] } ∧ StrsAre acc'.toList ord ∧ ord.Perm zs)
    hh (hS.keep fun o e => Heap.get?_push_of_some _ e) s.heap.objs.size (Nat.ne_of_gt ha) (.ref s.heap.objs.size) 0 hS₁
    (fun h' tk dr acc' c' ord hk hS' hacc hord => ⟨h', tk, dr, acc', c', ord, rfl, rfl, fun b o e => hk b o (Nat.ne_of_lt (Heap.lt_size e)) (Heap.get?_push_of_some _ e), hS', hacc, hord⟩)
  refine wpAny_mono key (fun fin s' x => ?_) fun e s' x => ?_
  · cases fin with
    | done f =>
      obtain ⟨h', tk, dr, acc', c', ord, e, rfl, hk, hS', hacc, hord⟩ := x
      cases e
      show wpAny _ A (load s.heap.objs.size >>= _) _ _ _
      refine wpAny_bind (wpAny_load hS' ?_)
      exact wpAny_pure (h h' tk dr acc'.toList ord hk hacc hord)
    | again c₁ =>
      refine ⟨x.1, codeAny_mono x.2 fun q s₂ y => ?_⟩
      obtain ⟨h', tk, dr, acc', c', ord, rfl, rfl, hk, hS', hacc, hord⟩ := y
      show wpAny _ A (load s.heap.objs.size >>= _) _ _ _
      refine wpAny_bind (wpAny_load hS' ?_)
      exact wpAny_pure (h h' tk dr acc'.toList ord hk hacc hord)
  · obtain ⟨_, _, _, _, _, _, e', _⟩ := x
    cases e'
theorem sorted_set_N {h₀ : Heap} {L : Addr} {m : Str → Option Value} {news : List (Addr × Obj)} {Q : Value → Shared → Prop} (hh : A.handled = none) (F : Fr h₀ L s.heap m) (N : News h₀ L s.heap news) (hS : SSet prog w s.heap a zs) (h64 : zs.length < 64)
    (h : ∀ (h' : Heap) tk dr D (vs' : List Value) (ss' : List Str) (e : Nat), Fr h₀ L h' m → News h₀ L h' ((D, seqObj "list" vs'.toArray e) :: news) → (∀ q ∈ news, q.1 < D) →
      StrsAre vs' ss' → ss'.Perm zs → sortedS ss' = true → Q (.ref D) { s with heap := h', toks := tk, drawn := dr }) :
    wpAny (model prog w) A (call (.builtin "sorted") [.ref a]) Q E s := by
  refine Calls.call_function_entry kind_sorted plain_sorted entry_sorted (args_sorted1 _) ?_
  unfold Builtin.«sorted»
  refine wpAny_bind (m := checkCount "sorted" 1 1 _) (wpAny_pure ?_)
  refine wpAny_bind (sset_collect (A := A.in1) hh hS fun h' tk dr vs ord hk hvs hord => ?_)
  have hl : vs.length = zs.length := by rw [StrsAre_length hvs, hord.length_eq]
  refine wpAny_bind (wpAny_newList ?_ (by rw [hl]; show zs.length ≤ 2 ^ 24; omega))
  have hoL : (h'.push (seqObj "list" vs.toArray 0)).get? h'.objs.size = some (seqObj "list" vs.toArray 0) := Heap.get?_push_size _ rfl
  refine wpAny_bind (wpAny_holding (wpAny_call_entry slot_list_sort ⟨_, hoL, rfl⟩ entry_list_sort (list_sort_treeK (κ := PyProof.Rows.strKind) strKind_oneLt hoL hvs.keysOf (fun v₁ v₂ rest e => keyKind_strs (by rw [← e]; exact hvs)) (by omega) fun st' hp hs => ⟨_, rfl, ?_⟩) (args_list_sort _)))
  obtain ⟨ss', a1, a2, a3⟩ := sorted_out_str hvs hp hs
  have hold : ∀ b o, s.heap.get? b = some o → (sortedHeap (h'.push (seqObj "list" vs.toArray 0)) h'.objs.size vs ((arrOf st').map (·.2))).get? b = some o := fun b o e => by
    have e1 := hk b o e
    have hb : b < h'.objs.size := Heap.lt_size e1
    rw [sortedHeap_old (Nat.ne_of_lt hb) (by rw [size_push']; exact Nat.lt_succ_of_lt hb)]
    exact Heap.get?_push_of_some _ e1
  obtain ⟨e, he⟩ := sortedHeap_at (out := (arrOf st').map (·.2)) hoL
  refine wpAny_pure ⟨_, rfl, h _ tk dr h'.objs.size ((arrOf st').map (·.2)).toList ss' e (F.kept hold) ?_ (fun q hq => Heap.lt_size (hk _ _ (N q hq).1)) a1 (a2.trans hord) a3⟩
  have N' : News h₀ L h' news := fun p hp => ⟨hk _ _ (N p hp).1, (N p hp).2⟩
  have N2 := News.push (F.keeps hk) N' (seqObj "list" vs.toArray 0) rfl
  intro p hp
  rcases List.mem_cons.mp hp with rfl | hp
  · exact ⟨he, (N2 _ (.head _)).2⟩
  · exact ⟨hold _ _ (N p hp).1, (N p hp).2⟩
end
section
variable {prog : Program} {w : World} {A : Around} {E : Value → Shared → Prop} {s : Shared} {h₀ : Heap} {L : Addr} {m : Str → Option Value} {env : Env}
/-- a comprehension's turns, whatever a turn does with its item -/
theorem loopG {elt : Expr} {gens : List Comprehension} {scope : Scope} {pos p : Pos} {d : Nat} {it acc : Value} {env : Env} {body : Value → Sem Unit} {R : Result → Shared → Prop} (I : Nat → Shared → Prop)
    (hturn : compTurn (.ListComp elt gens scope pos) d it acc env = (standAt p >>= fun _ => pyNext it >>= fun r => match r with
      | none => pure (.done .next)
      | some v => body v >>= fun _ => again (.compLoop (.ListComp elt gens scope pos) d it acc env)))
    (turn : ∀ n s, I n s → wpAny (model prog w) A (pyNext it) (fun r s₁ => match r with
      | none => R (.ok .next) s₁
      | some v => wpAny (model prog w) A (body v) (fun _ s₅ => ∃ m, m < n ∧ I m s₅) (notedBy (model prog w) A env fun e s' => R (.error e) s') s₁) (notedBy (model prog w) A env fun e s' => R (.error e) s') s)
    (n : Nat) (h : I n s) : codeAny (model prog w) A (.compLoop (.ListComp elt gens scope pos) d it acc env) R s := by
  refine codeAny_loop rfl I (fun n s hI => ?_) n h
  show wpAny _ A ((compTurn (.ListComp elt gens scope pos) d it acc env).onRaise (fun x => do noteFrame x env; theTreesLotGoes x)) _ _ s
  refine wpAny_noted ?_
  rw [hturn]
  refine wpAny_bind (wpAny_standAt (wpAny_bind (wpAny_mono (turn n s hI) (fun r s₁ h₁ => ?_) fun _ _ h' => h')))
  cases r with
  | none => exact wpAny_pure h₁
  | some v => exact wpAny_bind (wpAny_mono h₁ (fun _ s₂ h₂ => wpAny_pure ⟨rfl, h₂⟩) fun _ _ h' => h')
/-- what a turn must leave: the list may have grown, the names may have changed -/
noncomputable def TurnG (bb : Bool) (h₀ : Heap) (L : Addr) (m : Str → Option Value) (I : Addr) (oI : Obj) (C D : Addr) (J : List Value → List (Addr × Obj) → Prop) (s s' : Shared) : Prop :=
  ∃ news' ys' oC' mC', NsObj oC' mC' ∧ Sm bb s s' ∧ Fr h₀ L s'.heap m ∧ News h₀ L s'.heap ((I, oI) :: (C, oC') :: (D, lst ys') :: news') ∧ Off3 I C D news' ∧ J ys' news'
theorem comp_loopG {bb : Bool} {elt target iter : Expr} {ifs : List Expr} {gens : List Comprehension} {p : Pos} {scope : Scope} {cl : List (Str × Addr)} {pos : Pos} {s₂ : Shared} {I : Addr} {fp : List Addr} {n : Nat} {P : Nat → Value → Prop} {St : Nat → Heap → Prop} {news : List (Addr × Obj)}
    (body : Env → Value → Value → Sem Unit) (J : Nat → List Value → List (Addr × Obj) → Prop) {RR : Value → Addr → Result → Shared → Prop}
    (W : Walks prog w A I fp [I] n P St) (hsz : n ≤ sizeLine) (hIo : ∀ i h, St i h → ∃ o, h.get? I = some o)
    (hSt : ∀ i h h' o nw ys, St i h → h.get? I = some o → h'.get? I = some o → (∀ b o, h₀.get? b = some o → h'.get? b = some o) → News h₀ L h' nw → J i ys nw → St i h')
    (hturn : ∀ acc cenv, compTurn (.ListComp elt (⟨target, iter, ifs, 0⟩ :: gens) scope pos) 0 (.ref I) acc cenv = (standAt p >>= fun _ => pyNext (.ref I) >>= fun r => match r with
      | none => pure (.done .next)
      | some v => body cenv acc v >>= fun _ => again (.compLoop (.ListComp elt (⟨target, iter, ifs, 0⟩ :: gens) scope pos) 0 (.ref I) acc cenv)))
    (hcell : ∀ y ∈ scope.names, y.2 ≠ .cell) (hkind : scope.kind = .function) (hst : St 0 s₂.heap) (hfp : ∀ b ∈ fp, b < s₂.heap.objs.size)
    (F : Fr h₀ L s₂.heap m) (N : News h₀ L s₂.heap news) (hIL : L ≠ I) (hI₀ : h₀.get? I = none) (off : ∀ p ∈ news, p.1 ≠ I) (h0 : J 0 [] news)
    (turn : ∀ i v ys nw oI C oC D mC s' (E' : Value → Shared → Prop), i < n → P i v → J i ys nw → St (i + 1) s'.heap → NsObj oC mC → Sm bb s₂ s' → Fr h₀ L s'.heap m → News h₀ L s'.heap ((I, oI) :: (C, oC) :: (D, lst ys) :: nw) → Off3 I C D nw → ((@Ne Nat I C) ∧ (@Ne Nat I D) ∧ (@Ne Nat C D)) → h₀.get? C = none → C ≠ L →
      wpAny (model prog w) A (body (compEnvC scope cl C env) (.ref D) v) (fun _ s'' => TurnG bb h₀ L m I oI C D (J (i + 1)) s' s'') E' s')
    (hRR : ∀ D C m' ys nw s', J n ys nw → Sm bb s₂ s' → Fr h₀ L s'.heap m → News h₀ L s'.heap ((D, lst ys) :: nw) → Off1 D nw → s'.heap.Ns C m' → h₀.get? C = none → h₀.get? D = none → C ≠ L → D ≠ L → C ≠ D → (∀ p ∈ nw, p.1 ≠ C) → RR (.ref D) C (.ok .next) s') :
    wpAny (model prog w) A (newList []) (fun acc s₃ => wpAny (model prog w) A (newFunctionEnv scope env.globals cl [] env.qual none .none (some env)) (fun cenv s₄ =>
      codeAny (model prog w) A (.compStart (.ListComp elt (⟨target, iter, ifs, 0⟩ :: gens) scope pos) 0 (.ref I) acc { cenv with scope := relabel scope env }) (RR acc cenv.locals) s₄) E s₃) E s₂ := by
  refine wpAny_newObj_type (wpAny_newFunctionEnv hcell (by intro y hy; simp at hy) (fun h₁ hns₁ hsb₁ => ?_) hkind)
  dsimp only at hns₁ hsb₁ ⊢
  generalize hH2 : s₂.heap.push { cls := .type "list", dict := none, data := .seq ([] : List Value).toArray } = H2 at hns₁ hsb₁ ⊢
  have hC : H2.objs.size = s₂.heap.objs.size + 1 := by rw [← hH2, Heap.size_push]
  have hDC : s₂.heap.objs.size ≠ H2.objs.size := by rw [hC]; exact Nat.ne_of_lt (Nat.lt_succ_self _)
  have below : ∀ b, b < s₂.heap.objs.size → b ≠ H2.objs.size ∧ b ≠ s₂.heap.objs.size := fun b hb => ⟨by rw [hC]; exact Nat.ne_of_lt (Nat.lt_succ_of_lt hb), Nat.ne_of_lt hb⟩
  have hDf : s₂.heap.objs.size ∉ fp := fun hm => Nat.lt_irrefl _ (hfp _ hm)
  have hCf : H2.objs.size ∉ fp := fun hm => by have := hfp _ hm; rw [hC] at this; exact Nat.lt_irrefl _ (Nat.lt_of_succ_lt this)
  have hIf : I ∈ fp := W.sub I (List.mem_singleton.mpr rfl)
  have hIlt : I < s₂.heap.objs.size := hfp I hIf
  have old : ∀ b o, s₂.heap.get? b = some o → h₁.get? b = some o := fun b o e => hsb₁.extBut b o (below b (Heap.lt_size e)).1 (Heap.get?_push_of_some _ (hH2 ▸ Heap.get?_push_of_some _ e))
  have hacc : h₁.get? s₂.heap.objs.size = some (lst []) := hsb₁.extBut _ _ hDC (Heap.get?_push_of_some _ (hH2 ▸ Heap.get?_push_size _ rfl))
  have hst₁ : St 0 h₁ := W.frame _ _ _ hst fun b _ o e => old b o e
  have fresh : ∀ a, s₂.heap.objs.size ≤ a → h₀.get? a = none := fun a ha => by
    cases e : h₀.get? a with
    | none => rfl
    | some o' => exact absurd (Heap.lt_size (F.keep a o' e)) (Nat.not_lt.mpr ha)
  have hD₀ : h₀.get? s₂.heap.objs.size = none := fresh _ (Nat.le_refl _)
  have hC₀ : h₀.get? H2.objs.size = none := fresh _ (by rw [hC]; exact Nat.le_succ _)
  have hLlt : L < s₂.heap.objs.size := F.ns.lt
  have hDL : s₂.heap.objs.size ≠ L := Ne.symm (below L hLlt).2
  have hCL : H2.objs.size ≠ L := Ne.symm (below L hLlt).1
  have hCI : I ≠ H2.objs.size := (below I hIlt).1
  have hDI : I ≠ s₂.heap.objs.size := (below I hIlt).2
  have off₀ : Off3 I H2.objs.size s₂.heap.objs.size news := Off3.of fun p hp => ⟨off p hp, (below _ (Heap.lt_size (N p hp).1)).1, (below _ (Heap.lt_size (N p hp).1)).2⟩
  have loop : ∀ s₃ : Shared, s₃ = { s₂ with heap := h₁, toks := s₂.toks + ([] : List (Str × Value)).length } →
      codeAny (model prog w) A (.compLoop (.ListComp elt (⟨target, iter, ifs, 0⟩ :: gens) scope pos) 0 (.ref I) (.ref s₂.heap.objs.size) (compEnvC scope cl H2.objs.size env))
        (RR (.ref s₂.heap.objs.size) H2.objs.size) s₃ := by
    rintro s₃ rfl
    refine loopG
      (fun k s' => ∃ i ys m' news', Sm bb s₂ s' ∧ i ≤ n ∧ k = n + 1 - i ∧ St i s'.heap ∧ Fr h₀ L s'.heap m ∧ s'.heap.Ns H2.objs.size m' ∧ News h₀ L s'.heap ((s₂.heap.objs.size, lst ys) :: news') ∧
        Off3 I H2.objs.size s₂.heap.objs.size news' ∧ J i ys news') (hturn _ _) ?_ (n + 1)
      ⟨0, [], _, news, Sm.ht, Nat.zero_le _, rfl, hst₁, F.keeps old, hns₁, fun p hp => ?_, off₀, h0⟩
    · intro k s' hr5
      refine hide9 fun G9 h9 => ?_
      rcases hr5 with ⟨i, ys, m', news', hsm, hi, rfl, hst', F', hn', N', off', hJ⟩
      refine h9 ?_
      clear h9 G9
      by_cases hlt : i < n
      · refine W.item i _ _ _ hlt hst' fun v h₂ tk₂ hPv hst₂ hk₂ => ?_
        have off3 := off'.mem
        have N₂ : News h₀ L h₂ ((s₂.heap.objs.size, lst ys) :: news') := news_but N' hk₂ fun p hp => by
          rcases List.mem_cons.mp hp with rfl | hp
          · exact Ne.symm hDI
          · exact (off3 p hp).1
        have F₂ : Fr h₀ L h₂ m := fr_but F' hk₂ hIL hI₀
        have hn₂ := hn'.at' fun o e => hk₂ _ o (by simpa using Ne.symm hCI) e
        obtain ⟨oI, heI⟩ := hIo _ _ hst₂
        obtain ⟨oC, heC, hoC⟩ := ns_obj hn₂
        have N₃ : News h₀ L h₂ ((I, oI) :: (H2.objs.size, oC) :: (s₂.heap.objs.size, lst ys) :: news') := fun p hp => by
          rcases List.mem_cons.mp hp with rfl | hp
          · exact ⟨heI, Ne.symm hIL, hI₀⟩
          · rcases List.mem_cons.mp hp with rfl | hp
            · exact ⟨heC, hCL, hC₀⟩
            · exact N₂ p hp
        refine wpAny_mono (turn i v ys news' oI H2.objs.size oC s₂.heap.objs.size _ { s' with heap := h₂, toks := tk₂ } _ hlt hPv hJ hst₂ hoC (hsm.trans Sm.ht) F₂ N₃ off' ⟨hCI, hDI, Ne.symm hDC⟩ hC₀ hCL) (fun _ s₄ h₄ => ?_) fun _ _ e => e
        obtain ⟨news₄, ys₄, oC₄, mC₄, hoC₄, hsm₄, F₄, N₄, off₄, J₄⟩ := h₄
        have zI := (N₄ (I, oI) List.mem_cons_self).1
        have zC := (N₄ (H2.objs.size, oC₄) (List.mem_cons_of_mem _ List.mem_cons_self)).1
        have N₄' : News h₀ L s₄.heap news₄ := fun p hp => N₄ p (List.mem_cons_of_mem _ (List.mem_cons_of_mem _ (List.mem_cons_of_mem _ hp)))
        exact ⟨n + 1 - (i + 1), by omega, i + 1, ys₄, _, news₄, (hsm.trans Sm.ht).trans hsm₄, hlt, rfl, hSt _ _ _ _ _ _ hst₂ heI zI F₄.keep N₄' J₄, F₄, hoC₄.ns zC, fun p hp => N₄ p (List.mem_cons_of_mem _ (List.mem_cons_of_mem _ hp)), off₄, J₄⟩
      · obtain rfl : i = n := Nat.le_antisymm hi (Nat.not_lt.mp hlt)
        refine W.done _ _ _ hst' fun h₂ tk₂ hk₂ => ?_
        have off3 := off'.mem
        exact hRR _ _ _ ys news' _ hJ (hsm.trans Sm.ht) (fr_but F' hk₂ hIL hI₀) (news_but N' hk₂ fun p hp => by
          rcases List.mem_cons.mp hp with rfl | hp
          · exact Ne.symm hDI
          · exact (off3 p hp).1) off'.one (hn'.at' fun o e => hk₂ _ o (by simpa using Ne.symm hCI) e) hC₀ hD₀ hCL hDL (Ne.symm hDC) (fun p hp => (off3 p hp).2.1)
    · rcases List.mem_cons.mp hp with rfl | hp
      · exact ⟨hacc, hDL, hD₀⟩
      · exact ⟨old _ _ (N p hp).1, (N p hp).2⟩
  exact codeAny_compStart_list (loop _ rfl) (W.self 0 _ _ _ hst₁ (loop _ rfl))
end
noncomputable def bodyL (target elt : Expr) (ifs : List Expr) (it : Value) (cenv : Env) (acc v : Value) : Sem Unit :=
  letOwnedTupleGo target it v >>= fun _ => assign target cenv v >>= fun _ =>
    (forIn ifs true fun c r => if r = true then do let ok ← isTrue c cenv (eval c cenv); pure (ForInStep.yield ok) else pure (ForInStep.yield r)) >>= fun ok =>
      if ok = true then (eval elt cenv >>= fun x => call (.builtin "list.append") [acc, x] >>= fun _ => pure ()) else pure ()
theorem turn_bodyL (elt target iter : Expr) (ifs : List Expr) (scope : Scope) (pos : Pos) (it acc : Value) (env : Env) :
    compTurn (.ListComp elt [⟨target, iter, ifs, 0⟩] scope pos) 0 it acc env = (standAt iter.pos >>= fun _ => pyNext it >>= fun r => match r with
      | none => pure (.done .next)
      | some v => bodyL target elt ifs it env acc v >>= fun _ => again (.compLoop (.ListComp elt [⟨target, iter, ifs, 0⟩] scope pos) 0 it acc env)) := by
  rw [compTurn_list]
  congr 1; funext _; congr 1; funext r
  cases r with
  | none => rfl
  | some v =>
    dsimp only [bodyL]
    simp only [bind_assoc]
    congr 1; funext _; congr 1; funext _; congr 1; funext ok
    cases ok <;> simp
section
variable {prog : Program} {w : World} {A : Around} {E : Value → Shared → Prop} {s : Shared} {h₀ : Heap} {L : Addr} {m : Str → Option Value} {env : Env}
/-- a turn's test and element, as a body -/
theorem bodyL_end {bb : Bool} {elt : Expr} {ifs : List Expr} {cenv : Env} {I C D : Addr} {oI oC : Obj} {ys : List Value} {mC : Str → Option Value} {J : List Value → List (Addr × Obj) → Prop} {s' : Shared} {E' : Value → Shared → Prop}
    (hoC : NsObj oC mC) (ne : (@Ne Nat I C) ∧ (@Ne Nat I D) ∧ (@Ne Nat C D)) (hDL : D ≠ L) (hD₀ : h₀.get? D = none) (hsz : ys.length ≤ sizeLine)
    (h : TurnT prog w A cenv ifs elt (fun y s'' => TurnE bb h₀ L m I oI C oC D (lst ys) (J (ys ++ [y])) s' s'') (fun s'' => TurnE bb h₀ L m I oI C oC D (lst ys) (J ys) s' s'') E' s') :
    wpAny (model prog w) A ((forIn ifs true fun c r => if r = true then do let ok ← isTrue c cenv (eval c cenv); pure (ForInStep.yield ok) else pure (ForInStep.yield r)) >>= fun ok =>
      if ok = true then (eval elt cenv >>= fun x => call (.builtin "list.append") [.ref D, x] >>= fun _ => pure ()) else pure ()) (fun _ s'' => TurnG bb h₀ L m I oI C D J s' s'') E' s' := by
  refine wpAny_bind (wpAny_mono (turnT_wp h) (fun ok s₄ h₄ => ?_) fun _ _ e => e)
  cases ok with
  | true =>
    rw [if_pos rfl] at h₄ ⊢
    refine wpAny_bind (wpAny_mono h₄ (fun y s₅ h₅ => ?_) fun _ _ e => e)
    obtain ⟨news₄, hsm₄, F₄, N₄, off₄, J₄⟩ := h₅
    have zI := (N₄ (I, oI) List.mem_cons_self)
    have zC := (N₄ (C, oC) (List.mem_cons_of_mem _ List.mem_cons_self))
    have zD := (N₄ (D, lst ys) (List.mem_cons_of_mem _ (List.mem_cons_of_mem _ List.mem_cons_self))).1
    have N₄' : News h₀ L s₅.heap news₄ := fun p hp => N₄ p (List.mem_cons_of_mem _ (List.mem_cons_of_mem _ (List.mem_cons_of_mem _ hp)))
    refine wpAny_bind (append_at (hsz := by show ys.toArray.size ≤ sizeLine; rw [List.size_toArray]; exact hsz) zD fun h₆ hs₆ hD₆ => ?_)
    have off4 := off₄.mem
    refine wpAny_pure ⟨news₄, ys ++ [y], oC, mC, hoC, hsm₄.trans Sm.ht, F₄.change hs₆ hDL hD₀, fun p hp => ?_, off₄, J₄⟩
    rcases List.mem_cons.mp hp with rfl | hp
    · exact ⟨hs₆.extBut _ _ ne.2.1 zI.1, zI.2⟩
    · rcases List.mem_cons.mp hp with rfl | hp
      · exact ⟨hs₆.extBut _ _ ne.2.2 zC.1, zC.2⟩
      · rcases List.mem_cons.mp hp with rfl | hp
        · exact ⟨hD₆.trans (congrArg some (lst_snoc ys y)), hDL, hD₀⟩
        · exact ⟨hs₆.extBut _ _ (off4 p hp).2.2 (N₄' p hp).1, (N₄' p hp).2⟩
  | false =>
    rw [if_neg Bool.false_ne_true] at h₄ ⊢
    obtain ⟨news₄, hsm₄, F₄, N₄, off₄, J₄⟩ := h₄
    exact wpAny_pure ⟨news₄, ys, oC, mC, hoC, hsm₄, F₄, N₄, off₄, J₄⟩
theorem CompGo.pairs {bb : Bool} {elt iter : Expr} {x x₂ : Str} {px px₂ tp : Pos} {tk : Nat} {ifs : List Expr} {scope : Scope} {cl : List (Str × Addr)} {pos : Pos} {End : Shared → Addr → List Value → List (Addr × Obj) → Prop} {s₁ : Shared} {ax : Addr} {its : Array Value} {news : List (Addr × Obj)}
    (J : Nat → List Value → List (Addr × Obj) → Prop)
    (hcell : ∀ y ∈ scope.names, y.2 ≠ .cell) (hkind : scope.kind = .function) (hx : scope.names.lookup x = some .local) (hx₂ : scope.names.lookup x₂ = some .local) (hxx : x ≠ x₂) (hh : A.handled = none)
    (F : Fr h₀ L s₁.heap m) (N : News h₀ L s₁.heap news) (src : SrcT "list" h₀ ax its news) (hsz : its.size ≤ sizeLine) (h0 : J 0 [] news)
    (hJs : ∀ i ys nw, J i ys nw → SrcT "list" h₀ ax its nw ∧ ys.length ≤ i)
    (turn : ∀ i v ys nw, its[i]? = some v → J i ys nw → ∃ a o v₁ v₂ n, v = .ref a ∧ (a, o) ∈ nw ∧ o.cls = .type "tuple" ∧ o.data = .seq #[v₁, v₂] n ∧
      ∀ I oI C oC D mC s' (E' : Value → Shared → Prop), (NsObj oC mC → mC x = some v₁ → mC x₂ = some v₂ → Sm bb s₁ s' → Fr h₀ L s'.heap m → News h₀ L s'.heap ((I, oI) :: (C, oC) :: (D, lst ys) :: nw) → Off3 I C D nw → ((@Ne Nat I C) ∧ (@Ne Nat I D) ∧ (@Ne Nat C D)) →
      TurnT prog w A (compEnvC scope cl C env) ifs elt (fun y s'' => TurnE bb h₀ L m I oI C oC D (lst ys) (J (i + 1) (ys ++ [y])) s' s'') (fun s'' => TurnE bb h₀ L m I oI C oC D (lst ys) (J (i + 1) ys) s' s'') E' s'))
    (fin : ∀ D ys nw, J its.size ys nw → End s₁ D ys nw) :
    CompGo prog w A bb h₀ L m env elt (.Tuple [.Name x px, .Name x₂ px₂] tk tp) iter ifs scope cl pos E End (.ref ax) s₁ := by
  intro RR hRR
  have hls : s₁.heap.IsList ax its := src.at F.keep N
  have hlt : ax < s₁.heap.objs.size := by obtain ⟨o, ho, _⟩ := hls; exact Heap.lt_size ho
  refine wpAny_pyIter_list hls ?_
  refine comp_loopG (bb := bb) (bodyL (.Tuple [.Name x px, .Name x₂ px₂] tk tp) elt ifs (.ref s₁.heap.objs.size)) J (Walks.list hh s₁.heap.objs.size ax (Nat.ne_of_lt hlt) its) hsz (fun i h st => let ⟨o, ho, _⟩ := st.1; ⟨o, ho⟩)
    (fun i h h' o nw ys st e e' k N' j => ⟨let ⟨o', ho', r⟩ := st.1; ⟨o', by rw [e] at ho'; cases ho'; exact e', r⟩, (hJs _ _ _ j).1.at k N'⟩)
    (fun acc cenv => turn_bodyL _ _ _ _ _ _ _ _ _) hcell hkind
    ⟨⟨_, Heap.get?_push_size _ rfl, rfl, rfl⟩, hls.push _⟩ (fun b hb => ?_)
    (F.keeps fun _ _ e => Heap.get?_push_of_some _ e) (N.grown fun _ _ e => Heap.get?_push_of_some _ e) (Nat.ne_of_lt F.ns.lt) (next_is_new F) (fun p hp => Nat.ne_of_lt (Heap.lt_size (N p hp).1)) h0
    (fun i v ys nw oI C oC D mC s' E' hi hP j st hoC hsm F' N' o3 ne hC₀ hCL => ?_)
    (fun D C m' ys nw s' j hsm F' N' o1 hn hC₀ hD₀ hCL hDL hCD offC => hRR D C m' ys nw s' (fin D ys nw j) (Sm.trans ⟨_, s₁.toks, s₁.drawn, fun _ => rfl, rfl⟩ hsm) F' N' o1 hn hC₀ hD₀ hCL hDL hCD offC)
  · show b < (s₁.heap.push _).objs.size
    rw [Heap.size_push]
    rcases List.mem_cons.mp hb with rfl | hb
    · exact Nat.lt_succ_self _
    · rw [List.mem_singleton.mp hb]; exact Nat.lt_succ_of_lt hlt
  · obtain ⟨a, o, v₁, v₂, n, rfl, hm, hc, hd, go⟩ := turn i v ys nw hP j
    have zC := (N' (C, oC) (List.mem_cons_of_mem _ List.mem_cons_self))
    have zD := (N' (D, lst ys) (List.mem_cons_of_mem _ (List.mem_cons_of_mem _ List.mem_cons_self)))
    have za := (N' (a, o) (List.mem_cons_of_mem _ (List.mem_cons_of_mem _ (List.mem_cons_of_mem _ hm))))
    unfold bodyL
    refine wpAny_bind (wpAny_letOwnedTupleGo_listiter st.1 ?_)
    refine wpAny_bind (kcp_assign hh ⟨o, za.1, hc, n, hd⟩ (lookup_relabel_local hx) (lookup_relabel_local hx₂) (by show (scope.kind == .class || (scope.kind == .module && _)) = false; rw [hkind]; rfl) (hoC.ns zC.1) fun h' tk' hns hk => ?_)
    obtain ⟨oC', heC', hoC'⟩ := ns_obj hns
    have o3m := o3.mem
    have N₂ : News h₀ L h' ((s₁.heap.objs.size, oI) :: (C, oC') :: (D, lst ys) :: nw) := fun p hp => by
      rcases List.mem_cons.mp hp with rfl | hp
      · have z := N' _ (List.mem_cons_self)
        exact ⟨hk _ _ ne.1 z.1, z.2⟩
      · rcases List.mem_cons.mp hp with rfl | hp
        · exact ⟨heC', zC.2⟩
        · rcases List.mem_cons.mp hp with rfl | hp
          · exact ⟨hk _ _ (Ne.symm ne.2.2) zD.1, zD.2⟩
          · have z := N' p (List.mem_cons_of_mem _ (List.mem_cons_of_mem _ (List.mem_cons_of_mem _ hp)))
            exact ⟨hk _ _ (o3m p hp).2.1 z.1, z.2⟩
    have F₂ : Fr h₀ L h' m := ⟨F'.ns.at' fun o e => hk _ _ (Ne.symm hCL) e, fun b o e => hk b o (fun q => by have q' : b = C := q; rw [q', hC₀] at e; cases e) (F'.keep b o e), F'.above⟩
    refine wpAny_mono (bodyL_end (bb := bb) (J := J (i + 1)) (s' := { s' with heap := h', toks := tk' }) hoC' ne zD.2.1 zD.2.2 (Nat.le_trans (hJs _ _ _ j).2 (Nat.le_trans (Nat.le_of_lt hi) hsz)) (go _ _ _ _ _ _ _ _ hoC' (by simp [hxx]) (by simp) ((Sm.trans ⟨_, s₁.toks, s₁.drawn, fun _ => rfl, rfl⟩ hsm).trans Sm.ht) F₂ N₂ o3 ne)) (fun _ s'' g => ?_) fun _ _ e => e
    obtain ⟨nw', ys', oC2, mC2, r1, r2, r3⟩ := g
    exact ⟨nw', ys', oC2, mC2, r1, Sm.trans Sm.ht r2, r3⟩
end
section
variable {prog : Program} {w : World} {A : Around} {E : Value → Shared → Prop} {s : Shared} {h₀ : Heap} {L : Addr} {m : Str → Option Value} {env : Env} {R : Result → Shared → Prop}
theorem start_at1 {elt iter₂ target₂ : Expr} {g : Comprehension} {scope : Scope} {pos : Pos} {it acc : Value} {env : Env}
    (h0 : codeAny (model prog w) A (.compLoop (.ListComp elt [g, ⟨target₂, iter₂, [], 0⟩] scope pos) 1 it acc env) R s)
    (h : wpAny (model prog w) A (pyIter it) (fun it' s' => codeAny (model prog w) A (.compLoop (.ListComp elt [g, ⟨target₂, iter₂, [], 0⟩] scope pos) 1 it' acc env) R s')
      (notedBy (model prog w) A env fun x s' => R (.error x) s') s) :
    codeAny (model prog w) A (.compStart (.ListComp elt [g, ⟨target₂, iter₂, [], 0⟩] scope pos) 1 it acc env) R s := by
  refine codeAny_of_tree ?_
  show wpAny _ _ ((compStart (.ListComp elt [g, ⟨target₂, iter₂, [], 0⟩] scope pos) 1 it acc env).onRaise (fun x => do noteFrame x env; standAt theWindowsPlace)) _ _ s
  refine wpAny_notedAt ?_
  unfold compStart
  show wpAny _ _ (ask >>= _) _ _ s
  refine wpAny_bind (wpAny_askSetting (wpAny_ite ?_))
  split
  · first
      | exact wpAny_bind (wpAny_pure (wpAny_pure (And.intro rfl h0)))
      | exact wpAny_pure (And.intro rfl h0)
  · refine wpAny_bind (wpAny_rule ?_)
    show wpAny _ _ (standAt iter₂.pos >>= _) _ _ s
    exact wpAny_bind (wpAny_standAt (wpAny_bind (wpAny_mono h (fun it' s' h' => wpAny_pure (And.intro rfl h')) fun _ _ x => x)))
noncomputable def bodyI (target elt : Expr) (it : Value) (cenv : Env) (acc v : Value) : Sem Unit :=
  letOwnedTupleGo target it v >>= fun _ => assign target cenv v >>= fun _ => eval elt cenv >>= fun x => call (.builtin "list.append") [acc, x] >>= fun _ => pure ()
theorem turn_bodyI (elt target₂ iter₂ : Expr) (g : Comprehension) (scope : Scope) (pos : Pos) (it acc : Value) (env : Env) :
    compTurn (.ListComp elt [g, ⟨target₂, iter₂, [], 0⟩] scope pos) 1 it acc env = (standAt iter₂.pos >>= fun _ => pyNext it >>= fun r => match r with
      | none => pure (.done .next)
      | some v => bodyI target₂ elt it env acc v >>= fun _ => again (.compLoop (.ListComp elt [g, ⟨target₂, iter₂, [], 0⟩] scope pos) 1 it acc env)) := by
  have e : compTurn (.ListComp elt [g, ⟨target₂, iter₂, [], 0⟩] scope pos) 1 it acc env = (standAt iter₂.pos >>= fun _ => pyNext it >>= fun r => match r with
      | none => pure (.done .next)
      | some v => letOwnedTupleGo target₂ it v >>= fun _ => assign target₂ env v >>= fun _ =>
        (eval elt env >>= fun x => call (.builtin "list.append") [acc, x] >>= fun _ => pure ()) >>= fun _ =>
          again (.compLoop (.ListComp elt [g, ⟨target₂, iter₂, [], 0⟩] scope pos) 1 it acc env)) := by rfl
  rw [e]
  unfold bodyI
  simp only [bind_assoc]
noncomputable def bodyO (target elt target₂ iter₂ iter : Expr) (scope : Scope) (pos : Pos) (it : Value) (cenv : Env) (acc v : Value) : Sem Unit :=
  letOwnedTupleGo target it v >>= fun _ => assign target cenv v >>= fun _ => eval iter₂ cenv >>= fun x => standAt iter₂.pos >>= fun _ => foldedSetIterable iter₂ cenv x >>= fun x => holding [x] (pyIter x) >>= fun it' =>
    runOwn (.compStart (.ListComp elt [⟨target, iter, [], 0⟩, ⟨target₂, iter₂, [], 0⟩] scope pos) 1 it' acc cenv) cenv >>= fun _ => pure ()
theorem turn_bodyO (target elt target₂ iter₂ iter : Expr) (scope : Scope) (pos : Pos) (it acc : Value) (env : Env) :
    compTurn (.ListComp elt [⟨target, iter, [], 0⟩, ⟨target₂, iter₂, [], 0⟩] scope pos) 0 it acc env = (standAt iter.pos >>= fun _ => pyNext it >>= fun r => match r with
      | none => pure (.done .next)
      | some v => bodyO target elt target₂ iter₂ iter scope pos it env acc v >>= fun _ => again (.compLoop (.ListComp elt [⟨target, iter, [], 0⟩, ⟨target₂, iter₂, [], 0⟩] scope pos) 0 it acc env)) := by
  unfold bodyO
  simp only [bind_assoc]
  rfl
theorem inner_flat {x y : Str} {px py py₂ : Pos} {iter iter₂ : Expr} {scope : Scope} {cl : List (Str × Addr)} {pos : Pos} {I l C D : Addr} {its : Array Value} {ys : List Value} {mC : Str → Option Value}
    (hh : A.handled = none) (hkind : scope.kind = .function) (hy : scope.names.lookup y = some .local) (hyd : (y == ("__debug__" : Str)) = false)
    (hit : s.heap.IsListIter I l 0) (hl : s.heap.IsList l its) (hns : s.heap.Ns C mC) (hD : s.heap.get? D = some (lst ys)) (hIC : I ≠ C) (hID : I ≠ D) (hlC : l ≠ C) (hlD : l ≠ D) (hlI : l ≠ I) (hCD : C ≠ D) (hsz : ys.length + its.size ≤ sizeLine)
    (hR : ∀ h' tk mC', (∀ b o, b ≠ I → b ≠ C → b ≠ D → s.heap.get? b = some o → h'.get? b = some o) → h'.Ns C mC' → h'.get? D = some (lst (ys ++ its.toList)) → R (.ok .next) { s with heap := h', toks := tk }) :
    codeAny (model prog w) A (.compStart (.ListComp (.Name y py) [⟨.Name x px, iter, [], 0⟩, ⟨.Name y py₂, iter₂, [], 0⟩] scope pos) 1 (.ref I) (.ref D) (compEnvC scope cl C env)) R s := by
  have W := Walks.list (prog := prog) (w := w) hh I l hlI its
  have loop : codeAny (model prog w) A (.compLoop (.ListComp (.Name y py) [⟨.Name x px, iter, [], 0⟩, ⟨.Name y py₂, iter₂, [], 0⟩] scope pos) 1 (.ref I) (.ref D) (compEnvC scope cl C env)) R s := by
    refine loopG (fun k s' => ∃ i m' h' tk', s' = { s with heap := h', toks := tk' } ∧ i ≤ its.size ∧ k = its.size + 1 - i ∧ (h'.IsListIter I l i ∧ h'.IsList l its) ∧ h'.Ns C m' ∧ h'.get? D = some (lst (ys ++ its.toList.take i)) ∧ (∀ b o, b ≠ I → b ≠ C → b ≠ D → s.heap.get? b = some o → h'.get? b = some o)) (turn_bodyI _ _ _ _ _ _ _ _ _) ?_ (its.size + 1)
      ⟨0, mC, s.heap, s.toks, rfl, Nat.zero_le _, rfl, ⟨hit, hl⟩, hns, by simpa using hD, fun _ _ _ _ _ e => e⟩
    intro k s' hr5
    refine hide9 fun G9 h9 => ?_
    rcases hr5 with ⟨i, m', h', tk', rfl, hi, rfl, st, hn', hD', hk'⟩
    refine h9 ?_
    clear h9 G9
    by_cases hlt : i < its.size
    · refine W.item i _ _ _ hlt st fun v h₂ tk₂ hPv hst₂ hk₂ => ?_
      unfold bodyI
      refine wpAny_bind (wpAny_of_eq (a := ()) rfl ?_)
      have hn₂ := hn'.at' fun o e => hk₂ _ o (by simpa using Ne.symm hIC) e
      have hD₂ := hk₂ D _ (by simpa using Ne.symm hID) hD'
      refine wpAny_bind (asg_name hkind hy hn₂ fun h₃ tk₃ m₃ hs₃ hn₃ hv₃ => ?_)
      have hD₃ := hs₃.extBut _ _ (Ne.symm hCD) hD₂
      refine wpAny_bind (wpAny_Name (wpAny_loadName_local hkind (lookup_relabel_local hy) hn₃ hv₃ ?_) hyd)
      refine wpAny_bind (append_at (hsz := by
        show (ys ++ its.toList.take i).toArray.size ≤ sizeLine
        rw [List.size_toArray, List.length_append, List.length_take]
        have : its.toList.length = its.size := Array.length_toList
        omega) hD₃ fun h₄ hs₄ hD₄ => ?_)
      refine wpAny_pure ⟨its.size + 1 - (i + 1), by omega, i + 1, m₃, h₄, tk₃, rfl, hlt, rfl, ⟨hst₂.1.at fun o e => hs₄.extBut _ _ hID (hs₃.extBut _ _ hIC e), hst₂.2.at fun o e => hs₄.extBut _ _ hlD (hs₃.extBut _ _ hlC e)⟩, hn₃.at' fun o e => hs₄.extBut _ _ hCD e, ?_, fun b o b1 b2 b3 e => hs₄.extBut _ _ b3 (hs₃.extBut _ _ b2 (hk₂ b o (by simpa using b1) (hk' b o b1 b2 b3 e)))⟩
      rw [hD₄]
      have e1 : its.toList.take (i + 1) = its.toList.take i ++ [v] := by
        rw [List.take_add_one]
        have : its.toList[i]? = some v := by rw [Array.getElem?_toList]; exact hPv
        rw [this]; rfl
      rw [e1, ← List.append_assoc]
      exact congrArg some (lst_snoc _ v)
    · obtain rfl : i = its.size := Nat.le_antisymm hi (Nat.not_lt.mp hlt)
      refine W.done _ _ _ st fun h₂ tk₂ hk₂ => ?_
      refine hR h₂ tk₂ m' (fun b o b1 b2 b3 e => hk₂ b o (by simpa using b1) (hk' b o b1 b2 b3 e)) (hn'.at' fun o e => hk₂ _ o (by simpa using Ne.symm hIC) e) ?_
      have := hk₂ D _ (by simpa using Ne.symm hID) hD'
      rw [List.take_of_length_le (by rw [Array.length_toList]; exact Nat.le_refl _)] at this
      exact this
  exact start_at1 loop (W.self 0 _ _ _ ⟨hit, hl⟩ loop)
end
section
variable {prog : Program} {w : World} {A : Around} {E : Value → Shared → Prop} {s : Shared} {h₀ : Heap} {L : Addr} {m : Str → Option Value} {env : Env}
noncomputable def CompGo2 (prog : Program) (w : World) (A : Around) (bb : Bool) (h₀ : Heap) (L : Addr) (m : Str → Option Value) (env : Env) (elt target iter target₂ iter₂ : Expr) (scope : Scope) (cl : List (Str × Addr)) (pos : Pos) (E : Value → Shared → Prop)
    (End : Shared → Addr → List Value → List (Addr × Obj) → Prop) (xv : Value) (s₁ : Shared) : Prop :=
  ∀ RR : Value → Addr → Result → Shared → Prop,
    (∀ D C m' ys nw s', End s₁ D ys nw → Sm bb s₁ s' → Fr h₀ L s'.heap m → News h₀ L s'.heap ((D, lst ys) :: nw) → Off1 D nw → s'.heap.Ns C m' → h₀.get? C = none → h₀.get? D = none → C ≠ L → D ≠ L → C ≠ D → (∀ p ∈ nw, p.1 ≠ C) → RR (.ref D) C (.ok .next) s') →
    wpAny (model prog w) A (pyIter xv) (fun it s₂ => wpAny (model prog w) A (newList []) (fun acc s₃ => wpAny (model prog w) A (newFunctionEnv scope env.globals cl [] env.qual none .none (some env)) (fun cenv s₄ =>
      codeAny (model prog w) A (.compStart (.ListComp elt [⟨target, iter, [], 0⟩, ⟨target₂, iter₂, [], 0⟩] scope pos) 0 it acc { cenv with scope := relabel scope env }) (RR acc cenv.locals) s₄) E s₃) E s₂) E s₁
theorem ListComp_go2 (bb : Bool) {elt target iter target₂ iter₂ : Expr} {scope : Scope} {cl : List (Str × Addr)} {pos : Pos} {Q : Value → Shared → Prop} (F₀ : Fr h₀ L s.heap m)
    (hclos : closureFor scope env = pure cl) (hkind : scope.kind = .function)
    (hnames : ∀ y ∈ scope.names, y.2 = .local → scope.names.lookup y.1 = some .local)
    (h : wpAny (model prog w) A (eval iter env) (CompGo2 prog w A bb h₀ L m env elt target iter target₂ iter₂ scope cl pos E (EndE bb h₀ L m Q)) E s)
    (hs : ∀ x, foldedSetIterable iter env x = pure x := by intro _; rfl) :
    wpAny (model prog w) A (eval (.ListComp elt [⟨target, iter, [], 0⟩, ⟨target₂, iter₂, [], 0⟩] scope pos) env) Q E s := by
  rw [eval_ListComp]
  refine wpAny_comprehension_free (use := none) rfl hs hclos hkind hnames (wpAny_mono h (fun xv s₁ h₁ => ?_) fun _ _ e => e)
  refine h₁ (fun acc C r s' => compPost (model prog w) A E none Q acc C r s') fun D C m' ys nw s' fin hsm F' N' o1 hn hC₀ hD₀ hCL hDL hCD offC => ?_
  refine ⟨m', hn, fun h'' hs'' => fin _ (hsm.trans ⟨h'', s'.toks, s'.drawn, fun _ => rfl, rfl⟩) (F'.change hs'' hCL hC₀) (fun p hp => ?_) o1⟩
  refine ⟨hs''.extBut _ _ ?_ (N' p hp).1, (N' p hp).2⟩
  rcases List.mem_cons.mp hp with rfl | hp
  · exact Ne.symm hCD
  · exact offC p hp
/-- what the inner iterable must leave: a list, put at the end of the list under way -/
noncomputable def FlatE (bb : Bool) (h₀ : Heap) (L : Addr) (m : Str → Option Value) (I : Addr) (oI : Obj) (C : Addr) (oC : Obj) (D : Addr) (ys : List Value) (J : List Value → List (Addr × Obj) → Prop) (s' : Shared) (xv : Value) (s'' : Shared) : Prop :=
  ∃ l vs o n nw', xv = .ref l ∧ Sm bb s' s'' ∧ Fr h₀ L s''.heap m ∧ News h₀ L s''.heap ((I, oI) :: (C, oC) :: (D, lst ys) :: nw') ∧ Off3 I C D nw' ∧ (l, o) ∈ nw' ∧ o.cls = .type "list" ∧ o.data = .seq (List.toArray vs) n ∧ ys.length + vs.length ≤ sizeLine ∧ J (ys ++ vs) nw'
theorem CompGo2.flat {bb : Bool} {iter iter₂ : Expr} {x y : Str} {px py py₂ : Pos} {scope : Scope} {cl : List (Str × Addr)} {pos : Pos} {End : Shared → Addr → List Value → List (Addr × Obj) → Prop} {s₁ : Shared} {ax : Addr} {its : Array Value} {news : List (Addr × Obj)}
    (J : Nat → List Value → List (Addr × Obj) → Prop)
    (hcell : ∀ y ∈ scope.names, y.2 ≠ .cell) (hkind : scope.kind = .function) (hx : scope.names.lookup x = some .local) (hy : scope.names.lookup y = some .local) (hyd : (y == ("__debug__" : Str)) = false) (hh : A.handled = none)
    (hfs : ∀ env x, foldedSetIterable iter₂ env x = pure x)
    (F : Fr h₀ L s₁.heap m) (N : News h₀ L s₁.heap news) (src : SrcT "tuple" h₀ ax its news) (hsz : its.size ≤ sizeLine) (h0 : J 0 [] news)
    (hJs : ∀ i ys nw, J i ys nw → SrcT "tuple" h₀ ax its nw)
    (turn : ∀ i v ys nw I oI C oC D mC s' (E' : Value → Shared → Prop), its[i]? = some v → J i ys nw → NsObj oC mC → mC x = some v → Sm bb s₁ s' → Fr h₀ L s'.heap m → News h₀ L s'.heap ((I, oI) :: (C, oC) :: (D, lst ys) :: nw) → Off3 I C D nw → ((@Ne Nat I C) ∧ (@Ne Nat I D) ∧ (@Ne Nat C D)) →
      wpAny (model prog w) A (eval iter₂ (compEnvC scope cl C env)) (fun xv s'' => FlatE bb h₀ L m I oI C oC D ys (J (i + 1)) s' xv s'') E' s')
    (fin : ∀ D ys nw, J its.size ys nw → End s₁ D ys nw) :
    CompGo2 prog w A bb h₀ L m env (.Name y py) (.Name x px) iter (.Name y py₂) iter₂ scope cl pos E End (.ref ax) s₁ := by
  intro RR hRR
  have hls : s₁.heap.IsTuple ax its := src.at F.keep N
  have hlt : ax < s₁.heap.objs.size := by obtain ⟨o, ho, _⟩ := hls; exact Heap.lt_size ho
  refine wpAny_pyIter_tuple hls ?_
  refine comp_loopG (bb := bb) (bodyO (.Name x px) (.Name y py) (.Name y py₂) iter₂ iter scope pos (.ref s₁.heap.objs.size)) J (Walks.tuple hh s₁.heap.objs.size ax (Nat.ne_of_lt hlt) its) hsz (fun i h st => let ⟨o, ho, _⟩ := st.1; ⟨o, ho⟩)
    (fun i h h' o nw ys st e e' k N' j => ⟨let ⟨o', ho', r⟩ := st.1; ⟨o', by rw [e] at ho'; cases ho'; exact e', r⟩, (hJs _ _ _ j).at k N'⟩)
    (fun acc cenv => turn_bodyO _ _ _ _ _ _ _ _ _ _) hcell hkind
    ⟨⟨_, Heap.get?_push_size _ rfl, rfl, rfl⟩, hls.at fun o e => Heap.get?_push_of_some _ e⟩ (fun b hb => ?_)
    (F.keeps fun _ _ e => Heap.get?_push_of_some _ e) (N.grown fun _ _ e => Heap.get?_push_of_some _ e) (Nat.ne_of_lt F.ns.lt) (next_is_new F) (fun p hp => Nat.ne_of_lt (Heap.lt_size (N p hp).1)) h0
    (fun i v ys nw oI C oC D mC s' E' hi hP j st hoC hsm F' N' o3 ne hC₀ hCL => ?_)
    (fun D C m' ys nw s' j hsm F' N' o1 hn hC₀ hD₀ hCL hDL hCD offC => hRR D C m' ys nw s' (fin D ys nw j) (Sm.trans ⟨_, s₁.toks, s₁.drawn, fun _ => rfl, rfl⟩ hsm) F' N' o1 hn hC₀ hD₀ hCL hDL hCD offC)
  · show b < (s₁.heap.push _).objs.size
    rw [Heap.size_push]
    rcases List.mem_cons.mp hb with rfl | hb
    · exact Nat.lt_succ_self _
    · rw [List.mem_singleton.mp hb]; exact Nat.lt_succ_of_lt hlt
  · have zI := (N' (s₁.heap.objs.size, oI) List.mem_cons_self)
    have zC := (N' (C, oC) (List.mem_cons_of_mem _ List.mem_cons_self))
    have zD := (N' (D, lst ys) (List.mem_cons_of_mem _ (List.mem_cons_of_mem _ List.mem_cons_self)))
    have o3m := o3.mem
    unfold bodyO
    refine wpAny_bind (wpAny_of_eq (a := ()) rfl ?_)
    refine wpAny_bind (asg_name hkind hx (hoC.ns zC.1) fun h' tk' m' hs hns hv => ?_)
    obtain ⟨oC', heC', hoC'⟩ := ns_obj hns
    have N₂ : News h₀ L h' ((s₁.heap.objs.size, oI) :: (C, oC') :: (D, lst ys) :: nw) := fun p hp => by
      rcases List.mem_cons.mp hp with rfl | hp
      · exact ⟨hs.extBut _ _ ne.1 zI.1, zI.2⟩
      · rcases List.mem_cons.mp hp with rfl | hp
        · exact ⟨heC', zC.2⟩
        · rcases List.mem_cons.mp hp with rfl | hp
          · exact ⟨hs.extBut _ _ (Ne.symm ne.2.2) zD.1, zD.2⟩
          · have z := N' p (List.mem_cons_of_mem _ (List.mem_cons_of_mem _ (List.mem_cons_of_mem _ hp)))
            exact ⟨hs.extBut _ _ (o3m p hp).2.1 z.1, z.2⟩
    have F₂ : Fr h₀ L h' m := F'.change hs hCL hC₀
    refine wpAny_bind (wpAny_mono (turn i v ys nw _ oI C oC' D m' { s' with heap := h', toks := tk' } _ hP j hoC' hv ((Sm.trans ⟨_, s₁.toks, s₁.drawn, fun _ => rfl, rfl⟩ hsm).trans Sm.ht) F₂ N₂ o3 ne) (fun xv s'' hx'' => ?_) fun _ _ e => e)
    obtain ⟨l, vs, o, n, nw', rfl, hsm2, F3, N3, o3', hml, hcl, hdl, hsz2, j2⟩ := hx''
    have zl := N3 (l, o) (List.mem_cons_of_mem _ (List.mem_cons_of_mem _ (List.mem_cons_of_mem _ hml)))
    have zC3 := (N3 (C, oC') (List.mem_cons_of_mem _ List.mem_cons_self))
    have zD3 := (N3 (D, lst ys) (List.mem_cons_of_mem _ (List.mem_cons_of_mem _ List.mem_cons_self)))
    have hl3 : s''.heap.IsList l vs.toArray := ⟨o, zl.1, hcl, n, hdl⟩
    have o3m' := o3'.mem
    have lt : ∀ {b ob}, s''.heap.get? b = some ob → b ≠ s''.heap.objs.size := fun e => Nat.ne_of_lt (Heap.lt_size e)
    refine wpAny_bind (wpAny_standAt ?_)
    refine wpAny_bind (wpAny_of_eq (hfs _ _) ?_)
    refine wpAny_bind (wpAny_holding (wpAny_pyIter_list hl3 ?_))
    refine wpAny_bind (wpAny_runOwn ?_)
    refine inner_flat (s := { s'' with heap := s''.heap.push { cls := .type "list_iterator", data := .fields #[.ref l, .int 0 0] } }) (its := vs.toArray) (ys := ys) (l := l) (mC := m') (by show (A.mark none).handled = none; simp [Around.mark, hh]) hkind hy hyd
      ⟨_, Heap.get?_push_size _ rfl, rfl, rfl⟩ (hl3.push _) ((hoC'.ns zC3.1).at' fun o e => Heap.get?_push_of_some _ e) (Heap.get?_push_of_some _ zD3.1)
      (Ne.symm (lt zC3.1)) (Ne.symm (lt zD3.1)) (o3m' _ hml).2.1 (o3m' _ hml).2.2 (lt zl.1) ne.2.2 (by rw [List.size_toArray]; exact hsz2) fun h4 tk4 mC4 hk4 hn4 hD4 => ?_
    obtain ⟨oC4, heC4, hoC4⟩ := ns_obj hn4
    have keep4 : ∀ b o, b ≠ C → b ≠ D → s''.heap.get? b = some o → h4.get? b = some o := fun b o b1 b2 e => hk4 b o (lt e) b1 b2 (Heap.get?_push_of_some _ e)
    refine wpAny_pure ⟨nw', ys ++ vs, oC4, mC4, hoC4, (Sm.ht.trans hsm2).trans Sm.ht, ?_, ?_, o3', j2⟩
    · refine ⟨F3.ns.at' fun o e => keep4 _ _ (Ne.symm hCL) (Ne.symm zD.2.1) e, fun b o e => keep4 b o (fun q => by have q' : b = C := q; rw [q', hC₀] at e; cases e) (fun q => by have q' : b = D := q; rw [q', zD.2.2] at e; cases e) (F3.keep b o e), F3.above⟩
    · intro p hp
      rcases List.mem_cons.mp hp with rfl | hp
      · have z := N3 _ List.mem_cons_self
        exact ⟨keep4 _ _ ne.1 ne.2.1 z.1, z.2⟩
      · rcases List.mem_cons.mp hp with rfl | hp
        · exact ⟨heC4, zC.2⟩
        · rcases List.mem_cons.mp hp with rfl | hp
          · exact ⟨by rw [hD4], zD.2⟩
          · have z := N3 p (List.mem_cons_of_mem _ (List.mem_cons_of_mem _ (List.mem_cons_of_mem _ hp)))
            exact ⟨keep4 _ _ (o3m' p hp).2.1 (o3m' p hp).2.2 z.1, z.2⟩
end
noncomputable def subs : Tm → List Tm
  | .leaf s => [.leaf s]
  | .un op a => .un op a :: subs a
  | .bin op a b => .bin op a b :: (subs a ++ subs b)
theorem subs_length : ∀ T : Tm, (subs T).length = T.size
  | .leaf _ => rfl
  | .un _ a => by simp [subs, Tm.size, subs_length a]
  | .bin _ a b => by simp [subs, Tm.size, subs_length a, subs_length b]
inductive PartsIn (nw : List (Addr × Obj)) (k : Nat) : List Value → List Tm → Prop where
  | nil : PartsIn nw k [] []
  | cons {a p : Addr} {part : Value} {T : Tm} {n n' : Nat} {ps vs : List Value} {Ts : List Tm} : (a, tupO [.ref p, part] n) ∈ nw → (p, tupO ps n') ∈ nw → ps.length ≤ k → TmIn nw part T → PartsIn nw k vs Ts → PartsIn nw k (.ref a :: vs) (T :: Ts)
theorem PartsIn.mono {nw nw' : List (Addr × Obj)} {k k' : Nat} (s : ∀ p ∈ nw, p ∈ nw') (hk : k ≤ k') : ∀ {vs : List Value} {Ts : List Tm}, PartsIn nw k vs Ts → PartsIn nw' k' vs Ts
  | _, _, .nil => .nil
  | _, _, .cons a b c d e => .cons (s _ a) (s _ b) (Nat.le_trans c hk) (d.mono s) (e.mono s hk)
theorem PartsIn.length {nw : List (Addr × Obj)} {k : Nat} : ∀ {vs : List Value} {Ts : List Tm}, PartsIn nw k vs Ts → vs.length = Ts.length
  | _, _, .nil => rfl
  | _, _, .cons _ _ _ _ e => congrArg (· + 1) e.length
theorem PartsIn.append {nw : List (Addr × Obj)} {k : Nat} {vs' : List Value} {Ts' : List Tm} (y : PartsIn nw k vs' Ts') : ∀ {vs : List Value} {Ts : List Tm}, PartsIn nw k vs Ts → PartsIn nw k (vs ++ vs') (Ts ++ Ts')
  | _, _, .nil => y
  | _, _, .cons a b c d e => .cons a b c d (y.append e)
theorem PartsIn.elim {nw : List (Addr × Obj)} {k : Nat} {G : Prop} : ∀ {vs : List Value} {Ts : List Tm}, PartsIn nw k vs Ts → ∀ (i : Nat) (v : Value), vs[i]? = some v →
    (∀ (a p : Addr) (part : Value) (T : Tm) (n n' : Nat) (ps : List Value), v = .ref a → Ts[i]? = some T → (a, tupO [.ref p, part] n) ∈ nw → (p, tupO ps n') ∈ nw → ps.length ≤ k → TmIn nw part T → G) → G
  | _, _, .nil, _, _, h, _ => by simp at h
  | _, _, .cons a b c d _, 0, _, h, K => K _ _ _ _ _ _ _ (Option.some.inj h).symm rfl a b c d
  | _, _, .cons _ _ _ _ e, i + 1, v, h, K => e.elim i v h K
noncomputable def PartsT (w : World) (p : Program) (loose : List Str) (mean : ExcName → Option Value) (mg mb : Str → Option Value) (T : Tm) : Prop :=
  ∀ (dp un : Nat) (gd : Option (List Code)) (env : Env) (outer : List Env) (A₀ : Around) (base h₀ : Heap) (L : Addr) (m : Str → Option Value) (rest K : List (Addr × Obj)) (s : Shared) (v : Value)
    (Q E : Value → Shared → Prop), Below A₀ base outer h₀ → Fr h₀ L s.heap m → (Mine.hd.heap_39 w.params).In h₀ → News h₀ L s.heap rest → Top p loose mean mg mb h₀ → env.frame = some L → env.scope.kind = .function →
    dp + (2 * T.size + 3) < recursionLimit → un + 8 * (2 * T.size + 3) < cLine → (∀ p ∈ K, p ∈ rest) → TmIn K v T → T.size ≤ 15 →
    (∀ D vs n tl h' tk', Fr h₀ L h' m → News h₀ L h' ((D, W.listOf vs.toArray n) :: (tl ++ rest)) → (∀ q ∈ rest, q.1 ≠ D ∧ ∀ p ∈ tl, q.1 ≠ p.1) → (∀ p ∈ tl, p.1 ≠ D) → PartsIn (tl ++ K) T.size vs (subs T) →
      Q (.ref D) { s with heap := h', toks := tk' }) →
    wpAny (model PySem.Challenge.rw_pq0039_01.prog w) (topA dp un gd env outer) (call (.ref 96) [v]) Q E s
noncomputable def SSetO (prog : Program) (w : World) (o : Obj) (zs : List Str) : Prop := ∃ es ep t, o.ExactSet ∧ o.data = .set es ep t ∧ SData prog w es t zs
section
variable {prog : Program} {w : World} {A : Around} {E : Value → Shared → Prop} {s : Shared} {h₀ : Heap} {L : Addr} {m : Str → Option Value} {news : List (Addr × Obj)}
theorem set_new_N {l : Addr} {o : Obj} {vs : List Value} {ss : List Str} {n : Nat} {Q : Value → Shared → Prop} (hh : A.handled = none) (F : Fr h₀ L s.heap m) (N : News h₀ L s.heap news)
    (hm : (l, o) ∈ news) (hc : o.cls = .type "list") (hd : o.data = .seq vs.toArray n) (hS : StrsAre vs ss) (hb : ss.length + 1 < 4096)
    (h : ∀ D o' zs h' tk, Fr h₀ L h' m → News h₀ L h' ((D, o') :: news) → (∀ q ∈ news, q.1 < D) → SSetO prog w o' zs → zs.Nodup → zs.length ≤ ss.length → (∀ x, x ∈ zs ↔ x ∈ ss) → Q (.ref D) { s with heap := h', toks := tk }) :
    wpAny (model prog w) A (call (.type "set") [.ref l]) Q E s := by
  have hl : s.heap.IsList l vs.toArray := ⟨o, (N _ hm).1, hc, n, hd⟩
  refine call_set_strs hh hl hS (by rw [List.size_toArray, StrsAre_length hS]; exact hb) fun h' tk zs hZ hnd hln hmem hk => ?_
  obtain ⟨o', es, ep, t, ho', r⟩ := hZ
  have hL : L < s.heap.objs.size := F.ns.lt
  refine h _ o' zs h' tk ⟨F.ns.at' fun o' e => hk L o' hL e, fun b o' e => hk b o' (Heap.lt_size (F.keep b o' e)) (F.keep b o' e), F.above⟩ (fun p hp => ?_) (fun q hq => Heap.lt_size (N q hq).1) ⟨es, ep, t, r⟩ hnd hln hmem
  rcases List.mem_cons.mp hp with rfl | hp
  · refine ⟨ho', Ne.symm (Nat.ne_of_lt hL), ?_⟩
    cases e : h₀.get? s.heap.objs.size with
    | none => rfl
    | some o2 => exact absurd (Heap.lt_size (F.keep _ _ e)) (Nat.lt_irrefl _)
  · exact ⟨hk _ _ (Heap.lt_size (N p hp).1) (N p hp).1, (N p hp).2⟩
theorem sorted_set_NN {a : Addr} {o : Obj} {zs : List Str} {Q : Value → Shared → Prop} (hh : A.handled = none) (F : Fr h₀ L s.heap m) (N : News h₀ L s.heap news) (hm : (a, o) ∈ news) (hS : SSetO prog w o zs) (h64 : zs.length < 64)
    (h : ∀ (h' : Heap) tk dr D (vs' : List Value) (ss' : List Str) (e : Nat), Fr h₀ L h' m → News h₀ L h' ((D, W.listOf vs'.toArray e) :: news) → (∀ q ∈ news, q.1 < D) →
      StrsAre vs' ss' → ss'.Perm zs → sortedS ss' = true → Q (.ref D) { s with heap := h', toks := tk, drawn := dr }) :
    wpAny (model prog w) A (call (.builtin "sorted") [.ref a]) Q E s := by
  obtain ⟨es, ep, t, r⟩ := hS
  exact sorted_set_N hh F N ⟨o, es, ep, t, (N _ hm).1, r⟩ h64 h
end
/-- the leaves of a law's pattern -/
inductive Pat : Tm → Prop where
  | leaf {s : Str} : s ∈ (["?a", "?b", "?c", "0", "1", "2", "3"] : List Str) → Pat (.leaf s)
  | un {op : Str} {a : Tm} : Pat a → Pat (.un op a)
  | bin {op : Str} {a b : Tm} : Pat a → Pat b → Pat (.bin op a b)
noncomputable def qv : Tm → List Str
  | .leaf s => if s ∈ (["?a", "?b", "?c"] : List Str) then [s] else []
  | .un _ a => qv a
  | .bin _ a b => qv a ++ qv b
theorem qv_abc : ∀ {T : Tm} {x : Str}, x ∈ qv T → x ∈ (["?a", "?b", "?c"] : List Str)
  | .leaf s, x, h => by
    unfold qv at h
    split at h
    · rw [List.mem_singleton.mp h]; assumption
    · exact (List.not_mem_nil h).elim
  | .un _ a, x, h => qv_abc (T := a) h
  | .bin _ a b, x, h => by
    rcases List.mem_append.mp h with h | h
    · exact qv_abc h
    · exact qv_abc h
theorem nodup_sub_length {α : Type} [DecidableEq α] : ∀ {l l' : List α}, l.Nodup → (∀ x ∈ l, x ∈ l') → l.length ≤ l'.length
  | [], _, _, _ => Nat.zero_le _
  | x :: r, l', hn, hs => by
    have h1 : x ∈ l' := hs x (.head _)
    have h2 := nodup_sub_length (l := r) (l' := l'.erase x) (List.nodup_cons.mp hn).2 (fun y hy => (List.mem_erase_of_ne (fun e => by subst e; exact (List.nodup_cons.mp hn).1 hy)).mpr (hs y (.tail _ hy)))
    have h3 := List.length_erase_of_mem h1
    have h4 : 0 < l'.length := List.length_pos_of_mem h1
    simp only [List.length_cons]; omega
noncomputable def NamesT (w : World) (p : Program) (loose : List Str) (mean : ExcName → Option Value) (mg mb : Str → Option Value) (T : Tm) : Prop :=
  ∀ (dp un : Nat) (gd : Option (List Code)) (env : Env) (outer : List Env) (A₀ : Around) (base h₀ : Heap) (L : Addr) (m : Str → Option Value) (rest : List (Addr × Obj)) (s : Shared) (v : Value)
    (Q E : Value → Shared → Prop), Below A₀ base outer h₀ → Fr h₀ L s.heap m → (Mine.hd.heap_39 w.params).In h₀ → News h₀ L s.heap rest → Top p loose mean mg mb h₀ → env.frame = some L → env.scope.kind = .function →
    dp + (2 * T.size + 3) < recursionLimit → un + 8 * (2 * T.size + 3) < cLine → TmIn rest v T → Pat T →
    (∀ D vs ss n h' tk' dr, Fr h₀ L h' m → News h₀ L h' ((D, W.listOf (List.toArray vs) n) :: rest) → (∀ q ∈ rest, q.1 < D) → StrsAre vs ss → sortedS ss = true → ss.Nodup → (∀ x, x ∈ ss ↔ x ∈ qv T) →
      Q (.ref D) { s with heap := h', toks := tk', drawn := dr }) →
    wpAny (model PySem.Challenge.rw_pq0039_01.prog w) (topA dp un gd env outer) (call (.ref 200) [v]) Q E s
/-- the names gathered from the first kids -/
noncomputable def NJ (Ts : List Tm) (base : List (Addr × Obj)) (i : Nat) (ys : List Value) (nw : List (Addr × Obj)) : Prop :=
  ∃ tl ss, nw = tl ++ base ∧ StrsAre ys ss ∧ ss.length ≤ 3 * i ∧ ∀ x, x ∈ ss ↔ ∃ T ∈ Ts.take i, x ∈ qv T
theorem NJ.zero {Ts : List Tm} {base : List (Addr × Obj)} : NJ Ts base 0 [] base := ⟨[], [], rfl, .nil, Nat.le_refl _, by simp⟩
theorem StrsAre_append {vs : List Value} {ss : List Str} (h : StrsAre vs ss) {vs' : List Value} {ss' : List Str} (h' : StrsAre vs' ss') : StrsAre (vs ++ vs') (ss ++ ss') := by
  induction h with
  | nil => exact h'
  | cons x t _ ih => exact .cons x t ih
theorem names_len {ss : List Str} {T : Tm} (hn : ss.Nodup) (h : ∀ x, x ∈ ss ↔ x ∈ qv T) : ss.length ≤ 3 :=
  nodup_sub_length (l' := (["?a", "?b", "?c"] : List Str)) hn fun x hx => qv_abc ((h x).mp hx)
theorem NJ.next {Ts : List Tm} {base nw : List (Addr × Obj)} {i : Nat} {ys vs : List Value} {T : Tm} {q : Addr × Obj} {ss' : List Str} (j : NJ Ts base i ys nw) (hT : Ts[i]? = some T) (hs : StrsAre vs ss') (hn : ss'.Nodup) (hm : ∀ x, x ∈ ss' ↔ x ∈ qv T) : NJ Ts base (i + 1) (ys ++ vs) (q :: nw) := by
  obtain ⟨tl, ss, rfl, h1, h2, h3⟩ := j
  refine ⟨q :: tl, ss ++ ss', rfl, StrsAre_append h1 hs, ?_, fun x => ?_⟩
  · have := names_len hn hm
    rw [List.length_append]; omega
  · rw [List.mem_append, h3, hm, List.take_add_one, hT]
    simp only [Option.toList_some, List.mem_append, List.mem_singleton]
    constructor
    · rintro (⟨T', h, h'⟩ | h)
      · exact ⟨T', .inl h, h'⟩
      · exact ⟨T, .inr rfl, h⟩
    · rintro ⟨T', h | rfl, h'⟩
      · exact .inl ⟨T', h, h'⟩
      · exact .inr h'
theorem rows_42 : True := by
  k_with "call type:set" => (k_extra "m:set")
  k_with "call builtin:sorted" => (k_extra "m:sorted")
  k_with "eval ListComp" => ((k_here; k_dflt (refine ListComp_go2 true (F₀ := by k_asm) (by with_unfolding_all rfl) (by rfl) (by decide) ?_)))
  trivial
theorem strs_one {z : Str} {t : Tok} : StrsAre [.str z t] [z] := .cons _ _ .nil
theorem names_leaf (w : World) (p : Program) (loose : List Str) (mean : ExcName → Option Value) (mg mb : Str → Option Value) (z : Str) : NamesT w p loose mean mg mb (.leaf z) := by
  unfold NamesT
  k_fill
  intro dp un gd env outer A₀ base h₀ L m rest s v Q E B F X N T hf hk hd hu hT hP hret
  have hz1 : (Tm.leaf z).size = 1 := rfl
  rw [hz1] at hd hu
  have hz : z ∈ (["?a", "?b", "?c", "0", "1", "2", "3"] : List Str) := by cases hP; assumption
  simp only [List.mem_cons, List.not_mem_nil, or_false] at hz
  have hl : 1 ≤ z.length := by rcases hz with rfl | rfl | rfl | rfl | rfl | rfl | rfl <;> decide +kernel
  have hq : (Txt.item z 0 == "?") = decide (z ∈ (["?a", "?b", "?c"] : List Str)) := by rcases hz with rfl | rfl | rfl | rfl | rfl | rfl | rfl <;> decide +kernel
  obtain ⟨ad, tt, rfl, hB⟩ := hT.leaf_tup (w := w)
  k_with "subscriptTail Subscript" => (k_dflt (refine item_str (by decide) (by omega) (by omega) ?_); intro _)
  refine wpAny_call ?_
  k_dflt (walk_at "m:enter")
  walk_at "m:steps"
  all_goals (rename News h₀ L _ _ => kN9; rename Fr h₀ L _ m => kF9; first
    | exact hret _ [] [] _ _ _ _ kF9 kN9 (by first | assumption | exact ktn_ltOf (by assumption)) .nil rfl .nil (fun x => by unfold qv; rw [if_neg (of_decide_eq_false (hq.symm.trans (by assumption)))])
    | exact hret _ [.str _ _] [_] _ _ _ _ kF9 kN9 (by first | assumption | exact ktn_ltOf (by assumption)) strs_one rfl (List.nodup_cons.mpr ⟨List.not_mem_nil, .nil⟩) (fun x => by unfold qv; rw [if_pos (of_decide_eq_true (hq.symm.trans (by assumption)))]))
theorem names_room {Ts : List Tm} {base nw : List (Addr × Obj)} {i : Nat} {ys vs : List Value} {T : Tm} {ss' : List Str} (j : NJ Ts base i ys nw) (hs : StrsAre vs ss') (hn : ss'.Nodup) (hm : ∀ x, x ∈ ss' ↔ x ∈ qv T) (hi : i ≤ 99 := by omega) : ys.length + vs.length ≤ sizeLine := by
  obtain ⟨tl, ss, rfl, h1, h2, h3⟩ := j
  have := names_len hn hm
  rw [StrsAre_length h1, StrsAre_length hs]
  show _ ≤ 2 ^ 24
  omega
theorem names_bin (w : World) (p : Program) (loose : List Str) (mean : ExcName → Option Value) (mg mb : Str → Option Value) (op : Str) (a b : Tm) (IH1 : NamesT w p loose mean mg mb a) (IH2 : NamesT w p loose mean mg mb b) : NamesT w p loose mean mg mb (.bin op a b) := by
  unfold NamesT
  k_fill
  intro dp un gd env outer A₀ base h₀ L m rest s v Q E B F X N T hf hk hd hu hT hP hret
  obtain ⟨hP1, hP2⟩ : Pat a ∧ Pat b := by cases hP; exact ⟨‹_›, ‹_›⟩
  obtain ⟨ad, tt, uv, uv', nn, rfl, hmem, hT1, hT2⟩ := hT.bin_inv
  obtain ⟨ua, rfl⟩ := hT1.isRef
  obtain ⟨ub, rfl⟩ := hT2.isRef
  have hsz : (Tm.bin op a b).size = a.size + b.size + 1 := rfl
  rw [hsz] at hd hu
  refine wpAny_call ?_
  k_dflt (walk_at "m:enter")
  walk_at "m:steps"
  rename Fr _ _ _ _ => F9
  rename News _ _ _ _ => N9
  refine CompGo2.flat (NJ [a, b] _) (by decide) (by rfl) (by rfl) (by rfl) (by decide +kernel) (by rfl) (by intros; rfl) F9 N9 (.inr ⟨_, by k_mem, rfl, _, rfl⟩) (Nat.le_of_ble_eq_true rfl) NJ.zero ?hJs ?turn ?fin
  case hJs =>
    intro i ys nw hr5
    refine hide9 fun G9 h9 => ?_
    rcases hr5 with ⟨tl, ss, rfl, _⟩
    refine h9 ?_
    clear h9 G9
    exact .inr ⟨_, List.mem_append_right _ (by k_mem), rfl, _, rfl⟩
  case turn =>
    intro i v ys nw I oI C oC D mC s' E' hv hj hoC hx hs F1 N1 o3 ne
    obtain ⟨h1, tk1, dr1, rfl⟩ := hs.isD
    have hsub : ∀ p ∈ rest, p ∈ nw := by
      obtain ⟨tl, ss, rfl, _⟩ := hj
      exact fun p hp => List.mem_append_right _ (.tail _ hp)
    clear F9 N9
    rcases i with _ | i
    · obtain rfl : Value.ref ua = v := by simpa using hv
      k_with "m:call" => ((with_reducible show wpAny _ _ (call (Value.ref 200) _) _ _ _); refine' IH1 _ _ _ _ _ _ _ _ _ _ _ _ _ _ _ ?k1 ?k2 ?k3 ?k4 ?k5 ?kf ?kk ?kd ?ku (hT1.mono ?s1) hP1 ?_; (walk_at "m:sides"); (case s1 => exact fun p hp => .tail _ (.tail _ (.tail _ (hsub p hp)))); intro D7 vs7 ss7 n7 h7 tk7 dr7 F7 N7 O7 st7 so7 nd7 mm7; (try k_unmd); (try k_sweep); (try dsimp only); (try k_fold))
      walk_at "m:steps"
      all_goals refine (show FlatE _ _ _ _ _ _ _ _ _ _ _ _ (Value.ref D7) _ from ⟨D7, vs7, W.listOf vs7.toArray n7, n7, (D7, _) :: nw, rfl, ⟨_, _, _, (fun q => nomatch q), rfl⟩, by k_asm, News.sub (by k_asm) ?_, ⟨⟨Nat.ne_of_gt (O7 _ (.head _)), Nat.ne_of_gt (O7 _ (.tail _ (.head _))), Nat.ne_of_gt (O7 _ (.tail _ (.tail _ (.head _))))⟩, o3⟩, .head _, rfl, rfl, names_room hj st7 nd7 mm7, NJ.next hj rfl st7 nd7 mm7⟩)
      all_goals (intro q hq; (simp only [List.mem_cons] at hq ⊢); rcases hq with h | h | h | h | h <;> simp [h])
    rcases i with _ | i
    · obtain rfl : Value.ref ub = v := by simpa using hv
      k_with "m:call" => ((with_reducible show wpAny _ _ (call (Value.ref 200) _) _ _ _); refine' IH2 _ _ _ _ _ _ _ _ _ _ _ _ _ _ _ ?k1 ?k2 ?k3 ?k4 ?k5 ?kf ?kk ?kd ?ku (hT2.mono ?s1) hP2 ?_; (walk_at "m:sides"); (case s1 => exact fun p hp => .tail _ (.tail _ (.tail _ (hsub p hp)))); intro D7 vs7 ss7 n7 h7 tk7 dr7 F7 N7 O7 st7 so7 nd7 mm7; (try k_unmd); (try k_sweep); (try dsimp only); (try k_fold))
      walk_at "m:steps"
      all_goals refine (show FlatE _ _ _ _ _ _ _ _ _ _ _ _ (Value.ref D7) _ from ⟨D7, vs7, W.listOf vs7.toArray n7, n7, (D7, _) :: nw, rfl, ⟨_, _, _, (fun q => nomatch q), rfl⟩, by k_asm, News.sub (by k_asm) ?_, ⟨⟨Nat.ne_of_gt (O7 _ (.head _)), Nat.ne_of_gt (O7 _ (.tail _ (.head _))), Nat.ne_of_gt (O7 _ (.tail _ (.tail _ (.head _))))⟩, o3⟩, .head _, rfl, rfl, names_room hj st7 nd7 mm7, NJ.next hj rfl st7 nd7 mm7⟩)
      all_goals (intro q hq; (simp only [List.mem_cons] at hq ⊢); rcases hq with h | h | h | h | h <;> simp [h])
    simp at hv
  case fin =>
    intro D' ys nw hr5 s' hs F1 N1 o1
    refine hide9 fun G9 h9 => ?_
    rcases hr5 with ⟨tl, ss, rfl, hs1, hs2, hs3⟩
    refine h9 ?_
    clear h9 G9
    obtain ⟨h1, tk1, dr1, rfl⟩ := hs.isD
    have hlen : ss.length ≤ 3 * 2 := hs2
    clear F9 N9
    k_with "m:set" => (refine set_new_N (by rfl) (by k_asm) (by k_asm) (by k_mem) (by rfl) (by rfl) hs1 (by omega) ?_; intro D7 o7 zs7 h7 tk7 F7 N7 O7 so7 nd7 ln7 mm7; (try k_unmd); (try k_sweep); (try dsimp only); (try k_fold))
    k_with "m:sorted" => (refine sorted_set_NN (by rfl) (by k_asm) (by k_asm) (by k_mem) so7 (by omega) ?_; intro h8 tk8 dr8 D8 vs8 ss8 e8 F8 N8 O8 st8 pm8 sd8; (try k_unmd); (try k_sweep); (try dsimp only); (try k_fold))
    try k_fold
    walk_at "m:steps"
    rename News h₀ L _ _ => kN9
    rename Fr h₀ L _ m => kF9
    refine hret D8 vs8 ss8 e8 _ _ _ kF9 (News.sub kN9 ?_) (fun q hq => ?_) st8 sd8 ((pm8.nodup_iff).mpr nd7) (fun x => ?_)
    · intro q hq
      rcases List.mem_cons.mp hq with rfl | hq
      · exact .head _
      · exact .tail _ (.tail _ (.tail _ (List.mem_append_right _ (.tail _ hq))))
    · exact O8 q (.tail _ (.tail _ (List.mem_append_right _ (.tail _ hq))))
    · rw [pm8.mem_iff, mm7, hs3]
      simp [qv]
theorem names_un (w : World) (p : Program) (loose : List Str) (mean : ExcName → Option Value) (mg mb : Str → Option Value) (op : Str) (a : Tm) (IH1 : NamesT w p loose mean mg mb a) : NamesT w p loose mean mg mb (.un op a) := by
  unfold NamesT
  k_fill
  intro dp un gd env outer A₀ base h₀ L m rest s v Q E B F X N T hf hk hd hu hT hP hret
  have hP1 : Pat a := by cases hP; assumption
  obtain ⟨ad, tt, uv, nn, rfl, hmem, hT1⟩ := hT.un_inv
  obtain ⟨ua, rfl⟩ := hT1.isRef
  have hsz : (Tm.un op a).size = a.size + 1 := rfl
  rw [hsz] at hd hu
  refine wpAny_call ?_
  k_dflt (walk_at "m:enter")
  walk_at "m:steps"
  rename Fr _ _ _ _ => F9
  rename News _ _ _ _ => N9
  refine CompGo2.flat (NJ [a] _) (by decide) (by rfl) (by rfl) (by rfl) (by decide +kernel) (by rfl) (by intros; rfl) F9 N9 (.inr ⟨_, by k_mem, rfl, _, rfl⟩) (Nat.le_of_ble_eq_true rfl) NJ.zero ?hJs ?turn ?fin
  case hJs =>
    intro i ys nw hr5
    refine hide9 fun G9 h9 => ?_
    rcases hr5 with ⟨tl, ss, rfl, _⟩
    refine h9 ?_
    clear h9 G9
    exact .inr ⟨_, List.mem_append_right _ (by k_mem), rfl, _, rfl⟩
  case turn =>
    intro i v ys nw I oI C oC D mC s' E' hv hj hoC hx hs F1 N1 o3 ne
    obtain ⟨h1, tk1, dr1, rfl⟩ := hs.isD
    have hsub : ∀ p ∈ rest, p ∈ nw := by
      obtain ⟨tl, ss, rfl, _⟩ := hj
      exact fun p hp => List.mem_append_right _ (.tail _ hp)
    clear F9 N9
    rcases i with _ | i
    · obtain rfl : Value.ref ua = v := by simpa using hv
      k_with "m:call" => ((with_reducible show wpAny _ _ (call (Value.ref 200) _) _ _ _); refine' IH1 _ _ _ _ _ _ _ _ _ _ _ _ _ _ _ ?k1 ?k2 ?k3 ?k4 ?k5 ?kf ?kk ?kd ?ku (hT1.mono ?s1) hP1 ?_; (walk_at "m:sides"); (case s1 => exact fun p hp => .tail _ (.tail _ (.tail _ (hsub p hp)))); intro D7 vs7 ss7 n7 h7 tk7 dr7 F7 N7 O7 st7 so7 nd7 mm7; (try k_unmd); (try k_sweep); (try dsimp only); (try k_fold))
      walk_at "m:steps"
      all_goals refine (show FlatE _ _ _ _ _ _ _ _ _ _ _ _ (Value.ref D7) _ from ⟨D7, vs7, W.listOf vs7.toArray n7, n7, (D7, _) :: nw, rfl, ⟨_, _, _, (fun q => nomatch q), rfl⟩, by k_asm, News.sub (by k_asm) ?_, ⟨⟨Nat.ne_of_gt (O7 _ (.head _)), Nat.ne_of_gt (O7 _ (.tail _ (.head _))), Nat.ne_of_gt (O7 _ (.tail _ (.tail _ (.head _))))⟩, o3⟩, .head _, rfl, rfl, names_room hj st7 nd7 mm7, NJ.next hj rfl st7 nd7 mm7⟩)
      all_goals (intro q hq; (simp only [List.mem_cons] at hq ⊢); rcases hq with h | h | h | h | h <;> simp [h])
    simp at hv
  case fin =>
    intro D' ys nw hr5 s' hs F1 N1 o1
    refine hide9 fun G9 h9 => ?_
    rcases hr5 with ⟨tl, ss, rfl, hs1, hs2, hs3⟩
    refine h9 ?_
    clear h9 G9
    obtain ⟨h1, tk1, dr1, rfl⟩ := hs.isD
    have hlen : ss.length ≤ 3 * 1 := hs2
    clear F9 N9
    k_with "m:set" => (refine set_new_N (by rfl) (by k_asm) (by k_asm) (by k_mem) (by rfl) (by rfl) hs1 (by omega) ?_; intro D7 o7 zs7 h7 tk7 F7 N7 O7 so7 nd7 ln7 mm7; (try k_unmd); (try k_sweep); (try dsimp only); (try k_fold))
    k_with "m:sorted" => (refine sorted_set_NN (by rfl) (by k_asm) (by k_asm) (by k_mem) so7 (by omega) ?_; intro h8 tk8 dr8 D8 vs8 ss8 e8 F8 N8 O8 st8 pm8 sd8; (try k_unmd); (try k_sweep); (try dsimp only); (try k_fold))
    try k_fold
    walk_at "m:steps"
    rename News h₀ L _ _ => kN9
    rename Fr h₀ L _ m => kF9
    refine hret D8 vs8 ss8 e8 _ _ _ kF9 (News.sub kN9 ?_) (fun q hq => ?_) st8 sd8 ((pm8.nodup_iff).mpr nd7) (fun x => ?_)
    · intro q hq
      rcases List.mem_cons.mp hq with rfl | hq
      · exact .head _
      · exact .tail _ (.tail _ (.tail _ (List.mem_append_right _ (.tail _ hq))))
    · exact O8 q (.tail _ (.tail _ (List.mem_append_right _ (.tail _ hq))))
    · rw [pm8.mem_iff, mm7, hs3]
      simp [qv]
theorem names_tell (w : World) (p : Program) (loose : List Str) (mean : ExcName → Option Value) (mg mb : Str → Option Value) : ∀ T, NamesT w p loose mean mg mb T
  | .leaf z => names_leaf w p loose mean mg mb z
  | .un op a => names_un w p loose mean mg mb op a (names_tell w p loose mean mg mb a)
  | .bin op a b => names_bin w p loose mean mg mb op a b (names_tell w p loose mean mg mb a) (names_tell w p loose mean mg mb b)
section
variable {prog : Program} {w : World} {A : Around} {E : Value → Shared → Prop} {s : Shared} {h₀ : Heap} {L : Addr} {m : Str → Option Value} {env : Env}
/-- what a loop's turn must leave -/
noncomputable def ForE (bb : Bool) (h₀ : Heap) (L : Addr) (I : Addr) (oI : Obj) (J : (Str → Option Value) → List (Addr × Obj) → Prop) (s' : Shared) (f : Flow) (s'' : Shared) : Prop :=
  f = .next ∧ ∃ m' nw', Sm bb s' s'' ∧ Fr h₀ L s''.heap m' ∧ News h₀ L s''.heap ((I, oI) :: nw') ∧ (∀ p ∈ nw', p.1 ≠ I) ∧ J m' nw'
noncomputable def ForGo (prog : Program) (w : World) (A : Around) (env : Env) (target : Expr) (body : List Stmt) (Q : Flow → Shared → Prop) (E : Value → Shared → Prop) (xv : Value) (s₁ : Shared) : Prop :=
  wpAny (model prog w) A (pyIter xv) (fun it s₂ => codeAny (model prog w) A (.forLoop target it body [] env) (fun r s' => match r with | .ok f => Q f s' | .error e => cameBackBy (model prog w) A env E e s') s₂) E s₁
theorem For_go {target iter : Expr} {body : List Stmt} {pos : Pos} {Q : Flow → Shared → Prop} (h : wpAny (model prog w) A (eval iter env) (ForGo prog w A env target body Q E) E s) (hs : ∀ x, foldedSetIterable iter env x = pure x := by intro _; rfl) :
    wpAny (model prog w) A (exec (.For target iter body [] pos) env) Q E s := wpAny_For h hs
theorem for_core {bb : Bool} {x : Str} {px : Pos} {body : List Stmt} {I : Addr} {fp : List Addr} {n : Nat} {P : Nat → Value → Prop} {St : Nat → Heap → Prop} {nw₀ : List (Addr × Obj)} {R : Result → Shared → Prop}
    (J : Nat → (Str → Option Value) → List (Addr × Obj) → Prop)
    (W : Walks prog w A I fp [I] n P St) (hIo : ∀ i h, St i h → ∃ o, h.get? I = some o)
    (hSt : ∀ i h h' o nw m, St i h → h.get? I = some o → h'.get? I = some o → (∀ b o, h₀.get? b = some o → h'.get? b = some o) → News h₀ L h' nw → J i m nw → St i h')
    (hLe : env.locals = L) (hx : env.kindOf x = some .local) (hp : (env.scope.kind == .class || (env.scope.kind == .module && env.locals != env.globals)) = false) (hLf : L ∉ fp) (hI₀ : h₀.get? I = none)
    (hst : St 0 s.heap) (F : Fr h₀ L s.heap m) (N : News h₀ L s.heap nw₀) (off : ∀ p ∈ nw₀, p.1 ≠ I) (h0 : J 0 m nw₀)
    (turn : ∀ i v m₁ nw oI s' (E' : Value → Shared → Prop), i < n → P i v → J i m₁ nw → Sm bb s s' → Fr h₀ L s'.heap (fun y => if y = x then some v else m₁ y) → News h₀ L s'.heap ((I, oI) :: nw) → (∀ p ∈ nw, p.1 ≠ I) →
      wpAny (model prog w) A (execs body env) (ForE bb h₀ L I oI (J (i + 1)) s') E' s')
    (fin : ∀ m' nw s', J n m' nw → Sm bb s s' → Fr h₀ L s'.heap m' → News h₀ L s'.heap nw → R (.ok .next) s') :
    codeAny (model prog w) A (.forLoop (.Name x px) (.ref I) body [] env) R s := by
  have hIf : I ∈ fp := W.sub I (List.mem_singleton.mpr rfl)
  have hIL : L ≠ I := fun e => hLf (e ▸ hIf)
  refine codeAny_forLoop_any (fun k s' => ∃ i m' nw, Sm bb s s' ∧ i ≤ n ∧ k = n + 1 - i ∧ St i s'.heap ∧ Fr h₀ L s'.heap m' ∧ News h₀ L s'.heap nw ∧ (∀ p ∈ nw, p.1 ≠ I) ∧ J i m' nw) ?_ (n + 1)
    ⟨0, m, nw₀, ⟨_, _, _, fun _ => rfl, rfl⟩, Nat.zero_le _, rfl, hst, F, N, off, h0⟩
  intro k s' hr5
  refine hide9 fun G9 h9 => ?_
  rcases hr5 with ⟨i, m', nw, hsm, hi, rfl, hst', F', N', off', hJ⟩
  refine h9 ?_
  clear h9 G9
  by_cases hlt : i < n
  · refine W.item i _ _ _ hlt hst' fun v h₂ tk₂ hPv hst₂ hk₂ => ?_
    refine wpAny_of_eq (a := ()) rfl ?_
    have N₂ : News h₀ L h₂ nw := news_but N' hk₂ off'
    have F₂ : Fr h₀ L h₂ m' := fr_but F' hk₂ hIL hI₀
    refine wpAny_assign_Name (wpAny_storeName_local hx (hLe ▸ F₂.ns) (fun h₃ hn₃ hs₃ => ?_) hp)
    rw [hLe] at hn₃ hs₃
    obtain ⟨oI, heI⟩ := hIo _ _ hst₂
    have F₃ : Fr h₀ L h₃ (fun y => if y = x then some v else m' y) := ⟨hn₃, fun b o e => hs₃.extBut b o (fun q => by
      have q' : b = L := q
      rw [q'] at e
      exact absurd (Heap.lt_size e) (Nat.not_lt.mpr F₂.above)) (F₂.keep b o e), F₂.above⟩
    have N₃ : News h₀ L h₃ ((I, oI) :: nw) := fun p hp => by
      rcases List.mem_cons.mp hp with rfl | hp
      · exact ⟨hs₃.extBut _ _ (Ne.symm hIL) heI, Ne.symm hIL, hI₀⟩
      · exact ⟨hs₃.extBut _ _ (N₂ p hp).2.1 (N₂ p hp).1, (N₂ p hp).2⟩
    have hst₃ : St (i + 1) h₃ := W.frame _ _ _ hst₂ fun b hb o e => hs₃.extBut b o (fun q => hLf (by have q' : b = L := q; rw [← q']; exact hb)) e
    refine wpAny_mono (turn i v m' nw oI _ _ hlt hPv hJ (hsm.trans Sm.ht) F₃ N₃ off') (fun f s₃ h₃' => ?_) fun _ _ e => e
    obtain ⟨rfl, m₄, nw₄, hsm₄, F₄, N₄, off₄, J₄⟩ := h₃'
    have zI := (N₄ _ List.mem_cons_self).1
    have N₄' : News h₀ L s₃.heap nw₄ := fun p hp => N₄ p (List.mem_cons_of_mem _ hp)
    have heI₃ := hs₃.extBut I oI (Ne.symm hIL) heI
    exact ⟨n + 1 - (i + 1), by omega, i + 1, m₄, nw₄, (hsm.trans Sm.ht).trans hsm₄, hlt, rfl, hSt _ _ _ _ _ _ hst₃ heI₃ zI F₄.keep N₄' J₄, F₄, N₄', off₄, J₄⟩
  · obtain rfl : i = n := Nat.le_antisymm hi (Nat.not_lt.mp hlt)
    refine W.done _ _ _ hst' fun h₁ tk₁ hk₁ => wpAny_execs_nil ?_
    exact fin m' nw _ hJ (hsm.trans Sm.ht) (fr_but F' hk₁ hIL hI₀) (news_but N' hk₁ off')
end
section
variable {prog : Program} {w : World} {A : Around} {E : Value → Shared → Prop} {s : Shared} {h₀ : Heap} {L : Addr} {m : Str → Option Value} {env : Env}
theorem ForGo.lst {bb : Bool} {x : Str} {px : Pos} {body : List Stmt} {Q : Flow → Shared → Prop} {s₁ : Shared} {ax : Addr} {its : Array Value} {news : List (Addr × Obj)}
    (J : Nat → (Str → Option Value) → List (Addr × Obj) → Prop) (hLe : env.locals = L) (hx : env.kindOf x = some .local) (hp : (env.scope.kind == .class || (env.scope.kind == .module && env.locals != env.globals)) = false) (hh : A.handled = none)
    (F : Fr h₀ L s₁.heap m) (N : News h₀ L s₁.heap news) (src : SrcT "list" h₀ ax its news) (h0 : J 0 m news) (hJs : ∀ i m nw, J i m nw → SrcT "list" h₀ ax its nw)
    (turn : ∀ i v m₁ nw I oI s' (E' : Value → Shared → Prop), its[i]? = some v → J i m₁ nw → Sm bb s₁ s' → Fr h₀ L s'.heap (fun y => if y = x then some v else m₁ y) → News h₀ L s'.heap ((I, oI) :: nw) → (∀ p ∈ nw, p.1 ≠ I) → (∀ p ∈ news, p.1 < I) →
      wpAny (model prog w) A (execs body env) (ForE bb h₀ L I oI (J (i + 1)) s') E' s')
    (fin : ∀ m' nw s', J its.size m' nw → Sm bb s₁ s' → Fr h₀ L s'.heap m' → News h₀ L s'.heap nw → Q .next s') :
    ForGo prog w A env (.Name x px) body Q E (.ref ax) s₁ := by
  have hls : s₁.heap.IsList ax its := src.at F.keep N
  have hlt : ax < s₁.heap.objs.size := by obtain ⟨o, ho, _⟩ := hls; exact Heap.lt_size ho
  refine wpAny_pyIter_list hls ?_
  have hLlt : L < s₁.heap.objs.size := F.ns.lt
  have haxL : L ≠ ax := fun e => by
    rcases src with ⟨o, ho, _⟩ | ⟨o, ho, _⟩
    · have := Heap.lt_size ho
      exact absurd (e ▸ this) (Nat.not_lt.mpr F.above)
    · exact (N _ ho).2.1 e.symm
  refine for_core (bb := bb) J (Walks.list hh s₁.heap.objs.size ax (Nat.ne_of_lt hlt) its) (fun i h st => let ⟨o, ho, _⟩ := st.1; ⟨o, ho⟩)
    (fun i h h' o nw m st e e' k N' j => ⟨let ⟨o', ho', r⟩ := st.1; ⟨o', by rw [e] at ho'; cases ho'; exact e', r⟩, (hJs _ _ _ j).at k N'⟩)
    hLe hx hp (fun hm => ?_) (next_is_new F) ⟨⟨_, Heap.get?_push_size _ rfl, rfl, rfl⟩, hls.push _⟩ (F.keeps fun _ _ e => Heap.get?_push_of_some _ e) (N.grown fun _ _ e => Heap.get?_push_of_some _ e)
    (fun p hp => Nat.ne_of_lt (Heap.lt_size (N p hp).1)) h0 (fun i v m₁ nw oI s' E' hi hP j hsm F' N' off => turn i v m₁ nw _ oI s' E' hP j (Sm.trans ⟨_, s₁.toks, s₁.drawn, fun _ => rfl, rfl⟩ hsm) F' N' off (fun p hp => Heap.lt_size (N p hp).1))
    (fun m' nw s' j hsm F' N' => fin m' nw s' j (Sm.trans ⟨_, s₁.toks, s₁.drawn, fun _ => rfl, rfl⟩ hsm) F' N')
  rcases List.mem_cons.mp hm with e | hm
  · exact Nat.ne_of_lt hLlt e
  · exact haxL (List.mem_singleton.mp hm)
theorem ForGo.rng {bb : Bool} {x : Str} {px : Pos} {body : List Stmt} {Q : Flow → Shared → Prop} {s₁ : Shared} {r : Addr} {a b : Int} {t u v : Tok} {n : Nat} {news : List (Addr × Obj)}
    (J : Nat → (Str → Option Value) → List (Addr × Obj) → Prop) (hLe : env.locals = L) (hx : env.kindOf x = some .local) (hp : (env.scope.kind == .class || (env.scope.kind == .module && env.locals != env.globals)) = false) (hh : A.handled = none)
    (F : Fr h₀ L s₁.heap m) (N : News h₀ L s₁.heap news) (hr : IsRange s₁.heap r a b 1 t u v) (hsm : Builtin.Range.small a b 1 = true) (hn : Builtin.Range.rangeSize a b 1 = ((n : Nat) : Int)) (h0 : J 0 m news)
    (turn : ∀ i tk m₁ nw I oI s' (E' : Value → Shared → Prop), i < n → J i m₁ nw → Sm bb s₁ s' → Fr h₀ L s'.heap (fun y => if y = x then some (.int (a + (i : Int)) tk) else m₁ y) → News h₀ L s'.heap ((I, oI) :: nw) → (∀ p ∈ nw, p.1 ≠ I) → (∀ p ∈ news, p.1 < I) →
      wpAny (model prog w) A (execs body env) (ForE bb h₀ L I oI (J (i + 1)) s') E' s')
    (fin : ∀ m' nw s', J n m' nw → Sm bb s₁ s' → Fr h₀ L s'.heap m' → News h₀ L s'.heap nw → Q .next s') :
    ForGo prog w A env (.Name x px) body Q E (.ref r) s₁ := by
  refine wpAny_pyIter_range hr hsm ?_
  refine for_core (bb := bb) J (PyProof.Rows.LCg.range_walks hh a n) (fun i h st => ⟨_, st⟩)
    (fun i h h' o nw m st e e' k N' j => PyProof.Rows.LCg.range_st i h h' o nw st e e' k N' trivial)
    hLe hx hp (fun hm => ?_) (next_is_new F) (by show IsRangeIter _ _ _ _ _; rw [hn]; simpa using Heap.get?_push_size _ rfl) (F.keeps fun _ _ e => Heap.get?_push_of_some _ e) (N.grown fun _ _ e => Heap.get?_push_of_some _ e)
    (fun p hp => Nat.ne_of_lt (Heap.lt_size (N p hp).1)) h0 (fun i v m₁ nw oI s' E' hi hP j hsm F' N' off => ?_)
    (fun m' nw s' j hsm F' N' => fin m' nw s' j (Sm.trans ⟨_, s₁.toks, s₁.drawn, fun _ => rfl, rfl⟩ hsm) F' N')
  · exact Nat.ne_of_lt F.ns.lt (List.mem_singleton.mp hm)
  · obtain ⟨tk, rfl⟩ := hP
    exact turn i tk m₁ nw _ oI s' E' hi j (Sm.trans ⟨_, s₁.toks, s₁.drawn, fun _ => rfl, rfl⟩ hsm) F' N' off (fun p hp => Heap.lt_size (N p hp).1)
end
/-- a world: a number below n for each name, and nothing else -/
noncomputable def WD (n : Int) (ss : List Str) (D : List (PyData × PyData)) : Prop :=
  (∀ x, x ∈ ss → ∃ v, lookup (.str x) D = some (.int v) ∧ 0 ≤ v ∧ v < n) ∧ (∀ x, x ∉ ss → lookup (.str x) D = none) ∧ D.length ≤ ss.length
theorem WD.nil {n : Int} : WD n [] [] := ⟨fun _ h => (List.not_mem_nil h).elim, fun _ _ => rfl, Nat.le_refl _⟩
theorem WD.put {n k : Int} {ss : List Str} {z : Str} {D : List (PyData × PyData)} (h : WD n ss D) (h0 : 0 ≤ k) (h1 : k < n) : WD n (ss ++ [z]) (putD (.str z) (.int k) D) := by
  refine ⟨fun x hx => ?_, fun x hx => ?_, ?_⟩
  · rw [lookup_putK keyEnc_str]
    split
    · exact ⟨k, rfl, h0, h1⟩
    · rename_i hne
      rcases List.mem_append.mp hx with hx | hx
      · exact h.1 x hx
      · exact absurd (List.mem_singleton.mp hx) hne
  · rw [lookup_putK keyEnc_str, if_neg (fun e => hx (List.mem_append_right _ (by rw [e]; exact .head _)))]
    exact h.2.1 x (fun q => hx (List.mem_append_left _ q))
  · have := putD_length_le (.str z) (.int k) D
    have := h.2.2
    simp only [List.length_append, List.length_singleton]; omega
noncomputable def Worlds (prog : Program) (w : World) (nw : List (Addr × Obj)) (n : Int) (ss : List Str) (vs : List Value) : Prop :=
  ∀ v ∈ vs, ∃ d D, v = .ref d ∧ EnvIn prog w nw d D ∧ WD n ss D
theorem Worlds.mono {prog : Program} {w : World} {nw nw' : List (Addr × Obj)} {n : Int} {ss : List Str} {vs : List Value} (h : Worlds prog w nw n ss vs) (hs : ∀ p ∈ nw, p ∈ nw') : Worlds prog w nw' n ss vs := fun v hv =>
  let ⟨d, D, e, x, y⟩ := h v hv; ⟨d, D, e, x.mono hs, y⟩
theorem Worlds.snoc {prog : Program} {w : World} {nw : List (Addr × Obj)} {n : Int} {ss : List Str} {vs : List Value} {d : Addr} {D : List (PyData × PyData)} (h : Worlds prog w nw n ss vs) (x : EnvIn prog w nw d D) (y : WD n ss D) : Worlds prog w nw n ss (vs ++ [.ref d]) := fun v hv => by
  rcases List.mem_append.mp hv with hv | hv
  · exact h v hv
  · exact ⟨d, D, List.mem_singleton.mp hv, x, y⟩
noncomputable def WorldsT (w : World) (p : Program) (loose : List Str) (mean : ExcName → Option Value) (mg mb : Str → Option Value) : Prop :=
  ∀ (dp un : Nat) (gd : Option (List Code)) (env : Env) (outer : List Env) (A₀ : Around) (base h₀ : Heap) (L : Addr) (m : Str → Option Value) (rest : List (Addr × Obj)) (s : Shared) (D₀ : Addr) (vs : List Value) (ss : List Str) (n₀ : Nat) (n : Int) (t : Tok)
    (Q E : Value → Shared → Prop), Below A₀ base outer h₀ → Fr h₀ L s.heap m → (Mine.hd.heap_39 w.params).In h₀ → News h₀ L s.heap rest → Top p loose mean mg mb h₀ → env.frame = some L → env.scope.kind = .function →
    dp + 9 < recursionLimit → un + 72 < cLine → (D₀, W.listOf vs.toArray n₀) ∈ rest → StrsAre vs ss → ss.length ≤ 3 → 1 ≤ n → n ≤ 3 →
    (∀ D vs' c tl h' tk', Fr h₀ L h' m → News h₀ L h' ((D, W.listOf (List.toArray vs') c) :: (tl ++ rest)) → (∀ q ∈ rest, q.1 ≠ D ∧ ∀ p ∈ tl, q.1 ≠ p.1) → vs'.length ≤ 27 → Worlds PySem.Challenge.rw_pq0039_01.prog w (tl ++ rest) n ss vs' → Q (.ref D) { s with heap := h', toks := tk' }) →
    wpAny (model PySem.Challenge.rw_pq0039_01.prog w) (topA dp un gd env outer) (call (.ref 207) [.ref D₀, .int n t]) Q E s
/-- a list of worlds under way -/
noncomputable def LJ (prog : Program) (w : World) (n : Int) (ss : List Str) (base kp : List (Addr × Obj)) (cnt : Nat) (Lt : Addr) (nw : List (Addr × Obj)) : Prop :=
  ∃ ys c tl, nw = (Lt, W.listOf (List.toArray ys) c) :: (tl ++ base) ∧ ys.length ≤ cnt ∧ Worlds prog w (tl ++ kp) n ss ys ∧ (∀ q ∈ base, q.1 ≠ Lt ∧ ∀ p ∈ tl, q.1 ≠ p.1) ∧ (∀ p ∈ tl, p.1 ≠ Lt)
section
variable {prog : Program} {w : World} {A : Around} {E : Value → Shared → Prop} {s : Shared} {h₀ : Heap} {L : Addr} {m : Str → Option Value} {news : List (Addr × Obj)}
theorem env_copy {d : Addr} {D : List (PyData × PyData)} {Q : Value → Shared → Prop} (F : Fr h₀ L s.heap m) (N : News h₀ L s.heap news) (hbig : h₀.NoLimit) (x : EnvIn prog w news d D) (hsz : D.length ≤ 99)
    (k : ∀ d h' o kvs, Fr h₀ L h' m → News h₀ L h' ((d, o) :: news) → (∀ p ∈ news, p.1 < d) → (d == sysModules) = false → o.IsDictOf (PySem.strKind prog w) kvs → FlatPairs PyData.str kvs D → Q (.ref d) { s with heap := h' }) :
    wpAny (model prog w) A (call (.type "dict") [.ref d]) Q E s := by
  obtain ⟨o, kvs, hm, hd, hf⟩ := x.it
  exact kt_dict_K F N hbig (TabAt.ofNews N hm x.lo hd hf) (by show D.length ≤ 2 ^ 24; omega) k
theorem env_put {d : Addr} {o : Obj} {kvs : List (Str × Value)} {D : List (PyData × PyData)} {z : Str} {tz tk : Tok} {k : Int} {Q : Unit → Shared → Prop} (F : Fr h₀ L s.heap m) (N : News h₀ L s.heap ((d, o) :: news)) (off : ∀ p ∈ news, p.1 < d)
    (hd : o.IsDictOf (PySem.strKind prog w) kvs) (hf : FlatPairs PyData.str kvs D) (hsz : D.length ≤ 99)
    (h : ∀ h' o' kvs', Fr h₀ L h' m → News h₀ L h' ((d, o') :: news) → o'.IsDictOf (PySem.strKind prog w) kvs' → FlatPairs PyData.str kvs' (putD (.str z) (.int k) D) → Q () { s with heap := h', toks := s.toks + 1 }) :
    wpAny (model prog w) A (setItem (.ref d) (.str z tz) (.int k tk)) Q E s :=
  setItem_K PyProof.V.same_str (strKind_is _ _ _ _) (.int _ _) F N (.head fun p hp => Nat.ne_of_lt (off p hp)) hd hf (fun h' o' F' N' hd' hf' => h h' o' _ F' N' hd' hf') (by show D.length ≤ 2 ^ 24; omega)
theorem news_append {Lt : Addr} {ys : List Value} {c : Nat} {x : Value} {pre post : List (Addr × Obj)} {Q : Value → Shared → Prop} (F : Fr h₀ L s.heap m) (N : News h₀ L s.heap (pre ++ (Lt, W.listOf ys.toArray c) :: post)) (off : ∀ p ∈ pre ++ post, p.1 ≠ Lt) (hsz : ys.length ≤ 99)
    (h : ∀ h' c', Fr h₀ L h' m → News h₀ L h' (pre ++ (Lt, W.listOf (ys ++ [x]).toArray c') :: post) → Q .none { s with heap := h' }) :
    wpAny (model prog w) A (call (.builtin "list.append") [.ref Lt, x]) Q E s := by
  have z := N (Lt, W.listOf ys.toArray c) (List.mem_append_right _ (.head _))
  refine append_at (hsz := by rw [List.size_toArray]; show _ ≤ 2 ^ 24; omega) z.1 fun h' hs hD => ?_
  refine h h' (c + 1) (F.change hs z.2.1 z.2.2) (fun p hp => ?_)
  rcases List.mem_append.mp hp with hp | hp
  · have y := N p (List.mem_append_left _ hp)
    exact ⟨hs.extBut _ _ (off p (List.mem_append_left _ hp)) y.1, y.2⟩
  · rcases List.mem_cons.mp hp with rfl | hp
    · exact ⟨by rw [hD, List.push_toArray], z.2⟩
    · have y := N p (List.mem_append_right _ (.tail _ hp))
      exact ⟨hs.extBut _ _ (off p (List.mem_append_right _ hp)) y.1, y.2⟩
end
section
variable {prog : Program} {w : World} {A : Around} {E : Value → Shared → Prop} {s : Shared} {h₀ : Heap} {L : Addr} {m : Str → Option Value}
theorem name_in {env : Env} {x : Str} {pos : Pos} {v : Value} {Q : Value → Shared → Prop} (F : Fr h₀ env.locals s.heap m) (hk : env.scope.kind = .function) (hl : env.kindOf x = some .local) (hd : (x == ("__debug__" : Str)) = false) (hv : m x = some v) (h : Q v s) :
    wpAny (model prog w) A (eval (.Name x pos) env) Q E s := wpAny_Name (wpAny_loadName_local hk hl F.ns hv h) hd
end
theorem LJ.zero {prog : Program} {w : World} {n : Int} {ss : List Str} {base kp : List (Addr × Obj)} {cnt : Nat} {Lt : Addr} (h : ∀ q ∈ base, q.1 ≠ Lt) : LJ prog w n ss base kp cnt Lt ((Lt, W.listOf #[] 0) :: base) :=
  ⟨[], 0, [], rfl, Nat.zero_le _, fun _ h => (List.not_mem_nil h).elim, fun q hq => ⟨h q hq, fun _ h => (List.not_mem_nil h).elim⟩, fun _ h => (List.not_mem_nil h).elim⟩
theorem small_n {n : Int} (h1 : 1 ≤ n) (h3 : n ≤ 3) : Builtin.Range.small 0 n 1 = true ∧ Builtin.Range.rangeSize 0 n 1 = ((n.toNat : Nat) : Int) := by
  have : n = 1 ∨ n = 2 ∨ n = 3 := by omega
  rcases this with rfl | rfl | rfl <;> decide
theorem take_snoc {ss : List Str} {i : Nat} {z : Str} (hi : i < ss.length) (hz : ss.getD i ⟨#[]⟩ = z) : ss.take (i + 1) = ss.take i ++ [z] := by
  rw [List.take_add_one]
  have : ss[i]? = some z := by rw [← hz]; simp [hi]
  rw [this]; rfl
theorem ltA {d l : Addr} {rest : List (Addr × Obj)} (h : d < l ∧ AllLt l rest) : ∀ q ∈ rest, q.1 < l := fun q hq => ktn_ltOf h.2 q hq
theorem ltB {d l : Addr} {rest : List (Addr × Obj)} (h : d < l ∧ AllLt l rest) : d < l := h.1
theorem LJ.start {prog : Program} {w : World} {n : Int} {ss : List Str} {base tl kp : List (Addr × Obj)} {cnt c : Nat} {Lt I : Addr} {oI : Obj} {ys : List Value} (hlen : ys.length ≤ cnt) (hw : Worlds prog w (tl ++ kp) n ss ys) (h3 : ∀ q ∈ base, q.1 ≠ Lt ∧ ∀ p ∈ tl, q.1 ≠ p.1) (h4 : ∀ p ∈ tl, p.1 ≠ Lt) (hI : Lt ≠ I) :
    LJ prog w n ss ((I, oI) :: (tl ++ base)) (tl ++ kp) (cnt + 0) Lt ((Lt, W.listOf ys.toArray c) :: (I, oI) :: (tl ++ base)) :=
  ⟨ys, c, [], rfl, hlen, hw, fun q hq => ⟨by
    rcases List.mem_cons.mp hq with rfl | hq
    · exact Ne.symm hI
    · rcases List.mem_append.mp hq with hq | hq
      · exact h4 q hq
      · exact (h3 q hq).1, fun _ h => (List.not_mem_nil h).elim⟩, fun _ h => (List.not_mem_nil h).elim⟩
theorem LJ.next {prog : Program} {w : World} {n k : Int} {ss : List Str} {z : Str} {base kp tl : List (Addr × Obj)} {cnt c' : Nat} {Lt d : Addr} {o : Obj} {ys : List Value} {kvs : List (Str × Value)} {D : List (PyData × PyData)} (hlen : ys.length ≤ cnt) (hw : Worlds prog w (tl ++ kp) n (ss ++ [z]) ys) (h3 : ∀ q ∈ base, q.1 ≠ Lt ∧ ∀ p ∈ tl, q.1 ≠ p.1) (h4 : ∀ p ∈ tl, p.1 ≠ Lt)
    (hdL : Lt < d) (hd : ∀ q ∈ tl ++ base, q.1 < d) (lo : (d == sysModules) = false) (ho : o.IsDictOf (PySem.strKind prog w) kvs) (hf : FlatPairs PyData.str kvs (putD (.str z) (.int k) D)) (hD : WD n ss D) (h0 : 0 ≤ k) (h1 : k < n) :
    LJ prog w n (ss ++ [z]) base kp (cnt + 1) Lt ((Lt, W.listOf (ys ++ [Value.ref d]).toArray c') :: (((d, o) :: tl) ++ base)) := by
  refine ⟨ys ++ [Value.ref d], c', (d, o) :: tl, rfl, by rw [List.length_append, List.length_singleton]; omega, (hw.mono fun p hp => .tail _ hp).snoc ⟨lo, o, kvs, .head _, ho, hf⟩ (hD.put h0 h1), fun q hq => ⟨(h3 q hq).1, fun p hp => ?_⟩, fun p hp => ?_⟩
  · rcases List.mem_cons.mp hp with rfl | hp
    · exact Nat.ne_of_lt (hd q (List.mem_append_right _ hq))
    · exact (h3 q hq).2 p hp
  · rcases List.mem_cons.mp hp with rfl | hp
    · exact Ne.symm (Nat.ne_of_lt hdL)
    · exact h4 p hp
section
variable {prog : Program} {w : World} {A : Around} {E : Value → Shared → Prop} {s : Shared} {h₀ : Heap} {L : Addr} {m : Str → Option Value}
theorem news_append2 {Lt : Addr} {ys : List Value} {c : Nat} {x : Value} {p1 p2 : Addr × Obj} {post : List (Addr × Obj)} {Q : Value → Shared → Prop} (F : Fr h₀ L s.heap m) (N : News h₀ L s.heap (p1 :: p2 :: (Lt, W.listOf ys.toArray c) :: post)) (o1 : p1.1 ≠ Lt) (o2 : p2.1 ≠ Lt) (off : ∀ p ∈ post, p.1 ≠ Lt) (hsz : ys.length ≤ 99)
    (h : ∀ h' c', Fr h₀ L h' m → News h₀ L h' (p1 :: p2 :: (Lt, W.listOf (ys ++ [x]).toArray c') :: post) → Q .none { s with heap := h' }) :
    wpAny (model prog w) A (call (.builtin "list.append") [.ref Lt, x]) Q E s :=
  news_append (pre := [p1, p2]) F N (fun p hp => by
    rcases List.mem_cons.mp hp with rfl | hp
    · exact o1
    · rcases List.mem_cons.mp hp with rfl | hp
      · exact o2
      · exact off p hp) hsz h
end
theorem rows_50 : True := by
  k_with "exec For Name Name cons nil" => ((k_here; k_dflt (refine For_go ?_)))
  k_with "exec For Name Call cons nil" => ((k_here; k_dflt (refine For_go ?_)))
  k_with "call type:dict" => (k_extra "m:dict")
  k_with "setItem ref str" => (k_extra "m:put")
  k_with "call builtin:list.append" => (k_extra "m:append")
  k_with "m:frame" => (((try dsimp only); (repeat (first | assumption | exact if_pos rfl | refine (if_neg (by decide +kernel)).trans ?_ | rfl)); done))
  k_with "eval Name" => ((k_here; k_dflt (refine' name_in ?FR9 ?kR9 ?lR9 ?dR9 ?vR9 ?_; (case FR9 => k_asm); (case kR9 => rfl); (case lR9 => rfl); (case dR9 => decide +kernel); (case vR9 => walk_at "m:frame"))))
  k_with "m:wsub" => (first | (walk_at "m:perm"; done) | (intro p9R9 hp9R9; (simp only [List.cons_append, List.mem_cons, List.mem_append] at hp9R9 ⊢); (rcases hp9R9 with hR9 | hR9 | hR9 | hR9) <;> simp [hR9]))
  k_with "m:wsub2" => (first | (walk_at "m:perm"; done) | (intro p9R9 hp9R9; (simp only [List.cons_append, List.mem_cons, List.mem_append] at hp9R9 ⊢); (rcases hp9R9 with hR9 | hR9 | (hR9 | hR9) | hR9) <;> simp [hR9]))
  k_with "m:wsub3" => (first | (walk_at "m:perm"; done) | (intro p9R9 hp9R9; (simp only [List.cons_append, List.mem_cons, List.mem_append] at hp9R9 ⊢); (rcases hp9R9 with hR9 | hR9 | hR9 | hR9) <;> simp [hR9]))
  trivial
theorem worlds_tell (w : World) (p : Program) (loose : List Str) (mean : ExcName → Option Value) (mg mb : Str → Option Value) : WorldsT w p loose mean mg mb := by
  unfold WorldsT
  k_fill
  intro dp un gd env outer A₀ base h₀ L m rest s D₀ vs ss n₀ n t Q E B F X N T hf hk hd hu hm0 hS hs3 hn1 hn3 hret
  refine wpAny_call ?_
  k_dflt (walk_at "m:enter")
  walk_at "m:steps"
  rename Fr _ _ _ _ => F9
  rename News _ _ _ _ => N9
  refine ForGo.lst (bb := false) (fun i m' nw => ∃ Lt, m' "found" = some (.ref Lt) ∧ m' "n" = some (.int n t) ∧ LJ PySem.Challenge.rw_pq0039_01.prog w n (ss.take i) rest [] (3 ^ i) Lt nw) (by rfl) (by rfl) (by rfl) (by rfl) F9 N9 (.inr ⟨_, by k_mem, rfl, _, rfl⟩) ?h0 ?hJs ?turn ?fin
  case h0 =>
    refine ⟨_, by walk_at "m:frame", by walk_at "m:frame", [.ref _], _, [(_, _)], rfl, Nat.le_refl _, fun v hv => ⟨_, [], List.mem_singleton.mp hv, ⟨by assumption, _, _, .head _, by assumption, .nil⟩, WD.nil⟩, fun q hq => ⟨Nat.ne_of_lt (ltA (by assumption) q hq), fun p hp => ?_⟩, fun p hp => ?_⟩
    · rw [List.mem_singleton.mp hp]
      exact Nat.ne_of_lt ((by assumption : ∀ p ∈ rest, p.1 < _) q hq)
    · rw [List.mem_singleton.mp hp]
      exact Nat.ne_of_lt (ltB (by assumption))
  case hJs =>
    intro i m' nw hr5
    refine hide9 fun G9 h9 => ?_
    rcases hr5 with ⟨Lt, _, _, ys, c, tl, rfl, _⟩
    refine h9 ?_
    clear h9 G9
    exact .inr ⟨_, .tail _ (List.mem_append_right _ hm0), rfl, _, rfl⟩
  case turn =>
    intro i v m₁ nw I1 oI1 s' E' hv hr5 hs F1 N1 off1 ltI1
    refine hide9 fun G9 h9 => ?_
    rcases hr5 with ⟨W1, hm1, hm2, ys1, c1, tl1, rfl, hlen1, hw1, hoff1, hoff2⟩
    rcases hs.is with ⟨h1, tk1, rfl⟩
    refine h9 ?_
    clear h9 G9
    obtain ⟨tz, rfl⟩ := StrsAre_at hS i v (by simpa using hv)
    have hi : i < ss.length := by
      have := StrsAre_length hS
      rw [← this]
      rcases Nat.lt_or_ge i vs.length with h | h
      · exact h
      · simp [h] at hv
    generalize hz : ss.getD i ⟨#[]⟩ = z at F1 N1 ⊢
    clear F9 N9
    try k_fold
    walk_at "m:steps"
    rename Fr _ _ _ _ => F9
    rename News _ _ _ _ => N9
    refine ForGo.lst (bb := false) (fun j m' nw => ∃ Lt, m' "late" = some (.ref Lt) ∧ m' "n" = some (.int n t) ∧ m' "name" = some (.str z tz) ∧ LJ PySem.Challenge.rw_pq0039_01.prog w n (ss.take (i + 1)) ((I1, oI1) :: (W1, W.listOf ys1.toArray c1) :: (tl1 ++ rest)) [] (3 * j) Lt nw) (by rfl) (by rfl) (by rfl) (by rfl) F9 N9 (.inr ⟨_, by k_mem, rfl, _, rfl⟩) ⟨_, by walk_at "m:frame", by walk_at "m:frame", by walk_at "m:frame", LJ.zero fun q hq => Nat.ne_of_lt (ktn_ltOf (by assumption) q hq)⟩ ?hJs2 ?turn2 ?fin2
    case hJs2 =>
      intro j m' nw hr5
      refine hide9 fun G9 h9 => ?_
      rcases hr5 with ⟨Lt, _, _, _, ys, c, tl, rfl, _⟩
      refine h9 ?_
      clear h9 G9
      exact .inr ⟨_, .tail _ (List.mem_append_right _ (.tail _ (.head _))), rfl, _, rfl⟩
    case turn2 =>
      intro j v m₂ nw I2 oI2 s' E2 hv2 hr5 hs2 F2 N2 off2 ltI2
      refine hide9 fun G9 h9 => ?_
      rcases hr5 with ⟨Lt, hn1', hn2', hn3', ys2, c2, tl2, rfl, hlen2, hw2, hoff3, hoff4⟩
      rcases hs2.is with ⟨h2, tk2, rfl⟩
      refine h9 ?_
      clear h9 G9
      have hj : j < ys1.length := by
        rcases Nat.lt_or_ge j ys1.length with h | h
        · exact h
        · simp [h] at hv2
      obtain ⟨dw, DW, rfl, hEW, hWD⟩ := hw1 v (List.mem_of_getElem? (by simpa using hv2))
      clear F9 N9
      try k_fold
      walk_at "m:steps"
      rename Fr _ _ _ _ => F9
      rename News _ _ _ _ => N9
      rename IsRange _ _ _ _ _ _ _ _ => R9
      have hts := take_snoc hi hz
      refine ForGo.rng (bb := false) (fun k m' nw => m' "late" = some (.ref Lt) ∧ m' "n" = some (.int n t) ∧ m' "name" = some (.str z tz) ∧ m' "world" = some (.ref dw) ∧ LJ PySem.Challenge.rw_pq0039_01.prog w n (ss.take (i + 1)) ((I2, oI2) :: (tl2 ++ ((I1, oI1) :: (W1, W.listOf ys1.toArray c1) :: (tl1 ++ rest)))) (tl2 ++ []) (3 * j + k) Lt nw) (by rfl) (by rfl) (by rfl) (by rfl) F9 (pull1 N9) R9 (small_n hn1 hn3).1 (small_n hn1 hn3).2 ⟨by walk_at "m:frame", by walk_at "m:frame", by walk_at "m:frame", by walk_at "m:frame", LJ.start hlen2 hw2 hoff3 hoff4 (off2 _ (.head _))⟩ ?turn3 ?fin3
      case turn3 =>
        intro k tk3 m₃ nw I3 oI3 s' E3 hkn hr5 hs3' F3 N3 off3 ltI3
        refine hide9 fun G9 h9 => ?_
        rcases hr5 with ⟨a1, a2, a3, a4, ys3, c3, tl3, rfl, hlen3, hw3, ho5, ho6⟩
        rcases hs3'.is with ⟨h3, tk3', rfl⟩
        refine h9 ?_
        clear h9 G9
        have hDW := hWD.2.2
        have htl : (ss.take i).length ≤ 3 := by rw [List.length_take]; omega
        have hsubW : ∀ p ∈ tl1 ++ [], p ∈ (I3, oI3) :: (Lt, W.listOf ys3.toArray c3) :: (tl3 ++ ((I2, oI2) :: (tl2 ++ ((I1, oI1) :: (W1, W.listOf ys1.toArray c1) :: (tl1 ++ rest))))) := fun p hp => .tail _ (.tail _ (List.mem_append_right _ (.tail _ (List.mem_append_right _ (.tail _ (.tail _ (List.mem_append_left _ (by simpa using hp))))))))
        rw [hts] at hw3
        have h9 : 3 ^ i ≤ 9 := Nat.le_trans (Nat.pow_le_pow_right (by decide) (show i ≤ 2 by omega)) (by decide)
        have hkn3 : (k : Int) < n := by omega
        have hoffA : ∀ p ∈ tl3 ++ ((I2, oI2) :: (tl2 ++ ((I1, oI1) :: (W1, W.listOf ys1.toArray c1) :: (tl1 ++ rest)))), p.1 ≠ Lt := fun p hp => by
          rcases List.mem_append.mp hp with hp | hp
          · exact ho6 p hp
          · exact (ho5 p hp).1
        clear F9 N9
        k_with "m:dict" => (refine env_copy (by k_asm) (by k_asm) (Top.nolimit (by k_asm)) (hEW.mono hsubW) (by omega) ?_; intro d8 h8 o8 kvs8 F8 N8 O8 lo8 id8 if8; (try k_unmd); (try k_sweep); (try dsimp only); (try k_fold))
        k_with "m:put" => (refine env_put (by k_asm) (by k_asm) O8 id8 if8 (by omega) ?_; intro h9 o9 kvs9 F9 N9 id9 if9; (try k_unmd); (try k_sweep); (try dsimp only); (try k_fold))
        k_with "m:append" => (refine news_append2 (ys := ys3) (by k_asm) (by k_asm) (Ne.symm (Nat.ne_of_lt (O8 _ (.tail _ (.head _))))) (Ne.symm (off3 _ (.head _))) hoffA (by omega) ?_; intro h7 c7 F7 N7; (try k_unmd); (try k_sweep); (try dsimp only); (try k_fold))
        try k_fold
        walk_at "m:steps"
        all_goals exact ⟨rfl, _, (Lt, W.listOf (ys3 ++ [Value.ref d8]).toArray c7) :: (((d8, o9) :: tl3) ++ _), Sm.ht, by k_asm, News.sub (by k_asm) (by walk_at "m:wsub"), fun p hp => by
          rcases List.mem_cons.mp hp with rfl | hp
          · exact (show Lt ≠ I3 from off3 _ (.head _))
          · rcases List.mem_cons.mp hp with rfl | hp
            · exact Ne.symm (Nat.ne_of_lt (O8 _ (.head _)))
            · exact off3 p (.tail _ hp), by walk_at "m:frame", by walk_at "m:frame", by walk_at "m:frame", by walk_at "m:frame", hts ▸ LJ.next hlen3 hw3 ho5 ho6 (show Lt < d8 from O8 _ (.tail _ (.head _))) (fun q hq => O8 q (.tail _ (.tail _ hq))) lo8 id9 if9 hWD (by omega) (by omega)⟩
      case fin3 =>
        intro m' nw s' hr5 hs3' F3 N3
        refine hide9 fun G9 h9 => ?_
        rcases hr5 with ⟨a1, a2, a3, a4, ys3, c3, tl3, rfl, hlen3, hw3, ho5, ho6⟩
        rcases hs3'.is with ⟨h3, tk3', rfl⟩
        refine h9 ?_
        clear h9 G9
        clear F9 N9
        try k_fold
        walk_at "m:steps"
        all_goals exact ⟨rfl, _, (Lt, W.listOf ys3.toArray c3) :: ((tl3 ++ tl2) ++ _), Sm.ht, by k_asm, News.sub (by k_asm) (by walk_at "m:wsub2"), fun p hp => by
          rcases List.mem_cons.mp hp with rfl | hp
          · exact (show Lt ≠ I2 from off2 _ (.head _))
          · rcases List.mem_append.mp hp with hp | hp
            · rcases List.mem_append.mp hp with hp | hp
              · exact Ne.symm ((ho5 _ (.head _)).2 p hp)
              · exact off2 p (.tail _ (List.mem_append_left _ hp))
            · exact off2 p (.tail _ (List.mem_append_right _ hp)), _, a1, a2, a3, ys3, c3, tl3 ++ tl2, rfl, by omega, hw3.mono fun p hp => (by simpa using hp), fun q hq => ⟨(hoff3 q hq).1, fun p hp => by
              rcases List.mem_append.mp hp with hp | hp
              · exact (ho5 q (.tail _ (List.mem_append_right _ hq))).2 p hp
              · exact (hoff3 q hq).2 p hp⟩, fun p hp => by
              rcases List.mem_append.mp hp with hp | hp
              · exact ho6 p hp
              · exact hoff4 p hp⟩
    case fin2 =>
      intro m' nw s' hr5 hs2 F2 N2
      refine hide9 fun G9 h9 => ?_
      rcases hr5 with ⟨Lt, hn1', hn2', hn3', ys2, c2, tl2, rfl, hlen2, hw2, hoff3, hoff4⟩
      rcases hs2.is with ⟨h2, tk2, rfl⟩
      refine h9 ?_
      clear h9 G9
      clear F9 N9
      try k_fold
      walk_at "m:steps"
      have h3i : 3 ^ (i + 1) = 3 ^ i * 3 := Nat.pow_succ ..
      have hl2 : ys2.length ≤ 3 * ys1.length := by simpa using hlen2
      all_goals exact ⟨rfl, _, (Lt, W.listOf ys2.toArray c2) :: (tl2 ++ rest), Sm.ht, by k_asm, News.sub (by k_asm) (by walk_at "m:wsub3"), fun p hp => by
          rcases List.mem_cons.mp hp with rfl | hp
          · exact Ne.symm (hoff3 _ (.head _)).1
          · rcases List.mem_append.mp hp with hp | hp
            · exact Ne.symm ((hoff3 _ (.head _)).2 p hp)
            · exact off1 p (.tail _ (List.mem_append_right _ hp)), _, by walk_at "m:frame", by walk_at "m:frame", ys2, c2, tl2, rfl, by omega, hw2, fun q hq => hoff3 q (.tail _ (.tail _ (List.mem_append_right _ hq))), hoff4⟩
  case fin =>
    intro m' nw s' hr5 hs F1 N1
    refine hide9 fun G9 h9 => ?_
    rcases hr5 with ⟨W1, hm1, hm2, ys1, c1, tl1, rfl, hlen1, hw1, hoff1, hoff2⟩
    rcases hs.is with ⟨h1, tk1, rfl⟩
    refine h9 ?_
    clear h9 G9
    clear F9 N9
    try k_fold
    walk_at "m:steps"
    rename News h₀ L _ _ => kN9
    rename Fr h₀ L _ m => kF9
    refine hret W1 ys1 c1 tl1 _ _ kF9 kN9 hoff1 ?_ ?_
    · have h9 : 3 ^ vs.length ≤ 27 := Nat.le_trans (Nat.pow_le_pow_right (by decide) (show vs.length ≤ 3 by rw [StrsAre_length hS]; exact hs3)) (by decide)
      have : ys1.length ≤ 3 ^ vs.length := by simpa using hlen1
      omega
    · have e : ss.take vs.length = ss := List.take_of_length_le (by rw [StrsAre_length hS]; exact Nat.le_refl _)
      have hw : Worlds PySem.Challenge.rw_pq0039_01.prog w (tl1 ++ []) n (ss.take vs.length) ys1 := by simpa using hw1
      rw [e] at hw
      exact hw.mono fun p hp => List.mem_append_left _ (by simpa using hp)
theorem enum_new_tup (l : Addr) (items : Array Value) (n : Nat) (dct : Option Addr) (sl : Array (Option Value)) :
    Meets (Builtin.«enumerate.__new__» ⟨[.type "enumerate", .ref l], []⟩) (fun _ R s => s.heap.get? l = some { cls := .type "tuple", dict := dct, data := .seq items n, slots := sl } ∧
      R (.ok (.ret (.ref (s.heap.push { cls := .type "tuple_iterator", data := .fields #[.ref l, .int 0 0] }).objs.size)))
        { s with heap := (s.heap.push { cls := .type "tuple_iterator", data := .fields #[.ref l, .int 0 0] }).push { cls := .type "enumerate", data := .fields #[.none, .bool false, .ref s.heap.objs.size, rawInt 0, .none, .none] } }) :=
  .of_wp fun prog w A R s h => by
    obtain ⟨hp, g, d, tk, os⟩ := s; obtain ⟨hl, h⟩ := h
    have hsub := sub_enumerate
    have hL : Heap.IsTuple (Shared.heap ⟨hp, g, d, tk, os⟩) l items := ⟨_, hl, rfl, n, rfl⟩
    wp_walk using AutoSeq1.wpAny_loadPart' hl
    refine wpAny_stack_any fun st => wpAny_pure ?_
    split
    · rename_i c _ _ _ _ _
      cases (c == Value.type "enumerate")
      · wp_walk using AutoSeq1.wpAny_loadPart' hl, wpAny_pyIter_tuple hL
        exact ⟨_, rfl, h⟩
      · wp_walk using AutoSeq1.wpAny_loadPart' hl, wpAny_pyIter_tuple hL
        exact ⟨_, rfl, h⟩
    · wp_walk using AutoSeq1.wpAny_loadPart' hl, wpAny_pyIter_tuple hL
      exact ⟨_, rfl, h⟩
section
variable {prog : Program} {w : World} {A : Around} {E : Value → Shared → Prop} {s : Shared}
theorem call_enumerate_tup {l : Addr} {items : Array Value} {Q : Value → Shared → Prop} (hL : s.heap.IsTuple l items)
    (h : ∀ h', IsEnum h' (s.heap.objs.size + 1) s.heap.objs.size 0 .none → h'.IsTupleIter s.heap.objs.size l 0 → (∀ b o, s.heap.get? b = some o → h'.get? b = some o) → Q (.ref (s.heap.objs.size + 1)) { s with heap := h' }) :
    wpAny (model prog w) A (call (.type "enumerate") [.ref l]) Q E s := by
  obtain ⟨⟨c, dct, dt, sl⟩, hl, hc, n, hd⟩ := hL
  replace hc : c = .type "tuple" := hc
  replace hd : dt = .seq items n := hd
  subst hc hd
  refine callType_new PySem.F.called_enumerate (by decide) (PySem.F.typeCall_enumerate_1 _) (PySem.F.newCall_enumerate_1 _) (fun obj => PySem.F.args_object_init_2 obj _) PySem.F.entry_enumerate_new
    (enum_new_tup l items n dct sl) ⟨hl, ?_⟩
  have hz : (s.heap.push { cls := .type "tuple_iterator", data := .fields #[.ref l, .int 0 0] }).objs.size = s.heap.objs.size + 1 := Heap.size_push ..
  show _ ∧ _
  rw [hz]
  have he : IsEnum ((s.heap.push { cls := .type "tuple_iterator", data := .fields #[.ref l, .int 0 0] }).push
      { cls := .type "enumerate", data := .fields #[.none, .bool false, .ref s.heap.objs.size, rawInt 0, .none, .none] }) (s.heap.objs.size + 1) s.heap.objs.size 0 .none := by
    have := Heap.get?_push_size (s.heap.push { cls := .type "tuple_iterator", data := .fields #[.ref l, .int 0 0] })
      (o := { cls := .type "enumerate", data := .fields #[.none, .bool false, .ref s.heap.objs.size, rawInt 0, .none, .none] }) rfl
    rw [hz] at this; exact this
  exact ⟨⟨_, he, rfl⟩, h _ he ⟨_, Heap.get?_push_of_some _ (Heap.get?_push_size _ rfl), rfl, rfl⟩ fun b o x => Heap.get?_push_of_some _ (Heap.get?_push_of_some _ x)⟩
theorem nextOf_tup_item {it t : Addr} {i : Nat} {items : Array Value} {x : Value} {Q : Value → Shared → Prop} (hit : s.heap.IsTupleIter it t i) (ht : s.heap.IsTuple t items) (hx : items[i]? = some x)
    (hQ : ∀ h', h'.IsTupleIter it t (i + 1) → Heap.SameBut it s.heap h' → Q x { s with heap := h' }) : wpAny (model prog w) A (Builtin.SmallTypes.nextOf (.ref it)) Q E s := by
  obtain ⟨o, ho, hc, hd⟩ := id hit
  obtain ⟨ol, hol, _, nl, hdl⟩ := ht
  unfold Builtin.SmallTypes.nextOf
  refine wpAny_bind (wpAny_callSpecial?_slot (name := Str.ofString "__next__") hit.typeIs PySem.F.slot_tuple_iterator_next
    (wpAny_call_entry PySem.F.slot_tuple_iterator_next hit.typeIs PySem.F.entry_tuple_iterator_next ?_ (PySem.F.args_tuple_iterator_next_1 _)))
  show wpAny _ _ (field (.ref it) 0 >>= _) _ _ s
  refine wpAny_bind (wpAny_field ho hd (x := .ref t) rfl ?_)
  show wpAny _ _ (if (Value.ref t == Value.none) = true then _ else _) _ _ s
  rw [if_neg (show ¬ ((Value.ref t == Value.none) = true) from Bool.false_ne_true)]
  show wpAny _ _ (field (.ref it) 1 >>= _) _ _ s
  refine wpAny_bind (wpAny_field ho hd (x := .int i 0) rfl ?_)
  show wpAny _ _ (seqItems? (.ref t) >>= _) _ _ s
  refine wpAny_bind (wpAny_seqItems hol hdl ?_)
  simp only [Int.toNat_natCast, hx]
  refine wpAny_bind (wpAny_setField ho hd (by simp) (wpAny_pure ⟨x, rfl, wpAny_pure (hQ _ ?_ (Heap.SameBut.update ..))⟩))
  exact ⟨_, Heap.get?_update_self _ ho (Obj.isFreed_of_fields (Obj.data_mapFields hd _)), (Obj.cls_mapFields ..).trans hc, by
    rw [Obj.data_mapFields hd]; simp [rawInt]⟩
theorem nextOf_tup_end {it t : Addr} {i : Nat} {items : Array Value} {Q : Value → Shared → Prop} (hh : A.handled = none) (hit : s.heap.IsTupleIter it t i) (ht : s.heap.IsTuple t items) (hx : items[i]? = none)
    (hE : ∀ h' e, Heap.ExtBut it s.heap h' → (∃ o, h'.get? e = some o ∧ o.cls = .type "StopIteration") → E (.ref e) { s with heap := h' }) : wpAny (model prog w) A (Builtin.SmallTypes.nextOf (.ref it)) Q E s := by
  obtain ⟨o, ho, hc, hd⟩ := id hit
  obtain ⟨ol, hol, _, nl, hdl⟩ := ht
  unfold Builtin.SmallTypes.nextOf
  refine wpAny_bind (wpAny_callSpecial?_slot (name := Str.ofString "__next__") hit.typeIs PySem.F.slot_tuple_iterator_next
    (wpAny_call_entry PySem.F.slot_tuple_iterator_next hit.typeIs PySem.F.entry_tuple_iterator_next ?_ (PySem.F.args_tuple_iterator_next_1 _)))
  show wpAny _ _ (field (.ref it) 0 >>= _) _ _ s
  refine wpAny_bind (wpAny_field ho hd (x := .ref t) rfl ?_)
  show wpAny _ _ (if (Value.ref t == Value.none) = true then _ else _) _ _ s
  rw [if_neg (show ¬ ((Value.ref t == Value.none) = true) from Bool.false_ne_true)]
  show wpAny _ _ (field (.ref it) 1 >>= _) _ _ s
  refine wpAny_bind (wpAny_field ho hd (x := .int i 0) rfl ?_)
  show wpAny _ _ (seqItems? (.ref t) >>= _) _ _ s
  refine wpAny_bind (wpAny_seqItems hol hdl ?_)
  simp only [Int.toNat_natCast, hx]
  refine wpAny_bind (wpAny_rule (wpAny_bind (wpAny_setField ho hd (by simp) ?_)))
  show wpAny _ _ (newExc (.type "StopIteration") [] >>= _) _ _ _
  refine wpAny_bind ?_
  simp only [newExc, newTuple]
  refine wpAny_bind (wpAny_newObj_type ?_ (by size_fits))
  refine wpAny_bind (m := firstArgMember _ _) (wpAny_of_eq (a := Value.none) (by first | rfl | (simp only [firstArgMember]; rfl)) ?_)
  refine wpAny_newObj_type ?_ (by size_fits)
  simp only [raiseNew]
  refine wpAny_bind (wpAny_handled ?_)
  first | rw [show A.in1.handled = none from hh] | rw [hh]
  refine wpAny_bind (wpAny_pure (wpAny_throw ?_))
  exact hE _ _ (((Heap.SameBut.update ..).extBut.push _).push _) ⟨_, Heap.get?_push_size _ rfl, rfl⟩
theorem draws_tup (hh : A.handled = none) (it l : Addr) (hne : l ≠ it) (items : Array Value) :
    Draws prog w A it [it, l] items.size (fun i v => items[i]? = some v) (fun i h => h.IsTupleIter it l i ∧ h.IsTuple l items) where
  live := fun _ _ st => let ⟨o, ho, _⟩ := st.1; ⟨o, ho⟩
  frame := fun _ _ _ st hk => ⟨st.1.at fun o e => hk it (by simp) o e, st.2.at fun o e => hk l (by simp) o e⟩
  item := fun i s Q E hi st hQ => by
    refine nextOf_tup_item st.1 st.2 (x := items[i]) (by simp [hi]) fun h' hit' hs' => ?_
    exact hQ _ h' s.toks (by simp [hi]) ⟨hit', st.2.at fun o e => hs'.extBut l o hne e⟩ hs'
  done := fun s Q E st hE => nextOf_tup_end hh st.1 st.2 (by simp) hE
end
section
variable {prog : Program} {w : World} {A : Around} {E : Value → Shared → Prop} {s : Shared} {h₀ : Heap} {L : Addr} {m : Str → Option Value} {env : Env}
/-- what a turn over enumerate() must leave -/
noncomputable def ForE2 (bb : Bool) (h₀ : Heap) (L : Addr) (I I2 c : Addr) (oI oI2 oc : Obj) (J : (Str → Option Value) → List (Addr × Obj) → Prop) (s' : Shared) (f : Flow) (s'' : Shared) : Prop :=
  f = .next ∧ ∃ m' nw', Sm bb s' s'' ∧ Fr h₀ L s''.heap m' ∧ News h₀ L s''.heap ((I, oI) :: (I2, oI2) :: (c, oc) :: nw') ∧ (∀ p ∈ nw', p.1 ≠ I ∧ p.1 ≠ I2 ∧ p.1 ≠ c) ∧ J m' nw'
theorem ForGo.enum {bb : Bool} {x y : Str} {px py tp : Pos} {k : Nat} {body : List Stmt} {Q : Flow → Shared → Prop} {s₀ : Shared} {ax c : Addr} {oc : Obj} {v₀ : Option Value} {its : Array Value} {news : List (Addr × Obj)}
    (J : Nat → (Str → Option Value) → List (Addr × Obj) → Prop) (hLe : env.locals = L) (hk0 : env.scope.kind = .function) (hx : env.kindOf x = some .cell) (hc : env.cells.lookup x = some c) (hoc : oc.data = .cell v₀) (hoffc : ∀ p ∈ news, p.1 ≠ c) (hy : env.kindOf y = some .local) (hp : (env.scope.kind == .class || (env.scope.kind == .module && env.locals != env.globals)) = false) (hh : A.handled = none)
    (F : Fr h₀ L s₀.heap m) (N : News h₀ L s₀.heap ((c, oc) :: news)) (src : SrcT "tuple" h₀ ax its news) (h0 : J 0 m news) (hJs : ∀ i m nw, J i m nw → SrcT "tuple" h₀ ax its nw)
    (turn : ∀ i v tk m₁ nw I I2 oI oI2 oc' s' (E' : Value → Shared → Prop), its[i]? = some v → J i m₁ nw → Sm bb s₀ s' → Fr h₀ L s'.heap (fun z => if z = y then some v else m₁ z) → oc'.data = .cell (some (.int i tk)) → News h₀ L s'.heap ((I, oI) :: (I2, oI2) :: (c, oc') :: nw) → (∀ p ∈ nw, p.1 ≠ I ∧ p.1 ≠ I2 ∧ p.1 ≠ c) → c ≠ I ∧ c ≠ I2 →
      wpAny (model prog w) A (execs body env) (ForE2 bb h₀ L I I2 c oI oI2 oc' (J (i + 1)) s') E' s')
    (fin : ∀ m' nw s', J its.size m' nw → Sm bb s₀ s' → Fr h₀ L s'.heap m' → (∃ oc' v', oc'.data = .cell v' ∧ News h₀ L s'.heap ((c, oc') :: nw)) → Q .next s') :
    wpAny (model prog w) A (call (.type "enumerate") [.ref ax]) (ForGo prog w A env (.Tuple [.Name x px, .Name y py] k tp) body Q E) E s₀ := by
  have N1 : News h₀ L s₀.heap news := fun p hp => N p (.tail _ hp)
  have hls : s₀.heap.IsTuple ax its := src.at F.keep N1
  have zc := N (c, oc) (.head _)
  have hclt : c < s₀.heap.objs.size := Heap.lt_size zc.1
  have hcI : c ≠ s₀.heap.objs.size + 1 := Nat.ne_of_lt (Nat.lt_succ_of_lt hclt)
  have hcI2 : c ≠ s₀.heap.objs.size := Nat.ne_of_lt hclt
  have hlt : ax < s₀.heap.objs.size := by obtain ⟨o, ho, _⟩ := hls; exact Heap.lt_size ho
  have hLlt : L < s₀.heap.objs.size := F.ns.lt
  have haxL : L ≠ ax := fun e => by
    rcases src with ⟨o, ho, _⟩ | ⟨o, ho, _⟩
    · have := Heap.lt_size ho
      exact absurd (e ▸ this) (Nat.not_lt.mpr F.above)
    · exact (N1 _ ho).2.1 e.symm
  refine call_enumerate_tup hls fun h' hE hI hk => ?_
  refine wpAny_pyIter_enum hE ?_
  have W := (WalksT.enumerateD (draws_tup (prog := prog) (w := w) (A := A.in1) hh s₀.heap.objs.size ax (Nat.ne_of_lt hlt) its) (s₀.heap.objs.size + 1) (Nat.succ_ne_self _) (by simp only [List.mem_cons, List.not_mem_nil, or_false, not_or]; exact ⟨Nat.succ_ne_self _, Nat.ne_of_gt (Nat.lt_succ_of_lt hlt)⟩) (List.mem_cons_self ..)).toU
  have fresh : ∀ a, s₀.heap.objs.size ≤ a → h₀.get? a = none := fun a ha => by
    cases e : h₀.get? a with
    | none => rfl
    | some o' => exact absurd (Heap.lt_size (F.keep a o' e)) (Nat.not_lt.mpr ha)
  have hIL : L ≠ s₀.heap.objs.size + 1 := Nat.ne_of_lt (Nat.lt_succ_of_lt hLlt)
  have hI2L : L ≠ s₀.heap.objs.size := Nat.ne_of_lt hLlt
  have hold : ∀ b o, h₀.get? b = some o → b ∉ [s₀.heap.objs.size + 1, s₀.heap.objs.size] := fun b o e hm => by
    rcases List.mem_cons.mp hm with q | q
    · rw [q, fresh _ (Nat.le_succ _)] at e; cases e
    · rw [List.mem_singleton.mp q, fresh _ (Nat.le_refl _)] at e; cases e
  have stepF : ∀ {h₁ h₂ : Heap} {m' : Str → Option Value}, Fr h₀ L h₁ m' → (∀ b o, b ∉ [s₀.heap.objs.size + 1, s₀.heap.objs.size] → h₁.get? b = some o → h₂.get? b = some o) → Fr h₀ L h₂ m' := fun F' hk' =>
    ⟨F'.ns.at' fun o e => hk' _ o (by simp only [List.mem_cons, List.not_mem_nil, or_false, not_or]; exact ⟨hIL, hI2L⟩) e, fun b o e => hk' b o (hold b o e) (F'.keep b o e), F'.above⟩
  have stepN : ∀ {h₁ h₂ : Heap} {nw : List (Addr × Obj)}, News h₀ L h₁ nw → (∀ p ∈ nw, p.1 ≠ s₀.heap.objs.size + 1 ∧ p.1 ≠ s₀.heap.objs.size) → (∀ b o, b ∉ [s₀.heap.objs.size + 1, s₀.heap.objs.size] → h₁.get? b = some o → h₂.get? b = some o) → News h₀ L h₂ nw := fun N' off hk' p hp =>
    ⟨hk' _ _ (by simp only [List.mem_cons, List.not_mem_nil, or_false, not_or]; exact off p hp) (N' p hp).1, (N' p hp).2⟩
  refine codeAny_forLoop_any (fun q s' => ∃ i m' nw, Sm bb s₀ s' ∧ i ≤ its.size ∧ q = its.size + 1 - i ∧ ((∃ old, IsEnum s'.heap (s₀.heap.objs.size + 1) s₀.heap.objs.size i old) ∧ s'.heap.IsTupleIter s₀.heap.objs.size ax i ∧ s'.heap.IsTuple ax its) ∧ Fr h₀ L s'.heap m' ∧ (∃ oc' v', oc'.data = .cell v' ∧ News h₀ L s'.heap ((c, oc') :: nw)) ∧ (∀ p ∈ nw, p.1 ≠ s₀.heap.objs.size + 1 ∧ p.1 ≠ s₀.heap.objs.size ∧ p.1 ≠ c) ∧ J i m' nw) ?_ (its.size + 1)
    ⟨0, m, news, ⟨_, _, _, fun _ => rfl, rfl⟩, Nat.zero_le _, rfl, ⟨⟨_, hE⟩, hI, hls.at fun o e => hk _ o e⟩, F.keeps hk, ⟨oc, v₀, hoc, N.grown hk⟩, fun p hp => ⟨Nat.ne_of_lt (Nat.lt_succ_of_lt (Heap.lt_size (N1 p hp).1)), Nat.ne_of_lt (Heap.lt_size (N1 p hp).1), hoffc p hp⟩, h0⟩
  intro q s' hr5
  refine hide9 fun G9 h9 => ?_
  rcases hr5 with ⟨i, m', nw, hsm, hi, rfl, hst', F', ⟨ocx, vx, hocx, N'⟩, off', hJ⟩
  refine h9 ?_
  clear h9 G9
  have offc : ∀ p ∈ (c, ocx) :: nw, p.1 ≠ s₀.heap.objs.size + 1 ∧ p.1 ≠ s₀.heap.objs.size := fun p hp => by
    rcases List.mem_cons.mp hp with rfl | hp
    · exact ⟨hcI, hcI2⟩
    · exact ⟨(off' p hp).1, (off' p hp).2.1⟩
  by_cases hlti : i < its.size
  · refine W.item i _ _ _ hlti hst' fun T vals h₂ tk₂ hP hT hmid hk₂ => ?_
    obtain ⟨t, v, hv, rfl⟩ := hP
    refine W.go _ _ _ i T _ _ _ hmid fun h₃ hst₃ hk₃ => ?_
    have hT3 : h₃.IsTuple T #[.int i t, v] := hT.at fun o e => hk₃ T o (W.apart i T _ hmid) e
    have F₃ := stepF (stepF F' hk₂) hk₃
    have N₃ := stepN (stepN N' offc hk₂) offc hk₃
    obtain ⟨⟨old, heE⟩, ⟨o2, ho2, r2⟩, htup⟩ := id hst₃
    subst hLe
    refine wpAny_assign_Tuple hh hT3 rfl rfl fun h₃' he₃ => ?_
    have hup : ∀ b o, h₃.get? b = some o → h₃'.get? b = some o := fun b o e => he₃ b o (Nat.ne_of_lt (Heap.lt_size e)) e
    have zc3 := N₃ (c, ocx) (.head _)
    show wpAny _ _ (assignInOrder [assign (.Name x px) env, assign (.Name y py) env] [.int i t, v]) _ _ _
    refine assignInOrder_cons ?_
    refine wpAny_assign_Name (wpAny_storeName_cell hk0 hx hc ⟨ocx, hup _ _ zc3.1, hocx⟩ fun h₅ hcell hs₅ => ?_)
    obtain ⟨oc5, hoc5, hd5⟩ := hcell
    refine assignInOrder_cons ?_
    refine wpAny_assign_Name (wpAny_storeName_local hy (F₃.ns.at' fun o e => hs₅.extBut _ _ (Ne.symm zc3.2.1) (hup _ _ e)) (fun h₄ hns hs₄ => ?_) hp)
    refine assignInOrder_nil ?_
    have hcL : c ≠ env.locals := zc3.2.1
    have hk₄ : ∀ b o, b ≠ env.locals → b ≠ c → h₃.get? b = some o → h₄.get? b = some o := fun b o b1 b2 e => hs₄.extBut _ _ b1 (hs₅.extBut _ _ b2 (hup _ _ e))
    have F₄ : Fr h₀ env.locals h₄ (fun z => if z = y then some v else m' z) := ⟨hns, fun b o e => hk₄ b o (fun q => by
      have q' : b = env.locals := q
      rw [q'] at e
      exact absurd (Heap.lt_size e) (Nat.not_lt.mpr F₃.above)) (fun q => by have q' : b = c := q; rw [q', zc3.2.2] at e; cases e) (F₃.keep b o e), F₃.above⟩
    have N₄ : News h₀ env.locals h₄ ((s₀.heap.objs.size + 1, _) :: (s₀.heap.objs.size, o2) :: (c, oc5) :: nw) := fun p hp => by
      rcases List.mem_cons.mp hp with rfl | hp
      · exact ⟨hk₄ _ _ (Ne.symm hIL) (Ne.symm hcI) heE, Ne.symm hIL, fresh _ (Nat.le_succ _)⟩
      · rcases List.mem_cons.mp hp with rfl | hp
        · exact ⟨hk₄ _ _ (Ne.symm hI2L) (Ne.symm hcI2) ho2, Ne.symm hI2L, fresh _ (Nat.le_refl _)⟩
        · rcases List.mem_cons.mp hp with rfl | hp
          · exact ⟨hs₄.extBut _ _ hcL hoc5, zc3.2⟩
          · have z := N₃ p (.tail _ hp)
            exact ⟨hk₄ _ _ z.2.1 (off' p hp).2.2 z.1, z.2⟩
    refine wpAny_mono (turn i v t m' nw _ _ _ o2 oc5 _ _ hv hJ (hsm.trans Sm.ht) F₄ hd5 N₄ off' ⟨hcI, hcI2⟩) (fun f s₅ h₅ => ?_) fun _ _ e => e
    obtain ⟨rfl, m₅, nw₅, hsm₅, F₅, N₅, off₅, J₅⟩ := h₅
    have N₅' : News h₀ env.locals s₅.heap nw₅ := fun p hp => N₅ p (.tail _ (.tail _ (.tail _ hp)))
    exact ⟨its.size + 1 - (i + 1), by omega, i + 1, m₅, nw₅, (hsm.trans Sm.ht).trans hsm₅, hlti, rfl, ⟨⟨_, (N₅ _ (.head _)).1⟩, ⟨o2, (N₅ _ (.tail _ (.head _))).1, r2⟩, (hJs _ _ _ J₅).at F₅.keep N₅'⟩, F₅, ⟨oc5, _, hd5, fun p hp => N₅ p (.tail _ (.tail _ hp))⟩, off₅, J₅⟩
  · obtain rfl : i = its.size := Nat.le_antisymm hi (Nat.not_lt.mp hlti)
    refine W.done _ _ _ hst' fun h₁ tk₁ hk₁ => wpAny_execs_nil ?_
    exact fin m' nw _ hJ (hsm.trans Sm.ht) (stepF F' hk₁) ⟨ocx, vx, hocx, stepN N' offc hk₁⟩
end
theorem rows_54 : True := by
  k_with "exec For Tuple Call cons nil" => ((k_here; k_dflt (refine For_go ?_)))
  k_with "call type:enumerate" => (k_extra "m:enum")
  k_with "call builtin:list.extend" => (k_extra "m:extend")
  trivial
/-- the parts found so far, the kids before i done -/
noncomputable def PJ (K : List (Addr × Obj)) (sz : Nat) (root : Tm) (Ts : List Tm) (base : List (Addr × Obj)) (Fd : Addr) (i : Nat) (nw : List (Addr × Obj)) : Prop :=
  ∃ ys c tl, nw = (Fd, W.listOf (List.toArray ys) c) :: (tl ++ base) ∧ PartsIn (tl ++ K) sz ys (root :: (Ts.take i).flatMap subs) ∧ (∀ q ∈ base, q.1 ≠ Fd ∧ ∀ p ∈ tl, q.1 ≠ p.1) ∧ (∀ p ∈ tl, p.1 ≠ Fd)
theorem PJ.next {K : List (Addr × Obj)} {sz i c' : Nat} {root T : Tm} {Ts : List Tm} {base tl tl' : List (Addr × Obj)} {Fd : Addr} {ys vs : List Value} (h : PartsIn (tl ++ K) sz ys (root :: (Ts.take i).flatMap subs)) (hT : Ts[i]? = some T)
    (h' : PartsIn (tl' ++ K) sz vs (subs T)) (o1 : ∀ q ∈ base, q.1 ≠ Fd ∧ ∀ p ∈ tl, q.1 ≠ p.1) (o2 : ∀ p ∈ tl, p.1 ≠ Fd) (o3 : ∀ q ∈ (Fd, W.listOf (List.toArray ys) 0) :: base, ∀ p ∈ tl', q.1 ≠ p.1) :
    PJ K sz root Ts base Fd (i + 1) ((Fd, W.listOf (List.toArray (ys ++ vs)) c') :: ((tl' ++ tl) ++ base)) := by
  refine ⟨ys ++ vs, c', tl' ++ tl, rfl, ?_, fun q hq => ⟨(o1 q hq).1, fun p hp => ?_⟩, fun p hp => ?_⟩
  · have e : root :: (Ts.take (i + 1)).flatMap subs = (root :: (Ts.take i).flatMap subs) ++ subs T := by
      rw [List.take_add_one, hT]; simp
    rw [e]
    refine PartsIn.append (h'.mono (fun p hp => ?_) (Nat.le_refl _)) (h.mono (fun p hp => ?_) (Nat.le_refl _))
    · rcases List.mem_append.mp hp with hp | hp
      · exact List.mem_append_left _ (List.mem_append_left _ hp)
      · exact List.mem_append_right _ hp
    · rcases List.mem_append.mp hp with hp | hp
      · exact List.mem_append_left _ (List.mem_append_right _ hp)
      · exact List.mem_append_right _ hp
  · rcases List.mem_append.mp hp with hp | hp
    · exact o3 q (.tail _ hq) p hp
    · exact (o1 q hq).2 p hp
  · rcases List.mem_append.mp hp with hp | hp
    · exact Ne.symm (o3 _ (.head _) p hp)
    · exact o2 p hp
/-- the cells that a comprehension closes over, reckoned -/
noncomputable def closP (env : Env) : List (Str × NameKind) → List (Str × Addr) → Option (List (Str × Addr))
  | [], cs => some cs
  | (n, k) :: r, cs => if k == .free then (match env.cells.lookup n with | some a => closP env r ((n, a) :: cs) | none => none) else closP env r cs
theorem closure_go {env : Env} {cl : List (Str × Addr)} : ∀ (l : List (Str × NameKind)) (cs : List (Str × Addr)), closP env l cs = some cl →
    (forIn l cs fun (x : Str × NameKind) (r : List (Str × Addr)) => if (x.2 == NameKind.free) = true then do let a ← cellOf env x.1; pure (ForInStep.yield ((x.1, a) :: r)) else pure (ForInStep.yield r)) = (pure cl : Sem _)
  | [], cs, h => by
    rw [List.forIn_nil]
    injection h with h; rw [h]
  | (n, k) :: r, cs, h => by
    rw [List.forIn_cons]
    unfold closP at h
    dsimp only
    by_cases hk : (k == NameKind.free) = true
    · rw [if_pos hk] at h ⊢
      unfold cellOf
      cases e : env.cells.lookup n with
      | none => rw [e] at h; cases h
      | some a =>
        rw [e] at h
        simp only [pure_bind]
        exact closure_go r _ h
    · rw [if_neg hk] at h ⊢
      simp only [pure_bind]
      exact closure_go r _ h
theorem closure_of {scope : Scope} {env : Env} {cl : List (Str × Addr)} (h : closP env scope.names [] = some cl) : closureFor scope env = pure cl := by
  have := closure_go scope.names [] h
  unfold closureFor
  simp only [bind_pure]
  exact this
theorem rows_54d : True := by
  k_with "eval ListComp" => ((k_here; k_dflt (refine ListComp_go false (F₀ := by k_asm) (closure_of (by rfl)) (by rfl) (by decide) ?_)))
  trivial
section
variable {prog : Program} {w : World} {A : Around} {E : Value → Shared → Prop} {s : Shared} {h₀ : Heap} {L : Addr} {m : Str → Option Value} {news : List (Addr × Obj)}
theorem news_extend {Lt Ls : Addr} {ys zs : List Value} {c c2 : Nat} {pre post : List (Addr × Obj)} {Q : Value → Shared → Prop} (F : Fr h₀ L s.heap m) (N : News h₀ L s.heap (pre ++ (Lt, W.listOf ys.toArray c) :: post))
    (hLs : (Ls, W.listOf zs.toArray c2) ∈ pre ++ post) (off : ∀ p ∈ pre ++ post, p.1 ≠ Lt) (hsz : ys.length ≤ 99) (hsz2 : zs.length ≤ 99)
    (h : ∀ h' c', Fr h₀ L h' m → News h₀ L h' (pre ++ (Lt, W.listOf (ys ++ zs).toArray c') :: post) → Q .none { s with heap := h' }) :
    wpAny (model prog w) A (call (.builtin "list.extend") [.ref Lt, .ref Ls]) Q E s := by
  have z := N (Lt, W.listOf ys.toArray c) (List.mem_append_right _ (.head _))
  have hm : (Ls, W.listOf zs.toArray c2) ∈ pre ++ (Lt, W.listOf ys.toArray c) :: post := by
    rcases List.mem_append.mp hLs with q | q
    · exact List.mem_append_left _ q
    · exact List.mem_append_right _ (.tail _ q)
  have hd : ¬(!ys.toArray.isEmpty && Builtin.List.listTooLong (ys.toArray.size + zs.toArray.size)) = true := by
    intro q
    rw [Bool.and_eq_true] at q
    have := of_decide_eq_true q.2
    rw [List.size_toArray, List.size_toArray] at this
    have e : sizeLine = 2 ^ 24 := rfl
    omega
  have s1 : ys.toArray.size ≤ sizeLine := by rw [List.size_toArray]; exact Nat.le_trans hsz (by decide)
  have s2 : ys.toArray.size + zs.toArray.size ≤ sizeLine + 1 := by
    rw [List.size_toArray, List.size_toArray]
    have e : sizeLine = 2 ^ 24 := rfl
    omega
  refine call_meets PySem.F.slot_list_extend ⟨_, z.1, rfl⟩ PySem.F.entry_list_extend (PySem.F.args_list_extend_2 _ _) (PySem.AutoSeq1.list_extend_list_list_0 Lt ys.toArray c Ls zs.toArray c2 hd s1 s2) ⟨z.1, (N _ hm).1, ?_⟩
  have oa : ∀ p ∈ pre, p.1 ≠ Lt := fun p hp => off p (List.mem_append_left _ hp)
  have ob : ∀ p ∈ post, p.1 ≠ Lt := fun p hp => off p (List.mem_append_right _ hp)
  by_cases hz : zs = []
  · subst hz
    exact h _ c (F.change (Heap.SameBut.update ..) z.2.1 z.2.2) (kl_turn0 (fun x => x ++ ([] : List Value).toArray) N oa ob (by simp) (by simp))
  · refine h _ (c + 1) (F.change (Heap.SameBut.update ..) z.2.1 z.2.2) (kl_turn (fun x => x ++ zs.toArray) N oa ob (by simp) ?_)
    have := List.length_pos_iff.mpr hz
    rw [List.size_toArray, List.size_toArray, List.length_append]
    omega
theorem news_extend5 {Lt Ls : Addr} {oL : Obj} {ys zs : List Value} {c c2 : Nat} {tlx tl7 post : List (Addr × Obj)} {p1 p2 p3 p4 : Addr × Obj} {Q : Value → Shared → Prop} (F : Fr h₀ L s.heap m) (N : News h₀ L s.heap ((Ls, oL) :: (tlx ++ p1 :: (tl7 ++ p2 :: p3 :: p4 :: (Lt, W.listOf ys.toArray c) :: post))))
    (e : oL = W.listOf zs.toArray c2) (off : ∀ p ∈ (Ls, oL) :: (tlx ++ p1 :: (tl7 ++ p2 :: p3 :: p4 :: post)), p.1 ≠ Lt) (hsz : ys.length ≤ 99) (hsz2 : zs.length ≤ 99)
    (h : ∀ h' c', Fr h₀ L h' m → News h₀ L h' (p2 :: p3 :: p4 :: (Lt, W.listOf (ys ++ zs).toArray c') :: ((tlx ++ tl7) ++ post)) → Q .none { s with heap := h' }) :
    wpAny (model prog w) A (call (.builtin "list.extend") [.ref Lt, .ref Ls]) Q E s := by
  subst e
  refine news_extend (pre := (Ls, W.listOf zs.toArray c2) :: (tlx ++ p1 :: (tl7 ++ [p2, p3, p4]))) (post := post) (c := c) F (fun p hp => N p ?_) (.head _) (fun p hp => off p ?_) hsz hsz2 (fun h' c' F' N' => h h' c' F' fun p hp => N' p ?_)
  · simp only [List.cons_append, List.nil_append, List.append_assoc, List.mem_cons, List.mem_append] at hp ⊢
    exact hp
  · simp only [List.cons_append, List.nil_append, List.append_assoc, List.mem_cons, List.mem_append] at hp ⊢
    exact hp
  · simp only [List.cons_append, List.nil_append, List.append_assoc, List.mem_cons, List.mem_append] at hp ⊢
    rcases hp with h | h | h | h | h | h | h <;> simp [h]
theorem tup_cat {t b : Addr} {vs ws : List Value} {n1 n2 : Nat} {Q : Value → Shared → Prop} (F : Fr h₀ L s.heap m) (N : News h₀ L s.heap news) (ht : (t, tupO vs n1) ∈ news) (hb : (b, tupO ws n2) ∈ news) (hv : vs ≠ []) (hz : vs.length + ws.length ≤ 99)
    (h : ∀ D tl n h', Fr h₀ L h' m → News h₀ L h' (tl ++ news) → (∀ p ∈ tl, ∀ q ∈ news, q.1 < p.1) → (D, tupO (vs ++ ws) n) ∈ tl ++ [(t, tupO vs n1)] → Q (.ref D) { s with heap := h' }) :
    wpAny (model prog w) A (binaryOp .Add (.ref t) (.ref b)) Q E s := by
  have h1 := News.isTup N ht
  have h2 := News.isTup N hb
  by_cases hw : ws = []
  · subst hw
    refine kde_addT1 F N h1 h2 hv rfl (by show vs.length + ([] : List Value).length ≤ _; simp only [List.length_nil] at hz ⊢; omega) ?_
    exact h t [] n1 s.heap F N (fun p hp => (List.not_mem_nil hp).elim) (by rw [List.append_nil]; exact .head _)
  · exact kde_addT (zs := vs ++ ws) F N h1 h2 hv hw (by show vs.length + ws.length ≤ _; omega) rfl fun D h' F' N' l => h D [(D, _)] 0 h' F' N' (fun p hp q hq => by rw [List.mem_singleton.mp hp]; exact l q hq) (.head _)
end
/-- the longer paths made so far -/
noncomputable def CJ (base K7 : List (Addr × Obj)) (sz : Nat) (Ss : List Tm) (i : Nat) (ys : List Value) (nw : List (Addr × Obj)) : Prop :=
  ∃ tlx, nw = tlx ++ base ∧ PartsIn (tlx ++ K7) sz ys (Ss.take i) ∧ ∀ p ∈ tlx, ∀ q ∈ base, q.1 ≠ p.1
theorem CJ.zero {base K7 : List (Addr × Obj)} {sz : Nat} {Ss : List Tm} : CJ base K7 sz Ss 0 [] base := ⟨[], rfl, by rw [List.take_zero]; exact .nil, fun _ h => (List.not_mem_nil h).elim⟩
theorem CJ.next {base K7 tlx tlc : List (Addr × Obj)} {sz i n : Nat} {Ss : List Tm} {ys ps : List Value} {T : Tm} {D3 Dc D1 : Addr} {o1 : Obj} {part : Value} (h : PartsIn (tlx ++ K7) sz ys (Ss.take i)) (hf : ∀ p ∈ tlx, ∀ q ∈ base, q.1 ≠ p.1) (hT : Ss[i]? = some T)
    (hDc : (Dc, tupO ps n) ∈ tlc ++ [(D1, o1)]) (hps : ps.length ≤ sz) (hp : TmIn K7 part T) (f3 : ∀ q ∈ base, q.1 ≠ D3) (fc : ∀ q ∈ base, ∀ p ∈ tlc, q.1 ≠ p.1) (f1 : ∀ q ∈ base, q.1 ≠ D1) :
    CJ base K7 sz Ss (i + 1) (ys ++ [.ref D3]) ((D3, tupO [.ref Dc, part] 0) :: (tlc ++ (D1, o1) :: (tlx ++ base))) := by
  refine ⟨((D3, tupO [.ref Dc, part] 0) :: (tlc ++ (D1, o1) :: tlx)), by simp, ?_, fun p hp q hq => ?_⟩
  · rw [List.take_add_one, hT]
    refine PartsIn.append (.cons (n' := n) (.head _) ?_ hps (hp.mono fun p hp => .tail _ (List.mem_append_right _ hp)) .nil) (h.mono (fun p hp => ?_) (Nat.le_refl _))
    · rcases List.mem_append.mp hDc with q | q
      · exact .tail _ (List.mem_append_left _ (List.mem_append_left _ q))
      · rw [List.mem_singleton.mp q]; exact .tail _ (List.mem_append_left _ (List.mem_append_right _ (.head _)))
    · rcases List.mem_append.mp hp with q | q
      · exact .tail _ (List.mem_append_left _ (List.mem_append_right _ (.tail _ q)))
      · exact .tail _ (List.mem_append_right _ q)
  · rcases List.mem_cons.mp hp with rfl | hp
    · exact f3 q hq
    · rcases List.mem_append.mp hp with hp | hp
      · exact fc q hq p hp
      · rcases List.mem_cons.mp hp with rfl | hp
        · exact f1 q hq
        · exact hf p hp q hq
theorem free_in {prog : Program} {w : World} {A : Around} {E : Value → Shared → Prop} {s : Shared} {h₀ : Heap} {L : Addr} {news : List (Addr × Obj)} {env : Env} {x : Str} {pos : Pos} {c : Addr} {oc : Obj} {v : Value} {Q : Value → Shared → Prop} (N : News h₀ L s.heap news) (hm : (c, oc) ∈ news) (ho : oc.data = .cell (some v))
    (hk : env.scope.kind = .function) (hx : env.kindOf x = some .cell) (hc : env.cells.lookup x = some c) (hd : (x == ("__debug__" : Str)) = false) (hn : (x == ("__classdict__" : Str)) = false) (h : Q v s) :
    wpAny (model prog w) A (eval (.Name x pos) env) Q E s := wpAny_Name (wpAny_loadName_cell hk hx hc ⟨oc, (N _ hm).1, ho⟩ h) hd
theorem CJ.turn {bb : Bool} {h₀ : Heap} {L : Addr} {m : Str → Option Value} {s s' : Shared} {I C D D3 D5 D1 : Addr} {oI oC oD o1 : Obj} {base K7 tlx tl5 : List (Addr × Obj)} {sz i n : Nat} {Ss : List Tm} {ys ps : List Value} {T : Tm} {part : Value}
    (hs : Sm bb s s') (F : Fr h₀ L s'.heap m) (N : News h₀ L s'.heap ((D3, tupO [.ref D5, part] 0) :: (tl5 ++ (D1, o1) :: (I, oI) :: (C, oC) :: (D, oD) :: (tlx ++ base)))) (h : PartsIn (tlx ++ K7) sz ys (Ss.take i)) (hf : ∀ p ∈ tlx, ∀ q ∈ base, q.1 ≠ p.1) (hT : Ss[i]? = some T)
    (m5 : (D5, tupO ps n) ∈ tl5 ++ [(D1, o1)]) (hps : ps.length ≤ sz) (hp : TmIn K7 part T) (l3 : ∀ p ∈ tl5 ++ (D1, o1) :: (I, oI) :: (C, oC) :: (D, oD) :: (tlx ++ base), p.1 < D3) (l5 : ∀ p ∈ tl5, ∀ q ∈ (D1, o1) :: (I, oI) :: (C, oC) :: (D, oD) :: (tlx ++ base), q.1 < p.1)
    (l1 : I < D1 ∧ C < D1 ∧ D < D1 ∧ AllLt D1 (tlx ++ base)) (o3 : Off3 I C D (tlx ++ base)) : TurnE bb h₀ L m I oI C oC D oD (CJ base K7 sz Ss (i + 1) (ys ++ [.ref D3])) s s' := by
  have l1' := ktn_ltOf l1.2.2.2
  have o3' := o3.mem
  refine TurnE.intro hs F N ((D3, tupO [.ref D5, part] 0) :: (tl5 ++ (D1, o1) :: (tlx ++ base))) (fun p hp => ?_) (Off3.of fun p hp => ?_) (CJ.next h hf hT m5 hps hp (fun q hq => ?_) (fun q hq p hp => ?_) fun q hq => ?_)
  · simp only [List.mem_cons, List.mem_append] at hp ⊢
    rcases hp with h | h | h | h | h | h | h | h <;> simp [h]
  · rcases List.mem_cons.mp hp with rfl | hp
    · exact ⟨Nat.ne_of_gt (l3 (I, oI) (List.mem_append_right _ (.tail _ (.head _)))), Nat.ne_of_gt (l3 (C, oC) (List.mem_append_right _ (.tail _ (.tail _ (.head _))))), Nat.ne_of_gt (l3 (D, oD) (List.mem_append_right _ (.tail _ (.tail _ (.tail _ (.head _))))))⟩
    · rcases List.mem_append.mp hp with hp | hp
      · exact ⟨Nat.ne_of_gt (l5 p hp (I, oI) (.tail _ (.head _))), Nat.ne_of_gt (l5 p hp (C, oC) (.tail _ (.tail _ (.head _)))), Nat.ne_of_gt (l5 p hp (D, oD) (.tail _ (.tail _ (.tail _ (.head _)))))⟩
      · rcases List.mem_cons.mp hp with rfl | hp
        · exact ⟨Nat.ne_of_gt l1.1, Nat.ne_of_gt l1.2.1, Nat.ne_of_gt l1.2.2.1⟩
        · exact o3' p hp
  · exact Nat.ne_of_lt (l3 q (List.mem_append_right _ (.tail _ (.tail _ (.tail _ (.tail _ (List.mem_append_right _ hq)))))))
  · exact Nat.ne_of_lt (l5 p hp q (.tail _ (.tail _ (.tail _ (.tail _ (List.mem_append_right _ hq))))))
  · exact Nat.ne_of_lt (l1' q (List.mem_append_right _ hq))
theorem off1_mem {D : Addr} {l : List (Addr × Obj)} (h : Off1 D l) : ∀ p ∈ l, p.1 ≠ D := by
  induction l with
  | nil => exact fun p hp => (List.not_mem_nil hp).elim
  | cons q r ih =>
    intro p hp
    have h1 : (@Ne Nat q.1 D) := h.1
    have h2 : Off1 D r := h.2
    rcases List.mem_cons.mp hp with e | hp
    · rw [e]; exact h1
    · exact ih h2 p hp
section
variable {Fd D8 D7 S9 : Addr} {o8 o7 oF oS : Obj} {tlx tl7 tl1 rest : List (Addr × Obj)} {p2 p3 p4 : Addr × Obj}
theorem ext_off (h8 : Off1 D8 (tlx ++ (D7, o7) :: (tl7 ++ p2 :: p3 :: p4 :: (Fd, oF) :: (tl1 ++ (S9, oS) :: rest)))) (hfx : ∀ p ∈ tlx, ∀ q ∈ (D7, o7) :: (tl7 ++ p2 :: p3 :: p4 :: (Fd, oF) :: (tl1 ++ (S9, oS) :: rest)), q.1 ≠ p.1)
    (O7 : ∀ q ∈ p2 :: p3 :: p4 :: (Fd, oF) :: (tl1 ++ (S9, oS) :: rest), q.1 ≠ D7 ∧ ∀ p ∈ tl7, q.1 ≠ p.1) (off1 : ∀ p ∈ (Fd, oF) :: (tl1 ++ (S9, oS) :: rest), p.1 ≠ p2.1 ∧ p.1 ≠ p3.1 ∧ p.1 ≠ p4.1)
    (ho1 : ∀ q ∈ (S9, oS) :: rest, q.1 ≠ Fd ∧ ∀ p ∈ tl1, q.1 ≠ p.1) (ho2 : ∀ p ∈ tl1, p.1 ≠ Fd) : ∀ p ∈ (D8, o8) :: (tlx ++ (D7, o7) :: (tl7 ++ p2 :: p3 :: p4 :: (tl1 ++ (S9, oS) :: rest))), p.1 ≠ Fd := by
  have mF : (Fd, oF) ∈ p2 :: p3 :: p4 :: (Fd, oF) :: (tl1 ++ (S9, oS) :: rest) := .tail _ (.tail _ (.tail _ (.head _)))
  intro p hp
  rcases List.mem_cons.mp hp with rfl | hp
  · exact fun e => off1_mem h8 (Fd, oF) (List.mem_append_right _ (.tail _ (List.mem_append_right _ mF))) e.symm
  · rcases List.mem_append.mp hp with hp | hp
    · exact Ne.symm (hfx p hp (Fd, oF) (.tail _ (List.mem_append_right _ mF)))
    · rcases List.mem_cons.mp hp with rfl | hp
      · exact Ne.symm (O7 _ mF).1
      · rcases List.mem_append.mp hp with hp | hp
        · exact Ne.symm ((O7 _ mF).2 p hp)
        · have z := off1 _ (.head _)
          rcases List.mem_cons.mp hp with rfl | hp
          · exact Ne.symm z.1
          · rcases List.mem_cons.mp hp with rfl | hp
            · exact Ne.symm z.2.1
            · rcases List.mem_cons.mp hp with rfl | hp
              · exact Ne.symm z.2.2
              · rcases List.mem_append.mp hp with hp | hp
                · exact ho2 p hp
                · exact (ho1 p hp).1
theorem ext_off2 {oF' : Obj} (hfx : ∀ p ∈ tlx, ∀ q ∈ (D7, o7) :: (tl7 ++ p2 :: p3 :: p4 :: (Fd, oF) :: (tl1 ++ (S9, oS) :: rest)), q.1 ≠ p.1)
    (O7 : ∀ q ∈ p2 :: p3 :: p4 :: (Fd, oF) :: (tl1 ++ (S9, oS) :: rest), q.1 ≠ D7 ∧ ∀ p ∈ tl7, q.1 ≠ p.1) (off1 : ∀ p ∈ (Fd, oF) :: (tl1 ++ (S9, oS) :: rest), p.1 ≠ p2.1 ∧ p.1 ≠ p3.1 ∧ p.1 ≠ p4.1) :
    ∀ p ∈ (Fd, oF') :: (((tlx ++ tl7) ++ tl1) ++ (S9, oS) :: rest), p.1 ≠ p2.1 ∧ p.1 ≠ p3.1 ∧ p.1 ≠ p4.1 := by
  intro p hp
  rcases List.mem_cons.mp hp with rfl | hp
  · exact off1 (Fd, oF) (.head _)
  · rw [List.append_assoc, List.append_assoc] at hp
    rcases List.mem_append.mp hp with hp | hp
    · have z := hfx p hp
      exact ⟨Ne.symm (z p2 (.tail _ (List.mem_append_right _ (.head _)))), Ne.symm (z p3 (.tail _ (List.mem_append_right _ (.tail _ (.head _))))), Ne.symm (z p4 (.tail _ (List.mem_append_right _ (.tail _ (.tail _ (.head _))))))⟩
    · rcases List.mem_append.mp hp with hp | hp
      · exact ⟨Ne.symm ((O7 p2 (.head _)).2 p hp), Ne.symm ((O7 p3 (.tail _ (.head _))).2 p hp), Ne.symm ((O7 p4 (.tail _ (.tail _ (.head _)))).2 p hp)⟩
      · exact off1 p (.tail _ hp)
theorem ext_off3 {oF' : Obj} (hfx : ∀ p ∈ tlx, ∀ q ∈ (D7, o7) :: (tl7 ++ p2 :: p3 :: p4 :: (Fd, oF) :: (tl1 ++ (S9, oS) :: rest)), q.1 ≠ p.1)
    (O7 : ∀ q ∈ p2 :: p3 :: p4 :: (Fd, oF) :: (tl1 ++ (S9, oS) :: rest), q.1 ≠ D7 ∧ ∀ p ∈ tl7, q.1 ≠ p.1) : ∀ q ∈ (Fd, oF') :: (S9, oS) :: rest, ∀ p ∈ tlx ++ tl7, q.1 ≠ p.1 := by
  intro q hq p hp
  obtain ⟨q', hq', e⟩ : ∃ q' ∈ p2 :: p3 :: p4 :: (Fd, oF) :: (tl1 ++ (S9, oS) :: rest), q'.1 = q.1 := by
    rcases List.mem_cons.mp hq with rfl | hq
    · exact ⟨_, .tail _ (.tail _ (.tail _ (.head _))), rfl⟩
    · exact ⟨q, .tail _ (.tail _ (.tail _ (.tail _ (List.mem_append_right _ hq)))), rfl⟩
  rw [← e]
  rcases List.mem_append.mp hp with hp | hp
  · exact hfx p hp q' (.tail _ (List.mem_append_right _ hq'))
  · exact (O7 q' hq').2 p hp
end
theorem rows_54f : True := by
  k_with "binaryOp Add ref ref" => (k_extra "m:cat")
  k_with "m:gsub" => (first | (walk_at "m:perm"; done) | (intro p9R9 hp9R9; (simp only [List.cons_append, List.nil_append, List.append_assoc, List.mem_cons, List.mem_append] at hp9R9 ⊢); (repeat' (refine Or.elim hp9R9 ?_ ?_ <;> (clear hp9R9; intro hp9R9))); all_goals simp only [hp9R9, true_or, or_true]))
  k_with "eval Name" => (k_extra "m:free")
  trivial
theorem head_addr {h₀ h : Heap} {L : Addr} {a : Addr} {o : Obj} {r : List (Addr × Obj)} (_ : News h₀ L h ((a, o) :: r)) : ∃ x, x = a := ⟨a, rfl⟩
theorem news_rot {h₀ h : Heap} {L : Addr} {S Fd P Em c : Addr × Obj} {rest : List (Addr × Obj)} (N : News h₀ L h (S :: Fd :: P :: Em :: c :: rest)) : News h₀ L h (c :: Fd :: ([P, Em] ++ (S :: rest))) := fun p hp => by
  simp only [List.cons_append, List.nil_append, List.mem_cons] at hp
  refine N p ?_
  simp only [List.mem_cons]
  rcases hp with h | h | h | h | h | h <;> simp [h]
theorem parts_bin (w : World) (p : Program) (loose : List Str) (mean : ExcName → Option Value) (mg mb : Str → Option Value) (op : Str) (a b : Tm) (IH1 : PartsT w p loose mean mg mb a) (IH2 : PartsT w p loose mean mg mb b) : PartsT w p loose mean mg mb (.bin op a b) := by
  unfold PartsT
  k_fill
  intro dp un gd env outer A₀ base h₀ L m rest K s v Q E B F X N T hf hk hd hu hKs hT hz hret
  obtain ⟨ad, tt, uv, uv', nn, rfl, hmem, hT1, hT2⟩ := hT.bin_inv
  obtain ⟨ua, rfl⟩ := hT1.isRef
  obtain ⟨ub, rfl⟩ := hT2.isRef
  have hmem := hKs _ hmem
  have hsz : (Tm.bin op a b).size = a.size + b.size + 1 := rfl
  rw [hsz] at hd hu
  refine wpAny_call ?_
  k_dflt (walk_at "m:enter")
  walk_at "m:steps"
  rename Fr _ _ _ _ => F9
  rename News _ _ _ _ => N9
  obtain ⟨S9, hS9⟩ := head_addr N9
  subst hS9
  refine ForGo.enum (bb := false) (fun i m' nw => ∃ Fd, m' "found" = some (.ref Fd) ∧ PJ K (a.size + b.size + 1) (.bin op a b) [a, b] ((S9, tupO [.ref ua, .ref ub] 0) :: rest) Fd i nw) (by rfl) (by rfl) (by rfl) (by rfl) (by assumption) ?hoffc (by rfl) (by rfl) (by rfl) F9 (news_rot N9) (its := #[.ref ua, .ref ub]) (.inr ⟨tupO [.ref ua, .ref ub] 0, ?hmemS, rfl, 0, rfl⟩) ?h0 ?hJs ?turn ?fin
  case hoffc =>
    intro p hp
    simp only [List.cons_append, List.nil_append, List.mem_cons] at hp
    rcases hp with rfl | rfl | rfl | rfl | hp
    · exact Nat.ne_of_gt (show @LT.lt Nat _ _ _ by dsimp only; omega)
    · exact Nat.ne_of_gt (show @LT.lt Nat _ _ _ by dsimp only; omega)
    · exact Nat.ne_of_gt (show @LT.lt Nat _ _ _ by dsimp only; omega)
    · exact Nat.ne_of_gt (show @LT.lt Nat _ _ _ by dsimp only; omega)
    · exact Nat.ne_of_lt (Nat.lt_succ_of_lt ((by assumption : ∀ p ∈ rest, p.1 < _) p hp))
  case hmemS => exact .tail _ (.tail _ (.tail _ (.head _)))
  case hJs =>
    intro i m' nw hr5
    refine hide9 fun G9 h9 => ?_
    rcases hr5 with ⟨Fd, _, ys, c, tl, rfl, _⟩
    refine h9 ?_
    clear h9 G9
    exact .inr ⟨tupO [.ref ua, .ref ub] 0, .tail _ (List.mem_append_right _ (.head _)), rfl, 0, rfl⟩
  case h0 =>
    have hr : ∀ p ∈ rest, _ := (by assumption : ∀ p ∈ rest, p.1 < _)
    refine ⟨_, by walk_at "m:frame", [.ref _], 0, [(_, _), (_, _)], rfl, .cons (.head _) (.tail _ (.head _)) (Nat.zero_le _) (hT.mono fun p hp => List.mem_append_right _ hp) .nil, fun q hq => ?_, fun p hp => ?_⟩
    · rcases List.mem_cons.mp hq with rfl | hq
      · refine ⟨Nat.ne_of_gt (show @LT.lt Nat _ _ _ by dsimp only; omega), fun p hp => ?_⟩
        simp only [List.mem_cons, List.not_mem_nil, or_false] at hp
        rcases hp with rfl | rfl <;> exact Nat.ne_of_gt (show @LT.lt Nat _ _ _ by dsimp only; omega)
      · have hq1 : @LT.lt Nat _ q.1 _ := hr q hq
        refine ⟨Nat.ne_of_lt (show @LT.lt Nat _ _ _ by (try dsimp only); omega), fun p hp => ?_⟩
        simp only [List.mem_cons, List.not_mem_nil, or_false] at hp
        rcases hp with rfl | rfl <;> exact Nat.ne_of_lt (show @LT.lt Nat _ _ _ by (try dsimp only); omega)
    · simp only [List.mem_cons, List.not_mem_nil, or_false] at hp
      rcases hp with rfl | rfl <;> exact Nat.ne_of_lt (show @LT.lt Nat _ _ _ by dsimp only; omega)
  case turn =>
    intro i v tk m₁ nw I I2 oI oI2 oc' s' E' hv hr5 hs F1 hoc' N1 off1 offc
    refine hide9 fun G9 h9 => ?_
    rcases hr5 with ⟨Fd, hm1, ys1, c1, tl1, rfl, hP1, ho1, ho2⟩
    rcases hs.is with ⟨h1, tk1, rfl⟩
    refine h9 ?_
    clear h9 G9
    have hE9 : ∃ U u, [a, b][i]? = some U ∧ Value.ref u = v ∧ TmIn K (.ref u) U ∧ PartsT w p loose mean mg mb U ∧ U.size + 1 ≤ a.size + b.size + 1 := by
      rcases i with _ | _ | i
      · exact ⟨a, ua, rfl, by simpa using hv, hT1, IH1, by omega⟩
      · exact ⟨b, ub, rfl, by simpa using hv, hT2, IH2, by omega⟩
      · simp at hv
    obtain ⟨U, u, hU, rfl, hTU, IHU, hUs⟩ := hE9
    have hU15 : U.size ≤ 15 := by omega
    clear F9 N9
    k_with "m:call" => ((with_reducible show wpAny _ _ (call (Value.ref 96) _) _ _ _); refine' IHU _ _ _ _ _ _ _ _ _ _ _ K _ _ _ _ ?k1 ?k2 ?k3 ?k4 ?k5 ?kf ?kk ?kd ?ku ?s1 hTU hU15 ?_; (walk_at "m:sides"); (case s1 => exact fun p hp => .tail _ (.tail _ (.tail _ (.tail _ (List.mem_append_right _ (.tail _ (hKs p hp))))))); intro D7 vs7 n7 tl7 h7 tk7 F7 N7 O7 O7' P7; (try k_unmd); (try k_sweep); (try dsimp only); (try k_fold))
    try k_fold
    walk_at "m:steps"
    rename Fr _ _ _ _ => F9
    rename News _ _ _ _ => N9
    have hsub7 : ∀ (c9 : Addr) (tlx : List (Addr × Obj)), ∀ p ∈ tl7 ++ K, p ∈ tlx ++ (D7, W.listOf vs7.toArray n7) :: (tl7 ++ ((I, oI) :: (I2, oI2) :: (c9, oc') :: (Fd, W.listOf ys1.toArray c1) :: (tl1 ++ (S9, tupO [.ref ua, .ref ub] 0) :: rest))) := fun c9 tlx p hp => by
      rcases List.mem_append.mp hp with hp | hp
      · exact List.mem_append_right _ (.tail _ (List.mem_append_left _ hp))
      · exact List.mem_append_right _ (.tail _ (List.mem_append_right _ (.tail _ (.tail _ (.tail _ (.tail _ (List.mem_append_right _ (.tail _ (hKs _ hp)))))))))
    refine CompGo.pairs (CJ _ (tl7 ++ K) (a.size + b.size + 1) (subs U)) (by decide) (by rfl) (by rfl) (by rfl) (by decide +kernel) (by rfl) F9 N9 (.inr ⟨_, .head _, rfl, n7, rfl⟩) ?hszP CJ.zero ?hJsP ?turnP ?finP
    case hszP =>
      rw [List.size_toArray, P7.length, subs_length]
      exact Nat.le_trans hU15 (by decide)
    case hJsP =>
      intro j ys nw hr5
      refine hide9 fun G9 h9 => ?_
      rcases hr5 with ⟨tlx, rfl, hP, hf⟩
      refine h9 ?_
      clear h9 G9
      refine ⟨.inr ⟨_, List.mem_append_right _ (.head _), rfl, n7, rfl⟩, ?_⟩
      rw [hP.length]
      exact List.length_take_le _ _
    case turnP =>
      intro j v ys nw hv' hr5
      refine hide9 fun G9 h9 => ?_
      rcases hr5 with ⟨tlx, rfl, hPx, hfx⟩
      refine h9 ?_
      clear h9 G9
      refine P7.elim j v (by simpa using hv') ?_; intro ai pi part T' n1 n2 ps eP hT' m1 m2 hps hpart; subst eP
      refine ⟨ai, _, .ref pi, part, n1, rfl, hsub7 _ _ _ m1, rfl, rfl, ?_⟩
      intro I3 oI3 C3 oC3 D3 mC s3 E3 hoC hx1 hx2 hs3 F3 N3 o3 ne
      obtain ⟨h3, tk3, rfl⟩ := hs3.is
      show wpAny _ _ (eval _ _) _ _ _
      clear F9 N9
      k_with "m:free" => ((with_reducible show wpAny _ _ (eval (Expr.Name "k" _) _) _ _ _); (with_reducible rename News _ _ _ _ => kN9); k_dflt (refine' free_in kN9 (.tail _ (.tail _ (.tail _ (List.mem_append_right _ (.tail _ (List.mem_append_right _ (.tail _ (.tail _ (.head _))))))))) hoc' ?q1 ?q2 ?q3 ?q4 ?q5 ?_; (case q1 => rfl); (case q2 => rfl); (case q3 => rfl); (case q4 => decide +kernel); (case q5 => decide +kernel)))
      k_with "m:cat" => ((with_reducible rename News _ _ _ _ => kN9); refine tup_cat (by k_asm) kN9 (.head _) (.tail _ (.tail _ (.tail _ (.tail _ (hsub7 _ tlx _ m2))))) (List.cons_ne_nil _ _) (by simp only [List.length_cons, List.length_nil]; omega) ?_; intro D5 tl5 n5 h5 F5 N5 l5 m5; (try k_unmd); (try k_sweep); (try dsimp only); (try k_fold))
      try k_fold
      walk_at "m:steps"
      all_goals exact CJ.turn Sm.ht (by k_asm) (by k_asm) hPx hfx hT' m5 (by simp only [List.length_append, List.length_cons, List.length_nil]; omega) hpart (by assumption) l5 (by assumption) o3
    case finP =>
      intro D8 ys nw hr5 s8 hs8 F8 N8 o8
      refine hide9 fun G9 h9 => ?_
      rcases hr5 with ⟨tlx, rfl, hPx, hfx⟩
      rcases hs8.is with ⟨h8, tk8, rfl⟩
      refine h9 ?_
      clear h9 G9
      have hl8 : ys.length ≤ 15 := by rw [hPx.length]; exact Nat.le_trans (List.length_take_le _ _) (by rw [List.size_toArray, P7.length, subs_length]; exact hU15)
      have hl1 : ys1.length ≤ 99 := by
        rw [hP1.length]
        rcases i with _ | _ | i
        · show 1 ≤ 99; omega
        · show (_ :: ([a].flatMap subs)).length ≤ 99
          simp only [List.flatMap_cons, List.flatMap_nil, List.append_nil, List.length_cons, subs_length]; omega
        · simp at hU
      clear F9 N9
      k_with "m:extend" => (refine news_extend5 (zs := ys) (by k_asm) (by k_asm) (by rfl) (ext_off o8 hfx O7 off1 ho1 ho2) hl1 (by omega) ?_; intro h9 c9 F9 N9; (try k_unmd); (try k_sweep); (try dsimp only); (try k_fold))
      try k_fold
      walk_at "m:steps"
      have hys : PartsIn ((tlx ++ tl7) ++ K) (a.size + b.size + 1) ys (subs U) := by
        rw [List.take_of_length_le (by rw [List.size_toArray, P7.length]; exact Nat.le_refl _)] at hPx
        rw [List.append_assoc]; exact hPx
      all_goals exact ⟨rfl, _, (Fd, W.listOf (ys1 ++ ys).toArray c9) :: (((tlx ++ tl7) ++ tl1) ++ (S9, tupO [.ref ua, .ref ub] 0) :: rest), Sm.ht, by k_asm, News.sub (by k_asm) (by walk_at "m:gsub"), ext_off2 hfx O7 off1, _, by walk_at "m:frame", PJ.next hP1 hU hys ho1 ho2 (ext_off3 hfx O7)⟩
  case fin =>
    intro m' nw s' hr5 hs F1 hr6
    refine hide9 fun G9 h9 => ?_
    rcases hr5 with ⟨Fd, hm1, ys1, c1, tl1, rfl, hP1, ho1, ho2⟩
    rcases hr6 with ⟨oc', vc', hoc', N1⟩
    rcases hs.is with ⟨h1, tk1, rfl⟩
    refine h9 ?_
    clear h9 G9
    clear F9 N9
    try k_fold
    walk_at "m:steps"
    rename News h₀ L _ _ => kN9
    rename Fr h₀ L _ m => kF9
    refine hret Fd ys1 c1 tl1 _ _ kF9 (News.sub kN9 ?_) (fun q hq => ho1 q (.tail _ hq)) ho2 ?_
    · exact fun p hp => .tail _ (by
        rcases List.mem_cons.mp hp with rfl | hp
        · exact .head _
        · refine .tail _ ?_
          rcases List.mem_append.mp hp with hp | hp
          · exact List.mem_append_left _ hp
          · exact List.mem_append_right _ (.tail _ hp))
    · have e : subs (Tm.bin op a b) = Tm.bin op a b :: ([a, b].take (#[Value.ref ua, Value.ref ub] : Array Value).size).flatMap subs := by
        show _ = _ :: ([a, b].flatMap subs)
        simp [subs]
      rw [e]
      exact hP1
theorem rows_55b1 : True := by
  k_with "subscriptTail Name Slice ref ref" => ((k_here; (with_reducible show wpAny _ _ (subscriptTail _ (PySem.Expr.Slice _ _ none _) (Value.ref _) (Value.ref _)) _ _ _); (with_reducible rename TupR _ _ _ _ => tBR9); k_dflt (refine' tup_from ?FR9 ?NR9 ?lR9 ?_ ?sR9 ?tR9 ?zR9; (case FR9 => k_asm); (case NR9 => k_asm); (case lR9 => exact TupR.at tBR9 (by k_in) (by k_asm) (by walk_at "m:sub")); (case sR9 => with_unfolding_all rfl); (case tR9 => intro _; with_unfolding_all rfl); (case zR9 => exact Nat.le_of_ble_eq_true rfl)); intro D'R9 h'R9 F'R9 N'R9 l1R9; (try k_lt l1R9)))
  trivial
theorem parts_un (w : World) (p : Program) (loose : List Str) (mean : ExcName → Option Value) (mg mb : Str → Option Value) (op : Str) (a : Tm) (IH1 : PartsT w p loose mean mg mb a) : PartsT w p loose mean mg mb (.un op a) := by
  unfold PartsT
  k_fill
  intro dp un gd env outer A₀ base h₀ L m rest K s v Q E B F X N T hf hk hd hu hKs hT hz hret
  obtain ⟨ad, tt, uv, nn, rfl, hmem, hT1⟩ := hT.un_inv
  obtain ⟨ua, rfl⟩ := hT1.isRef
  have hmem := hKs _ hmem
  have hsz : (Tm.un op a).size = a.size + 1 := rfl
  rw [hsz] at hd hu
  refine wpAny_call ?_
  k_dflt (walk_at "m:enter")
  walk_at "m:steps"
  rename Fr _ _ _ _ => F9
  rename News _ _ _ _ => N9
  obtain ⟨S9, hS9⟩ := head_addr N9
  subst hS9
  refine ForGo.enum (bb := false) (fun i m' nw => ∃ Fd, m' "found" = some (.ref Fd) ∧ PJ K (a.size + 1) (.un op a) [a] ((S9, tupO [.ref ua] 0) :: rest) Fd i nw) (by rfl) (by rfl) (by rfl) (by rfl) (by assumption) ?hoffc (by rfl) (by rfl) (by rfl) F9 (news_rot N9) (its := #[.ref ua]) (.inr ⟨tupO [.ref ua] 0, ?hmemS, rfl, 0, rfl⟩) ?h0 ?hJs ?turn ?fin
  case hoffc =>
    intro p hp
    simp only [List.cons_append, List.nil_append, List.mem_cons] at hp
    rcases hp with rfl | rfl | rfl | rfl | hp
    · exact Nat.ne_of_gt (show @LT.lt Nat _ _ _ by dsimp only; omega)
    · exact Nat.ne_of_gt (show @LT.lt Nat _ _ _ by dsimp only; omega)
    · exact Nat.ne_of_gt (show @LT.lt Nat _ _ _ by dsimp only; omega)
    · exact Nat.ne_of_gt (show @LT.lt Nat _ _ _ by dsimp only; omega)
    · exact Nat.ne_of_lt (Nat.lt_succ_of_lt ((by assumption : ∀ p ∈ rest, p.1 < _) p hp))
  case hmemS => exact .tail _ (.tail _ (.tail _ (.head _)))
  case hJs =>
    intro i m' nw hr5
    refine hide9 fun G9 h9 => ?_
    rcases hr5 with ⟨Fd, _, ys, c, tl, rfl, _⟩
    refine h9 ?_
    clear h9 G9
    exact .inr ⟨tupO [.ref ua] 0, .tail _ (List.mem_append_right _ (.head _)), rfl, 0, rfl⟩
  case h0 =>
    have hr : ∀ p ∈ rest, _ := (by assumption : ∀ p ∈ rest, p.1 < _)
    refine ⟨_, by walk_at "m:frame", [.ref _], 0, [(_, _), (_, _)], rfl, .cons (.head _) (.tail _ (.head _)) (Nat.zero_le _) (hT.mono fun p hp => List.mem_append_right _ hp) .nil, fun q hq => ?_, fun p hp => ?_⟩
    · rcases List.mem_cons.mp hq with rfl | hq
      · refine ⟨Nat.ne_of_gt (show @LT.lt Nat _ _ _ by dsimp only; omega), fun p hp => ?_⟩
        simp only [List.mem_cons, List.not_mem_nil, or_false] at hp
        rcases hp with rfl | rfl <;> exact Nat.ne_of_gt (show @LT.lt Nat _ _ _ by dsimp only; omega)
      · have hq1 : @LT.lt Nat _ q.1 _ := hr q hq
        refine ⟨Nat.ne_of_lt (show @LT.lt Nat _ _ _ by (try dsimp only); omega), fun p hp => ?_⟩
        simp only [List.mem_cons, List.not_mem_nil, or_false] at hp
        rcases hp with rfl | rfl <;> exact Nat.ne_of_lt (show @LT.lt Nat _ _ _ by (try dsimp only); omega)
    · simp only [List.mem_cons, List.not_mem_nil, or_false] at hp
      rcases hp with rfl | rfl <;> exact Nat.ne_of_lt (show @LT.lt Nat _ _ _ by dsimp only; omega)
  case turn =>
    intro i v tk m₁ nw I I2 oI oI2 oc' s' E' hv hr5 hs F1 hoc' N1 off1 offc
    refine hide9 fun G9 h9 => ?_
    rcases hr5 with ⟨Fd, hm1, ys1, c1, tl1, rfl, hP1, ho1, ho2⟩
    rcases hs.is with ⟨h1, tk1, rfl⟩
    refine h9 ?_
    clear h9 G9
    have hE9 : ∃ U u, [a][i]? = some U ∧ Value.ref u = v ∧ TmIn K (.ref u) U ∧ PartsT w p loose mean mg mb U ∧ U.size + 1 ≤ a.size + 1 := by
      rcases i with _ | i
      · exact ⟨a, ua, rfl, by simpa using hv, hT1, IH1, by omega⟩
      · simp at hv
    obtain ⟨U, u, hU, rfl, hTU, IHU, hUs⟩ := hE9
    have hU15 : U.size ≤ 15 := by omega
    clear F9 N9
    k_with "m:call" => ((with_reducible show wpAny _ _ (call (Value.ref 96) _) _ _ _); refine' IHU _ _ _ _ _ _ _ _ _ _ _ K _ _ _ _ ?k1 ?k2 ?k3 ?k4 ?k5 ?kf ?kk ?kd ?ku ?s1 hTU hU15 ?_; (walk_at "m:sides"); (case s1 => exact fun p hp => .tail _ (.tail _ (.tail _ (.tail _ (List.mem_append_right _ (.tail _ (hKs p hp))))))); intro D7 vs7 n7 tl7 h7 tk7 F7 N7 O7 O7' P7; (try k_unmd); (try k_sweep); (try dsimp only); (try k_fold))
    try k_fold
    walk_at "m:steps"
    rename Fr _ _ _ _ => F9
    rename News _ _ _ _ => N9
    have hsub7 : ∀ (c9 : Addr) (tlx : List (Addr × Obj)), ∀ p ∈ tl7 ++ K, p ∈ tlx ++ (D7, W.listOf vs7.toArray n7) :: (tl7 ++ ((I, oI) :: (I2, oI2) :: (c9, oc') :: (Fd, W.listOf ys1.toArray c1) :: (tl1 ++ (S9, tupO [.ref ua] 0) :: rest))) := fun c9 tlx p hp => by
      rcases List.mem_append.mp hp with hp | hp
      · exact List.mem_append_right _ (.tail _ (List.mem_append_left _ hp))
      · exact List.mem_append_right _ (.tail _ (List.mem_append_right _ (.tail _ (.tail _ (.tail _ (.tail _ (List.mem_append_right _ (.tail _ (hKs _ hp)))))))))
    refine CompGo.pairs (CJ _ (tl7 ++ K) (a.size + 1) (subs U)) (by decide) (by rfl) (by rfl) (by rfl) (by decide +kernel) (by rfl) F9 N9 (.inr ⟨_, .head _, rfl, n7, rfl⟩) ?hszP CJ.zero ?hJsP ?turnP ?finP
    case hszP =>
      rw [List.size_toArray, P7.length, subs_length]
      exact Nat.le_trans hU15 (by decide)
    case hJsP =>
      intro j ys nw hr5
      refine hide9 fun G9 h9 => ?_
      rcases hr5 with ⟨tlx, rfl, hP, hf⟩
      refine h9 ?_
      clear h9 G9
      refine ⟨.inr ⟨_, List.mem_append_right _ (.head _), rfl, n7, rfl⟩, ?_⟩
      rw [hP.length]
      exact List.length_take_le _ _
    case turnP =>
      intro j v ys nw hv' hr5
      refine hide9 fun G9 h9 => ?_
      rcases hr5 with ⟨tlx, rfl, hPx, hfx⟩
      refine h9 ?_
      clear h9 G9
      refine P7.elim j v (by simpa using hv') ?_; intro ai pi part T' n1 n2 ps eP hT' m1 m2 hps hpart; subst eP
      refine ⟨ai, _, .ref pi, part, n1, rfl, hsub7 _ _ _ m1, rfl, rfl, ?_⟩
      intro I3 oI3 C3 oC3 D3 mC s3 E3 hoC hx1 hx2 hs3 F3 N3 o3 ne
      obtain ⟨h3, tk3, rfl⟩ := hs3.is
      show wpAny _ _ (eval _ _) _ _ _
      clear F9 N9
      k_with "m:free" => ((with_reducible show wpAny _ _ (eval (Expr.Name "k" _) _) _ _ _); (with_reducible rename News _ _ _ _ => kN9); k_dflt (refine' free_in kN9 (.tail _ (.tail _ (.tail _ (List.mem_append_right _ (.tail _ (List.mem_append_right _ (.tail _ (.tail _ (.head _))))))))) hoc' ?q1 ?q2 ?q3 ?q4 ?q5 ?_; (case q1 => rfl); (case q2 => rfl); (case q3 => rfl); (case q4 => decide +kernel); (case q5 => decide +kernel)))
      k_with "m:cat" => ((with_reducible rename News _ _ _ _ => kN9); refine tup_cat (by k_asm) kN9 (.head _) (.tail _ (.tail _ (.tail _ (.tail _ (hsub7 _ tlx _ m2))))) (List.cons_ne_nil _ _) (by simp only [List.length_cons, List.length_nil]; omega) ?_; intro D5 tl5 n5 h5 F5 N5 l5 m5; (try k_unmd); (try k_sweep); (try dsimp only); (try k_fold))
      try k_fold
      walk_at "m:steps"
      all_goals exact CJ.turn Sm.ht (by k_asm) (by k_asm) hPx hfx hT' m5 (by simp only [List.length_append, List.length_cons, List.length_nil]; omega) hpart (by assumption) l5 (by assumption) o3
    case finP =>
      intro D8 ys nw hr5 s8 hs8 F8 N8 o8
      refine hide9 fun G9 h9 => ?_
      rcases hr5 with ⟨tlx, rfl, hPx, hfx⟩
      rcases hs8.is with ⟨h8, tk8, rfl⟩
      refine h9 ?_
      clear h9 G9
      have hl8 : ys.length ≤ 15 := by rw [hPx.length]; exact Nat.le_trans (List.length_take_le _ _) (by rw [List.size_toArray, P7.length, subs_length]; exact hU15)
      have hl1 : ys1.length ≤ 99 := by
        rw [hP1.length]
        rcases i with _ | i
        · show 1 ≤ 99; omega
        · simp at hU
      clear F9 N9
      k_with "m:extend" => (refine news_extend5 (zs := ys) (by k_asm) (by k_asm) (by rfl) (ext_off o8 hfx O7 off1 ho1 ho2) hl1 (by omega) ?_; intro h9 c9 F9 N9; (try k_unmd); (try k_sweep); (try dsimp only); (try k_fold))
      try k_fold
      walk_at "m:steps"
      have hys : PartsIn ((tlx ++ tl7) ++ K) (a.size + 1) ys (subs U) := by
        rw [List.take_of_length_le (by rw [List.size_toArray, P7.length]; exact Nat.le_refl _)] at hPx
        rw [List.append_assoc]; exact hPx
      all_goals exact ⟨rfl, _, (Fd, W.listOf (ys1 ++ ys).toArray c9) :: (((tlx ++ tl7) ++ tl1) ++ (S9, tupO [.ref ua] 0) :: rest), Sm.ht, by k_asm, News.sub (by k_asm) (by walk_at "m:gsub"), ext_off2 hfx O7 off1, _, by walk_at "m:frame", PJ.next hP1 hU hys ho1 ho2 (ext_off3 hfx O7)⟩
  case fin =>
    intro m' nw s' hr5 hs F1 hr6
    refine hide9 fun G9 h9 => ?_
    rcases hr5 with ⟨Fd, hm1, ys1, c1, tl1, rfl, hP1, ho1, ho2⟩
    rcases hr6 with ⟨oc', vc', hoc', N1⟩
    rcases hs.is with ⟨h1, tk1, rfl⟩
    refine h9 ?_
    clear h9 G9
    clear F9 N9
    try k_fold
    walk_at "m:steps"
    rename News h₀ L _ _ => kN9
    rename Fr h₀ L _ m => kF9
    refine hret Fd ys1 c1 tl1 _ _ kF9 (News.sub kN9 ?_) (fun q hq => ho1 q (.tail _ hq)) ho2 ?_
    · exact fun p hp => .tail _ (by
        rcases List.mem_cons.mp hp with rfl | hp
        · exact .head _
        · refine .tail _ ?_
          rcases List.mem_append.mp hp with hp | hp
          · exact List.mem_append_left _ hp
          · exact List.mem_append_right _ (.tail _ hp))
    · have e : subs (Tm.un op a) = Tm.un op a :: ([a].take (#[Value.ref ua] : Array Value).size).flatMap subs := by
        show _ = _ :: ([a].flatMap subs)
        simp [subs]
      rw [e]
      exact hP1
theorem parts_leaf (w : World) (p : Program) (loose : List Str) (mean : ExcName → Option Value) (mg mb : Str → Option Value) (z : Str) : PartsT w p loose mean mg mb (.leaf z) := by
  unfold PartsT
  k_fill
  intro dp un gd env outer A₀ base h₀ L m rest K s v Q E B F X N T hf hk hd hu hKs hT hz hret
  have hz1 : (Tm.leaf z).size = 1 := rfl
  rw [hz1] at hd hu
  obtain ⟨ad, tt, rfl, hB0⟩ := hT.leaf_tup (w := w)
  have hB := hB0.mono hKs
  all_goals (
    refine wpAny_call ?_
    k_dflt (walk_at "m:enter")
    walk_at "m:steps"
    rename Fr _ _ _ _ => F9
    rename News _ _ _ _ => N9
    obtain ⟨S9, hS9⟩ := head_addr N9
    subst hS9
    refine ForGo.enum (bb := false) (fun i m' nw => ∃ Fd, m' "found" = some (.ref Fd) ∧ PJ K 1 (.leaf z) [] ((S9, tupO [] 0) :: rest) Fd i nw) (by rfl) (by rfl) (by rfl) (by rfl) (by assumption) ?hoffc (by rfl) (by rfl) (by rfl) F9 (news_rot N9) (its := #[]) (.inr ⟨tupO [] 0, ?hmemS, rfl, 0, rfl⟩) ?h0 ?hJs ?turn ?fin
    case hoffc =>
      intro p hp
      simp only [List.cons_append, List.nil_append, List.mem_cons] at hp
      rcases hp with rfl | rfl | rfl | rfl | hp
      · exact Nat.ne_of_gt (show @LT.lt Nat _ _ _ by dsimp only; omega)
      · exact Nat.ne_of_gt (show @LT.lt Nat _ _ _ by dsimp only; omega)
      · exact Nat.ne_of_gt (show @LT.lt Nat _ _ _ by dsimp only; omega)
      · exact Nat.ne_of_gt (show @LT.lt Nat _ _ _ by dsimp only; omega)
      · exact Nat.ne_of_lt (Nat.lt_succ_of_lt ((by assumption : ∀ p ∈ rest, p.1 < _) p hp))
    case hmemS => exact .tail _ (.tail _ (.tail _ (.head _)))
    case hJs =>
      intro i m' nw hr5
      refine hide9 fun G9 h9 => ?_
      rcases hr5 with ⟨Fd, _, ys, c, tl, rfl, _⟩
      refine h9 ?_
      clear h9 G9
      exact .inr ⟨tupO [] 0, .tail _ (List.mem_append_right _ (.head _)), rfl, 0, rfl⟩
    case h0 =>
      have hr : ∀ p ∈ rest, _ := (by assumption : ∀ p ∈ rest, p.1 < _)
      refine ⟨_, by walk_at "m:frame", [.ref _], 0, [(_, _), (_, _)], rfl, .cons (.head _) (.tail _ (.head _)) (Nat.zero_le _) (hT.mono fun p hp => List.mem_append_right _ hp) .nil, fun q hq => ?_, fun p hp => ?_⟩
      · rcases List.mem_cons.mp hq with rfl | hq
        · refine ⟨Nat.ne_of_gt (show @LT.lt Nat _ _ _ by dsimp only; omega), fun p hp => ?_⟩
          simp only [List.mem_cons, List.not_mem_nil, or_false] at hp
          rcases hp with rfl | rfl <;> exact Nat.ne_of_gt (show @LT.lt Nat _ _ _ by dsimp only; omega)
        · have hq1 : @LT.lt Nat _ q.1 _ := hr q hq
          refine ⟨Nat.ne_of_lt (show @LT.lt Nat _ _ _ by (try dsimp only); omega), fun p hp => ?_⟩
          simp only [List.mem_cons, List.not_mem_nil, or_false] at hp
          rcases hp with rfl | rfl <;> exact Nat.ne_of_lt (show @LT.lt Nat _ _ _ by (try dsimp only); omega)
      · simp only [List.mem_cons, List.not_mem_nil, or_false] at hp
        rcases hp with rfl | rfl <;> exact Nat.ne_of_lt (show @LT.lt Nat _ _ _ by dsimp only; omega)
    case turn =>
      intro i v tk m₁ nw I I2 oI oI2 oc' s' E' hv
      simp at hv
    case fin =>
      intro m' nw s' hr5 hs F1 hr6
      refine hide9 fun G9 h9 => ?_
      rcases hr5 with ⟨Fd, hm1, ys1, c1, tl1, rfl, hP1, ho1, ho2⟩
      rcases hr6 with ⟨oc', vc', hoc', N1⟩
      rcases hs.is with ⟨h1, tk1, rfl⟩
      refine h9 ?_
      clear h9 G9
      clear F9 N9
      try k_fold
      walk_at "m:steps"
      rename News h₀ L _ _ => kN9
      rename Fr h₀ L _ m => kF9
      refine hret Fd ys1 c1 tl1 _ _ kF9 (News.sub kN9 ?_) (fun q hq => ho1 q (.tail _ hq)) ho2 ?_
      · exact fun p hp => .tail _ (by
          rcases List.mem_cons.mp hp with rfl | hp
          · exact .head _
          · refine .tail _ ?_
            rcases List.mem_append.mp hp with hp | hp
            · exact List.mem_append_left _ hp
            · exact List.mem_append_right _ (.tail _ hp))
      · exact hP1)
theorem parts_tell (w : World) (p : Program) (loose : List Str) (mean : ExcName → Option Value) (mg mb : Str → Option Value) : ∀ T, PartsT w p loose mean mg mb T
  | .leaf z => parts_leaf w p loose mean mg mb z
  | .un op a => parts_un w p loose mean mg mb op a (parts_tell w p loose mean mg mb a)
  | .bin op a b => parts_bin w p loose mean mg mb op a b (parts_tell w p loose mean mg mb a) (parts_tell w p loose mean mg mb b)
noncomputable def isq : Tm → Bool
  | .leaf s => decide (s ∈ (["?a", "?b", "?c"] : List Str))
  | _ => false
noncomputable def IsVarT (w : World) (p : Program) (loose : List Str) (mean : ExcName → Option Value) (mg mb : Str → Option Value) (T : Tm) : Prop :=
  ∀ (dp un : Nat) (gd : Option (List Code)) (env : Env) (outer : List Env) (A₀ : Around) (base h₀ : Heap) (L : Addr) (m : Str → Option Value) (rest : List (Addr × Obj)) (s : Shared) (v : Value)
    (Q E : Value → Shared → Prop), Below A₀ base outer h₀ → Fr h₀ L s.heap m → (Mine.hd.heap_39 w.params).In h₀ → News h₀ L s.heap rest → Top p loose mean mg mb h₀ → env.frame = some L → env.scope.kind = .function →
    dp + 2 < recursionLimit → un + 16 < cLine → TmIn rest v T →
    (∀ h' tk', Fr h₀ L h' m → News h₀ L h' rest → Q (.bool (isq T)) { s with heap := h', toks := tk' }) →
    wpAny (model PySem.Challenge.rw_pq0039_01.prog w) (topA dp un gd env outer) (call (.ref 86) [v]) Q E s
theorem isvar_leaf (w : World) (p : Program) (loose : List Str) (mean : ExcName → Option Value) (mg mb : Str → Option Value) (z : Str) (hP : Pat (.leaf z)) : IsVarT w p loose mean mg mb (.leaf z) := by
  unfold IsVarT
  k_fill
  intro dp un gd env outer A₀ base h₀ L m rest s v Q E B F X N T hf hk hd hu hT hret
  have hz : z ∈ (["?a", "?b", "?c", "0", "1", "2", "3"] : List Str) := by cases hP; assumption
  simp only [List.mem_cons, List.not_mem_nil, or_false] at hz
  have hs9 : z.length ≤ sizeLine := by rcases hz with rfl | rfl | rfl | rfl | rfl | rfl | rfl <;> decide +kernel
  have hq : (Txt.slice z none (some 1) == "?") = isq (.leaf z) := by rcases hz with rfl | rfl | rfl | rfl | rfl | rfl | rfl <;> decide +kernel
  obtain ⟨ad, tt, rfl, hB⟩ := hT.leaf_tup (w := w)
  k_with "subscriptTail Subscript" => ((with_reducible show wpAny _ _ (subscriptTail _ (Expr.Slice none (some _) none _) _ _) _ _ _); (with_reducible rename Fr _ _ _ _ => kF9); (with_reducible rename News _ _ _ _ => kN9); k_dflt (refine slice_strN_ns (hsz := ?hsz) (s := ⟨_, _, _, _, _⟩) kF9 kN9 ?_); (case hsz => assumption); intro _ _ _ _ _)
  refine wpAny_call ?_
  k_dflt (walk_at "m:enter")
  walk_at "m:steps"
  all_goals rw [hq]
  all_goals exact hret _ _ (by k_asm) (News.sub (by k_asm) (by walk_at "m:sub"))
theorem isvar_un (w : World) (p : Program) (loose : List Str) (mean : ExcName → Option Value) (mg mb : Str → Option Value) (op : Str) (a : Tm) : IsVarT w p loose mean mg mb (.un op a) := by
  unfold IsVarT
  k_fill
  intro dp un gd env outer A₀ base h₀ L m rest s v Q E B F X N T hf hk hd hu hT hret
  obtain ⟨ad, tt, uv, nn, rfl, hmem, hT1⟩ := hT.un_inv
  refine wpAny_call ?_
  k_dflt (walk_at "m:enter")
  walk_at "m:steps"
  all_goals exact hret _ _ (by k_asm) (News.sub (by k_asm) (by walk_at "m:sub"))
theorem isvar_bin (w : World) (p : Program) (loose : List Str) (mean : ExcName → Option Value) (mg mb : Str → Option Value) (op : Str) (a b : Tm) : IsVarT w p loose mean mg mb (.bin op a b) := by
  unfold IsVarT
  k_fill
  intro dp un gd env outer A₀ base h₀ L m rest s v Q E B F X N T hf hk hd hu hT hret
  obtain ⟨ad, tt, uv, uv', nn, rfl, hmem, hT1, hT2⟩ := hT.bin_inv
  refine wpAny_call ?_
  k_dflt (walk_at "m:enter")
  walk_at "m:steps"
  all_goals exact hret _ _ (by k_asm) (News.sub (by k_asm) (by walk_at "m:sub"))
theorem isvar_tell (w : World) (p : Program) (loose : List Str) (mean : ExcName → Option Value) (mg mb : Str → Option Value) : ∀ T, Pat T → IsVarT w p loose mean mg mb T
  | .leaf z, h => isvar_leaf w p loose mean mg mb z h
  | .un op a, _ => isvar_un w p loose mean mg mb op a
  | .bin op a b, _ => isvar_bin w p loose mean mg mb op a b
noncomputable def IsVarB (w : World) (p : Program) (loose : List Str) (mean : ExcName → Option Value) (mg mb : Str → Option Value) (T : Tm) (b : Bool) : Prop :=
  ∀ (dp un : Nat) (gd : Option (List Code)) (env : Env) (outer : List Env) (A₀ : Around) (base h₀ : Heap) (L : Addr) (m : Str → Option Value) (rest : List (Addr × Obj)) (s : Shared) (v : Value)
    (Q E : Value → Shared → Prop), Below A₀ base outer h₀ → Fr h₀ L s.heap m → (Mine.hd.heap_39 w.params).In h₀ → News h₀ L s.heap rest → Top p loose mean mg mb h₀ → env.frame = some L → env.scope.kind = .function →
    dp + 2 < recursionLimit → un + 16 < cLine → TmIn rest v T →
    (∀ h' tk', Fr h₀ L h' m → News h₀ L h' rest → Q (.bool b) { s with heap := h', toks := tk' }) →
    wpAny (model PySem.Challenge.rw_pq0039_01.prog w) (topA dp un gd env outer) (call (.ref 86) [v]) Q E s
theorem isvar_at (w : World) (p : Program) (loose : List Str) (mean : ExcName → Option Value) (mg mb : Str → Option Value) {T : Tm} {b : Bool} (hP : Pat T) (hq : isq T = b) : IsVarB w p loose mean mg mb T b := by
  subst hq; exact isvar_tell w p loose mean mg mb T hP
noncomputable def lv : Tm → List Str
  | .leaf s => if s ∈ (["?a", "?b", "?c"] : List Str) then [s] else []
  | _ => []
theorem subs_lv : ∀ (T : Tm) (x : Str), (∃ U ∈ subs T, x ∈ lv U) ↔ x ∈ qv T
  | .leaf s, x => by simp only [subs, List.mem_singleton, exists_eq_left]; rfl
  | .un op a, x => by
    have ih := subs_lv a x
    have e : x ∉ lv (.un op a) := List.not_mem_nil
    simp only [subs, List.mem_cons, exists_eq_or_imp, e, false_or, qv]
    exact ih
  | .bin op a b, x => by
    have ih1 := subs_lv a x
    have ih2 := subs_lv b x
    have e : x ∉ lv (.bin op a b) := List.not_mem_nil
    simp only [subs, List.mem_cons, exists_eq_or_imp, e, false_or, qv, List.mem_append]
    rw [← ih1, ← ih2]
    constructor
    · rintro ⟨U, h | h, q⟩
      · exact .inl ⟨U, h, q⟩
      · exact .inr ⟨U, h, q⟩
    · rintro (⟨U, h, q⟩ | ⟨U, h, q⟩)
      · exact ⟨U, .inl h, q⟩
      · exact ⟨U, .inr h, q⟩
theorem subs_pat : ∀ {T : Tm}, Pat T → ∀ U ∈ subs T, Pat U
  | .leaf s, h, U, hU => by rw [List.mem_singleton.mp hU]; exact h
  | .un op a, h, U, hU => by
    rcases List.mem_cons.mp hU with rfl | hU
    · exact h
    · cases h with | un h => exact subs_pat h U hU
  | .bin op a b, h, U, hU => by
    rcases List.mem_cons.mp hU with rfl | hU
    · exact h
    · cases h with
      | bin h h' =>
        rcases List.mem_append.mp hU with hU | hU
        · exact subs_pat h U hU
        · exact subs_pat h' U hU
noncomputable def VJ (base : List (Addr × Obj)) (Ss : List Tm) (i : Nat) (ys : List Value) (nw : List (Addr × Obj)) : Prop :=
  nw = base ∧ ∃ ss, StrsAre ys ss ∧ ss.length ≤ i ∧ ∀ x, x ∈ ss ↔ ∃ U ∈ Ss.take i, x ∈ lv U
theorem VJ.zero {base : List (Addr × Obj)} {Ss : List Tm} : VJ base Ss 0 [] base := ⟨rfl, [], .nil, Nat.le_refl _, by simp⟩
theorem VJ.skip {base : List (Addr × Obj)} {Ss : List Tm} {i : Nat} {ys : List Value} {U : Tm} (h : ∃ ss, StrsAre ys ss ∧ ss.length ≤ i ∧ ∀ x, x ∈ ss ↔ ∃ U ∈ Ss.take i, x ∈ lv U) (hU : Ss[i]? = some U) (hl : lv U = []) : VJ base Ss (i + 1) ys base := by
  obtain ⟨ss, h1, h2, h3⟩ := h
  refine ⟨rfl, ss, h1, by omega, fun x => ?_⟩
  rw [h3, List.take_add_one, hU]
  simp only [Option.toList_some, List.mem_append, List.mem_singleton]
  constructor
  · rintro ⟨U', h, q⟩; exact ⟨U', .inl h, q⟩
  · rintro ⟨U', h | rfl, q⟩
    · exact ⟨U', h, q⟩
    · rw [hl] at q; exact (List.not_mem_nil q).elim
theorem VJ.snoc {base : List (Addr × Obj)} {Ss : List Tm} {i : Nat} {ys : List Value} {U : Tm} {z : Str} {t : Tok} (h : ∃ ss, StrsAre ys ss ∧ ss.length ≤ i ∧ ∀ x, x ∈ ss ↔ ∃ U ∈ Ss.take i, x ∈ lv U) (hU : Ss[i]? = some U) (hl : lv U = [z]) : VJ base Ss (i + 1) (ys ++ [.str z t]) base := by
  obtain ⟨ss, h1, h2, h3⟩ := h
  refine ⟨rfl, ss ++ [z], StrsAre_append h1 strs_one, by rw [List.length_append]; simp; omega, fun x => ?_⟩
  rw [List.mem_append, h3, List.take_add_one, hU]
  simp only [Option.toList_some, List.mem_append, List.mem_singleton]
  constructor
  · rintro (⟨U', h, q⟩ | rfl)
    · exact ⟨U', .inl h, q⟩
    · exact ⟨U, .inr rfl, by rw [hl]; exact .head _⟩
  · rintro ⟨U', h | rfl, q⟩
    · exact .inl ⟨U', h, q⟩
    · rw [hl] at q; exact .inr (List.mem_singleton.mp q)
noncomputable def VarsT (w : World) (p : Program) (loose : List Str) (mean : ExcName → Option Value) (mg mb : Str → Option Value) (T : Tm) : Prop :=
  ∀ (dp un : Nat) (gd : Option (List Code)) (env : Env) (outer : List Env) (A₀ : Around) (base h₀ : Heap) (L : Addr) (m : Str → Option Value) (rest : List (Addr × Obj)) (s : Shared) (v : Value)
    (Q E : Value → Shared → Prop), Below A₀ base outer h₀ → Fr h₀ L s.heap m → (Mine.hd.heap_39 w.params).In h₀ → News h₀ L s.heap rest → Top p loose mean mg mb h₀ → env.frame = some L → env.scope.kind = .function →
    dp + (2 * T.size + 5) < recursionLimit → un + 8 * (2 * T.size + 5) < cLine → TmIn rest v T → Pat T → T.size ≤ 15 →
    (∀ D vs ss n h' tk' dr, Fr h₀ L h' m → News h₀ L h' ((D, W.listOf (List.toArray vs) n) :: rest) → (∀ q ∈ rest, q.1 < D) → StrsAre vs ss → ss.Nodup → (∀ x, x ∈ ss ↔ x ∈ qv T) →
      Q (.ref D) { s with heap := h', toks := tk', drawn := dr }) →
    wpAny (model PySem.Challenge.rw_pq0039_01.prog w) (topA dp un gd env outer) (call (.ref 91) [v]) Q E s
theorem vars_tell (w : World) (p : Program) (loose : List Str) (mean : ExcName → Option Value) (mg mb : Str → Option Value) (T₀ : Tm) : VarsT w p loose mean mg mb T₀ := by
  unfold VarsT
  k_fill
  intro dp un gd env outer A₀ base h₀ L m rest s v Q E B F X N T hf hk hd hu hT hP hz hret
  obtain ⟨ad, rfl⟩ := hT.isRef
  refine wpAny_call ?_
  k_dflt (walk_at "m:enter")
  k_with "m:call" => ((with_reducible show wpAny _ _ (call (Value.ref 96) _) _ _ _); refine' parts_tell _ _ _ _ _ _ T₀ _ _ _ _ _ _ _ _ _ _ _ rest _ _ _ _ ?k1 ?k2 ?k3 ?k4 ?k5 ?kf ?kk ?kd ?ku (fun _ h => h) hT hz ?_; (walk_at "m:sides"); intro D7 vs7 n7 tl7 h7 tk7 F7 N7 O7 O7' P7; (try k_unmd); (try k_sweep); (try dsimp only); (try k_fold))
  walk_at "m:steps"
  rename Fr _ _ _ _ => F9
  rename News _ _ _ _ => N9
  have hlen7 : vs7.length = T₀.size := by rw [P7.length, subs_length]
  refine CompGo.pairs (VJ _ (subs T₀)) (by decide) (by rfl) (by rfl) (by rfl) (by decide +kernel) (by rfl) F9 N9 (.inr ⟨_, .head _, rfl, n7, rfl⟩) ?hszP VJ.zero ?hJsP ?turnP ?finP
  case hszP =>
    rw [List.size_toArray, hlen7]
    exact Nat.le_trans hz (by decide)
  case hJsP =>
    intro j ys nw hr5
    refine hide9 fun G9 h9 => ?_
    rcases hr5 with ⟨rfl, ss, h1, h2, h3⟩
    refine h9 ?_
    clear h9 G9
    exact ⟨.inr ⟨_, .head _, rfl, n7, rfl⟩, by rw [StrsAre_length h1]; exact h2⟩
  case turnP =>
    intro j v ys nw hv' hr5
    refine hide9 fun G9 h9 => ?_
    rcases hr5 with ⟨rfl, hJ⟩
    refine h9 ?_
    clear h9 G9
    refine P7.elim j v (by simpa using hv') ?_; intro ai pi part T' n1 n2 ps eP hT' m1 m2 hps hpart; subst eP
    have hpat : Pat T' := subs_pat hP T' (List.mem_of_getElem? hT')
    by_cases hq : isq T' = true
    · obtain ⟨z, rfl, hzl⟩ : ∃ z, T' = .leaf z ∧ lv (.leaf z) = [z] := by
        cases T' with
        | leaf z => exact ⟨z, rfl, by unfold lv; exact if_pos (of_decide_eq_true hq)⟩
        | un _ _ => cases hq
        | bin _ _ _ => cases hq
      obtain ⟨ap, tp, rfl, hB⟩ := hpart.leaf_tup (w := w)
      refine ⟨ai, _, .ref pi, _, n1, rfl, .tail _ m1, rfl, rfl, ?_⟩
      intro I3 oI3 C3 oC3 D3 mC s3 E3 hoC hx1 hx2 hs3 F3 N3 o3 ne
      obtain ⟨h3, tk3, rfl⟩ := hs3.is
      show wpAny _ _ (isTrue _ _ _) _ _ _
      clear F9 N9
      k_with "m:call" => ((with_reducible show wpAny _ _ (call (Value.ref 86) _) _ _ _); refine' isvar_at _ _ _ _ _ _ hpat hq _ _ _ _ _ _ _ _ _ _ _ _ _ _ _ ?k1 ?k2 ?k3 ?k4 ?k5 ?kf ?kk ?kd ?ku (hpart.mono ?s1) ?_; (walk_at "m:sides"); (case s1 => exact fun p hp => .tail _ (.tail _ (.tail _ (.tail _ hp)))); intro h7 tk7 F7 N7; (try k_unmd); (try k_sweep); (try dsimp only); (try k_fold))
      try k_fold
      walk_at "m:steps"
      all_goals exact TurnE.intro Sm.ht (by k_asm) (by k_asm) _ (fun _ h => h) o3 (VJ.snoc hJ hT' hzl)
    · have hq : isq T' = false := by simpa using hq
      have hl0 : lv T' = [] := by
        cases T' with
        | leaf z => unfold lv; exact if_neg (of_decide_eq_false hq)
        | un _ _ => rfl
        | bin _ _ _ => rfl
      refine ⟨ai, _, .ref pi, part, n1, rfl, .tail _ m1, rfl, rfl, ?_⟩
      intro I3 oI3 C3 oC3 D3 mC s3 E3 hoC hx1 hx2 hs3 F3 N3 o3 ne
      obtain ⟨h3, tk3, rfl⟩ := hs3.is
      show wpAny _ _ (isTrue _ _ _) _ _ _
      clear F9 N9
      k_with "m:call" => ((with_reducible show wpAny _ _ (call (Value.ref 86) _) _ _ _); refine' isvar_at _ _ _ _ _ _ hpat hq _ _ _ _ _ _ _ _ _ _ _ _ _ _ _ ?k1 ?k2 ?k3 ?k4 ?k5 ?kf ?kk ?kd ?ku (hpart.mono ?s1) ?_; (walk_at "m:sides"); (case s1 => exact fun p hp => .tail _ (.tail _ (.tail _ (.tail _ hp)))); intro h7 tk7 F7 N7; (try k_unmd); (try k_sweep); (try dsimp only); (try k_fold))
      try k_fold
      walk_at "m:steps"
      all_goals exact TurnE.intro Sm.ht (by k_asm) (by k_asm) _ (fun _ h => h) o3 (VJ.skip hJ hT' hl0)
  case finP =>
    intro D8 ys nw hr5 s8 hs8 F8 N8 o8
    refine hide9 fun G9 h9 => ?_
    rcases hr5 with ⟨rfl, ss, h1, h2, h3⟩
    rcases hs8.is with ⟨h8, tk8, rfl⟩
    refine h9 ?_
    clear h9 G9
    clear F9 N9
    have hss : ss.length ≤ 15 := Nat.le_trans h2 (by rw [List.size_toArray, hlen7]; exact hz)
    k_with "m:set" => (refine set_new_N (by rfl) (by k_asm) (by k_asm) (by k_mem) (by rfl) (by rfl) h1 (by omega) ?_; intro D7 o7 zs7 h7 tk7 F7 N7 O7 so7 nd7 ln7 mm7; (try k_unmd); (try k_sweep); (try dsimp only); (try k_fold))
    k_with "m:sorted" => (refine sorted_set_NN (by rfl) (by k_asm) (by k_asm) (by k_mem) so7 (by omega) ?_; intro h8 tk8 dr8 D8 vs8 ss8 e8 F8 N8 O8 st8 pm8 sd8; (try k_unmd); (try k_sweep); (try dsimp only); (try k_fold))
    try k_fold
    walk_at "m:steps"
    rename News h₀ L _ _ => kN9
    rename Fr h₀ L _ m => kF9
    refine hret D8 vs8 ss8 e8 _ _ _ kF9 (News.sub kN9 ?_) (fun q hq => ?_) st8 ((pm8.nodup_iff).mpr nd7) (fun x => ?_)
    · intro q hq
      rcases List.mem_cons.mp hq with rfl | hq
      · exact .head _
      · exact .tail _ (.tail _ (.tail _ (.tail _ (List.mem_append_right _ hq))))
    · exact O8 q (.tail _ (.tail _ (.tail _ (List.mem_append_right _ hq))))
    · rw [pm8.mem_iff, mm7, h3, List.take_of_length_le (by rw [List.size_toArray, hlen7, subs_length]; exact Nat.le_refl _)]
      exact subs_lv T₀ x
section
variable {prog : Program} {w : World} {A : Around} {E : Value → Shared → Prop} {s : Shared} {h₀ : Heap} {L : Addr} {m : Str → Option Value} {env : Env}
theorem CompGo.lst {bb : Bool} {elt iter : Expr} {x : Str} {px : Pos} {ifs : List Expr} {scope : Scope} {cl : List (Str × Addr)} {pos : Pos} {End : Shared → Addr → List Value → List (Addr × Obj) → Prop} {s₁ : Shared} {news : List (Addr × Obj)} {ax : Addr} {its : Array Value}
    (J : Nat → List Value → List (Addr × Obj) → Prop)
    (hcell : ∀ y ∈ scope.names, y.2 ≠ .cell) (hkind : scope.kind = .function) (hx : scope.names.lookup x = some .local) (hh : A.handled = none)
    (F : Fr h₀ L s₁.heap m) (N : News h₀ L s₁.heap news) (hsrc : SrcT "list" h₀ ax its news) (hsz : its.size ≤ sizeLine) (h0 : J 0 [] news)
    (hJs : ∀ i ys nw, J i ys nw → SrcT "list" h₀ ax its nw ∧ ys.length ≤ i)
    (turn : ∀ i v ys nw I oI C oC D mC s' (E' : Value → Shared → Prop), its[i]? = some v → J i ys nw → NsObj oC mC → mC x = some v → Sm bb s₁ s' → Fr h₀ L s'.heap m → News h₀ L s'.heap ((I, oI) :: (C, oC) :: (D, lst ys) :: nw) → Off3 I C D nw → ((@Ne Nat I C) ∧ (@Ne Nat I D) ∧ (@Ne Nat C D)) →
      TurnT prog w A (compEnvC scope cl C env) ifs elt (fun y s'' => TurnE bb h₀ L m I oI C oC D (lst ys) (J (i + 1) (ys ++ [y])) s' s'') (fun s'' => TurnE bb h₀ L m I oI C oC D (lst ys) (J (i + 1) ys) s' s'') E' s')
    (fin : ∀ D ys nw, J its.size ys nw → End s₁ D ys nw) :
    CompGo prog w A bb h₀ L m env elt (.Name x px) iter ifs scope cl pos E End (.ref ax) s₁ := by
  intro RR hRR
  have hls : s₁.heap.IsList ax its := hsrc.at F.keep N
  have hlt : ax < s₁.heap.objs.size := by obtain ⟨o, ho, _⟩ := hls; exact Heap.lt_size ho
  refine wpAny_pyIter_list hls ?_
  refine comp_loop (bb := bb) (Bd := fun v m' => m' x = some v) J (Walks.list hh s₁.heap.objs.size ax (Nat.ne_of_lt hlt) its) hsz (fun i h st => let ⟨o, ho, _⟩ := st.1; ⟨o, ho⟩)
    (fun i h h' o nw ys st e e' k N' j => ⟨let ⟨o', ho', r⟩ := st.1; ⟨o', by rw [e] at ho'; cases ho'; exact e', r⟩, (hJs _ _ _ j).1.at k N'⟩) (fun i ys nw j => (hJs _ _ _ j).2) (fun v => rfl) hcell hkind
    ⟨⟨_, Heap.get?_push_size _ rfl, rfl, rfl⟩, hls.push _⟩ (fun b hb => ?_)
    (F.keeps fun _ _ e => Heap.get?_push_of_some _ e) (N.grown fun _ _ e => Heap.get?_push_of_some _ e) (Nat.ne_of_lt F.ns.lt) (next_is_new F) (fun p hp => Nat.ne_of_lt (Heap.lt_size (N p hp).1)) h0
    (fun i v ys nw C mC s' Q' E' _ _ hn _ _ _ _ _ k => asg_name hkind hx hn k)
    (fun i v ys nw oI C oC D mC s' E' hi hP j hoC hB hsm F' N' o3 ne => turn i v ys nw _ oI C oC D mC s' E' hP j hoC hB (Sm.trans ⟨_, s₁.toks, s₁.drawn, fun _ => rfl, rfl⟩ hsm) F' N' o3 ne)
    (fun D C m' ys nw s' j hsm F' N' o1 hn hC₀ hD₀ hCL hDL hCD offC => hRR D C m' ys nw s' (fin D ys nw j) (Sm.trans ⟨_, s₁.toks, s₁.drawn, fun _ => rfl, rfl⟩ hsm) F' N' o1 hn hC₀ hD₀ hCL hDL hCD offC)
  show b < (s₁.heap.push _).objs.size
  rw [Heap.size_push]
  rcases List.mem_cons.mp hb with rfl | hb
  · exact Nat.lt_succ_self _
  · rw [List.mem_singleton.mp hb]; exact Nat.lt_succ_of_lt hlt
end
theorem store_cell1 {M : Model} {A : Around} {E : Value → Shared → Prop} {s : Shared} {h₀ : Heap} {L : Addr} {m : Str → Option Value} {env : Env} {x : Str} {c : Addr} {oc : Obj} {v₀ : Option Value} {v : Value} {p1 : Addr × Obj} {post : List (Addr × Obj)} {Q : Unit → Shared → Prop}
    (F : Fr h₀ L s.heap m) (N : News h₀ L s.heap (p1 :: (c, oc) :: post)) (hd : oc.data = .cell v₀) (hk : env.scope.kind = .function) (hx : env.kindOf x = some .cell) (hc : env.cells.lookup x = some c) (o1 : c < p1.1) (off : ∀ p ∈ post, p.1 < c)
    (h : ∀ h' oc', Fr h₀ L h' m → News h₀ L h' (p1 :: (c, oc') :: post) → oc'.data = .cell (some v) → Q () { s with heap := h' }) : wpAny M A (storeName env x v) Q E s := by
  have z := N (c, oc) (.tail _ (.head _))
  refine wpAny_storeName_cell hk hx hc ⟨oc, z.1, hd⟩ fun h' hcell hs => ?_
  obtain ⟨oc', e', d'⟩ := hcell
  have keep : ∀ b o, b ≠ c → s.heap.get? b = some o → h'.get? b = some o := fun b o hb e => hs.extBut b o hb e
  refine h h' oc' ⟨F.ns.at' fun o e => keep _ o (Ne.symm z.2.1) e, fun b o e => keep b o (fun q => by have q' : b = c := q; rw [q', z.2.2] at e; cases e) (F.keep b o e), F.above⟩ (fun p hp => ?_) d'
  rcases List.mem_cons.mp hp with rfl | hp
  · have y := N _ (.head _)
    exact ⟨keep _ _ (Nat.ne_of_gt o1) y.1, y.2⟩
  · rcases List.mem_cons.mp hp with rfl | hp
    · exact ⟨e', z.2⟩
    · have y := N p (.tail _ (.tail _ hp))
      exact ⟨keep _ _ (Nat.ne_of_lt (off p hp)) y.1, y.2⟩
/-- a list of few strs, each of S -/
noncomputable def StrsIn (S : List Str) (k : Nat) (vs : List Value) : Prop := vs.length ≤ k ∧ ∀ v ∈ vs, ∃ z t, v = .str z t ∧ z ∈ S
theorem StrsIn.of {vs : List Value} {ss S : List Str} {T : Tm} (st : StrsAre vs ss) (nd : ss.Nodup) (mm : ∀ x, x ∈ ss ↔ x ∈ qv T) (hsub : ∀ x ∈ qv T, x ∈ S) : StrsIn S 3 vs := by
  refine ⟨by rw [StrsAre_length st]; exact names_len nd mm, fun v hv => ?_⟩
  have mem : ∀ {vs : List Value} {ss : List Str}, StrsAre vs ss → ∀ v ∈ vs, ∃ z t, v = .str z t ∧ z ∈ ss := by
    intro vs ss h
    induction h with
    | nil => exact fun v hv => (List.not_mem_nil hv).elim
    | cons x t _ ih =>
      intro v hv
      rcases List.mem_cons.mp hv with rfl | hv
      · exact ⟨_, _, rfl, .head _⟩
      · obtain ⟨z, t', e, hz⟩ := ih v hv
        exact ⟨z, t', e, .tail _ hz⟩
  obtain ⟨z, t, e, hz⟩ := mem st v hv
  exact ⟨z, t, e, hsub z ((mm z).mp hz)⟩
section
variable {prog : Program} {w : World} {A : Around} {E : Value → Shared → Prop} {s : Shared} {h₀ : Heap} {L : Addr} {m : Str → Option Value} {news : List (Addr × Obj)}
theorem strs_cat {a b : Addr} {vs ws : List Value} {n1 n2 : Nat} {S : List Str} {Q : Value → Shared → Prop} (F : Fr h₀ L s.heap m) (N : News h₀ L s.heap news) (ha : (a, W.listOf vs.toArray n1) ∈ news) (hb : (b, W.listOf ws.toArray n2) ∈ news) (hA : StrsIn S 3 vs) (hB : StrsIn S 3 ws)
    (h : ∀ D us h', Fr h₀ L h' m → News h₀ L h' ((D, W.listOf (List.toArray us) 0) :: news) → (∀ p ∈ news, p.1 < D) → StrsIn S 6 us → Q (.ref D) { s with heap := h' }) : wpAny (model prog w) A (binaryOp .Add (.ref a) (.ref b)) Q E s := by
  refine kmk_add_lit (zs := vs ++ ws) F N (News.isList N ha) (News.isList N hb) rfl (fun D h' F' N' l => h D _ h' F' N' l ⟨?_, fun v hv => ?_⟩) ?_
  · have := hA.1; have := hB.1; rw [List.length_append]; omega
  · rcases List.mem_append.mp hv with hv | hv
    · exact hA.2 v hv
    · exact hB.2 v hv
  · exact Nat.le_trans (Nat.add_le_add hA.1 hB.1) (by decide)
theorem notin_known {l : Addr} {vs : List Value} {n : Nat} {ys : List Str} {z : Str} {t : Tok} {Q : Value → Shared → Prop} (N : News h₀ L s.heap news) (hl : (l, W.listOf vs.toArray n) ∈ news) (hi : StrsAre vs ys) (hz : z ∈ ys) (h : Q (.bool false) s) :
    wpAny (model prog w) A (compareOp .NotIn (.str z t) (.ref l)) Q E s := by
  refine notin_list_strs (News.isList N hl) hi ?_
  have e : ys.any (· == z) = true := List.any_eq_true.mpr ⟨z, hz, beq_self_eq_true z⟩
  rw [e]; exact h
end
theorem rows_57c : True := by
  k_with "call ref" => ((k_here; k_dflt (refine' call_cls ?k1R9 ?k2R9 ?k3R9 ?k4R9 ?k5R9 ?k6R9 ?_; (case k1R9 => k_asm); (case k2R9 => k_asm); (case k3R9 => k_asm); (case k4R9 => k_is); (case k5R9 => k_is); (case k6R9 => k_is); k_whole; intro x'R9 d'R9 h'R9 F'R9 N'R9 l1R9 l2R9; (try k_lt l1R9); (try k_lt2 l2R9); (try k_sweep)); k_dflt (walk_at "m:enter")))
  k_with "call ref" => (k_extra "m:call")
  k_with "compareOp NotIn str ref" => (k_extra "m:notin")
  k_with "m:units0" => (((with_reducible rename @LT.lt Nat _ _ cLine => hu9R9); (have hu8R9 := hu9R9); (simp only [cLine_is] at hu8R9); (try simp only [units_in1, units_deeper, units_under_make, Around.mark_units, units_caller]); (simp only [cLine_is]); omega))
  k_with "storeName" => (k_extra "m:store")
  k_with "exec For Tuple Name cons nil" => ((k_here; k_dflt (refine For_go ?_)))
  k_with "exec Assign cons ListComp" => ((k_here; k_dflt (refine Assign_go false (F₀ := by k_asm) (by rfl) (by with_unfolding_all rfl) (closure_of (by rfl)) (by rfl) (by decide) (by rfl) (by rfl) ?_)))
  k_with "call type:tuple" => (k_extra "m:tuple")
  trivial
section
variable {prog : Program} {w : World} {A : Around} {E : Value → Shared → Prop} {s : Shared} {h₀ : Heap} {L : Addr} {m : Str → Option Value} {env : Env}
/-- for a, b, c in a list of triples of the ledger -/
theorem ForGo.trip {bb : Bool} {x y z : Str} {px py pz tp : Pos} {k : Nat} {body : List Stmt} {Q : Flow → Shared → Prop} {s₁ : Shared} {ax : Addr} {its : Array Value} {news : List (Addr × Obj)}
    (J : Nat → (Str → Option Value) → List (Addr × Obj) → Prop) (hLe : env.locals = L) (hx : env.kindOf x = some .local) (hy : env.kindOf y = some .local) (hz : env.kindOf z = some .local) (hp : (env.scope.kind == .class || (env.scope.kind == .module && env.locals != env.globals)) = false) (hh : A.handled = none)
    (F : Fr h₀ L s₁.heap m) (N : News h₀ L s₁.heap news) (src : SrcT "list" h₀ ax its news) (h0 : J 0 m news) (hJs : ∀ i m nw, J i m nw → SrcT "list" h₀ ax its nw)
    (turn : ∀ i v m₁ nw, its[i]? = some v → J i m₁ nw → ∃ a v1 v2 v3 n, v = .ref a ∧ (a, tupO [v1, v2, v3] n) ∈ nw ∧ ∀ I oI s' (E' : Value → Shared → Prop), Sm bb s₁ s' →
      Fr h₀ L s'.heap (fun q => if q = z then some v3 else if q = y then some v2 else if q = x then some v1 else m₁ q) → News h₀ L s'.heap ((I, oI) :: nw) → (∀ p ∈ nw, p.1 ≠ I) → (∀ p ∈ news, p.1 < I) →
      wpAny (model prog w) A (execs body env) (ForE bb h₀ L I oI (J (i + 1)) s') E' s')
    (fin : ∀ m' nw s', J its.size m' nw → Sm bb s₁ s' → Fr h₀ L s'.heap m' → News h₀ L s'.heap nw → Q .next s') :
    ForGo prog w A env (.Tuple [.Name x px, .Name y py, .Name z pz] k tp) body Q E (.ref ax) s₁ := by
  have hls : s₁.heap.IsList ax its := src.at F.keep N
  have hlt : ax < s₁.heap.objs.size := by obtain ⟨o, ho, _⟩ := hls; exact Heap.lt_size ho
  refine wpAny_pyIter_list hls ?_
  have hLlt : L < s₁.heap.objs.size := F.ns.lt
  have haxL : L ≠ ax := fun e => by
    rcases src with ⟨o, ho, _⟩ | ⟨o, ho, _⟩
    · have := Heap.lt_size ho
      exact absurd (e ▸ this) (Nat.not_lt.mpr F.above)
    · exact (N _ ho).2.1 e.symm
  have W := Walks.list (prog := prog) (w := w) (A := A) hh s₁.heap.objs.size ax (Nat.ne_of_lt hlt) its
  generalize hI : s₁.heap.objs.size = I at W hlt hLlt
  have hIL : L ≠ I := Nat.ne_of_lt hLlt
  have hI₀ : h₀.get? I = none := hI ▸ next_is_new F
  have ltI : ∀ p ∈ news, p.1 < I := fun p hp => hI ▸ Heap.lt_size (N p hp).1
  have hLf : L ∉ [I, ax] := fun hm => by
    rcases List.mem_cons.mp hm with e | hm
    · exact hIL e
    · exact haxL (List.mem_singleton.mp hm)
  refine codeAny_forLoop_any (fun q s' => ∃ i m' nw, Sm bb s₁ s' ∧ i ≤ its.size ∧ q = its.size + 1 - i ∧ (s'.heap.IsListIter I ax i ∧ s'.heap.IsList ax its) ∧ Fr h₀ L s'.heap m' ∧ News h₀ L s'.heap nw ∧ (∀ p ∈ nw, p.1 ≠ I) ∧ J i m' nw) ?_ (its.size + 1)
    ⟨0, m, news, ⟨_, s₁.toks, s₁.drawn, fun _ => rfl, rfl⟩, Nat.zero_le _, rfl, ⟨⟨_, hI ▸ Heap.get?_push_size _ rfl, rfl, rfl⟩, hls.push _⟩, F.keeps fun _ _ e => Heap.get?_push_of_some _ e, N.grown fun _ _ e => Heap.get?_push_of_some _ e, fun p hp => Nat.ne_of_lt (ltI p hp), h0⟩
  intro q s' hr5
  refine hide9 fun G9 h9 => ?_
  rcases hr5 with ⟨i, m', nw, hsm, hi, rfl, hst', F', N', off', hJ⟩
  refine h9 ?_
  clear h9 G9
  by_cases hlti : i < its.size
  · refine W.item i _ _ _ hlti hst' fun v h₂ tk₂ hPv hst₂ hk₂ => ?_
    obtain ⟨a, v1, v2, v3, n, rfl, hma, go⟩ := turn i v m' nw hPv hJ
    have N₂ : News h₀ L h₂ nw := news_but N' hk₂ off'
    have F₂ : Fr h₀ L h₂ m' := fr_but F' hk₂ hIL hI₀
    refine wpAny_letOwnedTupleGo_listiter hst₂.1 ?_
    subst hLe
    have hT : h₂.IsTuple a #[v1, v2, v3] := ⟨_, (N₂ _ hma).1, rfl, n, rfl⟩
    refine wpAny_assign_Tuple hh hT rfl rfl fun h₃' he₃ => ?_
    have hup : ∀ b o, h₂.get? b = some o → h₃'.get? b = some o := fun b o e => he₃ b o (Nat.ne_of_lt (Heap.lt_size e)) e
    show wpAny _ _ (assignInOrder [assign (.Name x px) env, assign (.Name y py) env, assign (.Name z pz) env] [v1, v2, v3]) _ _ _
    refine assignInOrder_cons (wpAny_assign_Name (wpAny_storeName_local hx (F₂.ns.at' fun o e => hup _ _ e) (fun h₅ hns₅ hs₅ => ?_) hp))
    refine assignInOrder_cons (wpAny_assign_Name (wpAny_storeName_local hy hns₅ (fun h₆ hns₆ hs₆ => ?_) hp))
    refine assignInOrder_cons (wpAny_assign_Name (wpAny_storeName_local hz hns₆ (fun h₇ hns₇ hs₇ => ?_) hp))
    refine assignInOrder_nil ?_
    have hk₄ : ∀ b o, b ≠ env.locals → h₂.get? b = some o → h₇.get? b = some o := fun b o b1 e => hs₇.extBut _ _ b1 (hs₆.extBut _ _ b1 (hs₅.extBut _ _ b1 (hup _ _ e)))
    have F₄ : Fr h₀ env.locals h₇ (fun q => if q = z then some v3 else if q = y then some v2 else if q = x then some v1 else m' q) := ⟨hns₇, fun b o e => hk₄ b o (fun q => by
      have q' : b = env.locals := q
      rw [q'] at e
      exact absurd (Heap.lt_size e) (Nat.not_lt.mpr F₂.above)) (F₂.keep b o e), F₂.above⟩
    obtain ⟨oI, heI, rI⟩ := hst₂.1
    have N₄ : News h₀ env.locals h₇ ((I, oI) :: nw) := fun p hp => by
      rcases List.mem_cons.mp hp with rfl | hp
      · exact ⟨hk₄ _ _ (Ne.symm hIL) heI, Ne.symm hIL, hI₀⟩
      · exact ⟨hk₄ _ _ (N₂ p hp).2.1 (N₂ p hp).1, (N₂ p hp).2⟩
    refine wpAny_mono (go I oI _ _ (hsm.trans Sm.ht) F₄ N₄ off' ltI) (fun f s₅ h₅ => ?_) fun _ _ e => e
    obtain ⟨rfl, m₅, nw₅, hsm₅, F₅, N₅, off₅, J₅⟩ := h₅
    have N₅' : News h₀ env.locals s₅.heap nw₅ := fun p hp => N₅ p (.tail _ hp)
    exact ⟨its.size + 1 - (i + 1), by omega, i + 1, m₅, nw₅, (hsm.trans Sm.ht).trans hsm₅, hlti, rfl, ⟨⟨oI, (N₅ _ (.head _)).1, rI⟩, (hJs _ _ _ J₅).at F₅.keep N₅'⟩, F₅, N₅', off₅, J₅⟩
  · obtain rfl : i = its.size := Nat.le_antisymm hi (Nat.not_lt.mp hlti)
    refine W.done _ _ _ hst' fun h₁ tk₁ hk₁ => wpAny_execs_nil ?_
    exact fin m' nw _ hJ (hsm.trans Sm.ht) (fr_but F' hk₁ hIL hI₀) (news_but N' hk₁ off')
end
theorem drop6 {h₀ h : Heap} {L : Addr} {a b c d e f : Addr × Obj} {r : List (Addr × Obj)} (N : News h₀ L h (a :: b :: c :: d :: e :: f :: r)) : News h₀ L h r := fun p hp => N p (.tail _ (.tail _ (.tail _ (.tail _ (.tail _ (.tail _ hp))))))
noncomputable abbrev ruleD (h1 h2 h3 h4 : Int) (t1 t2 t3 t4 : Tok) (nm l r nd : Value) (k : Nat) : Obj := dictOf [⟨h1, .str "name" t1, nm⟩, ⟨h2, .str "left" t2, l⟩, ⟨h3, .str "right" t3, r⟩, ⟨h4, .str "needs" t4, nd⟩] k
noncomputable def RuleT (w : World) (p : Program) (loose : List Str) (mean : ExcName → Option Value) (mg mb : Str → Option Value) (T U : Tm) : Prop :=
  ∀ (dp un : Nat) (gd : Option (List Code)) (env : Env) (outer : List Env) (A₀ : Around) (base h₀ : Heap) (L : Addr) (m : Str → Option Value) (rest : List (Addr × Obj)) (s : Shared) (nm : Str) (tn : Tok) (l r : Value) (e : Addr)
    (Q E : Value → Shared → Prop), Below A₀ base outer h₀ → Fr h₀ L s.heap m → (Mine.hd.heap_39 w.params).In h₀ → News h₀ L s.heap rest → Top p loose mean mg mb h₀ → env.frame = some L → env.scope.kind = .function →
    dp + 50 < recursionLimit → un + 400 < cLine → TmIn rest l T → TmIn rest r U → (e, tupO [] 0) ∈ rest →
    (∀ R rd h1 h2 h3 h4 t1 t2 t3 t4 nd k h' tk' dr, Fr h₀ L h' m → News h₀ L h' ((R, instObj 118 rd) :: (rd, ruleD h1 h2 h3 h4 t1 t2 t3 t4 (.str nm tn) l r nd k) :: rest) → (∀ q ∈ rest, q.1 < rd) → rd < R →
      Q (.ref R) { s with heap := h', toks := tk', drawn := dr }) →
    wpAny (model PySem.Challenge.rw_pq0039_01.prog w) (topA dp un gd env outer) (call (.ref 118) [.str nm tn, l, r, .ref e]) Q E s
theorem rule_tell (w : World) (p : Program) (loose : List Str) (mean : ExcName → Option Value) (mg mb : Str → Option Value) (T₀ U₀ : Tm) (hPT : Pat T₀) (hPU : Pat U₀) (hq0 : isq T₀ = false) (hsub : ∀ x ∈ qv U₀, x ∈ qv T₀) (hzT : T₀.size ≤ 15) (hzU : U₀.size ≤ 15) : RuleT w p loose mean mg mb T₀ U₀ := by
  unfold RuleT
  k_fill
  intro dp un gd env outer A₀ base h₀ L m rest s nm tn l r e Q E B F X N T hf hk hd hu hTl hTr hme hret
  obtain ⟨al, rfl⟩ := hTl.isRef
  obtain ⟨ar, rfl⟩ := hTr.isRef
  k_with "m:call" => ((with_reducible show wpAny _ _ (call (Value.ref 86) _) _ _ _); refine' isvar_at _ _ _ _ _ _ hPT hq0 _ _ _ _ _ _ _ _ _ _ _ _ _ _ _ ?k1 ?k2 ?k3 ?k4 ?k5 ?kf ?kk ?kd ?ku (hTl.mono ?s1) ?_; (walk_at "m:sides"); (case s1 => walk_at "m:gsub"); intro h7 tk7 F7 N7; (try k_unmd); (try k_sweep); (try dsimp only); (try k_fold))
  k_with "m:call" => ((with_reducible show wpAny _ _ (call (Value.ref 91) [Value.ref al]) _ _ _); refine' vars_tell _ _ _ _ _ _ T₀ _ _ _ _ _ _ _ _ _ _ _ _ _ _ _ ?k1 ?k2 ?k3 ?k4 ?k5 ?kf ?kk ?kd ?ku (hTl.mono ?s1) hPT hzT ?_; (walk_at "m:sides"); (case s1 => walk_at "m:gsub"); intro D7 vs7 ss7 n7 h7 tk7 dr7 F7 N7 O7 st7 nd7 mm7; (have O7l := allLt_of O7); (simp only [AllLt, and_true] at O7l); (try k_unmd); (try k_sweep); (try dsimp only); (try k_fold))
  k_with "m:store" => ((with_reducible rename News _ _ _ _ => kN9); (with_reducible rename Fr _ _ _ _ => kF9); k_dflt (refine' store_cell1 kF9 kN9 (by assumption) ?q1 ?q2 ?q3 (O7 _ (.head _)) (fun p hp => Nat.lt_succ_of_lt (ktn_ltOf (by simp only [AllLt]; assumption) p hp)) ?_; (case q1 => rfl); (case q2 => rfl); (case q3 => rfl)); intro h5 oc5 F5 N5 hoc5; (try k_sweep))
  k_dflt (refine' call_cls F X N ?k4 ?k5 ?k6 ?_; (case k4 => k_is); (case k5 => k_is); (case k6 => k_is))
  intro xi dx hx0 Fx Nx lx1 lx2
  have lx3 := ltN lx2
  have hrd : ∀ p ∈ rest, p.1 ≠ dx := fun p hp => Nat.ne_of_lt (lx1 p hp)
  have hrx : ∀ p ∈ rest, p.1 ≠ xi := fun p hp => Nat.ne_of_lt (Nat.lt_trans (lx1 p hp) lx2)
  k_dflt (walk_at "m:enter")
  try k_fold
  walk_at "m:steps"
  rename Fr _ _ _ _ => F9
  rename News _ _ _ _ => N9
  refine ForGo.trip (bb := true) (fun i m' nw => nw = _ ∧ m' "self" = some (.ref xi) ∧ m' "name" = some (.str nm tn) ∧ m' "left" = some (.ref al) ∧ m' "right" = some (.ref ar) ∧ m' "needs" = some (.ref e)) (by rfl) (by rfl) (by rfl) (by rfl) (by rfl) (by rfl) F9 N9 (.inr ⟨_, .head _, rfl, _, rfl⟩) ⟨rfl, by walk_at "m:frame", by walk_at "m:frame", by walk_at "m:frame", by walk_at "m:frame", by walk_at "m:frame"⟩ ?hJs ?turn ?fin
  case hJs =>
    intro i m' nw hr5
    refine hide9 fun G9 h9 => ?_
    rcases hr5 with ⟨rfl, _⟩
    refine h9 ?_
    clear h9 G9
    exact .inr ⟨_, .head _, rfl, _, rfl⟩
  case turn =>
    intro i v m₁ nw hv hr5
    refine hide9 fun G9 h9 => ?_
    rcases hr5 with ⟨rfl, g1, g2, g3, g4, g5⟩
    refine h9 ?_
    clear h9 G9
    rcases i with _ | i
    case succ => simp at hv
    have hv := Option.some.inj hv
    subst hv
    refine ⟨_, _, _, _, _, rfl, .tail _ (.tail _ (.tail _ (.head _))), ?_⟩
    intro I oI s' E' hs F1 N1 off1 ltI
    obtain ⟨h1, tk1, dr1, rfl⟩ := hs.isD
    clear F9 N9
    k_with "m:call" => ((with_reducible show wpAny _ _ (call (Value.ref 91) _) _ _ _); refine' vars_tell _ _ _ _ _ _ U₀ _ _ _ _ _ _ _ _ _ _ _ _ _ _ _ ?k1 ?k2 ?k3 ?k4 ?k5 ?kf ?kk ?kd ?ku (hTr.mono ?s1) hPU hzU ?_; (walk_at "m:sides"); (case s1 => walk_at "m:gsub"); intro D8 vs8 ss8 n8 h8 tk8 dr8 F8 N8 O8 st8 nd8 mm8; (have hi8 := StrsIn.of st8 nd8 mm8 hsub); clear st8 nd8 mm8; (try k_unmd); (try k_sweep); (try dsimp only); (try k_fold))
    k_with "m:cat" => ((with_reducible rename News _ _ _ _ => kN9); (with_reducible rename Fr _ _ _ _ => kF9); k_dflt (refine' strs_cat kF9 kN9 (.tail _ (.head _)) (.head _) ?q1 ?q2 ?_; (case q1 => assumption); (case q2 => assumption)); intro D9 us9 h9 F9 N9 O9 hi9; (try k_sweep))
    try k_fold
    walk_at "m:steps"
    rename Fr _ _ _ _ => F9
    rename News _ _ _ _ => N9
    refine CompGo.lst (fun i ys nw => nw = _ ∧ ys = []) (by decide) (by rfl) (by rfl) (by rfl) F9 N9 (.inr ⟨_, .head _, rfl, _, rfl⟩) ?hsz9 ⟨rfl, rfl⟩ ?hJs9 ?turn9 ?fin9
    case hsz9 => exact Nat.le_trans hi9.1 (by decide)
    case hJs9 =>
      intro i ys nw hr5
      refine hide9 fun G9 h9 => ?_
      rcases hr5 with ⟨rfl, rfl⟩
      refine h9 ?_
      clear h9 G9
      exact ⟨.inr ⟨_, .head _, rfl, _, rfl⟩, Nat.zero_le _⟩
    case turn9 =>
      intro i v ys nw I3 oI3 C3 oC3 D3 mC s3 E3 hv3 hr5 hoC hx3 hs3 F3 N3 o3 ne
      refine hide9 fun G9 h9 => ?_
      rcases hr5 with ⟨rfl, rfl⟩
      rcases hs3.is with ⟨h3, tk3, rfl⟩
      refine h9 ?_
      clear h9 G9
      obtain ⟨z, tz, rfl, hz⟩ := hi9.2 v (List.mem_of_getElem? (by simpa using hv3))
      have hz7 := (mm7 z).mpr hz
      show wpAny _ _ (isTrue _ _ _) _ _ _
      clear F9 N9
      k_with "m:free" => ((with_reducible show wpAny _ _ (eval (Expr.Name "known" _) _) _ _ _); (with_reducible rename News _ _ _ _ => kN9); k_dflt (refine' free_in kN9 ?q0 hoc5 ?q1 ?q2 ?q3 ?q4 ?q5 ?_; (case q0 => k_mem); (case q1 => rfl); (case q2 => rfl); (case q3 => rfl); (case q4 => decide +kernel); (case q5 => decide +kernel)))
      k_with "m:notin" => ((with_reducible rename News _ _ _ _ => kN9); k_dflt (refine' notin_known kN9 ?q0 st7 hz7 ?_; (case q0 => k_mem)))
      try k_fold
      walk_at "m:steps"
      all_goals exact TurnE.intro Sm.ht (by k_asm) (by k_asm) _ (fun _ h => h) o3 ⟨rfl, rfl⟩
    case fin9 =>
      intro D9' ys nw hr5 s4 hs4 F4 N4 o4
      refine hide9 fun G9 h9 => ?_
      rcases hr5 with ⟨rfl, rfl⟩
      rcases hs4.is with ⟨h4, tk4, rfl⟩
      refine h9 ?_
      clear h9 G9
      clear F9 N9
      try k_fold
      walk_at "m:steps"
      all_goals exact ⟨rfl, _, _, ⟨_, _, _, (fun q => nomatch q), rfl⟩, by k_asm, News.sub (by k_asm) (by walk_at "m:gsub"), off1, rfl, by walk_at "m:frame", by walk_at "m:frame", by walk_at "m:frame", by walk_at "m:frame", by walk_at "m:frame"⟩
  case fin =>
    intro m' nw s' hr5 hs F1 N1
    refine hide9 fun G9 h9 => ?_
    rcases hr5 with ⟨rfl, g1, g2, g3, g4, g5⟩
    refine h9 ?_
    clear h9 G9
    obtain ⟨h1, tk1, dr1, rfl⟩ := hs.isD
    clear F9 N9
    k_with "m:tuple" => ((with_reducible rename News _ _ _ _ => kN9); refine call_tuple_same (News.isTup kN9 (.tail _ (.tail _ (.tail _ (.tail _ (.tail _ (.tail _ (.tail _ (.tail _ hme))))))))) ?_)
    try k_fold
    walk_at "m:steps"
    rename News h₀ L _ _ => kN9
    rename Fr h₀ L _ m => kF9
    exact hret xi dx _ _ _ _ _ _ _ _ _ _ _ _ _ kF9 (drop6 kN9) lx1 lx2
/-- a rule's two sides: in every world of the left side's names both have a value, and it is one -/
noncomputable def Good (n : Int) (L R : Tm) : Prop := ∀ (ss : List Str) (D : List (PyData × PyData)), (∀ x, x ∈ ss ↔ x ∈ qv L) → WD n ss D → Okay n D L ∧ Okay n D R ∧ V n D R = V n D L
noncomputable abbrev tA : Tm := .leaf "?a"
noncomputable abbrev tB : Tm := .leaf "?b"
noncomputable abbrev tC : Tm := .leaf "?c"
noncomputable abbrev tZ : Tm := .leaf "0"
noncomputable abbrev tO : Tm := .leaf "1"
noncomputable def numS (n : Int) : Str := if n = 1 then "1" else if n = 2 then "2" else "3"
/-- the ring's rules -/
noncomputable def specs (n : Int) : List (Str × Tm × Tm) :=
  [("add-turn", .bin "add" tA tB, .bin "add" tB tA), ("add-put", .bin "add" (.bin "add" tA tB) tC, .bin "add" tA (.bin "add" tB tC)), ("add-unit", .bin "add" tA tZ, tA),
   ("mul-turn", .bin "mul" tA tB, .bin "mul" tB tA), ("mul-put", .bin "mul" (.bin "mul" tA tB) tC, .bin "mul" tA (.bin "mul" tB tC)), ("mul-unit", .bin "mul" tA tO, tA),
   ("neg-add", .bin "add" tA (.un "neg" tA), tZ), ("neg-neg", .un "neg" (.un "neg" tA), tA), ("neg-mul", .bin "mul" (.un "neg" tA) tB, .un "neg" (.bin "mul" tA tB)), ("mul-zero", .bin "mul" tA tZ, tZ),
   ("spread", .bin "mul" tA (.bin "add" tB tC), .bin "add" (.bin "mul" tA tB) (.bin "mul" tA tC)), ("gather", .bin "add" (.bin "mul" tA tB) (.bin "mul" tA tC), .bin "mul" tA (.bin "add" tB tC)), ("round", .leaf (numS n), tZ)]
theorem qv_out {L : Tm} {ss : List Str} (h : ∀ x, x ∈ ss ↔ x ∈ qv L) {x : Str} (hx : x ∉ (["?a", "?b", "?c"] : List Str)) : x ∉ ss := fun m => hx (qv_abc ((h x).mp m))
theorem WD.no {n : Int} {L : Tm} {ss : List Str} {D : List (PyData × PyData)} (h : ∀ x, x ∈ ss ↔ x ∈ qv L) (d : WD n ss D) {x : Str} (hx : x ∉ (["?a", "?b", "?c"] : List Str)) : lookup (.str x) D = none := d.2.1 x (qv_out h hx)
theorem WD.has {n : Int} {L : Tm} {ss : List Str} {D : List (PyData × PyData)} (h : ∀ x, x ∈ ss ↔ x ∈ qv L) (d : WD n ss D) {x : Str} (hx : x ∈ qv L) (hl : PyData.canLay0 (.str x) = true) : ∃ v, 0 ≤ v ∧ v < n ∧ lookup (.str x) D = some (.int v) ∧ Okay n D (.leaf x) ∧ V n D (.leaf x) = v := by
  obtain ⟨v, e, h0, h1⟩ := d.1 x ((h x).mpr hx)
  exact ⟨v, h0, h1, e, .var e h0 h1 hl, by simp only [V, e]⟩
theorem val0 {n : Int} {L : Tm} {ss : List Str} {D : List (PyData × PyData)} (h : ∀ x, x ∈ ss ↔ x ∈ qv L) (d : WD n ss D) : Okay n D tZ ∧ V n D tZ = 0 := by
  have e := d.no h (x := "0") (by decide +kernel)
  refine ⟨.n0 e, ?_⟩
  simp only [V, e]
  rw [show numOf "0" = 0 from by decide +kernel]; exact Int.zero_emod n
theorem val1 {n : Int} {L : Tm} {ss : List Str} {D : List (PyData × PyData)} (h : ∀ x, x ∈ ss ↔ x ∈ qv L) (d : WD n ss D) : Okay n D tO ∧ V n D tO = 1 % n := by
  have e := d.no h (x := "1") (by decide +kernel)
  refine ⟨.n1 e, ?_⟩
  simp only [V, e]
  rw [show numOf "1" = 1 from by decide +kernel]
theorem V_add {n : Int} {D : List (PyData × PyData)} {a b : Tm} : V n D (.bin "add" a b) = (V n D a + V n D b) % n := by rw [V, if_pos rfl]
theorem V_mul {n : Int} {D : List (PyData × PyData)} {a b : Tm} : V n D (.bin "mul" a b) = (V n D a * V n D b) % n := by rw [V, if_neg (by decide +kernel)]
theorem V_neg {n : Int} {D : List (PyData × PyData)} {a : Tm} : V n D (.un "neg" a) = (- V n D a) % n := by rw [V]
theorem three {n : Int} (h1 : 1 ≤ n) (h3 : n ≤ 3) : n = 1 ∨ n = 2 ∨ n = 3 := by omega
theorem law3 {P : Int → Int → Int → Int → Prop} [∀ n a b c, Decidable (P n a b c)] (H : ∀ n ∈ ([1, 2, 3] : List Int), ∀ a ∈ ([0, 1, 2] : List Int), ∀ b ∈ ([0, 1, 2] : List Int), ∀ c ∈ ([0, 1, 2] : List Int), a < n → b < n → c < n → P n a b c)
    {n a b c : Int} (h1 : 1 ≤ n) (h3 : n ≤ 3) (a0 : 0 ≤ a) (a1 : a < n) (b0 : 0 ≤ b) (b1 : b < n) (c0 : 0 ≤ c) (c1 : c < n) : P n a b c := by
  refine H n ?_ a ?_ b ?_ c ?_ a1 b1 c1
  · rcases three h1 h3 with rfl | rfl | rfl <;> decide
  all_goals (simp only [List.mem_cons, List.not_mem_nil, or_false]; omega)
section
variable {n : Int} (h1 : 1 ≤ n) (h3 : n ≤ 3)
include h1 h3
theorem good_add_turn : Good n (.bin "add" tA tB) (.bin "add" tB tA) := fun ss D h d => by
  obtain ⟨a, a0, a1, ea, oa, va⟩ := d.has h (x := "?a") (by decide +kernel) (by decide +kernel)
  obtain ⟨b, b0, b1, eb, ob, vb⟩ := d.has h (x := "?b") (by decide +kernel) (by decide +kernel)
  have hadd := d.no h (x := "add") (by decide +kernel)
  refine ⟨.add hadd oa ob, .add hadd ob oa, ?_⟩
  rw [V_add, V_add, va, vb, Int.add_comm]
theorem good_mul_turn : Good n (.bin "mul" tA tB) (.bin "mul" tB tA) := fun ss D h d => by
  obtain ⟨a, a0, a1, ea, oa, va⟩ := d.has h (x := "?a") (by decide +kernel) (by decide +kernel)
  obtain ⟨b, b0, b1, eb, ob, vb⟩ := d.has h (x := "?b") (by decide +kernel) (by decide +kernel)
  have hmul := d.no h (x := "mul") (by decide +kernel)
  refine ⟨.mul hmul oa ob, .mul hmul ob oa, ?_⟩
  rw [V_mul, V_mul, va, vb, Int.mul_comm]
theorem good_add_put : Good n (.bin "add" (.bin "add" tA tB) tC) (.bin "add" tA (.bin "add" tB tC)) := fun ss D h d => by
  obtain ⟨a, a0, a1, ea, oa, va⟩ := d.has h (x := "?a") (by decide +kernel) (by decide +kernel)
  obtain ⟨b, b0, b1, eb, ob, vb⟩ := d.has h (x := "?b") (by decide +kernel) (by decide +kernel)
  obtain ⟨c, c0, c1, ec, oc, vc⟩ := d.has h (x := "?c") (by decide +kernel) (by decide +kernel)
  have hadd := d.no h (x := "add") (by decide +kernel)
  refine ⟨.add hadd (.add hadd oa ob) oc, .add hadd oa (.add hadd ob oc), ?_⟩
  simp only [V_add, va, vb, vc]
  exact law3 (P := fun n a b c => (a + (b + c) % n) % n = ((a + b) % n + c) % n) (by decide +kernel) h1 h3 a0 a1 b0 b1 c0 c1
theorem good_mul_put : Good n (.bin "mul" (.bin "mul" tA tB) tC) (.bin "mul" tA (.bin "mul" tB tC)) := fun ss D h d => by
  obtain ⟨a, a0, a1, ea, oa, va⟩ := d.has h (x := "?a") (by decide +kernel) (by decide +kernel)
  obtain ⟨b, b0, b1, eb, ob, vb⟩ := d.has h (x := "?b") (by decide +kernel) (by decide +kernel)
  obtain ⟨c, c0, c1, ec, oc, vc⟩ := d.has h (x := "?c") (by decide +kernel) (by decide +kernel)
  have hmul := d.no h (x := "mul") (by decide +kernel)
  refine ⟨.mul hmul (.mul hmul oa ob) oc, .mul hmul oa (.mul hmul ob oc), ?_⟩
  simp only [V_mul, va, vb, vc]
  exact law3 (P := fun n a b c => (a * ((b * c) % n)) % n = (((a * b) % n) * c) % n) (by decide +kernel) h1 h3 a0 a1 b0 b1 c0 c1
theorem good_add_unit : Good n (.bin "add" tA tZ) tA := fun ss D h d => by
  obtain ⟨a, a0, a1, ea, oa, va⟩ := d.has h (x := "?a") (by decide +kernel) (by decide +kernel)
  obtain ⟨oz, vz⟩ := val0 h d
  have hadd := d.no h (x := "add") (by decide +kernel)
  refine ⟨.add hadd oa oz, oa, ?_⟩
  rw [V_add, va, vz, Int.add_zero, Int.emod_eq_of_lt a0 a1]
theorem good_mul_unit : Good n (.bin "mul" tA tO) tA := fun ss D h d => by
  obtain ⟨a, a0, a1, ea, oa, va⟩ := d.has h (x := "?a") (by decide +kernel) (by decide +kernel)
  obtain ⟨oz, vz⟩ := val1 h d
  have hmul := d.no h (x := "mul") (by decide +kernel)
  refine ⟨.mul hmul oa oz, oa, ?_⟩
  simp only [V_mul, va, vz]
  exact law3 (P := fun n a _ _ => a = (a * (1 % n)) % n) (by decide +kernel) h1 h3 a0 a1 a0 a1 a0 a1
theorem good_neg_add : Good n (.bin "add" tA (.un "neg" tA)) tZ := fun ss D h d => by
  obtain ⟨a, a0, a1, ea, oa, va⟩ := d.has h (x := "?a") (by decide +kernel) (by decide +kernel)
  obtain ⟨oz, vz⟩ := val0 h d
  have hadd := d.no h (x := "add") (by decide +kernel)
  have hneg := d.no h (x := "neg") (by decide +kernel)
  refine ⟨.add hadd oa (.neg hneg oa), oz, ?_⟩
  simp only [V_add, V_neg, va, vz]
  exact law3 (P := fun n a _ _ => 0 = (a + (-a) % n) % n) (by decide +kernel) h1 h3 a0 a1 a0 a1 a0 a1
theorem good_neg_neg : Good n (.un "neg" (.un "neg" tA)) tA := fun ss D h d => by
  obtain ⟨a, a0, a1, ea, oa, va⟩ := d.has h (x := "?a") (by decide +kernel) (by decide +kernel)
  have hneg := d.no h (x := "neg") (by decide +kernel)
  refine ⟨.neg hneg (.neg hneg oa), oa, ?_⟩
  simp only [V_neg, va]
  exact law3 (P := fun n a _ _ => a = (-((-a) % n)) % n) (by decide +kernel) h1 h3 a0 a1 a0 a1 a0 a1
theorem good_neg_mul : Good n (.bin "mul" (.un "neg" tA) tB) (.un "neg" (.bin "mul" tA tB)) := fun ss D h d => by
  obtain ⟨a, a0, a1, ea, oa, va⟩ := d.has h (x := "?a") (by decide +kernel) (by decide +kernel)
  obtain ⟨b, b0, b1, eb, ob, vb⟩ := d.has h (x := "?b") (by decide +kernel) (by decide +kernel)
  have hmul := d.no h (x := "mul") (by decide +kernel)
  have hneg := d.no h (x := "neg") (by decide +kernel)
  refine ⟨.mul hmul (.neg hneg oa) ob, .neg hneg (.mul hmul oa ob), ?_⟩
  simp only [V_mul, V_neg, va, vb]
  exact law3 (P := fun n a b _ => (-((a * b) % n)) % n = (((-a) % n) * b) % n) (by decide +kernel) h1 h3 a0 a1 b0 b1 a0 a1
theorem good_mul_zero : Good n (.bin "mul" tA tZ) tZ := fun ss D h d => by
  obtain ⟨a, a0, a1, ea, oa, va⟩ := d.has h (x := "?a") (by decide +kernel) (by decide +kernel)
  obtain ⟨oz, vz⟩ := val0 h d
  have hmul := d.no h (x := "mul") (by decide +kernel)
  refine ⟨.mul hmul oa oz, oz, ?_⟩
  rw [V_mul, va, vz, Int.mul_zero, Int.zero_emod]
theorem good_spread : Good n (.bin "mul" tA (.bin "add" tB tC)) (.bin "add" (.bin "mul" tA tB) (.bin "mul" tA tC)) := fun ss D h d => by
  obtain ⟨a, a0, a1, ea, oa, va⟩ := d.has h (x := "?a") (by decide +kernel) (by decide +kernel)
  obtain ⟨b, b0, b1, eb, ob, vb⟩ := d.has h (x := "?b") (by decide +kernel) (by decide +kernel)
  obtain ⟨c, c0, c1, ec, oc, vc⟩ := d.has h (x := "?c") (by decide +kernel) (by decide +kernel)
  have hmul := d.no h (x := "mul") (by decide +kernel)
  have hadd := d.no h (x := "add") (by decide +kernel)
  refine ⟨.mul hmul oa (.add hadd ob oc), .add hadd (.mul hmul oa ob) (.mul hmul oa oc), ?_⟩
  simp only [V_mul, V_add, va, vb, vc]
  exact law3 (P := fun n a b c => ((a * b) % n + (a * c) % n) % n = (a * ((b + c) % n)) % n) (by decide +kernel) h1 h3 a0 a1 b0 b1 c0 c1
theorem good_gather : Good n (.bin "add" (.bin "mul" tA tB) (.bin "mul" tA tC)) (.bin "mul" tA (.bin "add" tB tC)) := fun ss D h d => by
  obtain ⟨a, a0, a1, ea, oa, va⟩ := d.has h (x := "?a") (by decide +kernel) (by decide +kernel)
  obtain ⟨b, b0, b1, eb, ob, vb⟩ := d.has h (x := "?b") (by decide +kernel) (by decide +kernel)
  obtain ⟨c, c0, c1, ec, oc, vc⟩ := d.has h (x := "?c") (by decide +kernel) (by decide +kernel)
  have hmul := d.no h (x := "mul") (by decide +kernel)
  have hadd := d.no h (x := "add") (by decide +kernel)
  refine ⟨.add hadd (.mul hmul oa ob) (.mul hmul oa oc), .mul hmul oa (.add hadd ob oc), ?_⟩
  simp only [V_mul, V_add, va, vb, vc]
  exact law3 (P := fun n a b c => (a * ((b + c) % n)) % n = ((a * b) % n + (a * c) % n) % n) (by decide +kernel) h1 h3 a0 a1 b0 b1 c0 c1
theorem good_round : Good n (.leaf (numS n)) tZ := fun ss D h d => by
  obtain ⟨oz, vz⟩ := val0 h d
  refine ⟨?_, oz, ?_⟩
  · rcases three h1 h3 with rfl | rfl | rfl
    · exact .n1 (d.no h (x := "1") (by decide +kernel))
    · exact .n2 (d.no h (x := "2") (by decide +kernel))
    · exact .n3 (d.no h (x := "3") (by decide +kernel))
  · rw [vz]
    rcases three h1 h3 with rfl | rfl | rfl
    · have e := d.no h (x := "1") (by decide +kernel)
      show 0 = V 1 D (.leaf "1"); simp only [V, e]; decide +kernel
    · have e := d.no h (x := "2") (by decide +kernel)
      show 0 = V 2 D (.leaf "2"); simp only [V, e]; decide +kernel
    · have e := d.no h (x := "3") (by decide +kernel)
      show 0 = V 3 D (.leaf "3"); simp only [V, e]; decide +kernel
theorem specs_good : ∀ r ∈ specs n, Good n r.2.1 r.2.2 := by
  intro r hr
  simp only [specs, List.mem_cons, List.not_mem_nil, or_false] at hr
  rcases hr with rfl | rfl | rfl | rfl | rfl | rfl | rfl | rfl | rfl | rfl | rfl | rfl | rfl
  · exact good_add_turn h1 h3
  · exact good_add_put h1 h3
  · exact good_add_unit h1 h3
  · exact good_mul_turn h1 h3
  · exact good_mul_put h1 h3
  · exact good_mul_unit h1 h3
  · exact good_neg_add h1 h3
  · exact good_neg_neg h1 h3
  · exact good_neg_mul h1 h3
  · exact good_mul_zero h1 h3
  · exact good_spread h1 h3
  · exact good_gather h1 h3
  · exact good_round h1 h3
theorem specs_pat : ∀ r ∈ specs n, Pat r.2.1 ∧ Pat r.2.2 := by
  have pa : Pat tA := .leaf (by decide +kernel)
  have pb : Pat tB := .leaf (by decide +kernel)
  have pc : Pat tC := .leaf (by decide +kernel)
  have pz : Pat tZ := .leaf (by decide +kernel)
  have po : Pat tO := .leaf (by decide +kernel)
  have pn : Pat (.leaf (numS n)) := by rcases three h1 h3 with rfl | rfl | rfl <;> exact .leaf (by decide +kernel)
  intro r hr
  simp only [specs, List.mem_cons, List.not_mem_nil, or_false] at hr
  rcases hr with rfl | rfl | rfl | rfl | rfl | rfl | rfl | rfl | rfl | rfl | rfl | rfl | rfl
  all_goals (refine ⟨?_, ?_⟩ <;> first | exact pn | exact pz | exact pa | (repeat (first | assumption | apply Pat.bin | apply Pat.un)))
end
/-- what was made anew: no pool among it -/
noncomputable def NL (rest nw : List (Addr × Obj)) : Prop := ∀ p ∈ nw, p ∈ rest ∨ ∀ Cl k t n, p.2 ≠ poolO Cl k t n
theorem NL.base {rest : List (Addr × Obj)} : NL rest rest := fun _ h => .inl h
theorem NL.cons {rest nw : List (Addr × Obj)} {p : Addr × Obj} (h : ∀ Cl k t n, p.2 ≠ poolO Cl k t n) (r : NL rest nw) : NL rest (p :: nw) := fun q hq => by
  rcases List.mem_cons.mp hq with rfl | hq
  · exact .inr h
  · exact r q hq
theorem NL.tup {rest nw : List (Addr × Obj)} {a : Addr} {l : List Value} {c : Nat} (r : NL rest nw) : NL rest ((a, tupO l c) :: nw) := .cons (fun Cl k t n h => by
  have q := congrArg Obj.cls h
  injection q with q; exact absurd q (by decide)) r
theorem NL.inst {rest nw : List (Addr × Obj)} {a C d : Addr} (r : NL rest nw) : NL rest ((a, instObj C d) :: nw) := .cons (fun Cl k t n h => by
  have q := congrArg Obj.cls h
  injection q) r
theorem NL.dict {rest nw : List (Addr × Obj)} {a : Addr} {l : List DictEntry} {c : Nat} (r : NL rest nw) : NL rest ((a, dictOf l c) :: nw) := .cons (fun Cl k t n h => by
  have q := congrArg Obj.cls h
  injection q with q; exact absurd q (by decide)) r
theorem NL.lst {rest nw : List (Addr × Obj)} {a : Addr} {l : List Value} {c : Nat} (hl : l.length ≠ 2) (r : NL rest nw) : NL rest ((a, W.listOf l.toArray c) :: nw) := .cons (fun Cl k t n h => by
  have q := congrArg Obj.data h
  injection q with q _
  have q2 := congrArg Array.size q
  exact hl q2) r
theorem last_lt {h₀ h : Heap} {L D : Addr} {o : Obj} {nw rest : List (Addr × Obj)} (_ : News h₀ L h ((D, o) :: nw)) (hl : AllLt D nw) (hs : ∀ q ∈ rest, q ∈ nw) : ∀ q ∈ rest, q.1 < D := fun q hq => ktn_ltOf hl q (hs q hq)
theorem NL.trans {rest mid nw : List (Addr × Obj)} (x : NL rest mid) (y : NL mid nw) : NL rest nw := fun p hp => by
  rcases y p hp with h | h
  · exact x p h
  · exact .inr h
local macro_rules | `(tactic| k_mem) => `(tactic| first | with_reducible exact List.Mem.head _ | (with_reducible refine' List.Mem.tail _ ?_; k_mem) | with_reducible assumption)

theorem rows_60b : True := by
  k_with "m:tm" => (repeat (first | with_reducible exact TmIn.A | with_reducible exact TmIn.B | with_reducible exact TmIn.C | (refine' TmIn.bin ?mmR9 ?_ ?_; (case mmR9 => k_mem)) | (refine' TmIn.un ?mmR9 ?_; (case mmR9 => k_mem)) | (refine' TmIn.leaf ?mmR9; (case mmR9 => k_mem))))
  k_with "m:nl" => (repeat (first | exact NL.base | refine NL.tup ?_ | refine NL.inst ?_ | refine NL.dict ?_ | refine NL.lst (by simp only [List.length_cons, List.length_nil, ne_eq]; decide) ?_))
  k_with "m:tail" => ((intro q9R9 hq9R9; repeat (first | exact hq9R9 | refine List.Mem.tail _ ?_)))
  k_with "call type:str" => (k_extra "m:str")
  k_with "m:nl2" => (repeat (first | assumption | refine NL.tup ?_ | refine NL.inst ?_ | refine NL.dict ?_ | refine NL.lst (by first | (simp only [List.length_cons, List.length_nil, ne_eq]; decide) | ((try simp only [List.length_append]); omega)) ?_))
  trivial
theorem rows_60c : True := by
  k_with "newTuple" => ((k_here; k_dflt (refine newTuple_D (by k_asm) (by k_asm) (by exact Nat.le_of_ble_eq_true rfl) ?_); intro D'R9 h'R9 F'R9 N'R9 l1R9; clear l1R9; (try k_sweep)))
  trivial
inductive RulesIn (nw : List (Addr × Obj)) : List Value → List (Str × Tm × Tm) → Prop where
  | nil : RulesIn nw [] []
  | cons {R rd : Addr} {h1 h2 h3 h4 : Int} {t1 t2 t3 t4 tn : Tok} {l r nd : Value} {k : Nat} {nm : Str} {T U : Tm} {vs : List Value} {sp : List (Str × Tm × Tm)} : (R, instObj 118 rd) ∈ nw → (rd, ruleD h1 h2 h3 h4 t1 t2 t3 t4 (.str nm tn) l r nd k) ∈ nw → TmIn nw l T → TmIn nw r U → RulesIn nw vs sp → RulesIn nw (.ref R :: vs) ((nm, T, U) :: sp)
theorem RulesIn.mono {nw nw' : List (Addr × Obj)} (s : ∀ p ∈ nw, p ∈ nw') : ∀ {vs : List Value} {sp : List (Str × Tm × Tm)}, RulesIn nw vs sp → RulesIn nw' vs sp
  | _, _, .nil => .nil
  | _, _, .cons a b c d e => .cons (s _ a) (s _ b) (c.mono s) (d.mono s) (e.mono s)
theorem RulesIn.append {nw : List (Addr × Obj)} {vs' : List Value} {sp' : List (Str × Tm × Tm)} (y : RulesIn nw vs' sp') : ∀ {vs : List Value} {sp : List (Str × Tm × Tm)}, RulesIn nw vs sp → RulesIn nw (vs ++ vs') (sp ++ sp')
  | _, _, .nil => y
  | _, _, .cons a b c d e => .cons a b c d (y.append e)
theorem RulesIn.length {nw : List (Addr × Obj)} : ∀ {vs : List Value} {sp : List (Str × Tm × Tm)}, RulesIn nw vs sp → vs.length = sp.length
  | _, _, .nil => rfl
  | _, _, .cons _ _ _ _ e => congrArg (· + 1) e.length
theorem RulesIn.elim {nw : List (Addr × Obj)} {G : Prop} : ∀ {vs : List Value} {sp : List (Str × Tm × Tm)}, RulesIn nw vs sp → ∀ (i : Nat) (v : Value), vs[i]? = some v →
    (∀ (R rd : Addr) (h1 h2 h3 h4 : Int) (t1 t2 t3 t4 tn : Tok) (l r : Addr) (nd : Value) (k : Nat) (nm : Str) (T U : Tm), v = .ref R → sp[i]? = some (nm, T, U) → (R, instObj 118 rd) ∈ nw → (rd, ruleD h1 h2 h3 h4 t1 t2 t3 t4 (.str nm tn) (.ref l) (.ref r) nd k) ∈ nw → TmIn nw (.ref l) T → TmIn nw (.ref r) U → G) → G
  | _, _, .nil, _, _, h, _ => by simp at h
  | _, _, .cons a b c d _, 0, _, h, K => by
    obtain ⟨_, rfl⟩ := c.isRef
    obtain ⟨_, rfl⟩ := d.isRef
    exact K _ _ _ _ _ _ _ _ _ _ _ _ _ _ _ _ _ _ (Option.some.inj h).symm rfl a b c d
  | _, _, .cons _ _ _ _ e, i + 1, v, h, K => e.elim i v h K
noncomputable def lawsL (op : Str) (u : Str) (n1 n2 n3 : Str) : List (Str × Tm × Tm) := [(n1, .bin op tA tB, .bin op tB tA), (n2, .bin op (.bin op tA tB) tC, .bin op tA (.bin op tB tC)), (n3, .bin op tA (.leaf u), tA)]
noncomputable def LawsT (w : World) (p : Program) (loose : List Str) (mean : ExcName → Option Value) (mg mb : Str → Option Value) (op u n1 n2 n3 : Str) : Prop :=
  ∀ (dp un : Nat) (gd : Option (List Code)) (env : Env) (outer : List Env) (A₀ : Around) (base h₀ : Heap) (L : Addr) (m : Str → Option Value) (rest : List (Addr × Obj)) (s : Shared) (t1 t2 : Tok)
    (Q E : Value → Shared → Prop), Below A₀ base outer h₀ → Fr h₀ L s.heap m → (Mine.hd.heap_39 w.params).In h₀ → News h₀ L s.heap rest → Top p loose mean mg mb h₀ → env.frame = some L → env.scope.kind = .function →
    dp + 60 < recursionLimit → un + 480 < cLine →
    (∀ D vs c nw h' tk' dr, Fr h₀ L h' m → News h₀ L h' ((D, W.listOf (List.toArray vs) c) :: nw) → (∀ q ∈ rest, q.1 < D) → NL rest nw → (∀ q ∈ rest, q ∈ nw) → RulesIn nw vs (lawsL op u n1 n2 n3) → Q (.ref D) { s with heap := h', toks := tk', drawn := dr }) →
    wpAny (model PySem.Challenge.rw_pq0039_01.prog w) (topA dp un gd env outer) (call (.ref 143) [.str op t1, .str u t2]) Q E s
section
variable (w : World) (p : Program) (loose : List Str) (mean : ExcName → Option Value) (mg mb : Str → Option Value) (op u : Str)
theorem pA : Pat tA := .leaf (by decide +kernel)
theorem pB : Pat tB := .leaf (by decide +kernel)
theorem pC : Pat tC := .leaf (by decide +kernel)
theorem pZ : Pat tZ := .leaf (by decide +kernel)
theorem pO : Pat tO := .leaf (by decide +kernel)
theorem rt1 : RuleT w p loose mean mg mb (.bin op tA tB) (.bin op tB tA) := rule_tell w p loose mean mg mb _ _ (.bin pA pB) (.bin pB pA) rfl (show ∀ x ∈ qv tB ++ qv tA, x ∈ qv tA ++ qv tB by decide +kernel) (Nat.le_of_ble_eq_true rfl) (Nat.le_of_ble_eq_true rfl)
theorem rt2 : RuleT w p loose mean mg mb (.bin op (.bin op tA tB) tC) (.bin op tA (.bin op tB tC)) := rule_tell w p loose mean mg mb _ _ (.bin (.bin pA pB) pC) (.bin pA (.bin pB pC)) rfl (show ∀ x ∈ qv tA ++ (qv tB ++ qv tC), x ∈ (qv tA ++ qv tB) ++ qv tC by decide +kernel) (Nat.le_of_ble_eq_true rfl) (Nat.le_of_ble_eq_true rfl)
theorem rt3 (hu : Pat (.leaf u)) : RuleT w p loose mean mg mb (.bin op tA (.leaf u)) tA := rule_tell w p loose mean mg mb _ _ (.bin pA hu) pA rfl (fun x hx => List.mem_append_left _ hx) (Nat.le_of_ble_eq_true rfl) (Nat.le_of_ble_eq_true rfl)
end
theorem RulesIn.consN {nw : List (Addr × Obj)} {R rd : Addr} {h1 h2 h3 h4 : Int} {t1 t2 t3 t4 tn : Tok} {l r nd : Value} {k : Nat} {nm nm' : Str} {T U : Tm} {vs : List Value} {sp : List (Str × Tm × Tm)} (e : nm' = nm) (a : (R, instObj 118 rd) ∈ nw) (b : (rd, ruleD h1 h2 h3 h4 t1 t2 t3 t4 (.str nm' tn) l r nd k) ∈ nw) (c : TmIn nw l T) (d : TmIn nw r U) (x : RulesIn nw vs sp) : RulesIn nw (.ref R :: vs) ((nm, T, U) :: sp) := by
  subst e; exact .cons a b c d x
theorem laws_add (w : World) (p : Program) (loose : List Str) (mean : ExcName → Option Value) (mg mb : Str → Option Value) : LawsT w p loose mean mg mb "add" "0" "add-turn" "add-put" "add-unit" := by
  unfold LawsT
  k_fill
  intro dp un gd env outer A₀ base h₀ L m rest s t1 t2 Q E B F X N T hf hk hd hu hret
  refine wpAny_call ?_
  k_dflt (walk_at "m:enter")
  k_with "m:call" => ((with_reducible show wpAny _ _ (call (Value.ref 118) [Value.str (Str.empty ++ Str.ofString "add" ++ Str.ofString "-turn") _, _, _, _]) _ _ _); k_dflt (refine' rt1 _ _ _ _ _ _ "add" _ _ _ _ _ _ _ _ _ _ _ _ _ _ _ _ _ _ _ ?k1 ?k2 ?k3 ?k4 ?k5 ?kf ?kk ?kd ?ku ?a ?b ?c ?_; (walk_at "m:sides"); (case a => walk_at "m:tm"); (case b => walk_at "m:tm"); (case c => k_mem)); intro R1 rd1 h11 h12 h13 h14 t11 t12 t13 t14 nd1 k1 h1 tk1 dr1 F1 N1 O1 lR1; clear O1 lR1; (try k_unmd); (try k_sweep); (try dsimp only); (try k_fold))
  k_with "m:call" => ((with_reducible show wpAny _ _ (call (Value.ref 118) [Value.str (Str.empty ++ Str.ofString "add" ++ Str.ofString "-put") _, _, _, _]) _ _ _); k_dflt (refine' rt2 _ _ _ _ _ _ "add" _ _ _ _ _ _ _ _ _ _ _ _ _ _ _ _ _ _ _ ?k1 ?k2 ?k3 ?k4 ?k5 ?kf ?kk ?kd ?ku ?a ?b ?c ?_; (walk_at "m:sides"); (case a => walk_at "m:tm"); (case b => walk_at "m:tm"); (case c => k_mem)); intro R2 rd2 h21 h22 h23 h24 t21 t22 t23 t24 nd2 k2 h2 tk2 dr2 F2 N2 O2 lR2; clear O2 lR2; (try k_unmd); (try k_sweep); (try dsimp only); (try k_fold))
  k_with "m:call" => ((with_reducible show wpAny _ _ (call (Value.ref 118) [Value.str (Str.empty ++ Str.ofString "add" ++ Str.ofString "-unit") _, _, _, _]) _ _ _); k_dflt (refine' rt3 _ _ _ _ _ _ "add" "0" pZ _ _ _ _ _ _ _ _ _ _ _ _ _ _ _ _ _ _ _ ?k1 ?k2 ?k3 ?k4 ?k5 ?kf ?kk ?kd ?ku ?a ?b ?c ?_; (walk_at "m:sides"); (case a => walk_at "m:tm"); (case b => walk_at "m:tm"); (case c => k_mem)); intro R3 rd3 h31 h32 h33 h34 t31 t32 t33 t34 nd3 k3 h3 tk3 dr3 F3 N3 O3 lR3; clear O3 lR3; (try k_unmd); (try k_sweep); (try dsimp only); (try k_fold))
  walk_at "m:steps"
  rename News h₀ L _ _ => kN9
  rename Fr h₀ L _ m => kF9
  refine hret _ [_, _, _] _ _ _ _ _ kF9 kN9 (last_lt kN9 (by simp only [AllLt]; assumption) (by walk_at "m:tail")) (by walk_at "m:nl") (by walk_at "m:tail") ?_
  refine .consN ?e1 (by k_mem) (by k_mem) (by walk_at "m:tm") (by walk_at "m:tm") (.consN ?e2 (by k_mem) (by k_mem) (by walk_at "m:tm") (by walk_at "m:tm") (.consN ?e3 (by k_mem) (by k_mem) (by walk_at "m:tm") (by walk_at "m:tm") .nil))
  case e1 => decide +kernel
  case e2 => decide +kernel
  case e3 => decide +kernel
theorem laws_mul (w : World) (p : Program) (loose : List Str) (mean : ExcName → Option Value) (mg mb : Str → Option Value) : LawsT w p loose mean mg mb "mul" "1" "mul-turn" "mul-put" "mul-unit" := by
  unfold LawsT
  k_fill
  intro dp un gd env outer A₀ base h₀ L m rest s t1 t2 Q E B F X N T hf hk hd hu hret
  refine wpAny_call ?_
  k_dflt (walk_at "m:enter")
  k_with "m:call" => ((with_reducible show wpAny _ _ (call (Value.ref 118) [Value.str (Str.empty ++ Str.ofString "mul" ++ Str.ofString "-turn") _, _, _, _]) _ _ _); k_dflt (refine' rt1 _ _ _ _ _ _ "mul" _ _ _ _ _ _ _ _ _ _ _ _ _ _ _ _ _ _ _ ?k1 ?k2 ?k3 ?k4 ?k5 ?kf ?kk ?kd ?ku ?a ?b ?c ?_; (walk_at "m:sides"); (case a => walk_at "m:tm"); (case b => walk_at "m:tm"); (case c => k_mem)); intro R1 rd1 h11 h12 h13 h14 t11 t12 t13 t14 nd1 k1 h1 tk1 dr1 F1 N1 O1 lR1; clear O1 lR1; (try k_unmd); (try k_sweep); (try dsimp only); (try k_fold))
  k_with "m:call" => ((with_reducible show wpAny _ _ (call (Value.ref 118) [Value.str (Str.empty ++ Str.ofString "mul" ++ Str.ofString "-put") _, _, _, _]) _ _ _); k_dflt (refine' rt2 _ _ _ _ _ _ "mul" _ _ _ _ _ _ _ _ _ _ _ _ _ _ _ _ _ _ _ ?k1 ?k2 ?k3 ?k4 ?k5 ?kf ?kk ?kd ?ku ?a ?b ?c ?_; (walk_at "m:sides"); (case a => walk_at "m:tm"); (case b => walk_at "m:tm"); (case c => k_mem)); intro R2 rd2 h21 h22 h23 h24 t21 t22 t23 t24 nd2 k2 h2 tk2 dr2 F2 N2 O2 lR2; clear O2 lR2; (try k_unmd); (try k_sweep); (try dsimp only); (try k_fold))
  k_with "m:call" => ((with_reducible show wpAny _ _ (call (Value.ref 118) [Value.str (Str.empty ++ Str.ofString "mul" ++ Str.ofString "-unit") _, _, _, _]) _ _ _); k_dflt (refine' rt3 _ _ _ _ _ _ "mul" "1" pO _ _ _ _ _ _ _ _ _ _ _ _ _ _ _ _ _ _ _ ?k1 ?k2 ?k3 ?k4 ?k5 ?kf ?kk ?kd ?ku ?a ?b ?c ?_; (walk_at "m:sides"); (case a => walk_at "m:tm"); (case b => walk_at "m:tm"); (case c => k_mem)); intro R3 rd3 h31 h32 h33 h34 t31 t32 t33 t34 nd3 k3 h3 tk3 dr3 F3 N3 O3 lR3; clear O3 lR3; (try k_unmd); (try k_sweep); (try dsimp only); (try k_fold))
  walk_at "m:steps"
  rename News h₀ L _ _ => kN9
  rename Fr h₀ L _ m => kF9
  refine hret _ [_, _, _] _ _ _ _ _ kF9 kN9 (last_lt kN9 (by simp only [AllLt]; assumption) (by walk_at "m:tail")) (by walk_at "m:nl") (by walk_at "m:tail") ?_
  refine .consN ?e1 (by k_mem) (by k_mem) (by walk_at "m:tm") (by walk_at "m:tm") (.consN ?e2 (by k_mem) (by k_mem) (by walk_at "m:tm") (by walk_at "m:tm") (.consN ?e3 (by k_mem) (by k_mem) (by walk_at "m:tm") (by walk_at "m:tm") .nil))
  case e1 => decide +kernel
  case e2 => decide +kernel
  case e3 => decide +kernel
theorem str_small {prog : Program} {w : World} {A : Around} {E : Value → Shared → Prop} {s : Shared} {n : Int} {t₀ : Tok} {Q : Value → Shared → Prop} (h1 : 1 ≤ n) (h3 : n ≤ 3) (h : ∀ t, Q (.str (numS n) t) { s with toks := s.toks + 1 }) :
    wpAny (model prog w) A (call (.type "str") [.int n t₀]) Q E s := by
  rcases three h1 h3 with rfl | rfl | rfl
  · exact P.str_of_int (by decide) (h _)
  · exact P.str_of_int (by decide) (h _)
  · exact P.str_of_int (by decide) (h _)
noncomputable def RulesT (w : World) (p : Program) (loose : List Str) (mean : ExcName → Option Value) (mg mb : Str → Option Value) (n : Int) : Prop :=
  ∀ (dp un : Nat) (gd : Option (List Code)) (env : Env) (outer : List Env) (A₀ : Around) (base h₀ : Heap) (L : Addr) (m : Str → Option Value) (rest : List (Addr × Obj)) (s : Shared) (R : Addr)
    (Q E : Value → Shared → Prop), Below A₀ base outer h₀ → Fr h₀ L s.heap m → (Mine.hd.heap_39 w.params).In h₀ → News h₀ L s.heap rest → Top p loose mean mg mb h₀ → env.frame = some L → env.scope.kind = .function →
    dp + 70 < recursionLimit → un + 560 < cLine → RingIn rest R n →
    (∀ D vs c nw h' tk' dr, Fr h₀ L h' m → News h₀ L h' ((D, W.listOf (List.toArray vs) c) :: nw) → (∀ q ∈ rest, q.1 < D) → NL rest nw → (∀ q ∈ rest, q ∈ nw) → RulesIn nw vs (specs n) → Q (.ref D) { s with heap := h', toks := tk', drawn := dr }) →
    wpAny (model PySem.Challenge.rw_pq0039_01.prog w) (topA dp un gd env outer) (call (.ref 164) [.ref R]) Q E s
noncomputable def RuleT2 (w : World) (p : Program) (loose : List Str) (mean : ExcName → Option Value) (mg mb : Str → Option Value) (T U : Tm) : Prop :=
  ∀ (dp un : Nat) (gd : Option (List Code)) (env : Env) (outer : List Env) (A₀ : Around) (base h₀ : Heap) (L : Addr) (m : Str → Option Value) (rest : List (Addr × Obj)) (s : Shared) (nm : Str) (tn : Tok) (l r : Value) (e : Addr)
    (Q E : Value → Shared → Prop), Below A₀ base outer h₀ → Fr h₀ L s.heap m → (Mine.hd.heap_39 w.params).In h₀ → News h₀ L s.heap rest → Top p loose mean mg mb h₀ → env.frame = some L → env.scope.kind = .function →
    dp + 50 < recursionLimit → un + 400 < cLine → TmIn rest l T → TmIn rest r U → (e, tupO [] 0) ∈ rest →
    (∀ R nw h' tk' dr, Fr h₀ L h' m → News h₀ L h' nw → (∀ q ∈ rest, q ∈ nw) → NL rest nw → RulesIn nw [.ref R] [(nm, T, U)] → Q (.ref R) { s with heap := h', toks := tk', drawn := dr }) →
    wpAny (model PySem.Challenge.rw_pq0039_01.prog w) (topA dp un gd env outer) (call (.ref 118) [.str nm tn, l, r, .ref e]) Q E s
theorem RuleT.two {w : World} {p : Program} {loose : List Str} {mean : ExcName → Option Value} {mg mb : Str → Option Value} {T U : Tm} (h : RuleT w p loose mean mg mb T U) : RuleT2 w p loose mean mg mb T U := by
  intro dp un gd env outer A₀ base h₀ L m rest s nm tn l r e Q E B F X N T hf hk hd hu hl hr he hret
  refine h _ _ _ _ _ _ _ _ _ _ _ _ _ _ _ _ _ _ _ B F X N T hf hk hd hu hl hr he fun R rd h1 h2 h3 h4 t1 t2 t3 t4 nd k h' tk' dr F' N' o1 o2 => ?_
  exact hret R _ h' tk' dr F' N' (fun q hq => .tail _ (.tail _ hq)) (NL.inst (NL.dict NL.base)) (.cons (.head _) (.tail _ (.head _)) (hl.mono fun q hq => .tail _ (.tail _ hq)) (hr.mono fun q hq => .tail _ (.tail _ hq)) .nil)
section
variable (w : World) (p : Program) (loose : List Str) (mean : ExcName → Option Value) (mg mb : Str → Option Value)
theorem rt_neg_add : RuleT w p loose mean mg mb (.bin "add" tA (.un "neg" tA)) tZ := rule_tell w p loose mean mg mb _ _ (.bin pA (.un pA)) pZ rfl (by decide +kernel) (Nat.le_of_ble_eq_true rfl) (Nat.le_of_ble_eq_true rfl)
theorem rt_neg_neg : RuleT w p loose mean mg mb (.un "neg" (.un "neg" tA)) tA := rule_tell w p loose mean mg mb _ _ (.un (.un pA)) pA rfl (by decide +kernel) (Nat.le_of_ble_eq_true rfl) (Nat.le_of_ble_eq_true rfl)
theorem rt_neg_mul : RuleT w p loose mean mg mb (.bin "mul" (.un "neg" tA) tB) (.un "neg" (.bin "mul" tA tB)) := rule_tell w p loose mean mg mb _ _ (.bin (.un pA) pB) (.un (.bin pA pB)) rfl (by decide +kernel) (Nat.le_of_ble_eq_true rfl) (Nat.le_of_ble_eq_true rfl)
theorem rt_mul_zero : RuleT w p loose mean mg mb (.bin "mul" tA tZ) tZ := rule_tell w p loose mean mg mb _ _ (.bin pA pZ) pZ rfl (by decide +kernel) (Nat.le_of_ble_eq_true rfl) (Nat.le_of_ble_eq_true rfl)
theorem rt_spread : RuleT w p loose mean mg mb (.bin "mul" tA (.bin "add" tB tC)) (.bin "add" (.bin "mul" tA tB) (.bin "mul" tA tC)) := rule_tell w p loose mean mg mb _ _ (.bin pA (.bin pB pC)) (.bin (.bin pA pB) (.bin pA pC)) rfl (by decide +kernel) (Nat.le_of_ble_eq_true rfl) (Nat.le_of_ble_eq_true rfl)
theorem rt_gather : RuleT w p loose mean mg mb (.bin "add" (.bin "mul" tA tB) (.bin "mul" tA tC)) (.bin "mul" tA (.bin "add" tB tC)) := rule_tell w p loose mean mg mb _ _ (.bin (.bin pA pB) (.bin pA pC)) (.bin pA (.bin pB pC)) rfl (by decide +kernel) (Nat.le_of_ble_eq_true rfl) (Nat.le_of_ble_eq_true rfl)
theorem rt_round {n : Int} (h1 : 1 ≤ n) (h3 : n ≤ 3) : RuleT w p loose mean mg mb (.leaf (numS n)) tZ := by
  rcases three h1 h3 with rfl | rfl | rfl
  · exact rule_tell w p loose mean mg mb _ _ (.leaf (by decide +kernel)) pZ (by decide +kernel) (by decide +kernel) (Nat.le_of_ble_eq_true rfl) (Nat.le_of_ble_eq_true rfl)
  · exact rule_tell w p loose mean mg mb _ _ (.leaf (by decide +kernel)) pZ (by decide +kernel) (by decide +kernel) (Nat.le_of_ble_eq_true rfl) (Nat.le_of_ble_eq_true rfl)
  · exact rule_tell w p loose mean mg mb _ _ (.leaf (by decide +kernel)) pZ (by decide +kernel) (by decide +kernel) (Nat.le_of_ble_eq_true rfl) (Nat.le_of_ble_eq_true rfl)
end
theorem rules_tell (w : World) (p : Program) (loose : List Str) (mean : ExcName → Option Value) (mg mb : Str → Option Value) (n : Int) (hn1 : 1 ≤ n) (hn3 : n ≤ 3) : RulesT w p loose mean mg mb n := by
  unfold RulesT
  k_fill
  intro dp un gd env outer A₀ base h₀ L m rest s R Q E B F X N T hf hk hd hu hR hret
  obtain ⟨rd, rh, rt, rt', hm1, hm2⟩ := hR
  refine wpAny_call ?_
  k_dflt (walk_at "m:enter")
  k_with "m:call" => ((with_reducible show wpAny _ _ (call (Value.ref 143) [Value.str (Str.ofString "add") _, _]) _ _ _); k_dflt (refine' laws_add _ _ _ _ _ _ _ _ _ _ _ _ _ _ _ _ _ _ _ _ _ _ ?k1 ?k2 ?k3 ?k4 ?k5 ?kf ?kk ?kd ?ku ?_; (walk_at "m:sides")); intro D1 vs1 c1 nw1 h1 tk1 dr1 F1 N1 O1 l1 s1 r1; (have hz1 := s1 _ (.head _)); (have hm11 := s1 _ (.tail _ hm1)); (have hm21 := s1 _ (.tail _ hm2)); (have len1 : vs1.length = 3 := r1.length); (have nl1 := NL.lst (a := D1) (c := c1) (l := vs1) (by omega) (NL.trans (NL.tup NL.base) l1)); (have sb1 := fun q (hq : q ∈ rest) => s1 q (.tail _ hq)); (try k_unmd); (try k_sweep); (try dsimp only); (try k_fold))
  k_with "m:call" => ((with_reducible show wpAny _ _ (call (Value.ref 143) [Value.str (Str.ofString "mul") _, _]) _ _ _); k_dflt (refine' laws_mul _ _ _ _ _ _ _ _ _ _ _ _ _ _ _ _ _ _ _ _ _ _ ?k1 ?k2 ?k3 ?k4 ?k5 ?kf ?kk ?kd ?ku ?_; (walk_at "m:sides")); intro D2 vs2 c2 nw2 h2 tk2 dr2 F2 N2 O2 l2 s2 r2; (have hz2 := s2 _ (.tail _ hz1)); (have hm12 := s2 _ (.tail _ hm11)); (have hm22 := s2 _ (.tail _ hm21)); (have hD1 := s2 _ (.head _)); (have len2 : vs2.length = 3 := r2.length); (have nl2 := NL.trans nl1 l2); (have sb2 := fun q (hq : q ∈ rest) => s2 q (.tail _ (sb1 q hq))); (have r12 := r1.mono (fun p hp => s2 p (.tail _ hp))); (have r22 := RulesIn.append r2 r12); (try k_unmd); (try k_sweep); (try dsimp only); (try k_fold))
  k_with "m:cat" => ((with_reducible rename News _ _ _ _ => kN9); (with_reducible rename Fr _ _ _ _ => kF9); k_dflt (refine' kmk_add_lit (its := vs1.toArray) (its2 := vs2.toArray) (zs := vs1 ++ vs2) kF9 kN9 (News.isList kN9 (.tail _ hD1)) (News.isList kN9 (.head _)) rfl ?_ ?q1; (case q1 => exact Nat.le_trans (Nat.le_of_eq (show vs1.length + vs2.length = 6 by omega)) (by decide))); intro D3 h3 F3 N3 O3; clear O3; (try k_sweep))
  k_with "m:cat" => ((with_reducible rename News _ _ _ _ => kN9); (with_reducible rename Fr _ _ _ _ => kF9); k_dflt (refine' kmk_add_lit (its := (vs1 ++ vs2).toArray) kF9 kN9 (News.isList (a := D3) (n := 0) kN9 ?q0) (News.isList kN9 (.head _)) rfl ?_ ?q1; (case q0 => k_mem); (case q1 => exact Nat.le_trans (Nat.le_of_eq (show (vs1 ++ vs2).length + 7 = 13 by rw [List.length_append]; omega)) (by decide))); intro D4 h4 F4 N4 O4; (try k_sweep))
  k_with "m:str" => ((with_reducible show wpAny _ _ (call (Value.type "str") [Value.int _ _]) _ _ _); k_dflt (refine str_small hn1 hn3 ?_); intro tS)
  k_with "m:call" => ((with_reducible show wpAny _ _ (call (Value.ref 118) [Value.str (Str.ofString "neg-add") _, _, _, _]) _ _ _); k_dflt ((refine' (RuleT.two (rt_neg_add _ _ _ _ _ _)) _ _ _ _ _ _ _ _ _ _ _ _ _ _ _ _ _ _ _ ?k1 ?k2 ?k3 ?k4 ?k5 ?kf ?kk ?kd ?ku ?a ?b ?c ?_; (walk_at "m:sides"); (case a => walk_at "m:tm"); (case b => walk_at "m:tm"); (case c => k_mem)); intro P1 nw3 g1 tg1 dg1 G1 H1 s3 l3 r3; (have lf3 := fun q (hq : q ∈ nw2) => s3 q (.tail _ (.tail _ (.tail _ (.tail _ (.tail _ (hq))))))); (have hz3 := lf3 _ hz2); (have hm13 := lf3 _ hm12); (have hm23 := lf3 _ hm22); (have hD33 := s3 _ (.tail _ (.tail _ (.tail _ (.head _))))); (have ra3 := r3); (have nl3 := NL.trans (rest := rest) (by walk_at "m:nl2") l3); (have sb3 := fun q (hq : q ∈ rest) => lf3 q (sb2 q hq)); (have r23 := r22.mono lf3); clear lf3 s3 r3 l3; (try k_unmd); (try k_sweep); (try dsimp only); (try k_fold)))
  k_with "m:call" => ((with_reducible show wpAny _ _ (call (Value.ref 118) [Value.str (Str.ofString "neg-neg") _, _, _, _]) _ _ _); k_dflt ((refine' (RuleT.two (rt_neg_neg _ _ _ _ _ _)) _ _ _ _ _ _ _ _ _ _ _ _ _ _ _ _ _ _ _ ?k1 ?k2 ?k3 ?k4 ?k5 ?kf ?kk ?kd ?ku ?a ?b ?c ?_; (walk_at "m:sides"); (case a => walk_at "m:tm"); (case b => walk_at "m:tm"); (case c => k_mem)); intro P2 nw4 g2 tg2 dg2 G2 H2 s4 l4 r4; (have lf4 := fun q (hq : q ∈ nw3) => s4 q (.tail _ (.tail _ (.tail _ (hq))))); (have hz4 := lf4 _ hz3); (have hm14 := lf4 _ hm13); (have hm24 := lf4 _ hm23); (have hD34 := s4 _ (.tail _ (.tail _ (.tail _ (hD33))))); (have ra4 := RulesIn.append r4 (ra3.mono lf4)); (have nl4 := NL.trans (rest := rest) (by walk_at "m:nl2") l4); (have sb4 := fun q (hq : q ∈ rest) => lf4 q (sb3 q hq)); (have r24 := r23.mono lf4); clear lf4 s4 r4 l4; (try k_unmd); (try k_sweep); (try dsimp only); (try k_fold)))
  k_with "m:call" => ((with_reducible show wpAny _ _ (call (Value.ref 118) [Value.str (Str.ofString "neg-mul") _, _, _, _]) _ _ _); k_dflt ((refine' (RuleT.two (rt_neg_mul _ _ _ _ _ _)) _ _ _ _ _ _ _ _ _ _ _ _ _ _ _ _ _ _ _ ?k1 ?k2 ?k3 ?k4 ?k5 ?kf ?kk ?kd ?ku ?a ?b ?c ?_; (walk_at "m:sides"); (case a => walk_at "m:tm"); (case b => walk_at "m:tm"); (case c => k_mem)); intro P3 nw5 g3 tg3 dg3 G3 H3 s5 l5 r5; (have lf5 := fun q (hq : q ∈ nw4) => s5 q (.tail _ (.tail _ (.tail _ (.tail _ (.tail _ (hq))))))); (have hz5 := lf5 _ hz4); (have hm15 := lf5 _ hm14); (have hm25 := lf5 _ hm24); (have hD35 := s5 _ (.tail _ (.tail _ (.tail _ (.tail _ (.tail _ (hD34))))))); (have ra5 := RulesIn.append r5 (ra4.mono lf5)); (have nl5 := NL.trans (rest := rest) (by walk_at "m:nl2") l5); (have sb5 := fun q (hq : q ∈ rest) => lf5 q (sb4 q hq)); (have r25 := r24.mono lf5); clear lf5 s5 r5 l5; (try k_unmd); (try k_sweep); (try dsimp only); (try k_fold)))
  k_with "m:call" => ((with_reducible show wpAny _ _ (call (Value.ref 118) [Value.str (Str.ofString "mul-zero") _, _, _, _]) _ _ _); k_dflt ((refine' (RuleT.two (rt_mul_zero _ _ _ _ _ _)) _ _ _ _ _ _ _ _ _ _ _ _ _ _ _ _ _ _ _ ?k1 ?k2 ?k3 ?k4 ?k5 ?kf ?kk ?kd ?ku ?a ?b ?c ?_; (walk_at "m:sides"); (case a => walk_at "m:tm"); (case b => walk_at "m:tm"); (case c => k_mem)); intro P4 nw6 g4 tg4 dg4 G4 H4 s6 l6 r6; (have lf6 := fun q (hq : q ∈ nw5) => s6 q (.tail _ (.tail _ (hq)))); (have hz6 := lf6 _ hz5); (have hm16 := lf6 _ hm15); (have hm26 := lf6 _ hm25); (have hD36 := s6 _ (.tail _ (.tail _ (hD35)))); (have ra6 := RulesIn.append r6 (ra5.mono lf6)); (have nl6 := NL.trans (rest := rest) (by walk_at "m:nl2") l6); (have sb6 := fun q (hq : q ∈ rest) => lf6 q (sb5 q hq)); (have r26 := r25.mono lf6); clear lf6 s6 r6 l6; (try k_unmd); (try k_sweep); (try dsimp only); (try k_fold)))
  k_with "m:call" => ((with_reducible show wpAny _ _ (call (Value.ref 118) [Value.str (Str.ofString "spread") _, _, _, _]) _ _ _); k_dflt ((refine' (RuleT.two (rt_spread _ _ _ _ _ _)) _ _ _ _ _ _ _ _ _ _ _ _ _ _ _ _ _ _ _ ?k1 ?k2 ?k3 ?k4 ?k5 ?kf ?kk ?kd ?ku ?a ?b ?c ?_; (walk_at "m:sides"); (case a => walk_at "m:tm"); (case b => walk_at "m:tm"); (case c => k_mem)); intro P5 nw7 g5 tg5 dg5 G5 H5 s7 l7 r7; (have lf7 := fun q (hq : q ∈ nw6) => s7 q (.tail _ (.tail _ (.tail _ (.tail _ (.tail _ (.tail _ (hq)))))))); (have hz7 := lf7 _ hz6); (have hm17 := lf7 _ hm16); (have hm27 := lf7 _ hm26); (have hD37 := s7 _ (.tail _ (.tail _ (.tail _ (.tail _ (.tail _ (.tail _ (hD36)))))))); (have ra7 := RulesIn.append r7 (ra6.mono lf7)); (have nl7 := NL.trans (rest := rest) (by walk_at "m:nl2") l7); (have sb7 := fun q (hq : q ∈ rest) => lf7 q (sb6 q hq)); (have r27 := r26.mono lf7); clear lf7 s7 r7 l7; (try k_unmd); (try k_sweep); (try dsimp only); (try k_fold)))
  k_with "m:call" => ((with_reducible show wpAny _ _ (call (Value.ref 118) [Value.str (Str.ofString "gather") _, _, _, _]) _ _ _); k_dflt ((refine' (RuleT.two (rt_gather _ _ _ _ _ _)) _ _ _ _ _ _ _ _ _ _ _ _ _ _ _ _ _ _ _ ?k1 ?k2 ?k3 ?k4 ?k5 ?kf ?kk ?kd ?ku ?a ?b ?c ?_; (walk_at "m:sides"); (case a => walk_at "m:tm"); (case b => walk_at "m:tm"); (case c => k_mem)); intro P6 nw8 g6 tg6 dg6 G6 H6 s8 l8 r8; (have lf8 := fun q (hq : q ∈ nw7) => s8 q (.tail _ (.tail _ (.tail _ (.tail _ (.tail _ (.tail _ (hq)))))))); (have hz8 := lf8 _ hz7); (have hm18 := lf8 _ hm17); (have hm28 := lf8 _ hm27); (have hD38 := s8 _ (.tail _ (.tail _ (.tail _ (.tail _ (.tail _ (.tail _ (hD37)))))))); (have ra8 := RulesIn.append r8 (ra7.mono lf8)); (have nl8 := NL.trans (rest := rest) (by walk_at "m:nl2") l8); (have sb8 := fun q (hq : q ∈ rest) => lf8 q (sb7 q hq)); (have r28 := r27.mono lf8); clear lf8 s8 r8 l8; (try k_unmd); (try k_sweep); (try dsimp only); (try k_fold)))
  k_with "m:call" => ((with_reducible show wpAny _ _ (call (Value.ref 118) [Value.str (Str.ofString "round") _, _, _, _]) _ _ _); k_dflt ((refine' (RuleT.two (rt_round _ _ _ _ _ _ hn1 hn3)) _ _ _ _ _ _ _ _ _ _ _ _ _ _ _ _ _ _ _ ?k1 ?k2 ?k3 ?k4 ?k5 ?kf ?kk ?kd ?ku ?a ?b ?c ?_; (walk_at "m:sides"); (case a => walk_at "m:tm"); (case b => walk_at "m:tm"); (case c => k_mem)); intro P7 nw9 g7 tg7 dg7 G7 H7 s9 l9 r9; (have lf9 := fun q (hq : q ∈ nw8) => s9 q (.tail _ (.tail _ (hq)))); (have hz9 := lf9 _ hz8); (have hm19 := lf9 _ hm18); (have hm29 := lf9 _ hm28); (have hD39 := s9 _ (.tail _ (.tail _ (hD38)))); (have ra9 := RulesIn.append r9 (ra8.mono lf9)); (have nl9 := NL.trans (rest := rest) (by walk_at "m:nl2") l9); (have sb9 := fun q (hq : q ∈ rest) => lf9 q (sb8 q hq)); (have r29 := r28.mono lf9); clear lf9 s9 r9 l9; (try k_unmd); (try k_sweep); (try dsimp only); (try k_fold)))
  walk_at "m:steps"
  rename News h₀ L _ _ => kN9
  rename Fr h₀ L _ m => kF9
  have sb10 := fun (x : Addr × Obj) q (hq : q ∈ rest) => List.Mem.tail x (sb9 q hq)
  refine hret D4 _ _ _ _ _ _ kF9 kN9 (fun q hq => O4 q (sb10 _ q hq)) (by walk_at "m:nl2") (sb10 _) ?_
  exact (RulesIn.append ra9 r29).mono fun q hq => .tail _ hq
/-- an own exception's bare object -/
noncomputable abbrev excO (C T : Addr) : Obj := { cls := .ref C, data := .fields #[.ref T, .none, .none, .none, .bool false, .none] }
section
variable {prog : Program} {w : World} {A : Around} {E : Value → Shared → Prop} {R : Result → Shared → Prop} {h : Heap} {g : Array GenState} {d : Drawn} {t : Nat} {os : OsState}
variable {nm q : Str} {C N : Addr} {bs bm : List Value} {hdct : Bool} {sn : List Str} {sub : List Value} {ab : Bool} {col : Option Bool} {dd : Option Addr} {k0 k1 k2 k3 k5 : Option Value} {Bn newId inN : String} {bmN : List Value}
theorem exc_new (Fn : ExcBaseFacts Bn newId inN bmN) (hBn : bm.contains (.type Bn) = true) (hnA : bm.contains (.type "AttributeError") = false) (hnN : bm.contains (.type "NameError") = false) {rest : List Value}
    (hC : h.get? C = some (excClassObj nm q C N bs bm hdct sn sub ab col dd k0 k1 k2 k3 k5 newId))
    (hq : R (.ok (.ret (.ref (h.objs.size + 1)))) ⟨(h.push { cls := .type "tuple", data := .seq rest.toArray }).push (excO C h.objs.size), g, d, t, os⟩) (hrest : rest.length ≤ sizeLine) :
    codeAny (model prog w) A (.builtin newId ⟨.ref C :: rest, []⟩) R ⟨h, g, d, t, os⟩ := by
  have hends := Fn.ends
  have hcB : (Value.ref C :: bm).contains (.type Bn) = true := by rw [List.contains_cons, hBn, Bool.or_true]
  have hcA : (Value.ref C :: bm).contains (.type "AttributeError") = false := by rw [List.contains_cons, hnA]; rfl
  have hcN : (Value.ref C :: bm).contains (.type "NameError") = false := by rw [List.contains_cons, hnN]; rfl
  refine codeAny_builtinAt Fn.entry ?_
  unfold Builtin.«BaseException.__new__»
  refine PySem.wpAt_bind ?_
  show PySem.wpAt _ _ _ (stack >>= _) _ _ _
  refine PySem.wpAt_bind (PySem.wpAt_stack fun p below => PySem.wpAt_of_wpAny ?_)
  wp_walk
  refine PySem.wpAt_of_wpAny ?_
  rw [Fn.owner]
  repeat (first | with_reducible refine wpAny_madeHere_exc Fn.canon hC ?_ | with_reducible refine wpAny_loadPart_at hC ?_ | (with_reducible refine wpAny_isSubtype_exc hC ?_; first | rw [hcB] | rw [hcA] | rw [hcN]) | wp_step)
  show R _ _
  rw [Heap.size_push]
  exact hq
theorem exc_type_call (Fn : ExcBaseFacts Bn newId inN bmN) (hBn : bm.contains (.type Bn) = true) (hnA : bm.contains (.type "AttributeError") = false) (hnN : bm.contains (.type "NameError") = false) {rest : List Value} {fI : Addr} {oI : Obj} {Q : Fin → Shared → Prop}
    (hC : h.get? C = some (excClassObj nm q C N bs bm hdct sn sub ab col dd k0 k1 k2 k3 k5 newId)) (hlk : Looks (model prog w) h (typeLookup (.ref C) "__init__") (some (.ref fI)))
    (hfI : h.get? fI = some oI) (hfc : oI.cls = .type "function")
    (hq : wpAny (model prog w) A (call (.ref fI) (.ref (h.objs.size + 1) :: rest)) (fun r s' => r = .none ∧ Q (.done (.ret (.ref (h.objs.size + 1)))) s') E ⟨(h.push { cls := .type "tuple", data := .seq rest.toArray }).push (excO C h.objs.size), g, d, t, os⟩) (hrest : rest.length ≤ sizeLine) :
    wpAny (model prog w) A (Builtin.«type.__call__» ⟨.ref C :: rest, []⟩) Q E ⟨h, g, d, t, os⟩ := by
  repeat (first | with_reducible refine wpAny_loadPart_at hC ?_ | with_reducible refine wpAny_madeBy_exc hC ?_ | wp_step)
  refine codeAny_call_builtin_code (Code.quiet_builtin _ Fn.quiet) (wpAny_check_new_subU Fn hBn .base hC ?_)
  refine exc_new Fn hBn hnA hnN hC ?_ hrest
  show wpAny _ _ _ _ _ _
  have hC₁ := Heap.get?_push_of_some (excO C h.objs.size) (Heap.get?_push_of_some { cls := .type "tuple", data := .seq rest.toArray } hC)
  have hfI₁ := Heap.get?_push_of_some (excO C h.objs.size) (Heap.get?_push_of_some { cls := .type "tuple", data := .seq rest.toArray } hfI)
  have hget : ((h.push { cls := .type "tuple", data := .seq rest.toArray }).push (excO C h.objs.size)).get? (h.objs.size + 1) = some (excO C h.objs.size) := by heap_get
  have hcC : (Value.ref C :: bm).contains (.ref C) = true := by simp
  unfold isInstance
  repeat (first | with_reducible refine wpAny_loadPart_at hget ?_ | (with_reducible refine wpAny_isSubtype_exc hC₁ ?_; rw [hcC]) | wp_step)
  show wpAny _ _ (typeLookup (.ref C) _) _ _ _
  refine (hlk.keeps fun b o e => Heap.get?_push_of_some _ (Heap.get?_push_of_some _ e)).at ?_
  refine wpAny_holding (wpAny_bind ?_)
  unfold bindSpecial
  refine wpAny_bind (wpAny_typeOf (T := "function") ⟨_, hfI₁, hfc⟩ ?_)
  rw [if_pos (by decide)]
  refine wpAny_pure (wpAny_bind (wpAny_mono hq (fun r s' hr => ?_) fun _ _ x => x))
  obtain ⟨rfl, hQ⟩ := hr
  wp_walk
  exact hQ
/-- TermFault(what): the object is made, its own __init__ is run on it -/
theorem call_exc_own (Fn : ExcBaseFacts Bn newId inN bmN) (hBn : bm.contains (.type Bn) = true) (hnA : bm.contains (.type "AttributeError") = false) (hnN : bm.contains (.type "NameError") = false) {rest : List Value} {fI : Addr} {oI : Obj} {Q : Value → Shared → Prop}
    (hC : h.get? C = some (excClassObj nm q C N bs bm hdct sn sub ab col dd k0 k1 k2 k3 k5 newId)) (hlk : Looks (model prog w) h (typeLookup (.ref C) "__init__") (some (.ref fI)))
    (hfI : h.get? fI = some oI) (hfc : oI.cls = .type "function")
    (hq : wpAny (model prog w) (A.under (.builtin "type.__call__" ⟨.ref C :: rest, []⟩)) (call (.ref fI) (.ref (h.objs.size + 1) :: rest)) (fun r s' => r = .none ∧ Q (.ref (h.objs.size + 1)) s') E ⟨(h.push { cls := .type "tuple", data := .seq rest.toArray }).push (excO C h.objs.size), g, d, t, os⟩) (hrest : rest.length ≤ sizeLine) :
    wpAny (model prog w) A (call (.ref C) rest) Q E ⟨h, g, d, t, os⟩ := by
  have f1 := tc_lookup
  have f2 := tc_bind (.ref C)
  have hT : (⟨h, g, d, t, os⟩ : Shared).TypeIs (.ref C) "type" := ⟨_, hC, rfl⟩
  refine wpAny_call (codeAny_of_tree ?_)
  show wpAny _ _ (callAny (.ref C) _) _ _ _
  repeat (any_goals (first | assumption | with_reducible refine wpAny_loadPart_at hC ?_ | wp_step))
  refine ⟨rfl, ?_⟩
  refine codeAny_call_builtin_at (Code.quiet_builtin _ (by decide +kernel)) entry_typeCall (wpAny_check_type_call_sub hC (exc_type_call Fn hBn hnA hnN hC hlk hfI hfc hq hrest))
end
theorem store_cell2 {M : Model} {A : Around} {E : Value → Shared → Prop} {s : Shared} {h₀ : Heap} {L : Addr} {m : Str → Option Value} {env : Env} {x : Str} {c : Addr} {oc : Obj} {v₀ : Option Value} {v : Value} {pre post : List (Addr × Obj)} {Q : Unit → Shared → Prop}
    (F : Fr h₀ L s.heap m) (N : News h₀ L s.heap (pre ++ (c, oc) :: post)) (hd : oc.data = .cell v₀) (hk : env.scope.kind = .function) (hx : env.kindOf x = some .cell) (hc : env.cells.lookup x = some c) (off : ∀ p ∈ pre ++ post, p.1 ≠ c)
    (h : ∀ h' oc', Fr h₀ L h' m → News h₀ L h' (pre ++ (c, oc') :: post) → oc'.data = .cell (some v) → Q () { s with heap := h' }) : wpAny M A (storeName env x v) Q E s := by
  have z := N (c, oc) (List.mem_append_right _ (.head _))
  refine wpAny_storeName_cell hk hx hc ⟨oc, z.1, hd⟩ fun h' hcell hs => ?_
  obtain ⟨oc', e', d'⟩ := hcell
  have keep : ∀ b o, b ≠ c → s.heap.get? b = some o → h'.get? b = some o := fun b o hb e => hs.extBut b o hb e
  refine h h' oc' ⟨F.ns.at' fun o e => keep _ o (Ne.symm z.2.1) e, fun b o e => keep b o (fun q => by have q' : b = c := q; rw [q', z.2.2] at e; cases e) (F.keep b o e), F.above⟩ (fun p hp => ?_) d'
  rcases List.mem_append.mp hp with hp | hp
  · have y := N p (List.mem_append_left _ hp)
    exact ⟨keep _ _ (off p (List.mem_append_left _ hp)) y.1, y.2⟩
  · rcases List.mem_cons.mp hp with rfl | hp
    · exact ⟨e', z.2⟩
    · have y := N p (List.mem_append_right _ (.tail _ hp))
      exact ⟨keep _ _ (off p (List.mem_append_right _ hp)) y.1, y.2⟩
section
variable {prog : Program} {w : World} {A : Around} {E : Value → Shared → Prop} {s : Shared} {h₀ : Heap} {L : Addr} {m : Str → Option Value} {env : Env}
/-- what a turn must leave, its name being a cell -/
noncomputable def ForEC (bb : Bool) (h₀ : Heap) (L : Addr) (I c : Addr) (oI oc : Obj) (J : (Str → Option Value) → List (Addr × Obj) → Prop) (s' : Shared) (f : Flow) (s'' : Shared) : Prop :=
  f = .next ∧ ∃ m' nw', Sm bb s' s'' ∧ Fr h₀ L s''.heap m' ∧ News h₀ L s''.heap ((I, oI) :: (c, oc) :: nw') ∧ (∀ p ∈ nw', p.1 ≠ I ∧ p.1 ≠ c) ∧ J m' nw'
/-- for x in a list, x being a cell of the frame's -/
theorem ForGo.lstC {bb : Bool} {x : Str} {px : Pos} {body : List Stmt} {Q : Flow → Shared → Prop} {s₁ : Shared} {ax c : Addr} {oc : Obj} {v₀ : Option Value} {its : Array Value} {news : List (Addr × Obj)}
    (J : Nat → (Str → Option Value) → List (Addr × Obj) → Prop) (hLe : env.locals = L) (hk0 : env.scope.kind = .function) (hx : env.kindOf x = some .cell) (hc : env.cells.lookup x = some c) (hoc : oc.data = .cell v₀) (hoffc : ∀ p ∈ news, p.1 ≠ c) (hh : A.handled = none)
    (F : Fr h₀ L s₁.heap m) (N : News h₀ L s₁.heap ((c, oc) :: news)) (src : SrcT "list" h₀ ax its news) (h0 : J 0 m news) (hJs : ∀ i m nw, J i m nw → SrcT "list" h₀ ax its nw)
    (turn : ∀ i v m₁ nw I oI oc' s' (E' : Value → Shared → Prop), its[i]? = some v → J i m₁ nw → Sm bb s₁ s' → Fr h₀ L s'.heap m₁ → oc'.data = .cell (some v) → News h₀ L s'.heap ((I, oI) :: (c, oc') :: nw) → (∀ p ∈ nw, p.1 ≠ I ∧ p.1 ≠ c) → c ≠ I →
      wpAny (model prog w) A (execs body env) (ForEC bb h₀ L I c oI oc' (J (i + 1)) s') E' s')
    (fin : ∀ m' nw s', J its.size m' nw → Sm bb s₁ s' → Fr h₀ L s'.heap m' → (∃ oc' v', oc'.data = .cell v' ∧ News h₀ L s'.heap ((c, oc') :: nw)) → (∀ p ∈ nw, p.1 ≠ c) → Q .next s') :
    ForGo prog w A env (.Name x px) body Q E (.ref ax) s₁ := by
  have N1 : News h₀ L s₁.heap news := fun p hp => N p (.tail _ hp)
  have hls : s₁.heap.IsList ax its := src.at F.keep N1
  have hlt : ax < s₁.heap.objs.size := by obtain ⟨o, ho, _⟩ := hls; exact Heap.lt_size ho
  have zc := N (c, oc) (.head _)
  have hclt : c < s₁.heap.objs.size := Heap.lt_size zc.1
  refine wpAny_pyIter_list hls ?_
  have hLlt : L < s₁.heap.objs.size := F.ns.lt
  have haxL : L ≠ ax := fun e => by
    rcases src with ⟨o, ho, _⟩ | ⟨o, ho, _⟩
    · have := Heap.lt_size ho
      exact absurd (e ▸ this) (Nat.not_lt.mpr F.above)
    · exact (N1 _ ho).2.1 e.symm
  have W := Walks.list (prog := prog) (w := w) (A := A) hh s₁.heap.objs.size ax (Nat.ne_of_lt hlt) its
  generalize hI : s₁.heap.objs.size = I at W hlt hLlt hclt
  have hIL : L ≠ I := Nat.ne_of_lt hLlt
  have hcI : c ≠ I := Nat.ne_of_lt hclt
  have hI₀ : h₀.get? I = none := hI ▸ next_is_new F
  have ltI : ∀ p ∈ news, p.1 < I := fun p hp => hI ▸ Heap.lt_size (N1 p hp).1
  refine codeAny_forLoop_any (fun q s' => ∃ i m' nw, Sm bb s₁ s' ∧ i ≤ its.size ∧ q = its.size + 1 - i ∧ (s'.heap.IsListIter I ax i ∧ s'.heap.IsList ax its) ∧ Fr h₀ L s'.heap m' ∧ (∃ oc' v', oc'.data = .cell v' ∧ News h₀ L s'.heap ((c, oc') :: nw)) ∧ (∀ p ∈ nw, p.1 ≠ I ∧ p.1 ≠ c) ∧ J i m' nw) ?_ (its.size + 1)
    ⟨0, m, news, ⟨_, s₁.toks, s₁.drawn, fun _ => rfl, rfl⟩, Nat.zero_le _, rfl, ⟨⟨_, hI ▸ Heap.get?_push_size _ rfl, rfl, rfl⟩, hls.push _⟩, F.keeps fun _ _ e => Heap.get?_push_of_some _ e, ⟨oc, v₀, hoc, N.grown fun _ _ e => Heap.get?_push_of_some _ e⟩, fun p hp => ⟨Nat.ne_of_lt (ltI p hp), hoffc p hp⟩, h0⟩
  intro q s' hr5
  refine hide9 fun G9 h9 => ?_
  rcases hr5 with ⟨i, m', nw, hsm, hi, rfl, hst', F', ⟨ocx, vx, hocx, N'⟩, off', hJ⟩
  refine h9 ?_
  clear h9 G9
  have offI : ∀ p ∈ (c, ocx) :: nw, p.1 ≠ I := fun p hp => by
    rcases List.mem_cons.mp hp with rfl | hp
    · exact hcI
    · exact (off' p hp).1
  by_cases hlti : i < its.size
  · refine W.item i _ _ _ hlti hst' fun v h₂ tk₂ hPv hst₂ hk₂ => ?_
    have N₂ : News h₀ L h₂ ((c, ocx) :: nw) := news_but N' hk₂ offI
    have F₂ : Fr h₀ L h₂ m' := fr_but F' hk₂ hIL hI₀
    refine wpAny_of_eq (a := ()) rfl ?_
    have zc2 := N₂ (c, ocx) (.head _)
    refine wpAny_assign_Name (wpAny_storeName_cell hk0 hx hc ⟨ocx, zc2.1, hocx⟩ fun h₅ hcell hs₅ => ?_)
    obtain ⟨oc5, hoc5, hd5⟩ := hcell
    have hk₄ : ∀ b o, b ≠ c → h₂.get? b = some o → h₅.get? b = some o := fun b o b2 e => hs₅.extBut _ _ b2 e
    have F₄ : Fr h₀ L h₅ m' := ⟨F₂.ns.at' fun o e => hk₄ _ o (Ne.symm zc2.2.1) e, fun b o e => hk₄ b o (fun q => by have q' : b = c := q; rw [q', zc2.2.2] at e; cases e) (F₂.keep b o e), F₂.above⟩
    obtain ⟨oI, heI, rI⟩ := hst₂.1
    have N₄ : News h₀ L h₅ ((I, oI) :: (c, oc5) :: nw) := fun p hp => by
      rcases List.mem_cons.mp hp with rfl | hp
      · exact ⟨hk₄ _ _ (Ne.symm hcI) heI, Ne.symm hIL, hI₀⟩
      · rcases List.mem_cons.mp hp with rfl | hp
        · exact ⟨hoc5, zc2.2⟩
        · have z := N₂ p (.tail _ hp)
          exact ⟨hk₄ _ _ (off' p hp).2 z.1, z.2⟩
    refine wpAny_mono (turn i v m' nw I oI oc5 _ _ hPv hJ (hsm.trans Sm.ht) F₄ hd5 N₄ off' hcI) (fun f s₅ h₅' => ?_) fun _ _ e => e
    obtain ⟨rfl, m₅, nw₅, hsm₅, F₅, N₅, off₅, J₅⟩ := h₅'
    have N₅' : News h₀ L s₅.heap nw₅ := fun p hp => N₅ p (.tail _ (.tail _ hp))
    exact ⟨its.size + 1 - (i + 1), by omega, i + 1, m₅, nw₅, (hsm.trans Sm.ht).trans hsm₅, hlti, rfl, ⟨⟨oI, (N₅ _ (.head _)).1, rI⟩, (hJs _ _ _ J₅).at F₅.keep N₅'⟩, F₅, ⟨oc5, _, hd5, fun p hp => N₅ p (.tail _ hp)⟩, off₅, J₅⟩
  · obtain rfl : i = its.size := Nat.le_antisymm hi (Nat.not_lt.mp hlti)
    refine W.done _ _ _ hst' fun h₁ tk₁ hk₁ => wpAny_execs_nil ?_
    exact fin m' nw _ hJ (hsm.trans Sm.ht) (fr_but F' hk₁ hIL hI₀) ⟨ocx, vx, hocx, news_but N' hk₁ offI⟩ fun p hp => (off' p hp).2
end
noncomputable def NF (c : Addr) (nw : List (Addr × Obj)) : List (Addr × Obj) := nw.filter fun p => decide (p.1 ≠ c)
theorem NF.off {c : Addr} {nw : List (Addr × Obj)} : ∀ p ∈ NF c nw, p.1 ≠ c := fun p hp => of_decide_eq_true (List.mem_filter.mp hp).2
theorem NF.sub {c : Addr} {nw : List (Addr × Obj)} : ∀ p ∈ NF c nw, p ∈ nw := fun p hp => (List.mem_filter.mp hp).1
theorem NF.memA {c : Addr} {nw : List (Addr × Obj)} {p : Addr × Obj} (hp : p ∈ nw) (h : p.1 ≠ c) : p ∈ NF c nw := List.mem_filter.mpr ⟨hp, decide_eq_true h⟩
noncomputable def CellAt (c : Addr) (nw : List (Addr × Obj)) : Prop := ∀ p ∈ nw, p.1 = c → ∃ v, p.2.data = .cell v
theorem CellAt.of {h₀ h : Heap} {L c : Addr} {oc : Obj} {v : Option Value} {x : Addr × Obj} {nw : List (Addr × Obj)} (N : News h₀ L h (x :: nw)) (hm : (c, oc) ∈ nw) (hd : oc.data = .cell v) : CellAt c nw := fun p hp e => by
  have a := (N p (.tail _ hp)).1
  have b := (N (c, oc) (.tail _ hm)).1
  rw [e] at a
  rw [a] at b
  cases b
  exact ⟨v, hd⟩
theorem NF.mem {c : Addr} {nw : List (Addr × Obj)} (H : CellAt c nw) {p : Addr × Obj} (hp : p ∈ nw) (hd : ∀ v, p.2.data ≠ .cell v) : p ∈ NF c nw := NF.memA hp fun e => let ⟨v, h⟩ := H p hp e; hd v h
theorem NF.tm {c : Addr} {nw : List (Addr × Obj)} (H : CellAt c nw) {v : Value} {T : Tm} (h : TmIn nw v T) : TmIn (NF c nw) v T := by
  induction h with
  | leaf m => exact .leaf (NF.mem H m fun v h => by cases h)
  | un m _ ih => exact .un (NF.mem H m fun v h => by cases h) ih
  | bin m _ _ ih1 ih2 => exact .bin (NF.mem H m fun v h => by cases h) ih1 ih2
  | A => exact .A
  | B => exact .B
  | C => exact .C
theorem NF.rules {c : Addr} {nw : List (Addr × Obj)} (H : CellAt c nw) : ∀ {vs : List Value} {sp : List (Str × Tm × Tm)}, RulesIn nw vs sp → RulesIn (NF c nw) vs sp
  | _, _, .nil => .nil
  | _, _, .cons a b x y z => .cons (NF.mem H a fun v h => by cases h) (NF.mem H b fun v h => by cases h) (NF.tm H x) (NF.tm H y) (NF.rules H z)
theorem rot_cell {h₀ h : Heap} {L c : Addr} {oc : Obj} {x : Addr × Obj} {nw : List (Addr × Obj)} (N : News h₀ L h (x :: nw)) (hm : (c, oc) ∈ nw) : News h₀ L h ((c, oc) :: x :: NF c nw) := fun p hp => by
  rcases List.mem_cons.mp hp with rfl | hp
  · exact N _ (.tail _ hm)
  · rcases List.mem_cons.mp hp with rfl | hp
    · exact N _ (.head _)
    · exact N p (.tail _ (NF.sub p hp))
theorem specs_size {n : Int} : ∀ r ∈ specs n, r.2.1.size ≤ 7 ∧ r.2.2.size ≤ 7 := by
  intro r hr
  simp only [specs, List.mem_cons, List.not_mem_nil, or_false] at hr
  rcases hr with rfl | rfl | rfl | rfl | rfl | rfl | rfl | rfl | rfl | rfl | rfl | rfl | rfl <;> exact ⟨Nat.le_of_ble_eq_true rfl, Nat.le_of_ble_eq_true rfl⟩
theorem off_world {c D9 D8 I D2 : Addr} {oc o9 o8 oI o2 : Obj} {tl9 nf rest9 : List (Addr × Obj)} (hr : rest9 = (D8, o8) :: (I, oI) :: (c, oc) :: (D2, o2) :: nf) (O9 : ∀ q ∈ rest9, q.1 ≠ D9 ∧ ∀ p ∈ tl9, q.1 ≠ p.1) (O8 : ∀ q ∈ (I, oI) :: (c, oc) :: (D2, o2) :: nf, q.1 < D8)
    (hI : ∀ p ∈ (c, oc) :: (D2, o2) :: nf, p.1 ≠ I) (hoff : ∀ p ∈ (D2, o2) :: nf, p.1 ≠ c) : ∀ p ∈ (D9, o9) :: (tl9 ++ (D8, o8) :: (I, oI) :: (D2, o2) :: nf), p.1 ≠ c := by
  subst hr
  have mc : (c, oc) ∈ (D8, o8) :: (I, oI) :: (c, oc) :: (D2, o2) :: nf := .tail _ (.tail _ (.head _))
  intro p hp
  rcases List.mem_cons.mp hp with rfl | hp
  · exact Ne.symm (O9 _ mc).1
  · rcases List.mem_append.mp hp with hp | hp
    · exact Ne.symm ((O9 _ mc).2 p hp)
    · rcases List.mem_cons.mp hp with rfl | hp
      · exact Nat.ne_of_gt (O8 _ (.tail _ (.head _)))
      · rcases List.mem_cons.mp hp with rfl | hp
        · exact Ne.symm (hI _ (.head _))
        · exact hoff p hp
theorem rot_off {c D2 : Addr} {o2 : Obj} {nw : List (Addr × Obj)} (h : c < D2) : ∀ p ∈ (D2, o2) :: NF c nw, p.1 ≠ c := fun p hp => by
  rcases List.mem_cons.mp hp with rfl | hp
  · exact Nat.ne_of_gt h
  · exact NF.off p hp
theorem rot_world {h₀ h : Heap} {L c D9 D8 I D2 : Addr} {oc o9 o8 oI o2 : Obj} {tl9 nf : List (Addr × Obj)} (N : News h₀ L h ((D9, o9) :: (tl9 ++ (D8, o8) :: (I, oI) :: (c, oc) :: (D2, o2) :: nf))) : News h₀ L h ((c, oc) :: (D9, o9) :: (tl9 ++ (D8, o8) :: (I, oI) :: (D2, o2) :: nf)) := fun p hp => by
  refine N p ?_
  simp only [List.mem_cons, List.mem_append] at hp ⊢
  rcases hp with h | h | h | h | h | h | h <;> simp [h]
theorem EnvIn.drop {prog : Program} {w : World} {d c D8 I : Addr} {o8 oI oc : Obj} {v : Option Value} {D : List (PyData × PyData)} {tl rest : List (Addr × Obj)} (h : EnvIn prog w (tl ++ (D8, o8) :: (I, oI) :: (c, oc) :: rest) d D) (hoc : oc.data = .cell v) :
    EnvIn prog w (tl ++ (D8, o8) :: (I, oI) :: rest) d D := by
  obtain ⟨o, kvs, hm, hd, hf⟩ := h.it
  refine ⟨h.lo, o, kvs, ?_, hd, hf⟩
  simp only [List.mem_append, List.mem_cons] at hm ⊢
  rcases hm with q | q | q | q | q
  · exact .inl q
  · exact .inr (.inl q)
  · exact .inr (.inr (.inl q))
  · injection q with q1 q2
    subst q2
    exfalso
    have := hd
    simp only [PySem.Obj.IsDictOf, hoc] at this
    simp at this
  · exact .inr (.inr (.inr q))
theorem off_same {c I : Addr} {o o' : Obj} {r : List (Addr × Obj)} (h : ∀ p ∈ (c, o) :: r, p.1 ≠ I) : ∀ p ∈ (c, o') :: r, p.1 ≠ I := fun p hp => by
  rcases List.mem_cons.mp hp with rfl | hp
  · exact h (c, o) (.head _)
  · exact h p (.tail _ hp)
theorem rows_72 : True := by
  k_with "m:suf" => ((intro p9R9 hp9R9; repeat (first | exact hp9R9 | exact List.Mem.tail _ hp9R9 | refine List.mem_append_right _ ?_ | refine List.Mem.tail _ ?_)))
  k_with "compareOp NotEq ref ref" => (k_extra "m:nenames")
  k_with "evalPairs" => (k_extra "m:dict0")
  k_with "m:deep" => ((repeat (first | with_reducible exact List.Mem.head _ | refine List.mem_append_right _ ?_ | refine List.Mem.tail _ ?_)))
  trivial
theorem ltc_false {a b : List Nat} (h : ltCps a b = false) : b ≤ a := by
  rw [ltCps_eq] at h
  exact List.not_lt.mp (of_decide_eq_false h)
theorem rising_le : ∀ (l : List Str) (p : Str), risingS p l = true → ∀ x ∈ l, p.cps.toList ≤ x.cps.toList
  | [], _, _, x, hx => (List.not_mem_nil hx).elim
  | y :: r, p, h, x, hx => by
    unfold risingS at h
    rw [Bool.and_eq_true, Bool.not_eq_true'] at h
    have h1 := ltc_false h.1
    rcases List.mem_cons.mp hx with rfl | hx
    · exact h1
    · exact List.le_trans h1 (rising_le r y h.2 x hx)
theorem rising_sorted : ∀ {l : List Str} {p : Str}, risingS p l = true → sortedS l = true
  | [], _, _ => rfl
  | y :: r, p, h => by
    unfold risingS at h
    rw [Bool.and_eq_true] at h
    exact h.2
theorem str_eq_of {x y : Str} (h : x.cps.toList = y.cps.toList) : x = y := by
  obtain ⟨a⟩ := x
  obtain ⟨b⟩ := y
  exact congrArg Str.mk (Array.toList_inj.mp h)
theorem sorted_unique : ∀ {l l' : List Str}, l.Perm l' → sortedS l = true → sortedS l' = true → l = l'
  | [], l', hp, _, _ => (List.nil_perm.mp hp).symm
  | x :: r, [], hp, _, _ => by have := hp.length_eq; simp at this
  | x :: r, y :: r', hp, h, h' => by
    have hx : x.cps.toList ≤ y.cps.toList := by
      rcases List.mem_cons.mp (hp.symm.subset (.head _)) with e | e
      · rw [e]; exact List.le_refl _
      · exact rising_le r x h y e
    have hy : y.cps.toList ≤ x.cps.toList := by
      rcases List.mem_cons.mp (hp.subset (.head _)) with e | e
      · rw [e]; exact List.le_refl _
      · exact rising_le r' y h' x e
    have e : x = y := str_eq_of (List.le_antisymm hx hy)
    subst e
    rw [sorted_unique (List.Perm.cons_inv hp) (rising_sorted h) (rising_sorted h')]
noncomputable def nameL : List Str := ["add-turn", "add-put", "add-unit", "mul-turn", "mul-put", "mul-unit", "neg-add", "neg-neg", "neg-mul", "mul-zero", "spread", "gather", "round"]
noncomputable def nameS : List Str := ["add-put", "add-turn", "add-unit", "gather", "mul-put", "mul-turn", "mul-unit", "mul-zero", "neg-add", "neg-mul", "neg-neg", "round", "spread"]
theorem specs_names {n : Int} : (specs n).map (·.1) = nameL := rfl
theorem nameS_sorted : sortedS nameS = true := by decide +kernel
theorem nameS_perm : nameS.Perm nameL := List.isPerm_iff.mp (by decide +kernel)
theorem nameL_nodup : nameL.Nodup := by decide +kernel
theorem names_sorted {l : List Str} (hp : l.Perm nameL) (hs : sortedS l = true) : l = nameS := sorted_unique (hp.trans nameS_perm.symm) hs nameS_sorted
theorem names_set {l zs : List Str} (hp : l.Perm zs) (nd : zs.Nodup) (mm : ∀ x, x ∈ zs ↔ x ∈ nameL) (hs : sortedS l = true) : l = nameS :=
  names_sorted (hp.trans ((List.perm_ext_iff_of_nodup nd nameL_nodup).mpr mm)) hs
theorem strs_carried : ∀ {vs : List Value} {ss : List Str}, StrsAre vs ss → CarriedAll vs (ss.map PyData.str)
  | _, _, .nil => .nil
  | _, _, .cons _ t r => .cons (.str _ t) (strs_carried r)
section
variable {prog : Program} {w : World} {A : Around} {E : Value → Shared → Prop} {s : Shared} {h₀ : Heap} {L : Addr} {m : Str → Option Value} {news : List (Addr × Obj)}
theorem ne_names {a b : Addr} {xs ys : List Value} {n1 n2 : Nat} {Q : Value → Shared → Prop} (N : News h₀ L s.heap news) (ha : (a, W.listOf xs.toArray n1) ∈ news) (hb : (b, W.listOf ys.toArray n2) ∈ news) (hi : StrsAre xs nameS) (hj : StrsAre ys nameS) (hu : A.units + 64 < cLine) (h : Q (.bool false) s) :
    wpAny (model prog w) A (compareOp .NotEq (.ref a) (.ref b)) Q E s :=
  ne_dataH_same (reads_newData (News.isList N ha) (strs_carried hi)) (reads_newData (News.isList N hb) (strs_carried hj)) (by decide +kernel) (by decide +kernel) hu (SeqAt.noMix_of_shape (.list .str) rfl _ _ (by decide +kernel) (by decide +kernel)) (by
    rw [show PySem.Spec.same (.list (nameS.map PyData.str)) (.list (nameS.map PyData.str)) = true from by decide +kernel]; exact h)
theorem sorted_list_NN {l : Addr} {vs : List Value} {n : Nat} {ss : List Str} {Q : Value → Shared → Prop} (F : Fr h₀ L s.heap m) (N : News h₀ L s.heap news) (hm : (l, W.listOf vs.toArray n) ∈ news) (hS : StrsAre vs ss) (h64 : vs.length < 64)
    (h : ∀ (h' : Heap) D (vs' : List Value) (ss' : List Str) (e : Nat), Fr h₀ L h' m → News h₀ L h' ((D, W.listOf vs'.toArray e) :: news) → (∀ q ∈ news, q.1 < D) → StrsAre vs' ss' → ss'.Perm ss → sortedS ss' = true → Q (.ref D) { s with heap := h' }) :
    wpAny (model prog w) A (call (.builtin "sorted") [.ref l]) Q E s :=
  sorted_N_str F N (News.isList N hm) hS h64 fun h' vs' ss' e F' N' a b c => h h' _ vs' ss' e F' N' (fun q hq => Nat.lt_succ_of_lt (Heap.lt_size (N q hq).1)) a b c
end
theorem addr_ne {h₀ h : Heap} {L a b : Addr} {o o' : Obj} {nw : List (Addr × Obj)} (N : News h₀ L h nw) (h1 : (a, o) ∈ nw) (h2 : (b, o') ∈ nw) (hne : o ≠ o') : a ≠ b := fun e => by
  subst e
  have x := (N _ h1).1
  have y := (N _ h2).1
  rw [x] at y
  exact hne (Option.some.inj y)
theorem small_ledger {h₀ h : Heap} {L : Addr} {a b P X Y Z C : Addr × Obj} {nw : List (Addr × Obj)} (N : News h₀ L h (a :: b :: nw)) (hP : P ∈ nw) (hX : X ∈ nw) (hY : Y ∈ nw) (hZ : Z ∈ nw) (hC : C ∈ nw) : News h₀ L h [a, P, X, Y, Z, C] := fun p hp => by
  simp only [List.mem_cons, List.not_mem_nil, or_false] at hp
  rcases hp with rfl | rfl | rfl | rfl | rfl | rfl
  · exact N _ (.head _)
  · exact N _ (.tail _ (.tail _ hP))
  · exact N _ (.tail _ (.tail _ hX))
  · exact N _ (.tail _ (.tail _ hY))
  · exact N _ (.tail _ (.tail _ hZ))
  · exact N _ (.tail _ (.tail _ hC))
theorem pool_off {h₀ h : Heap} {L P X Xd Cl Rc Dx Dc : Addr} {k : Int} {t : Tok} {n c : Nat} {es : List DictEntry} {ys : List Value} {ms : List Int} {oc : Obj} {v : Option Value} {nw : List (Addr × Obj)} (N : News h₀ L h nw) (hP : (P, poolO Dc k t n) ∈ nw) (hX : (X, instObj Dx Xd) ∈ nw) (hY : (Xd, dictOf es c) ∈ nw)
    (hZ : (Cl, lst ys) ∈ nw) (hC : (Rc, oc) ∈ nw) (hi : IntsAre ys ms) (ho : oc.data = .cell v) : ∀ p ∈ [(X, instObj Dx Xd), (Xd, dictOf es c), (Cl, lst ys), (Rc, oc)], p.1 ≠ P := fun p hp => by
  simp only [List.mem_cons, List.not_mem_nil, or_false] at hp
  rcases hp with rfl | rfl | rfl | rfl
  · exact addr_ne N hX hP fun h => by have q := congrArg Obj.cls h; injection q
  · exact addr_ne N hY hP fun h => by have q := congrArg Obj.cls h; injection q with q; exact absurd q (by decide)
  · refine addr_ne N hZ hP fun h => ?_
    have q := congrArg Obj.data h
    injection q with q _
    have q2 : ys = [.ref Dc, .int k t] := by simpa using congrArg Array.toList q
    subst q2
    cases hi
  · refine addr_ne N hC hP fun h => ?_
    subst h
    cases ho
theorem pool_pull {h₀ h : Heap} {L : Addr} {d a b c e P : Addr × Obj} {r : List (Addr × Obj)} (N : News h₀ L h (d :: a :: b :: c :: e :: P :: r)) : News h₀ L h (P :: d :: r) := fun p hp => by
  rcases List.mem_cons.mp hp with rfl | hp
  · exact N _ (.tail _ (.tail _ (.tail _ (.tail _ (.tail _ (.head _))))))
  · rcases List.mem_cons.mp hp with rfl | hp
    · exact N _ (.head _)
    · exact N p (.tail _ (.tail _ (.tail _ (.tail _ (.tail _ (.tail _ hp))))))
theorem off_cons {P : Addr} {d : Addr × Obj} {r : List (Addr × Obj)} (h : d.1 ≠ P) (o : ∀ p ∈ r, p.1 ≠ P) : ∀ p ∈ d :: r, p.1 ≠ P := fun p hp => by
  rcases List.mem_cons.mp hp with rfl | hp
  · exact h
  · exact o p hp
/-- the law's own env: two names -/
noncomputable abbrev Env2 (a b : Int) : List (PyData × PyData) := [(.str "x", .int a), (.str "2", .int b)]
section
variable {prog : Program} {w : World} {A : Around} {E : Value → Shared → Prop} {s : Shared} {h₀ : Heap} {L : Addr} {m : Str → Option Value}
theorem env_made {d : Addr} {P : Addr × Obj} {r : List (Addr × Obj)} {o : Obj} {a b : Int} {t1 t2 t3 t4 : Tok} {Q : Value → Shared → Prop} (F : Fr h₀ L s.heap m) (N : News h₀ L s.heap (P :: (d, o) :: r)) (o1 : P.1 ≠ d) (o2 : ∀ p ∈ r, p.1 ≠ d) (hd : o.IsDictOf (PySem.strKind prog w) [])
    (h : ∀ h' o' kvs, Fr h₀ L h' m → News h₀ L h' (P :: (d, o') :: r) → P.1 ≠ d → o'.IsDictOf (PySem.strKind prog w) kvs → FlatPairs PyData.str kvs (Env2 a b) → Q (.ref d) { s with heap := h', toks := s.toks + 2 }) :
    KdnMade prog w (PySem.strKind prog w) d Q [(.str "x" t1, .int a t2), (.str "2" t3, .int b t4)] s :=
  kdn_made_str F N (g := fun o' => P :: (d, o') :: r) (UpdF.tail o1 (UpdF.head o2)) hd rfl (by show ([("x" : Str), "2"]).Nodup; decide +kernel) fun h' o' F' N' hd' =>
    h h' o' _ F' N' o1 hd' (flatPairs_str _ rfl rfl)
end
theorem Env2.x {a b : Int} : lookup (.str "x") (Env2 a b) = some (.int a) := by rfl
theorem Env2.y {a b : Int} : lookup (.str "2") (Env2 a b) = some (.int b) := by rfl
theorem Env2.odd {a b : Int} : ∀ z ∈ (["y", "neg", "add", "mul", "0", "sub"] : List Str), lookup (.str z) (Env2 a b) = none := by
  intro z hz
  simp only [List.mem_cons, List.not_mem_nil, or_false] at hz
  rcases hz with rfl | rfl | rfl | rfl | rfl | rfl <;> rfl
theorem Env2.okay {n a b : Int} (ha : 0 ≤ a ∧ a < n) (hb : 0 ≤ b ∧ b < n) {T : Tm} (h : DrawnT T) : Okay n (Env2 a b) T := by
  refine h.okay Env2.x Env2.y (fun z hz => ?_) (fun z hz => ?_) ha hb
  · simp only [S6, List.mem_cons, List.not_mem_nil, or_false] at hz
    rcases hz with rfl | rfl | rfl | rfl | rfl | rfl <;> rfl
  · simp only [List.mem_cons, List.not_mem_nil, or_false] at hz
    rcases hz with rfl | rfl | rfl <;> rfl
theorem mem_ring {h₀ h : Heap} {L : Addr} {P d X Xd : Addr × Obj} {tl r : List (Addr × Obj)} (_ : News h₀ L h (P :: (tl ++ d :: X :: Xd :: r))) : X ∈ (P :: (tl ++ d :: X :: Xd :: r)) ∧ Xd ∈ (P :: (tl ++ d :: X :: Xd :: r)) :=
  ⟨.tail _ (List.mem_append_right _ (.tail _ (.head _))), .tail _ (List.mem_append_right _ (.tail _ (.tail _ (.head _))))⟩
theorem mem_ring0 {h₀ h : Heap} {L : Addr} {P d X Xd : Addr × Obj} {tl r : List (Addr × Obj)} (_ : News h₀ L h (P :: (tl ++ d :: X :: Xd :: r))) : X ∈ (tl ++ d :: X :: Xd :: r) ∧ Xd ∈ (tl ++ d :: X :: Xd :: r) ∧ d ∈ (tl ++ d :: X :: Xd :: r) :=
  ⟨List.mem_append_right _ (.tail _ (.head _)), List.mem_append_right _ (.tail _ (.tail _ (.head _))), List.mem_append_right _ (.head _)⟩
inductive Odd (nw : List (Addr × Obj)) : Value → Prop where
  | leaf {a : Addr} {z : Str} {t : Tok} {n : Nat} : (a, tupO [.str z t] n) ∈ nw → z ∈ (["y", "neg"] : List Str) → Odd nw (.ref a)
  | un {a : Addr} {z : Str} {t : Tok} {v : Value} {n : Nat} : (a, tupO [.str z t, v] n) ∈ nw → z ∈ (["add", "mul", "0"] : List Str) → Odd nw (.ref a)
  | bin {a : Addr} {z : Str} {t : Tok} {v u : Value} {n : Nat} : (a, tupO [.str z t, v, u] n) ∈ nw → z ∈ (["neg", "sub"] : List Str) → Odd nw (.ref a)
  | tri {a : Addr} {t : Tok} {v u x : Value} {n : Nat} : (a, tupO [.str "add" t, v, u, x] n) ∈ nw → Odd nw (.ref a)
theorem Odd.mono {nw nw' : List (Addr × Obj)} (s : ∀ p ∈ nw, p ∈ nw') {v : Value} : Odd nw v → Odd nw' v
  | .leaf a b => .leaf (s _ a) b
  | .un a b => .un (s _ a) b
  | .bin a b => .bin (s _ a) b
  | .tri a => .tri (s _ a)
inductive OddN (nw : List (Addr × Obj)) : Value → Prop where
  | odd {v : Value} : Odd nw v → OddN nw v
  | neg {a : Addr} {t : Tok} {v : Value} {n : Nat} : (a, tupO [.str "neg" t, v] n) ∈ nw → Odd nw v → OddN nw (.ref a)
section
variable {h₀ h : Heap} {L Lo P Cl b1 b2 b3 b4 b5 b6 b7 b8 : Addr} {t t1 t2 t3 t4 t5 t6 t7 t8 : Tok} {np nl n1 n2 n3 n4 n5 n6 n7 n8 : Nat} {k : Int} {T : Value} {tl r : List (Addr × Obj)} {o' : Obj}
theorem stage_front {q : Addr × Obj} {z : List (Addr × Obj)} : ∀ X : List (Addr × Obj), News h₀ L h (X ++ q :: z) → News h₀ L h (q :: (X ++ z))
  | X, N, p, hp => N p (match List.mem_cons.mp hp with
    | .inl e => List.mem_append_right _ (e ▸ .head _)
    | .inr hp => match List.mem_append.mp hp with
      | .inl hp => List.mem_append_left _ hp
      | .inr hp => List.mem_append_right _ (.tail _ hp))
theorem stage_off {q : Addr × Obj} {z : List (Addr × Obj)} (X : List (Addr × Obj)) (N : News h₀ L h (X ++ q :: z)) (hX : ∀ p ∈ X, p.2 ≠ q.2) (hz : ∀ p ∈ z, p.1 ≠ q.1) : ∀ p ∈ X ++ z, p.1 ≠ q.1 := fun p hp =>
  match List.mem_append.mp hp with
  | .inl hp => addr_ne N (List.mem_append_left _ hp) (List.mem_append_right _ (.head _)) (hX p hp)
  | .inr hp => hz p hp
theorem tup_pool {l : List Value} {n : Nat} : tupO l n ≠ poolO Cl k t np := fun e => by
  have q := congrArg Obj.cls e; injection q with q; exact absurd q (by decide)
theorem list_pool {a b c : Value} {l : List Value} {n : Nat} : W.listOf (a :: b :: c :: l).toArray n ≠ poolO Cl k t np := fun e => by
  have q := congrArg Obj.data e
  injection q with q _
  have q2 := congrArg Array.size q
  simp at q2
theorem odd_stage (N : News h₀ L h ((Lo, W.listOf [.ref b1, .ref b2, .ref b3, .ref b4, .ref b5, .ref b6, .ref b7, .ref b8].toArray nl) :: (b8, tupO [.str "0" t8, T] n8) :: (b7, tupO [.str "sub" t7, T, T] n7) :: (b6, tupO [.str "neg" t6, T, T] n6) :: (b5, tupO [.str "neg" t5] n5) :: (b4, tupO [.str "mul" t4, T] n4) :: (b3, tupO [.str "add" t3, T, T, T] n3) :: (b2, tupO [.str "add" t2, T] n2) :: (b1, tupO [.str "y" t1] n1) :: (P, poolO Cl k t np) :: (tl ++ r)))
    (Od : ∀ q ∈ (P, o') :: r, ∀ p ∈ tl, q.1 < p.1) (offP : ∀ p ∈ r, p.1 ≠ P) :
    News h₀ L h ((P, poolO Cl k t np) :: (Lo, W.listOf [.ref b1, .ref b2, .ref b3, .ref b4, .ref b5, .ref b6, .ref b7, .ref b8].toArray nl) :: (b8, tupO [.str "0" t8, T] n8) :: (b7, tupO [.str "sub" t7, T, T] n7) :: (b6, tupO [.str "neg" t6, T, T] n6) :: (b5, tupO [.str "neg" t5] n5) :: (b4, tupO [.str "mul" t4, T] n4) :: (b3, tupO [.str "add" t3, T, T, T] n3) :: (b2, tupO [.str "add" t2, T] n2) :: (b1, tupO [.str "y" t1] n1) :: (tl ++ r)) ∧
      ∀ p ∈ (Lo, W.listOf [.ref b1, .ref b2, .ref b3, .ref b4, .ref b5, .ref b6, .ref b7, .ref b8].toArray nl) :: (b8, tupO [.str "0" t8, T] n8) :: (b7, tupO [.str "sub" t7, T, T] n7) :: (b6, tupO [.str "neg" t6, T, T] n6) :: (b5, tupO [.str "neg" t5] n5) :: (b4, tupO [.str "mul" t4, T] n4) :: (b3, tupO [.str "add" t3, T, T, T] n3) :: (b2, tupO [.str "add" t2, T] n2) :: (b1, tupO [.str "y" t1] n1) :: (tl ++ r), p.1 ≠ P := by
  refine ⟨stage_front [_, _, _, _, _, _, _, _, _] N, stage_off [_, _, _, _, _, _, _, _, _] N ?_ fun p hp => match List.mem_append.mp hp with
    | .inl hp => Nat.ne_of_gt (Od _ (.head _) p hp)
    | .inr hp => offP p hp⟩
  exact List.forall_mem_cons.2 ⟨list_pool, List.forall_mem_cons.2 ⟨tup_pool, List.forall_mem_cons.2 ⟨tup_pool, List.forall_mem_cons.2 ⟨tup_pool, List.forall_mem_cons.2 ⟨tup_pool, List.forall_mem_cons.2 ⟨tup_pool, List.forall_mem_cons.2 ⟨tup_pool, List.forall_mem_cons.2 ⟨tup_pool, List.forall_mem_cons.2 ⟨tup_pool, fun _ h => nomatch h⟩⟩⟩⟩⟩⟩⟩⟩⟩
theorem odd_all {X Y : Addr × Obj} {z : List (Addr × Obj)} (_ : News h₀ L h (X :: Y :: (b8, tupO [.str "0" t8, T] n8) :: (b7, tupO [.str "sub" t7, T, T] n7) :: (b6, tupO [.str "neg" t6, T, T] n6) :: (b5, tupO [.str "neg" t5] n5) :: (b4, tupO [.str "mul" t4, T] n4) :: (b3, tupO [.str "add" t3, T, T, T] n3) :: (b2, tupO [.str "add" t2, T] n2) :: (b1, tupO [.str "y" t1] n1) :: z)) : ∀ v ∈ ([.ref b1, .ref b2, .ref b3, .ref b4, .ref b5, .ref b6, .ref b7, .ref b8] : List Value), Odd (X :: Y :: (b8, tupO [.str "0" t8, T] n8) :: (b7, tupO [.str "sub" t7, T, T] n7) :: (b6, tupO [.str "neg" t6, T, T] n6) :: (b5, tupO [.str "neg" t5] n5) :: (b4, tupO [.str "mul" t4, T] n4) :: (b3, tupO [.str "add" t3, T, T, T] n3) :: (b2, tupO [.str "add" t2, T] n2) :: (b1, tupO [.str "y" t1] n1) :: z) v := by
  intro v hv
  simp only [List.mem_cons, List.not_mem_nil, or_false] at hv
  rcases hv with rfl | rfl | rfl | rfl | rfl | rfl | rfl | rfl
  · exact .leaf (z := "y") (.tail _ (.tail _ (.tail _ (.tail _ (.tail _ (.tail _ (.tail _ (.tail _ (.tail _ (.head _)))))))))) (by simp)
  · exact .un (z := "add") (.tail _ (.tail _ (.tail _ (.tail _ (.tail _ (.tail _ (.tail _ (.tail _ (.head _))))))))) (by simp)
  · exact .tri (.tail _ (.tail _ (.tail _ (.tail _ (.tail _ (.tail _ (.tail _ (.head _))))))))
  · exact .un (z := "mul") (.tail _ (.tail _ (.tail _ (.tail _ (.tail _ (.tail _ (.head _))))))) (by simp)
  · exact .leaf (z := "neg") (.tail _ (.tail _ (.tail _ (.tail _ (.tail _ (.head _)))))) (by simp)
  · exact .bin (z := "neg") (.tail _ (.tail _ (.tail _ (.tail _ (.head _))))) (by simp)
  · exact .bin (z := "sub") (.tail _ (.tail _ (.tail _ (.head _)))) (by simp)
  · exact .un (z := "0") (.tail _ (.tail _ (.head _))) (by simp)
end
theorem law_post (vs : List Int) : PySem.Challenge.rw_pq0039_01.row.claim.post [ofPy (PyData.list (vs.map PyData.int))] (WData.bool true) [ofPy (PyData.list (vs.map PyData.int))] = true := by kernel_rfl
theorem wd_slot_get : Slot "wrapper_descriptor" "__get__" "wrapper_descriptor.__get__" := .of (owner := "wrapper_descriptor") (n := "__get__") (by rw [typeLookup_type, builtinLookup_eq_fast]; kernel_rfl) (by decide +kernel) (by decide +kernel) (by decide +kernel)
  (by first | exact .inl (by decide +kernel) | exact .inr (by decide +kernel)) (by rw [isSubtype_type]; kernel_rfl)
theorem wd_entry_get : entryFor table "wrapper_descriptor.__get__" = some Builtin.«wrapper_descriptor.__get__» := entryFor_of_tree (by kernel_rfl)
theorem wd_args (a b c : Value) : argsOk "wrapper_descriptor.__get__" ⟨[a, b, c], []⟩ := by unfold argsOk; kernel_rfl
theorem wd_type : typeOf (.builtin "Exception.__init__") = pure (.type "wrapper_descriptor") := by kernel_rfl
theorem wd_lookup : typeLookup (.type "wrapper_descriptor") "__get__" = pure (some (.builtin "wrapper_descriptor.__get__")) := by rw [typeLookup_type, builtinLookup_eq_fast]; kernel_rfl
theorem exc_along {K : Frag} : alongIn K "__init__" [.type "Exception", .type "BaseException", .type "object"] = some (some (.builtin "Exception.__init__")) := by kernel_rfl
section
variable {prog : Program} {w : World} {M : Model} {A : Around} {E : Value → Shared → Prop} {h : Heap} {g : Array GenState} {d : Drawn} {t : Nat} {os : OsState}
theorem wd_owner : ".".intercalate ("Exception.__init__".cutAt '.').dropLast = "Exception" := by decide +kernel
theorem wd_get {x C : Addr} {ox : Obj} {c : Value} {Q : Fin → Shared → Prop} (hx : h.get? x = some ox) (hxc : ox.cls = .ref C) (hi : Looks (model prog w) h (isSubtype (.ref C) (.type "Exception")) true)
    (hq : Q (.done (.ret (.ref h.objs.size))) ⟨h.push { cls := .type "method-wrapper", data := .fields #[.builtin "Exception.__init__", .ref x] }, g, d, t, os⟩) :
    wpAny (model prog w) A (Builtin.«wrapper_descriptor.__get__» ⟨[.builtin "Exception.__init__", .ref x, c], []⟩) Q E ⟨h, g, d, t, os⟩ := by
  unfold Builtin.«wrapper_descriptor.__get__»
  repeat (first | (with_reducible refine wpAny_loadPart_at hx ?_; rw [hxc]) | (rw [wd_owner]; with_reducible refine Looks.at hi ?_) | (with_reducible refine wpAny_newObj_type ?_ (by size_fits)) | wp_step | dsimp only)
  all_goals exact hq
theorem ex_super_ga {so x D C : Addr} {ox : Obj} {l₀ l : List Value} {K : Frag} {name : Str} {tk : Tok} {Q : Fin → Shared → Prop}
    (hso : h.get? so = some { cls := .type "super", dict := none, data := .fields #[.ref D, .ref x, .ref C], slots := #[] }) (hno : Looks (model prog w) h (opaqueClassAbove (.ref C)) none)
    (hC : Looks (model prog w) h (mroOf (.ref C)) l₀) (hl : (l₀.dropWhile (· != .ref D)).drop 1 = l) (X : K.In h) (hf : alongIn K name l = some (some (.builtin "Exception.__init__"))) (hn : (name == ("__class__" : Str)) = false)
    (hx : h.get? x = some ox) (hxc : ox.cls = .ref C) (hi : Looks (model prog w) h (isSubtype (.ref C) (.type "Exception")) true) (hxC : x ≠ C)
    (hq : Q (.done (.ret (.ref h.objs.size))) ⟨h.push { cls := .type "method-wrapper", data := .fields #[.builtin "Exception.__init__", .ref x] }, g, d, t, os⟩) :
    wpAny (model prog w) A (Builtin.«super.__getattribute__» ⟨[.ref so, .str name tk], []⟩) Q E ⟨h, g, d, t, os⟩ := by
  have hlk := wd_lookup
  have hty := wd_type
  have hne : (Value.ref x == Value.ref C) = false := by simp [hxC]
  have hTf : (⟨h, g, d, t, os⟩ : Shared).TypeIs (.builtin "Exception.__init__") "wrapper_descriptor" := wd_type
  have hdt : ({ cls := .type "super", dict := none, data := .fields #[.ref D, .ref x, .ref C], slots := #[] } : Obj).data = .fields #[.ref D, .ref x, .ref C] := rfl
  have f0 : (#[.ref D, .ref x, .ref C] : Array Value)[0]? = some (.ref D) := rfl
  have f1 : (#[.ref D, .ref x, .ref C] : Array Value)[1]? = some (.ref x) := rfl
  have f2 : (#[.ref D, .ref x, .ref C] : Array Value)[2]? = some (.ref C) := rfl
  unfold Builtin.«super.__getattribute__»
  repeat (first
    | (with_reducible refine wpAny_field hso hdt f0 ?_) | (with_reducible refine wpAny_field hso hdt f1 ?_) | (with_reducible refine wpAny_field hso hdt f2 ?_)
    | (with_reducible refine ks_wpAny_notOpaque hno ?_)
    | (with_reducible refine Looks.at hC ?_; rw [hl])
    | (refine ks_forIn_along X (fun _ _ => rfl) rfl ?_ hf)
    | (with_reducible refine wpAny_of_eq hty ?_)
    | (with_reducible refine wpAny_call_entry wd_slot_get hTf wd_entry_get (wd_get hx hxc hi ?_) (wd_args _ _ _))
    | (with_reducible refine ⟨_, rfl, ?_⟩)
    | (simp only [hn, hne, Bool.or_false, Bool.false_eq_true, if_false])
    | wp_step
    | dsimp only)
  all_goals exact hq
theorem ex_getMethod {so x D C : Addr} {ox : Obj} {l₀ l : List Value} {K : Frag} {name : Str} {pl : Sem Bool} {Q : Value × List Value → Shared → Prop}
    (hso : h.get? so = some { cls := .type "super", dict := none, data := .fields #[.ref D, .ref x, .ref C], slots := #[] }) (hno : Looks (model prog w) h (opaqueClassAbove (.ref C)) none)
    (hC : Looks (model prog w) h (mroOf (.ref C)) l₀) (hl : (l₀.dropWhile (· != .ref D)).drop 1 = l) (X : K.In h) (hf : alongIn K name l = some (some (.builtin "Exception.__init__"))) (hn : (name == ("__class__" : Str)) = false)
    (hx : h.get? x = some ox) (hxc : ox.cls = .ref C) (hi : Looks (model prog w) h (isSubtype (.ref C) (.type "Exception")) true) (hxC : x ≠ C)
    (hq : Q (.ref h.objs.size, []) ⟨h.push { cls := .type "method-wrapper", data := .fields #[.builtin "Exception.__init__", .ref x] }, g, d, t + 1, os⟩) :
    wpAny (model prog w) A (getMethod (.ref so) name pl) Q E ⟨h, g, d, t, os⟩ := by
  have hlk := F.ks_slot_super_ga.lookup
  have hcan := F.ks_canon_super_ga
  have hT : ∀ t', (⟨h, g, d, t', os⟩ : Shared).TypeIs (.ref so) "super" := fun _ => ⟨_, hso, rfl⟩
  unfold getMethod
  refine wpAny_bind (wpAny_specialOf (hT _) hlk ?_)
  show wpAny _ _ (if (Manifest.canonical "super.__getattribute__" != "object.__getattribute__") = true then _ else _) _ _ _
  rw [if_pos hcan]
  unfold getAttr getAttrBy
  refine wpAny_bind (wpAny_bind (wpAny_mkText (wpAny_holding (wpAny_bind (wpAny_typeOf (hT _) (wpAny_bind (wpAny_of_eq hlk ?_)))))))
  show wpAny _ _ (getAttrByItsOwn (.ref so) (.str name t) (.type "super") (.builtin "super.__getattribute__") true false) _ _ _
  unfold getAttrByItsOwn hookBefore callGetattribute boundAndCalled
  refine wpAny_bind (wpAny_of_eq (show (if onTheHeap (.type "super") then typeLookup (.type "super") "__getattr__" else pure none) = pure none from rfl) ?_)
  refine wpAny_bind (wpAny_attempt (wpAny_holding ?_))
  show wpAny _ _ (bindSpecial (.builtin "super.__getattribute__") (.ref so) >>= _) _ _ _
  refine wpAny_bind (wpAny_of_eq (F.ks_slot_super_ga.bind _) ?_)
  refine wpAny_mono (Q := fun v s' => v = .ref h.objs.size ∧ s' = ⟨h.push { cls := .type "method-wrapper", data := .fields #[.builtin "Exception.__init__", .ref x] }, g, d, t + 1, os⟩) (E := fun _ _ => False)
    (wpAny_call_entry F.ks_slot_super_ga (hT _) F.ks_entry_super_ga (ex_super_ga hso hno hC hl X hf hn hx hxc hi hxC ⟨_, rfl, rfl, rfl⟩) (F.ks_gaArgs_super _ _)) (fun v s' hv => ?_) fun _ _ z => z.elim
  obtain ⟨rfl, rfl⟩ := hv
  exact wpAny_pure (wpAny_pure hq)
/-- the bound __init__ of the built-in base is called: a new tuple of arguments -/
theorem ex_bound_init {nm qn : Str} {C Nn : Addr} {bs bm : List Value} {hdct : Bool} {sn : List Str} {sub : List Value} {ab : Bool} {col : Option Bool} {dd : Option Addr} {k0 k1 k2 k3 k5 : Option Value} {newId : String} {q e t0 : Addr} {oe : Obj} {vs : Array Value} {rest : List Value} {Q : Value → Shared → Prop}
    (hC : h.get? C = some (excClassObj nm qn C Nn bs bm hdct sn sub ab col dd k0 k1 k2 k3 k5 newId))
    (hq0 : h.get? q = some { cls := .type "method-wrapper", dict := none, data := .fields #[.builtin "Exception.__init__", .ref e], slots := #[] })
    (he : h.get? e = some oe) (hcls : oe.cls = .ref C) (hd : oe.data = .fields vs) (h0 : vs[0]? = some (.ref t0)) (hrest : rest.length ≤ sizeLine)
    (hq : Q .none ⟨(h.push { cls := .type "tuple", data := .seq rest.toArray }).update e (Obj.mapFields (·.setIfInBounds 0 (.ref h.objs.size))), g, d, t, os⟩) :
    wpAny (model prog w) A (call (.ref q) rest) Q E ⟨h, g, d, t, os⟩ := by
  refine wpAny_call (codeAny_of_tree ?_)
  show wpAny _ A.in1 (callAny (.ref q) ⟨rest, []⟩) _ _ _
  unfold callAny
  refine wpAny_bind (wpAny_load hq0 ?_)
  have hk : builtinKind "Exception.__init__" = some .slot := by kernel_rfl
  have hsg : Manifest.signature? "Exception.__init__" = some ⟨.positional, "*", "Exception", .self, [⟨"args", .varPos, false⟩]⟩ := by kernel_rfl
  refine wpAny_bind (m := checkBoundCall "Exception.__init__" ⟨.ref e :: rest, []⟩) ?_
  have hcb : ∀ {Q : Unit → Shared → Prop} {E : Value → Shared → Prop}, Q () ⟨h, g, d, t, os⟩ → wpAny (model prog w) A.in1 (checkBoundCall "Exception.__init__" ⟨.ref e :: rest, []⟩) Q E ⟨h, g, d, t, os⟩ := by
    intro Q E hQ
    unfold checkBoundCall
    rw [hsg, hk]
    dsimp only
    rw [if_pos (by decide)]
    unfold Bind.checkArgs
    repeat (first | (with_reducible refine wpAny_loadPart_at he ?_; rw [hcls]) | with_reducible refine wpAny_loadPart_at hC ?_ | wp_step)
    all_goals (
      refine wpAny_onRaise ?_
      rw [show ∀ (a b : String) (n : Nat), Bind.check ⟨.positional, "*", "Exception", .self, [⟨"args", .varPos, false⟩]⟩ a b n (List.map (fun x => x.fst) ({ pos := Value.ref e :: rest } : Args).kw) = pure () from
        fun a b n => check_star_args _ _ _ _ _ _]
      exact wpAny_pure hQ)
  refine hcb (wpAny_pure ⟨Code.quiet_builtin _ (by decide +kernel), codeAny_builtin PySem.F.excBase_Exception.initEntry ?_⟩)
  show wpAny _ _ (Builtin.«BaseException.__init__» ⟨.ref e :: rest, []⟩) _ _ _
  unfold Builtin.«BaseException.__init__»
  dsimp only
  rw [if_neg (by simp)]
  unfold newTuple Builtin.BaseException.bexcPut
  have hsz : 0 < vs.size := (Array.getElem?_eq_some_iff.mp h0).1
  have he₁ := Heap.get?_push_of_some (h := h) { cls := .type "tuple", data := .seq rest.toArray } he
  refine wpAny_bind (wpAny_newObj_type (wpAny_bind (wpAny_bind (wpAny_field he₁ hd h0 (wpAny_bind (wpAny_setField he₁ hd hsz ?_))))) (by show rest.toArray.size ≤ sizeLine; rw [List.size_toArray]; exact hrest))
  exact wpAny_letGo (wpAny_pure hq)
end
theorem exc_passes (self : Value) (C C2 : Addr) : refuseLoop self "__setattr__" [.ref C, .ref C2, .type "Exception", .type "BaseException", .type "object"] = pure () := by
  rw [refuseLoop_ref, refuseLoop_ref]
  kernel_rfl
section
variable {prog : Program} {w : World} {A : Around} {E : Value → Shared → Prop} {K : Frag} {h : Heap} {g : Array GenState} {d : Drawn} {t : Nat} {os : OsState} {R : Result → Shared → Prop}
set_option maxHeartbeats 400000 in
theorem ex_osa {x C C2 : Addr} {vs : Array Value} {sl : Array (Option Value)} {name : Str} {tk : Tok} {v : Value} {cd : ClassData} (X : K.In h) (hx : h.get? x = some ⟨.ref C, none, .fields vs, sl⟩)
    (hc : clsIn K C = some cd) (hm : cd.mro = [.ref C, .ref C2, .type "Exception", .type "BaseException", .type "object"]) (hhd : cd.hasDict = true) (ht : takerIn K C name = some none)
    (hq : ∀ h' t', (∀ b o, b ≠ x → h.get? b = some o → h'.get? b = some o) → h'.get? x = some ⟨.ref C, some h.objs.size, .fields vs, sl⟩ → R (.ok (.ret .none)) ⟨h', g, d, t', os⟩) :
    codeAny (model prog w) A (.call (.builtin "object.__setattr__") ⟨[.ref x, .str name tk, v], []⟩) R ⟨h, g, d, t, os⟩ := by
  have SF := PySem.F.store_object
  have I : PySem.W.InstAt h x ⟨.ref C, none, .fields vs, sl⟩ C none := ⟨hx, rfl, rfl, trivial⟩
  have sub : Looks (model prog w) h (isInstance (.ref x) (.type "object")) true := I.type.andThen (looks_mroIn X (by unfold mroIn; rw [hc, Option.bind_some, hm]; rfl))
  refine codeAny_call_builtin SF.slot.plain SF.entry (@check_slot (model prog w) _ _ ⟨h, g, d, t, os⟩ "object.__setattr__" "object" "__setattr__" (.ref x) [.str name tk, v] [] _ SF.kind SF.split sub (SF.args (.ref x) (.str name tk) v) ?_)
  obtain ⟨attr, ha, hr⟩ := Option.bind_eq_some_iff.mp ht
  have hmm : Looks (model prog w) h (mroOf (.ref C)) cd.mro := (looks_clsIn X hc).andThen .now
  have L3 : Looks (model prog w) h (PySem.Builtin.ObjectAttr.storeTaker? attr) none := by
    cases attr with
    | none => exact .now
    | some a =>
      obtain ⟨b, hb, hb2⟩ := Option.map_eq_some_iff.mp hr
      refine (looks_takesIn X hb).andThen ?_
      cases b
      · exact .now
      · cases hb2
  rw [osa_eq, refuse_eq]
  refine wpAny_bind (wpAny_bind (I.type.here (wpAny_bind (hmm.here ?_))))
  rw [hm, exc_passes]
  refine wpAny_pure (wpAny_bind (I.type.here (wpAny_bind ((looks_findIn X ha).here (wpAny_bind (L3.here ?_))))))
  refine wpAny_bind (wpAny_pure (wpAny_bind (wpAny_bind (wpAny_loadPart hx (wpAny_bind ((looks_clsIn X hc).here ?_))))))
  rw [hhd]
  have hlt := Heap.lt_size hx
  have hne : x ≠ h.objs.size := Nat.ne_of_lt hlt
  show wpAny _ _ (alloc { cls := .type "dict", data := .dict #[] } >>= fun d => update x (fun o => { o with dict := some d }) >>= fun _ => dictMade (.ref C) x d) _ _ _
  refine wpAny_bind (wpAny_alloc' (wpAny_bind (wpAny_update' (Heap.get?_push_of_some _ hx) (wpAny_pure (a := some h.objs.size) ?_))))
  have hx1 : ((h.push { cls := .type "dict", data := .dict #[] }).update x (fun o => { o with dict := some h.objs.size })).get? x = some ⟨.ref C, some h.objs.size, .fields vs, sl⟩ := Heap.get?_update_self _ (Heap.get?_push_of_some _ hx) rfl
  have hD1 : ((h.push { cls := .type "dict", data := .dict #[] }).update x (fun o => { o with dict := some h.objs.size })).get? h.objs.size = some (dictOf [] 0) := (Heap.get?_update_other _ _ hne).trans (Heap.get?_push_size h rfl)
  have kp : ∀ b o, b ≠ x → h.get? b = some o → ((h.push { cls := .type "dict", data := .dict #[] }).update x (fun o => { o with dict := some h.objs.size })).get? b = some o := fun b o hb e => (Heap.get?_update_other _ _ (Ne.symm hb)).trans (Heap.get?_push_of_some _ e)
  generalize (h.push { cls := .type "dict", data := .dict #[] }).update x (fun o => { o with dict := some h.objs.size }) = h1 at hx1 hD1 kp ⊢
  show wpAny _ _ (Builtin.ObjectAttr.storeInDict h.objs.size (Value.str name tk) name v) _ _ _
  unfold Builtin.ObjectAttr.storeInDict
  refine wpAny_bind (wpAny_pure (wpAny_bind ?_))
  unfold nsSet
  refine wpAny_bind (wpAny_bind (wpAny_askSetting (wpAny_pure (wpAny_bind (wpAny_mkText (wpAny_bind (wpAny_loadPart hD1 ?_)))))))
  show wpAny _ _ (if aRefKeyMayBeTheName name #[] then _ else _) _ _ _
  rw [aRefKeyMayBeTheName_at]
  rw [if_neg (by simp)]
  refine wpAny_updatePart' hD1 ?_
  have hput : Obj.putName name (PyData.keyHash w.params name) (.str name t) v (dictOf [] 0) = dictOf [⟨PyData.keyHash w.params name, .str name t, v⟩] 1 := by rw [putName_dict]; rfl
  have hD2 := Heap.get?_update_self (Obj.putName name (PyData.keyHash w.params name) (.str name t) v) hD1 (by rw [hput]; rfl)
  rw [hput] at hD2
  refine wpAny_bind (wpAny_lookBehind hD2 (pastItsLine_dict (by rw [sizeLine_eq]; show 1 ≤ _; omega)) ?_)
  refine wpAny_pure (hq _ _ (fun b o hb e => ?_) ?_)
  · exact (Heap.get?_update_other _ _ (Nat.ne_of_gt (Heap.lt_size e))).trans (kp b o hb e)
  · exact (Heap.get?_update_other _ _ (Ne.symm hne)).trans hx1
theorem ex_set {x C C2 : Addr} {vs : Array Value} {sl : Array (Option Value)} {name : Str} {v : Value} {cd : ClassData} {Q : Unit → Shared → Prop} (X : K.In h) (hx : h.get? x = some ⟨.ref C, none, .fields vs, sl⟩)
    (hs : findIn K (.ref C) "__setattr__" = some (some (.builtin "object.__setattr__")))
    (hc : clsIn K C = some cd) (hm : cd.mro = [.ref C, .ref C2, .type "Exception", .type "BaseException", .type "object"]) (hhd : cd.hasDict = true) (ht : takerIn K C name = some none)
    (hq : ∀ h' t', (∀ b o, b ≠ x → h.get? b = some o → h'.get? b = some o) → h'.get? x = some ⟨.ref C, some h.objs.size, .fields vs, sl⟩ → Q () ⟨h', g, d, t', os⟩) :
    wpAny (model prog w) A (setAttr (.ref x) name v) Q E ⟨h, g, d, t, os⟩ :=
  set_plain (s := ⟨h, g, d, t, os⟩) X (⟨hx, rfl, rfl, trivial⟩ : PySem.W.InstAt h x ⟨.ref C, none, .fields vs, sl⟩ C none) hs (ex_osa X hx hc hm hhd ht fun h' t' k e => hq h' t' k e)
end
theorem rows_76b : True := by
  k_with "setAttr ref" => (k_extra "m:setattr")
  k_with "getMethod ref" => (k_extra "m:getmeth")
  trivial
theorem step_exc {h₀ h h' : Heap} {L e : Addr} {m : Str → Option Value} {o o' : Obj} {rest : List (Addr × Obj)} (F : Fr h₀ L h m) (N : News h₀ L h ((e, o) :: rest)) (off : ∀ p ∈ rest, p.1 ≠ e) (k : ∀ b x, b ≠ e → h.get? b = some x → h'.get? b = some x) (he : h'.get? e = some o') :
    Fr h₀ L h' m ∧ News h₀ L h' ((e, o') :: rest) := by
  have z := N _ (.head _)
  obtain ⟨oL, es, ep, hL, r⟩ := F.ns
  refine ⟨⟨⟨oL, es, ep, k _ _ (fun q => z.2.1 q.symm) hL, r⟩, fun b x q => k _ _ (fun q' => by rw [q', z.2.2] at q; cases q) (F.keep b x q), F.above⟩, fun p hp => ?_⟩
  rcases List.mem_cons.mp hp with rfl | hp
  · exact ⟨he, z.2⟩
  · exact ⟨k _ _ (off p hp) (N p (.tail _ hp)).1, (N p (.tail _ hp)).2⟩
theorem exc_args {g h : Heap} {L e C T : Addr} {m : Str → Option Value} {rest : List (Addr × Obj)} {ws : List Value} (F : Fr g L h m) (N : News g L h ((e, excO C T) :: rest)) (off : ∀ p ∈ rest, p.1 ≠ e) :
    Fr g L ((h.push { cls := .type "tuple", data := .seq ws.toArray }).update e (Obj.mapFields (·.setIfInBounds 0 (.ref h.objs.size)))) m ∧
      News g L ((h.push { cls := .type "tuple", data := .seq ws.toArray }).update e (Obj.mapFields (·.setIfInBounds 0 (.ref h.objs.size)))) ((e, excO C h.objs.size) :: (h.objs.size, tupO ws 0) :: rest) ∧
      (∀ p ∈ (h.objs.size, tupO ws 0) :: rest, p.1 ≠ e) ∧ ∀ p ∈ rest, p.1 ≠ h.objs.size := by
  have z := (N _ (.head _)).1
  have ne : h.objs.size ≠ e := Nat.ne_of_gt (Heap.lt_size z)
  have off' : ∀ p ∈ (h.objs.size, tupO ws 0) :: rest, p.1 ≠ e := fun p hp => by
    rcases List.mem_cons.mp hp with rfl | hp
    · exact ne
    · exact off p hp
  have x := step_exc (o' := excO C h.objs.size) (F.push { cls := .type "tuple", data := .seq ws.toArray }) (pull1 (N.push F { cls := .type "tuple", data := .seq ws.toArray })) off'
    (fun b o hb q => (Heap.get?_update_other _ _ (Ne.symm hb)).trans q) (Heap.get?_update_self (Obj.mapFields (·.setIfInBounds 0 (.ref h.objs.size))) (Heap.get?_push_of_some _ z) rfl)
  exact ⟨x.1, x.2, off', fun p hp => Nat.ne_of_lt (Heap.lt_size (N p (.tail _ hp)).1)⟩
/-- the exception once made -/
noncomputable abbrev excD (C T : Addr) (D : Addr) : Obj := { cls := .ref C, dict := some D, data := .fields #[.ref T, .none, .none, .none, .bool false, .none] }
/-- the bound __init__ of the built-in base, as an object -/
noncomputable abbrev wrapO (e : Addr) : Obj := { cls := .type "method-wrapper", data := .fields #[.builtin "Exception.__init__", .ref e] }
theorem callWith_wrap {M : Model} {A : Around} {E : Value → Shared → Prop} {s : Shared} {env : Env} {pos : Pos} {q e : Addr} {first : List Value} {a : Expr} {rest : List Expr} {Q : Value → Shared → Prop}
    (h : wpAny M A (spliced (backTo pos (starEach (a :: rest) env))) (fun vs s₁ => s₁.heap.get? q = some (wrapO e) ∧ wpAny M A (call (.ref q) (first ++ vs)) Q E s₁) E s)
    (he : starEach (a :: rest) env = (false, eval a env) :: starEach rest env := by rfl) (hplain : (backTo pos (starEach rest env)).any (·.1) = false := by rfl) :
    wpAny M A (callWith pos (.ref q) first (backTo pos (starEach (a :: rest) env)) []) Q E s := by
  rw [he] at h ⊢
  exact callWith_of (P := fun h => h.get? q = some (wrapO e)) (by show ((false || (backTo pos (starEach rest env)).any (·.1)) || false) = false; rw [hplain]; rfl) (fun h x => ⟨.machine, .inr (.inl rfl), (Looks.ld (part := none) x).andThen .now⟩) (evalArgs_plain h)
theorem init_tell (w : World) (p : Program) (loose : List Str) (mean : ExcName → Option Value) (mg mb : Str → Option Value) (A : Around) (env : Env) (outer : List Env) (A₀ : Around) (base h₀ : Heap) (L : Addr) (m : Str → Option Value) (rest : List (Addr × Obj)) (s : Shared) (e T : Addr) (z : Str) (tz : Tok)
    (Q E : Value → Shared → Prop) (B : Below A₀ base outer h₀) (F : Fr h₀ L s.heap m) (X : (Mine.hd.heap_39 w.params).In h₀) (N : News h₀ L s.heap ((e, excO 65 T) :: rest)) (Tp : Top p loose mean mg mb h₀) (hA : A.frames = some (env :: outer)) (hf : env.frame = some L) (hke : env.scope.kind = .function)
    (hroom : A.depth < recursionLimit) (off : ∀ p ∈ rest, p.1 ≠ e)
    (hret : ∀ h' tk' T' D n, Fr h₀ L h' m → News h₀ L h' ((e, excD 65 T' D) :: (T', tupO [.str z tz] n) :: rest) → (∀ p ∈ rest, p.1 ≠ T') → Q .none { s with heap := h', toks := tk' }) :
    wpAny (model PySem.Challenge.rw_pq0039_01.prog w) A (call (.ref 42) [.ref e, .str z tz]) Q E s := by
  revert X
  k_fill
  intro X
  refine wpAny_call ?_
  refine' ks_code_super ?k1 ?k2 ?k3 ?k4 ?k5 ?kA ?kF ?kK ?k6 ?k7 ?k8 ?k9 ?kB ?_ ?c1 ?c2 ?c3 ?c4
  (case kA => exact hA)
  (case kF => exact hf)
  (case kK => exact hke)
  (case k1 => exact B)
  (case k2 => exact F)
  (case k3 => exact X)
  (case k4 => exact N)
  (case k5 => exact Tp)
  (case k6 => k_is)
  (case k7 => k_is)
  (case k8 => exact hroom)
  (case k9 => exact BindsTo.of_eq rfl)
  (case kB => exact locs rfl)
  (case c1 => decide)
  (case c2 => exact rfl)
  (case c3 => exact rfl)
  (case c4 => exact rfl)
  intro g' L' h' FG' F' N' B' X' T' l1
  refine ks_wpAt_execs_cons ?_
  refine ks_wpAt_Expr_any ?_
  refine ks_wpAt_MethodCall ?_
  have I' : PySem.W.InstAt h' e (excO 65 T) 65 none := ⟨(N' _ (.head _)).1, rfl, rfl, trivial⟩
  refine ks_node F' X' N' T' (by k_is) (by rfl) (by rfl) I' (by k_is) (by rfl) (by first | rfl | decide +kernel) (by k_is) (by k_is) (by k_is) (by k_is) (by decide) (by rfl) (by rfl) (by rfl) (by rfl) (by decide +kernel) (by first | boot_by_name | rfl | kernel_rfl) ?_
  intro so h2 F2 N2 l2
  have X2 := X'.keeps F2.keep
  refine ex_getMethod (K := Mine.hd.heap_39 w.params) (C := 65) (D := 52) (N2 _ (.head _)).1 (looks_opaque X2 (by k_is)) ((looks_clsIn X2 (by k_is)).andThen .now) rfl X2 exc_along (by decide) (N2 _ (.tail _ (.head _))).1 rfl (looks_mroIn X2 (by k_is)) ?ne ?_
  (case ne => exact ks_ne X2 (⟨(N2 _ (.tail _ (.head _))).1, rfl, rfl, trivial⟩ : PySem.W.InstAt h2 e (excO 65 T) 65 none) (cd := _) (by k_is))
  have F3 := F2.push { cls := .type "method-wrapper", data := .fields #[.builtin "Exception.__init__", .ref e] }
  have N3 := N2.push F2 { cls := .type "method-wrapper", data := .fields #[.builtin "Exception.__init__", .ref e] }
  have hqe : h2.objs.size ≠ e := Nat.ne_of_gt (Heap.lt_size (N2 _ (.tail _ (.head _))).1)
  generalize hh3 : h2.push { cls := .type "method-wrapper", data := .fields #[.builtin "Exception.__init__", .ref e] } = h3 at F3 N3 ⊢
  clear hh3
  have offX := off
  k_with "m:call" => ((with_reducible show wpAny _ _ (call (Value.ref _) _) _ _ _); k_dflt ((show wpAny _ _ (call (Value.ref _) [_]) _ _ _); (refine' ex_bound_init (C := 65) ?hC (N3 _ (.head _)).1 (N3 _ (.tail _ (.tail _ (.head _)))).1 rfl rfl rfl ?hz ?_; (case hC => exact (X'.keeps F3.keep) _ _ (by k_is)); (case hz => exact Nat.le_of_ble_eq_true rfl)); (have w4 := exc_args (ws := [.str z tz]) F3 (fun p hp => N3 p (.tail _ (.tail _ hp))) offX); (obtain ⟨F4, N4, off4, offT⟩ := w4); (clear F3 N3); (try k_unmd); (try dsimp only); (try k_fold)))
  k_with "m:setattr" => ((with_reducible show wpAny _ _ (setAttr (Value.ref _) _ _) _ _ _); k_dflt ((refine' ex_set (X'.keeps F4.keep) (N4 _ (.head _)).1 ?hs ?hc ?hm ?hh ?ht ?_; (case hs => k_is); (case hc => k_is); (case hm => rfl); (case hh => rfl); (case ht => k_is)); intro h5 t5 k5 e5; (have w5 := step_exc F4 N4 off4 k5 e5); (obtain ⟨F5, N5⟩ := w5); (try k_unmd); (try dsimp only); (try k_fold)))
  refine callWith_wrap (e := e) ?_
  try k_unmd
  try dsimp only
  try k_unmd
  try k_fold
  walk_at "m:steps"
  all_goals first | exact (N3 _ (.head _)).1 | exact hret _ _ _ _ _ (by assumption) (by assumption) offT
theorem fault_made (w : World) (p : Program) (loose : List Str) (mean : ExcName → Option Value) (mg mb : Str → Option Value) (A : Around) (env : Env) (outer : List Env) (A₀ : Around) (base h₀ : Heap) (L : Addr) (m : Str → Option Value) (rest : List (Addr × Obj)) (s : Shared) (z : Str) (tz : Tok)
    (Q E : Value → Shared → Prop) (B : Below A₀ base outer h₀) (F : Fr h₀ L s.heap m) (X : (Mine.hd.heap_39 w.params).In h₀) (N : News h₀ L s.heap rest) (Tp : Top p loose mean mg mb h₀) (hA : A.frames = some (env :: outer)) (hf : env.frame = some L) (hke : env.scope.kind = .function)
    (hroom : A.depth + 1 < recursionLimit)
    (hret : ∀ h' tk' e T' D n, Fr h₀ L h' m → News h₀ L h' ((e, excD 65 T' D) :: (T', tupO [.str z tz] n) :: rest) → (∀ p ∈ rest, p.1 ≠ e ∧ p.1 ≠ T') → Q (.ref e) { s with heap := h', toks := tk' }) :
    wpAny (model PySem.Challenge.rw_pq0039_01.prog w) A (call (.ref 65) [.str z tz]) Q E s := by
  revert X
  k_fill
  intro X
  have X' := X.keeps F.keep
  obtain ⟨h, g, d, t, os⟩ := s
  have hC := X' 65 _ (by k_is)
  have hI := X' 42 _ (by k_is)
  have N1 := N.push F { cls := .type "tuple", data := .seq [Value.str z tz].toArray }
  have F1 := F.push { cls := .type "tuple", data := .seq [Value.str z tz].toArray }
  have N2 := N1.push F1 (excO 65 h.objs.size)
  have F2 := F1.push (excO 65 h.objs.size)
  refine call_exc_own PySem.F.excBase_Exception (by decide +kernel) (by decide +kernel) (by decide +kernel) hC (looks_findIn X' (by k_is)) hI rfl ?_ (Nat.le_of_ble_eq_true rfl)
  refine init_tell w p loose mean mg mb _ env outer A₀ base h₀ L m ((h.objs.size, { cls := .type "tuple", data := .seq [Value.str z tz].toArray }) :: rest) _ _ h.objs.size z tz _ _ B F2 X ?_ Tp ?_ hf hke ?_ ?_ ?_
  · rw [Heap.size_push] at N2
    exact N2
  · obtain ⟨q1, q2, q3, q4, q5⟩ := A
    obtain rfl : q3 = some (env :: outer) := hA
    rfl
  · rw [depth_under_make]
    exact hroom
  · intro p hp
    rcases List.mem_cons.mp hp with rfl | hp
    · exact Nat.ne_of_lt (Nat.lt_succ_self _)
    · exact Nat.ne_of_lt (Nat.lt_succ_of_lt (Heap.lt_size (N p hp).1))
  · intro h' tk' T' D n F' N' o'
    refine ⟨rfl, hret h' tk' _ T' D n F' (fun p hp => N' p ?_) fun p hp => ⟨Nat.ne_of_lt (Nat.lt_succ_of_lt (Heap.lt_size (N p hp).1)), o' p (.tail _ hp)⟩⟩
    rcases List.mem_cons.mp hp with rfl | hp
    · exact .head _
    · rcases List.mem_cons.mp hp with rfl | hp
      · exact .tail _ (.head _)
      · exact .tail _ (.tail _ (.tail _ hp))
theorem kts_memE {env : Env} {L b : Addr} {outer : List Env} (hf : env.frame = some L) (hm : b ∈ (env :: outer).filterMap (·.frame)) : b = L ∨ b ∈ outer.filterMap (·.frame) := by
  obtain ⟨env', he, hf'⟩ := List.mem_filterMap.mp hm
  rcases List.mem_cons.mp he with rfl | he
  · exact .inl (Option.some.inj (hf'.symm.trans hf))
  · exact .inr (List.mem_filterMap.mpr ⟨env', he, hf'⟩)
theorem RaisedS.sub {base G h : Heap} {l : List Env} {e t : Addr} {cls : Value} {vs : List Value} {nw nw' : List (Addr × Obj)} (R : RaisedS base G l e cls t vs nw h) (s : ∀ q ∈ nw', q ∈ nw) : RaisedS base G l e cls t vs nw' h :=
  let ⟨⟨B, a, b, c, d, f⟩, g⟩ := R; ⟨⟨B, a, b, fun q hq => c q (s q hq), d, f⟩, g⟩
section
variable {M : Model} {A : Around} {E : Value → Shared → Prop} {s' : Shared} {base g g₂ : Heap} {outer : List Env} {L e T' D : Addr} {m : Str → Option Value} {env : Env} {Q : Unit → Shared → Prop} {news : List (Addr × Obj)} {C : Addr} {ws : List Value} {n : Nat}
theorem leave_onE {cls : Value} {vs : List Value} {t : Addr} (hf : env.frame = some L) (K : A.frames = some outer) (F : Fr g L g₂ m) (R : RaisedS base g₂ (env :: outer) e cls t vs news s'.heap) (hsm : g₂.UpToSlots s'.heap)
    (hQ : ∀ h', RaisedS base g outer e cls t vs news h' → g.UpToSlots h' → Q () { s' with heap := h' }) :
    wpAny M (A.deeper env) (leaving env (.ref e)) Q E s' := by
  obtain ⟨⟨B, hB, hBG, hl, hfl, hnew⟩, htup⟩ := R
  exact wpAny_leaves_onW (Around.frames_deeper K) hf hfl fun h' x1 x2 =>
    hQ h' ⟨⟨B, hB, fun b o q nm => hBG b o (F.keep b o q) (fun hm => by
      rcases kts_memE hf hm with z | z
      · rw [z, kts_self F] at q
        cases q
      · exact nm z), fun q hq => ⟨(hl q hq).1, kts_none F.keep (hl q hq).2.1, (hl q hq).2.2⟩, x1, hnew⟩, htup.of_slots x2⟩ ((Heap.UpToSlots.of_keeps F.keep).trans (hsm.trans x2))
theorem leave_firstE (hf : env.frame = some L) (hk : env.scope.kind = .function) (K : Below A base outer g) (F : Fr g L s'.heap m) (N : News g L s'.heap ((e, excD C T' D) :: (T', tupO ws n) :: news)) (off : ∀ q ∈ news, q.1 ≠ e ∧ q.1 ≠ T')
    (hQ : ∀ h', RaisedS base g outer e (.ref C) T' ws news h' → g.UpToSlots h' → Q () { s' with heap := h' }) :
    wpAny M (A.deeper env) (leaving env (.ref e)) Q E s' := by
  have hnew : base.get? L = none := by
    cases hq : base.get? L with
    | none => rfl
    | some o => exact absurd (Nat.lt_of_lt_of_le (Heap.lt_size (K.stays L o hq)) F.above) (Nat.lt_irrefl _)
  have Ne := N _ (.head _)
  have Nt := N _ (.tail _ (.head _))
  obtain ⟨oL, esL, nL, hoL, hdL, hrL⟩ := F.ns
  have hfr : s'.heap.FunFrames base (env :: outer) := ⟨by rw [hk]; decide, ⟨L, oL, hf, hnew, hoL, fun vs q => by rw [hdL] at q; cases q⟩, K.frames.of_keeps fun b o q _ => ⟨o, F.keep b o q, rfl⟩⟩
  have hin : ∀ env' ∈ (env :: outer), ∀ b, env'.frame = some b → b ∈ e :: T' :: (env :: outer).filterMap (·.frame) := fun env' he b hb => .tail _ (.tail _ (List.mem_filterMap.mpr ⟨env', he, hb⟩))
  have nb : ∀ b o, base.get? b = some o → b ∉ e :: T' :: (env :: outer).filterMap (·.frame) := fun b o q hm => by
    rcases List.mem_cons.mp hm with rfl | hm
    · rw [fresh_of_stays K.stays Ne.2.2] at q; cases q
    · rcases List.mem_cons.mp hm with rfl | hm
      · rw [fresh_of_stays K.stays Nt.2.2] at q; cases q
      · rw [(hfr.mem hm).1] at q; cases q
  have st : base.StaysIn (hideAll s'.heap (e :: T' :: (env :: outer).filterMap (·.frame))) := fun b o q => hideAll_get _ (F.keep b o (K.stays b o q)) (nb b o q)
  have sg : ∀ b o, g.get? b = some o → b ∉ outer.filterMap (·.frame) → (hideAll s'.heap (e :: T' :: (env :: outer).filterMap (·.frame))).get? b = some o := fun b o q nm => hideAll_get _ (F.keep b o q) fun hm => by
    rcases List.mem_cons.mp hm with rfl | hm
    · rw [Ne.2.2] at q; cases q
    · rcases List.mem_cons.mp hm with rfl | hm
      · rw [Nt.2.2] at q; cases q
      · rcases kts_memE hf hm with z | z
        · rw [z, kts_self F] at q; cases q
        · exact nm z
  have hl : ∀ q ∈ news, (hideAll s'.heap (e :: T' :: (env :: outer).filterMap (·.frame))).get? q.1 = some q.2 ∧ g.get? q.1 = none ∧ base.get? q.1 = none := fun q hq => by
    have z := N q (.tail _ (.tail _ hq))
    refine ⟨hideAll_get _ z.1 fun hm => ?_, z.2.2, fresh_of_stays K.stays z.2.2⟩
    rcases List.mem_cons.mp hm with h | hm
    · exact (off q hq).1 h
    · rcases List.mem_cons.mp hm with h | hm
      · exact (off q hq).2 h
      · rcases kts_memE hf hm with h | hm
        · exact z.2.1 h
        · obtain ⟨o, ho, _⟩ := (K.frames.mem hm).2
          rw [z.2.2] at ho; cases ho
  refine wpAny_leaving_firstW (base := hideAll s'.heap (e :: T' :: (env :: outer).filterMap (·.frame))) (a0 := .ref T') (Around.frames_deeper K.stack) (funFrames_hide hfr hin) hf Ne.1 (fun b o q => of_hideAll _ q) (hideAll_none _ (.head _)) rfl rfl rfl fun h' hL => ?_
  obtain ⟨k1, ⟨_, _, k2⟩, k3, k4⟩ := hL
  exact hQ h' ⟨⟨_, st, sg, hl, ⟨k1, hideAll_none _ (.head _), k2, k3⟩, hideAll_none _ (.tail _ (.head _))⟩, Heap.TupAt.of_slots ⟨_, _, Nt.1, rfl, rfl⟩ k4⟩ ((Heap.UpToSlots.of_keeps F.keep).trans k4)
end
theorem rows_79b : True := by
  k_with "exec Raise some none" => (k_extra "m:raise")
  trivial
/-- a call that always raises TermFault -/
noncomputable def RaiseI (prog : Program) (w : World) (K : Frag) (p : Program) (loose : List Str) (mean : ExcName → Option Value) (mg mb : Str → Option Value) (f : Addr) (size : Nat) (pre : List (Addr × Obj) → List Value → Prop) : Prop :=
  ∀ (dp un : Nat) (gd : Option (List Code)) (env : Env) (outer : List Env) (A₀ : Around) (base h₀ : Heap) (L : Addr) (m : Str → Option Value) (news : List (Addr × Obj)) (s : Shared) (vs : List Value) (Q E : Value → Shared → Prop),
    Below A₀ base outer h₀ → Fr h₀ L s.heap m → K.In h₀ → News h₀ L s.heap news → Top p loose mean mg mb h₀ → env.frame = some L → env.scope.kind = .function →
    dp + size < recursionLimit → un + 8 * size < cLine → pre news vs →
    (∀ e T' ws g₂ h' tk', Fr h₀ L g₂ m → RaisedS base g₂ (env :: outer) e (.ref 65) T' ws news h' → g₂.UpToSlots h' → E (.ref e) { s with heap := h', toks := tk' }) →
    wpAny (model prog w) (topA dp un gd env outer) (call (.ref f) vs) Q E s
noncomputable def Ready (C : Addr) (E : Value → Shared → Prop) (v : Value) (s₁ : Shared) : Prop :=
  ∃ nm q N bs bm hdct sn sub ab col dd k0 k1 k2 k3 k5 newId e oe a0, bm.contains (.type "BaseException") = true ∧ v = .ref e ∧ s₁.heap.get? C = some (excClassObj nm q C N bs bm hdct sn sub ab col dd k0 k1 k2 k3 k5 newId) ∧
      s₁.heap.get? e = some oe ∧ oe.cls = .ref C ∧ oe.data = .fields #[a0, .none, .none, .none, .bool false, .none] ∧ E (.ref e) s₁
theorem Ready.intro {nm q : Str} {C N : Addr} {bs bm : List Value} {hdct : Bool} {sn : List Str} {sub : List Value} {ab : Bool} {col : Option Bool} {dd : Option Addr} {k0 k1 k2 k3 k5 : Option Value} {newId : String} {E : Value → Shared → Prop} {s₁ : Shared} {e : Addr} {T D : Addr}
    (hC : s₁.heap.get? C = some (excClassObj nm q C N bs bm hdct sn sub ab col dd k0 k1 k2 k3 k5 newId)) (hb : bm.contains (.type "BaseException") = true) (he : s₁.heap.get? e = some (excD C T D)) (hE : E (.ref e) s₁) : Ready C E (.ref e) s₁ :=
  ⟨nm, q, N, bs, bm, hdct, sn, sub, ab, col, dd, k0, k1, k2, k3, k5, newId, e, _, _, hb, rfl, hC, he, rfl, rfl, hE⟩
theorem raise_ready {prog : Program} {w : World} {A : Around} {E : Value → Shared → Prop} {env : Env} {s : Shared} {x : Sem Value} {C : Addr} {Q : Flow → Shared → Prop} (hh : A.handled = none) (hx : wpAny (model prog w) A x (Ready C E) E s) :
    wpAny (model prog w) A (raiseStmt env (some x) none) Q E s := by
  unfold raiseStmt
  refine wpAny_bind (wpAny_mono hx (fun v s₁ h₁ => ?_) fun _ _ x => x)
  obtain ⟨nm, q, N, bs, bm, hdct, sn, sub, ab, col, dd, k0, k1, k2, k3, k5, newId, e, ⟨oc, od, odt, osl⟩, a0, hbase, rfl, hC, he, rfl, rfl, hE⟩ := h₁
  have hcB : (Value.ref C :: bm).contains (.type "BaseException") = true := by rw [List.contains_cons, hbase, Bool.or_true]
  obtain ⟨hp, g, d, tk, os⟩ := s₁
  repeat (first | with_reducible refine wpAny_raiseNew_none hh ?_ | with_reducible refine wpAny_loadPart_at he ?_ | with_reducible refine wpAny_loadPart_at hC ?_ | (with_reducible refine wpAny_isSubtype_exc hC ?_; rw [hcB]) | wp_step)
  exact hE
theorem Raise_go {prog : Program} {w : World} {A : Around} {E : Value → Shared → Prop} {env : Env} {s : Shared} {x : Expr} {pos : Pos} {Q : Flow → Shared → Prop} (hh : A.handled = none) (hx : wpAny (model prog w) A (eval x env) (Ready 65 E) E s) :
    wpAny (model prog w) A (exec (.Raise (some x) none pos) env) Q E s := by
  rw [arm_exec_Raise]
  refine wpAny_bind (wpAny_standAt ?_)
  show wpAny _ _ (raiseStmt env (some (eval x env >>= fun v => standAt pos >>= fun _ => pure v)) _) _ _ _
  exact raise_ready hh (wpAny_bind (wpAny_mono hx (fun v s₁ h => wpAny_bind (wpAny_standAt (wpAny_pure h))) fun _ _ z => z))
inductive NamedR (prog : Program) (w : World) (D : List (PyData × PyData)) (news : List (Addr × Obj)) : List Value → Prop
  | mk {v : Value} {d : Addr} : Odd news v → EnvIn prog w news d D → NamedR prog w D news [v, .ref d]
theorem named_raise (w : World) (p : Program) (loose : List Str) (mean : ExcName → Option Value) (mg mb : Str → Option Value) (D : List (PyData × PyData)) (hD : ∀ z ∈ (["y", "neg", "add", "mul", "0", "sub"] : List Str), lookup (.str z) D = none) :
    RaiseI PySem.Challenge.rw_pq0039_01.prog w (Mine.hd.heap_39 w.params) p loose mean mg mb 136 4 (fun news vs => NamedR PySem.Challenge.rw_pq0039_01.prog w D news vs) := by
  unfold RaiseI
  k_fill
  intro dp un gd env outer A₀ base h₀ L mm news s vs Q E B F X N T hf hk hd hu hp hret
  cases hp with
  | @mk v0 d hO hE =>
  obtain ⟨lo, o, kvs, hm, hdo, hfl⟩ := hE
  k_with "m:raise" => ((with_reducible show wpAny _ _ (exec (Stmt.Raise _ _ _) _) _ _ _); k_dflt (refine Raise_go (by rfl) ?_); (try k_unmd); (try dsimp only); (try k_fold))
  k_with "m:call" => ((with_reducible show wpAny _ _ (call (Value.ref 65) _) _ _ _); k_dflt ((with_reducible rename News _ _ _ _ => kN9); (with_reducible rename Fr _ _ _ _ => kF9); (refine' fault_made _ _ _ _ _ _ _ _ _ _ _ _ _ _ _ _ _ _ _ _ ?kB kF9 ?kX kN9 ?kT ?kA ?kf ?kk ?kr ?_; (case kB => k_asm); (case kX => k_asm); (case kT => k_asm); (case kA => exact rfl); (case kf => exact rfl); (case kk => exact rfl); (case kr => walk_at "m:room")); intro h6 t6 e6 T6 D6 n6 F6 N6 o6; (try k_unmd); (repeat k_unfold); k_dflt ((have hC6 := (Frag.In.keeps (by k_asm) F6.keep : (Mine.hd.heap_39 w.params).In h6) 65 _ (by k_is)); (refine Ready.intro hC6 (by decide +kernel) (N6 _ (.head _)).1 ?_); (repeat k_unfold); (try dsimp only); (refine leave_firstE (by rfl) (by rfl) (by assumption) F6 N6 o6 ?_); intro h7 R7 U7; exact hret _ _ _ _ _ _ (by assumption) R7 U7)))
  cases hO with
  | @leaf ad z tz n hmem hz =>
    have hls : (lookup (.str z) D).isSome = false := by rw [hD z (by simp only [List.mem_cons, List.not_mem_nil, or_false] at hz ⊢; rcases hz with h | h <;> simp [h])]; rfl
    simp only [List.mem_cons, List.not_mem_nil, or_false] at hz
    rcases hz with rfl | rfl
    all_goals (
      refine wpAny_call ?_
      k_dflt (walk_at "m:enter")
      walk_at "m:steps")
  | @un ad z tz u n hmem hz =>
    simp only [List.mem_cons, List.not_mem_nil, or_false] at hz
    rcases hz with rfl | rfl | rfl
    all_goals (
      refine wpAny_call ?_
      k_dflt (walk_at "m:enter")
      walk_at "m:steps")
  | @bin ad z tz u v n hmem hz =>
    simp only [List.mem_cons, List.not_mem_nil, or_false] at hz
    rcases hz with rfl | rfl
    all_goals (
      refine wpAny_call ?_
      k_dflt (walk_at "m:enter")
      walk_at "m:steps")
  | @tri ad tz u v x n hmem =>
    refine wpAny_call ?_
    k_dflt (walk_at "m:enter")
    walk_at "m:steps"
noncomputable def NoneI (prog : Program) (w : World) (K : Frag) (p : Program) (loose : List Str) (mean : ExcName → Option Value) (mg mb : Str → Option Value) (f : Addr) (size : Nat) (pre : List (Addr × Obj) → List Value → Prop) : Prop :=
  ∀ (dp un : Nat) (gd : Option (List Code)) (env : Env) (outer : List Env) (A₀ : Around) (base h₀ : Heap) (L : Addr) (m : Str → Option Value) (news : List (Addr × Obj)) (s : Shared) (vs : List Value) (Q E : Value → Shared → Prop),
    Below A₀ base outer h₀ → Fr h₀ L s.heap m → K.In h₀ → News h₀ L s.heap news → Top p loose mean mg mb h₀ → env.frame = some L → env.scope.kind = .function →
    dp + size < recursionLimit → un + 8 * size < cLine → pre news vs →
    (∀ h' tk', Fr h₀ L h' m → News h₀ L h' news → Q .none { s with heap := h', toks := tk' }) →
    wpAny (model prog w) (topA dp un gd env outer) (call (.ref f) vs) Q E s
theorem notin_other {prog : Program} {w : World} {A : Around} {E : Value → Shared → Prop} {s : Shared} {c : Nat} {t u : Tok} {Q : Value → Shared → Prop} (h0 : c = 121 ∨ c = 110 ∨ c = 101 ∨ c = 103) (h : Q (.bool true) s) :
    wpAny (model prog w) A (compareOp .NotIn (.str ⟨#[c]⟩ t) (.str "0123456789" u)) Q E s := by
  refine notIn_str ?_
  have e : (!(!(Builtin.Str.occurrences "0123456789" ⟨#[c]⟩ 0 (Str.ofString "0123456789").length 1).isEmpty)) = true := by
    obtain rfl | rfl | rfl | rfl := h0
    all_goals decide +kernel
  rw [e]; exact h
noncomputable abbrev charsOf (x : Str) : List Str := x.cps.toList.map fun c => ⟨#[c]⟩
theorem chars_next {x : Str} {i c : Nat} {ys : List Value} {u : Tok} (hc : x.cps[i]? = some c) (h : StrsAre ys ((charsOf x).take i)) : StrsAre (ys ++ [.str ⟨#[c]⟩ u]) ((charsOf x).take (i + 1)) := by
  have e : (charsOf x)[i]? = some ⟨#[c]⟩ := by
    rw [List.getElem?_map, Array.getElem?_toList, hc]; rfl
  rw [List.take_add_one, e]
  exact StrsAre_append h strs_one
theorem ne_chars {prog : Program} {w : World} {A : Around} {E : Value → Shared → Prop} {s : Shared} {h₀ : Heap} {L : Addr} {news : List (Addr × Obj)} {a b : Addr} {xs : List Value} {ss : List Str} {n1 n2 : Nat} {Q : Value → Shared → Prop} (N : News h₀ L s.heap news) (ha : (a, W.listOf xs.toArray n1) ∈ news) (hb : (b, W.listOf (List.toArray []) n2) ∈ news)
    (hi : StrsAre xs ss) (h1 : ss = (["y"] : List Str) ∨ ss = (["n", "e", "g"] : List Str)) (hu : A.units + 64 < cLine) (h : Q (.bool true) s) : wpAny (model prog w) A (compareOp .NotEq (.ref a) (.ref b)) Q E s := by
  rcases h1 with rfl | rfl
  · exact ne_dataH (reads_newData (News.isList N ha) (strs_carried hi)) (reads_newData (News.isList N hb) .nil) (by decide +kernel) (by decide +kernel) hu (by rw [show PyData.eqv (.list ((["y"] : List Str).map PyData.str)) (.list []) = false from by decide +kernel]; exact h)
  · exact ne_dataH (reads_newData (News.isList N ha) (strs_carried hi)) (reads_newData (News.isList N hb) .nil) (by decide +kernel) (by decide +kernel) hu (by rw [show PyData.eqv (.list ((["n", "e", "g"] : List Str).map PyData.str)) (.list []) = false from by decide +kernel]; exact h)
theorem whole_odd (w : World) (p : Program) (loose : List Str) (mean : ExcName → Option Value) (mg mb : Str → Option Value) (x : Str) (t0 : Tok) (hx : x ∈ (["y", "neg"] : List Str)) :
    NoneI PySem.Challenge.rw_pq0039_01.prog w (Mine.hd.heap_39 w.params) p loose mean mg mb 26 10 (fun _ vs => vs = [.str x t0]) := by
  k_fill
  unfold NoneI
  intro dp un gd env outer A₀ base h₀ L mm news s vs Q E B F X N T hf hk hd hu hp hret
  subst hp
  have h128 : (x).cps.all (· < 128) = true := by simp only [List.mem_cons, List.not_mem_nil, or_false] at hx; rcases hx with rfl | rfl <;> decide +kernel
  have hsz : (x).cps.size ≤ sizeLine := by simp only [List.mem_cons, List.not_mem_nil, or_false] at hx; rcases hx with rfl | rfl <;> decide +kernel
  have hch : ∀ c ∈ x.cps.toList, c = 121 ∨ c = 110 ∨ c = 101 ∨ c = 103 := by
    have q : x.cps.toList.all (fun c => c == 121 || c == 110 || c == 101 || c == 103) = true := by simp only [List.mem_cons, List.not_mem_nil, or_false] at hx; rcases hx with rfl | rfl <;> decide +kernel
    intro c hc
    have z := List.all_eq_true.mp q c hc
    simp only [Bool.or_eq_true, beq_iff_eq] at z
    omega
  simp only [List.mem_cons, List.not_mem_nil, or_false] at hx
  rcases hx with rfl | rfl
  · refine wpAny_call ?_
    k_dflt (walk_at "m:enter")
    walk_at "m:steps"
    rename Fr _ _ _ _ => F9
    rename News _ _ _ _ => N9
    refine CompGo.str (fun i ys nw => nw = _ ∧ StrsAre ys ((charsOf "y").take i)) (by decide) (by rfl) (by rfl) (by rfl) F9 N9 h128 hsz ⟨rfl, .nil⟩ (fun i ys nw h => by rw [StrsAre_length h.2]; exact List.length_take_le _ _) ?turn ?fin
    case turn =>
      intro i c u ys nw I oI C oC D' mC s' E' hc hj hoC hxx hs F1 N1 o3 ne
      obtain ⟨rfl, hS⟩ := hj
      obtain ⟨h1, tk1, rfl⟩ := hs.is
      have hb := hch c (by rw [← Array.getElem?_toList] at hc; exact List.mem_of_getElem? hc)
      show wpAny _ _ (isTrue _ _ _) _ _ _
      clear F9 N9
      k_with "m:notin" => refine notin_other hb ?_
      walk_at "m:steps"
      all_goals exact TurnE.intro Sm.ht (by k_asm) (by k_asm) _ (fun _ h => h) o3 ⟨rfl, chars_next hc hS⟩
    case fin =>
      intro D' ys nw hj s' hs F1 N1 o1
      obtain ⟨rfl, hS⟩ := hj
      obtain ⟨h1, tk1, rfl⟩ := hs.is
      clear F9 N9 hs
      have hS : StrsAre ys ["y"] := by
        rw [show (charsOf "y").take _ = (["y"] : List Str) from by decide +kernel] at hS
        exact hS
      k_with "m:nenames" => ((with_reducible rename News _ _ _ _ => kN9); k_dflt (refine ne_chars kN9 (.tail _ (.head _)) (.head _) hS (by decide) (by walk_at "m:units") ?_))
      try k_fold
      walk_at "m:steps"
      all_goals exact hret _ _ (by k_asm) (News.sub (by k_asm) (by walk_at "m:sub"))
  · refine wpAny_call ?_
    k_dflt (walk_at "m:enter")
    walk_at "m:steps"
    rename Fr _ _ _ _ => F9
    rename News _ _ _ _ => N9
    refine CompGo.str (fun i ys nw => nw = _ ∧ StrsAre ys ((charsOf "neg").take i)) (by decide) (by rfl) (by rfl) (by rfl) F9 N9 h128 hsz ⟨rfl, .nil⟩ (fun i ys nw h => by rw [StrsAre_length h.2]; exact List.length_take_le _ _) ?turn ?fin
    case turn =>
      intro i c u ys nw I oI C oC D' mC s' E' hc hj hoC hxx hs F1 N1 o3 ne
      obtain ⟨rfl, hS⟩ := hj
      obtain ⟨h1, tk1, rfl⟩ := hs.is
      have hb := hch c (by rw [← Array.getElem?_toList] at hc; exact List.mem_of_getElem? hc)
      show wpAny _ _ (isTrue _ _ _) _ _ _
      clear F9 N9
      k_with "m:notin" => refine notin_other hb ?_
      walk_at "m:steps"
      all_goals exact TurnE.intro Sm.ht (by k_asm) (by k_asm) _ (fun _ h => h) o3 ⟨rfl, chars_next hc hS⟩
    case fin =>
      intro D' ys nw hj s' hs F1 N1 o1
      obtain ⟨rfl, hS⟩ := hj
      obtain ⟨h1, tk1, rfl⟩ := hs.is
      clear F9 N9 hs
      have hS : StrsAre ys ["n", "e", "g"] := by
        rw [show (charsOf "neg").take _ = (["n", "e", "g"] : List Str) from by decide +kernel] at hS
        exact hS
      k_with "m:nenames" => ((with_reducible rename News _ _ _ _ => kN9); k_dflt (refine ne_chars kN9 (.tail _ (.head _)) (.head _) hS (by decide) (by walk_at "m:units") ?_))
      try k_fold
      walk_at "m:steps"
      all_goals exact hret _ _ (by k_asm) (News.sub (by k_asm) (by walk_at "m:sub"))
theorem rows_79f : True := by
  k_with "call ref" => (k_extra "m:call2")
  k_with "compareOp NotIn ref ref" => ((k_here; (with_reducible show wpAny _ _ (compareOp CmpOp.NotIn (Value.ref _) (Value.ref _)) _ _ _); k_dflt (refine notin_ops (by ke_read) (by ke_read) (by decide +kernel) (by first | exact shaped_pair (by assumption) | decide +kernel) (by walk_at "m:units") (by first | assumption | exact not_op1 _ | rfl | decide) ?_)))
  trivial
inductive ValO (prog : Program) (w : World) (n : Int) (D : List (PyData × PyData)) (news : List (Addr × Obj)) : List Value → Prop
  | mk {R : Addr} {v : Value} {d : Addr} : RingIn news R n → Odd news v → EnvIn prog w news d D → ValO prog w n D news [.ref R, v, .ref d]
theorem value_odd (w : World) (p : Program) (loose : List Str) (mean : ExcName → Option Value) (mg mb : Str → Option Value) (n : Int) (D : List (PyData × PyData)) (hD : ∀ z ∈ (["y", "neg", "add", "mul", "0", "sub"] : List Str), lookup (.str z) D = none) :
    RaiseI PySem.Challenge.rw_pq0039_01.prog w (Mine.hd.heap_39 w.params) p loose mean mg mb 169 24 (fun news vs => ValO PySem.Challenge.rw_pq0039_01.prog w n D news vs) := by
  unfold RaiseI
  k_fill
  intro dp un gd env outer A₀ base h₀ L mm news s vs Q E B F X N T hf hk hd hu hp hret
  cases hp with
  | @mk R v0 d hR hO hE =>
  have hO2 := hO
  have hE2 := hE
  obtain ⟨lo, o, kvs, hm, hdo, hfl⟩ := hE
  obtain ⟨rd, rh, rt, rt', hm1, hm2⟩ := hR
  k_with "m:call2" => ((with_reducible show wpAny _ _ (call (Value.ref 26) _) _ _ _); k_dflt (refine' whole_odd _ _ _ _ _ _ _ _ (by assumption) _ _ _ _ _ _ _ _ _ _ _ _ _ _ _ ?k1 ?k2 ?k3 ?k4 ?k5 ?kf ?kk ?kd ?ku rfl ?_; (walk_at "m:sides"); intro h9 t9 F9 N9; (try k_unmd); (try k_sweep); (try dsimp only); (try k_fold)))
  k_with "m:call2" => ((with_reducible show wpAny _ _ (call (Value.ref 136) _) _ _ _); k_dflt ((refine' named_raise _ _ _ _ _ _ D hD _ _ _ _ _ _ _ _ _ _ _ _ _ _ _ ?k1 ?k2 ?k3 ?k4 ?k5 ?kf ?kk ?kd ?ku (NamedR.mk (hO2.mono ?s0) (hE2.mono ?s1)) ?_; (walk_at "m:sides"); (case s0 => walk_at "m:suf"); (case s1 => walk_at "m:suf"); intro e6 T6 ws6 g6 h7 t7 F7 R7 U7; (try k_unmd); (repeat k_unfold); (try dsimp only); (refine leave_onE (by rfl) (Below.stack (by assumption)) F7 R7 U7 ?_); intro h8 R8 U8; exact hret _ _ _ _ _ _ (by assumption) (RaisedS.sub R8 (by walk_at "m:suf")) U8)))
  cases hO with
  | @leaf ad z tz n hmem hz =>
    have hls : (lookup (.str z) D).isSome = false := by rw [hD z (by simp only [List.mem_cons, List.not_mem_nil, or_false] at hz ⊢; rcases hz with h | h <;> simp [h])]; rfl
    have hns : (!(lookup (.str z) D).isSome) = true := by rw [hls]; rfl
    have hcl : PyData.canLay0 (.str z) = true := by simp only [List.mem_cons, List.not_mem_nil, or_false] at hz; rcases hz with rfl | rfl <;> decide +kernel
    refine wpAny_call ?_
    k_dflt (walk_at "m:enter")
    walk_at "m:steps"
  | @un ad z tz u n hmem hz =>
    have hcl : PyData.canLay0 (.str z) = true := by simp only [List.mem_cons, List.not_mem_nil, or_false] at hz; rcases hz with rfl | rfl | rfl <;> decide +kernel
    have hno : (!List.any [PyData.tuple [.str "add", .int 3], .tuple [.str "mul", .int 3], .tuple [.str "neg", .int 2]] fun y => PyData.eqv y (.tuple [.str z, .int 2])) = true := by simp only [List.mem_cons, List.not_mem_nil, or_false] at hz; rcases hz with rfl | rfl | rfl <;> decide +kernel
    refine wpAny_call ?_
    k_dflt (walk_at "m:enter")
    walk_at "m:steps"
  | @bin ad z tz u v n hmem hz =>
    have hcl : PyData.canLay0 (.str z) = true := by simp only [List.mem_cons, List.not_mem_nil, or_false] at hz; rcases hz with rfl | rfl <;> decide +kernel
    have hno : (!List.any [PyData.tuple [.str "add", .int 3], .tuple [.str "mul", .int 3], .tuple [.str "neg", .int 2]] fun y => PyData.eqv y (.tuple [.str z, .int 3])) = true := by simp only [List.mem_cons, List.not_mem_nil, or_false] at hz; rcases hz with rfl | rfl <;> decide +kernel
    refine wpAny_call ?_
    k_dflt (walk_at "m:enter")
    walk_at "m:steps"
  | @tri ad tz u v x n hmem =>
    refine wpAny_call ?_
    k_dflt (walk_at "m:enter")
    walk_at "m:steps"
section
variable {prog : Program} {w : World} {A : Around} {E : Value → Shared → Prop} {s : Shared} {h₀ : Heap} {L : Addr} {m : Str → Option Value} {env : Env}
noncomputable def CompGoE (prog : Program) (w : World) (A : Around) (bb : Bool) (h₀ : Heap) (L : Addr) (m : Str → Option Value) (env : Env) (elt target iter : Expr) (ifs : List Expr) (scope : Scope) (cl : List (Str × Addr)) (pos : Pos) (E : Value → Shared → Prop)
    (End : Shared → Addr → List Value → List (Addr × Obj) → Prop) (Err : Addr → Addr → Value → Shared → Prop) (xv : Value) (s₁ : Shared) : Prop :=
  ∀ RR : Value → Addr → Result → Shared → Prop,
    (∀ D C m' ys nw s', End s₁ D ys nw → Sm bb s₁ s' → Fr h₀ L s'.heap m → News h₀ L s'.heap ((D, lst ys) :: nw) → Off1 D nw → s'.heap.Ns C m' → h₀.get? C = none → h₀.get? D = none → C ≠ L → D ≠ L → C ≠ D → (∀ p ∈ nw, p.1 ≠ C) → RR (.ref D) C (.ok .next) s') →
    (∀ C D x s'', Err C D x s'' → notedBy (model prog w) A (compEnvC scope cl C env) (fun e s' => RR (.ref D) C (.error e) s') x s'') →
    wpAny (model prog w) A (pyIter xv) (fun it s₂ => wpAny (model prog w) A (newList []) (fun acc s₃ => wpAny (model prog w) A (newFunctionEnv scope env.globals cl [] env.qual none .none (some env)) (fun cenv s₄ =>
      codeAny (model prog w) A (.compStart (.ListComp elt [⟨target, iter, ifs, 0⟩] scope pos) 0 it acc { cenv with scope := relabel scope env }) (RR acc cenv.locals) s₄) E s₃) E s₂) E s₁
theorem Assign_goE (Err : Addr → Addr → Value → Shared → Prop) (bb : Bool) {elt target iter : Expr} {ifs : List Expr} {y : Str} {py spos : Pos} {scope : Scope} {cl : List (Str × Addr)} {pos : Pos} {Q : Flow → Shared → Prop} (F₀ : Fr h₀ L s.heap m) (hLe : env.locals = L)
    (hsw : swapsWith (.ListComp elt [⟨target, iter, ifs, 0⟩] scope pos) (some (.Name y py)) spos.line env = pure true)
    (hclos : closureFor scope env = pure cl) (hkind : scope.kind = .function)
    (hnames : ∀ z ∈ scope.names, z.2 = .local → scope.names.lookup z.1 = some .local)
    (hy : env.kindOf y = some .local) (hp : (env.scope.kind == .class || (env.scope.kind == .module && env.locals != env.globals)) = false)
    (h : wpAny (model prog w) A (eval iter env) (CompGoE prog w A bb h₀ L m env elt target iter ifs scope cl pos E (EndA bb h₀ L m y Q) Err) E s)
    (hErr : ∀ C D x s'', Err C D x s'' → notedBy (model prog w) A (compEnvC scope cl C env) (fun e s' => ∃ m', s'.heap.Ns C m' ∧ ∀ h', Heap.SameBut C s'.heap h' → ∀ cenv : Env, cenv.locals = C → wpAny (model prog w) A (passOn "comprehension.variables-let-go" e cenv : Sem Value) (fun _ _ => False) E { s' with heap := h' }) x s'')
    (hs : ∀ x, foldedSetIterable iter env x = pure x := by intro _; rfl) :
    wpAny (model prog w) A (exec (.Assign [.Name y py] (.ListComp elt [⟨target, iter, ifs, 0⟩] scope pos) spos) env) Q E s := by
  subst hLe
  rw [exec_Assign_Name_used _ _ _ _ hsw]
  refine wpAny_bind (wpAny_standAt (wpAny_bind ?_))
  show wpAny _ A (do let _ ← comprehension (.ListComp elt [⟨target, iter, ifs, 0⟩] scope pos) scope env _ (newList []) false (eval iter env) (some (assign (.Name y py) env))) _ _ s
  refine wpAny_bind (wpAny_mono (wpAny_comprehension_free (use := some (assign (.Name y py) env)) (Q := fun _ s' => Q .next s') rfl hs hclos hkind hnames
    (wpAny_mono h (fun xv s₁ h₁ => ?_) fun _ _ e => e)) (fun _ s' hq => wpAny_pure (wpAny_pure hq)) fun _ _ e => e)
  refine h₁ (fun acc C r s' => compPost (model prog w) A E (some (assign (.Name y py) env)) (fun _ s' => Q .next s') acc C r s') (fun D C m' ys nw s' fin hsm F' N' o1 hn hC₀ hD₀ hCL hDL hCD offC => ?_) (fun C D x s'' h => hErr C D x s'' h)
  show wpAny _ A (assign (.Name y py) env (.ref D)) _ _ _
  refine wpAny_assign_Name (wpAny_storeName_local hy F'.ns (fun h₂ hn₂ hs₂ => ?_) hp)
  have hL₀ : h₀.get? env.locals = none := Heap.get?_none_of_le F'.above
  have F₂ : Fr h₀ env.locals h₂ (fun z => if z = y then some (.ref D) else m z) := ⟨hn₂, fun b o e => hs₂.extBut b o (fun q => by rw [q, hL₀] at e; cases e) (F'.keep b o e), F'.above⟩
  refine ⟨m', hn.sameBut hs₂ hCL, fun h'' hs'' => fin _ (hsm.trans ⟨h'', _, s'.drawn, fun _ => rfl, rfl⟩) (F₂.change hs'' hCL hC₀) (fun p hp => ?_) o1⟩
  have z : h₂.get? p.1 = some p.2 := hs₂.extBut _ _ (N' p hp).2.1 (N' p hp).1
  refine ⟨hs''.extBut _ _ ?_ z, (N' p hp).2⟩
  rcases List.mem_cons.mp hp with rfl | hp
  · exact Ne.symm hCD
  · exact offC p hp
theorem CompGoE.tup {Err : Addr → Addr → Value → Shared → Prop} {bb : Bool} {elt iter : Expr} {x : Str} {px : Pos} {ifs : List Expr} {scope : Scope} {cl : List (Str × Addr)} {pos : Pos} {End : Shared → Addr → List Value → List (Addr × Obj) → Prop} {s₁ : Shared} {news : List (Addr × Obj)} {ax : Addr} {its : Array Value}
    (J : Nat → List Value → List (Addr × Obj) → Prop)
    (hcell : ∀ y ∈ scope.names, y.2 ≠ .cell) (hkind : scope.kind = .function) (hx : scope.names.lookup x = some .local) (hh : A.handled = none)
    (F : Fr h₀ L s₁.heap m) (N : News h₀ L s₁.heap news) (hsrc : SrcT "tuple" h₀ ax its news) (hsz : its.size ≤ sizeLine) (h0 : J 0 [] news)
    (hJs : ∀ i ys nw, J i ys nw → SrcT "tuple" h₀ ax its nw ∧ ys.length ≤ i)
    (turn : ∀ i v ys nw I oI C oC D mC s' (E' : Value → Shared → Prop), its[i]? = some v → J i ys nw → NsObj oC mC → mC x = some v → Sm bb s₁ s' → Fr h₀ L s'.heap m → News h₀ L s'.heap ((I, oI) :: (C, oC) :: (D, lst ys) :: nw) → Off3 I C D nw → ((@Ne Nat I C) ∧ (@Ne Nat I D) ∧ (@Ne Nat C D)) → (∀ x s'', Err C D x s'' → E' x s'') →
      TurnT prog w A (compEnvC scope cl C env) ifs elt (fun y s'' => TurnE bb h₀ L m I oI C oC D (lst ys) (J (i + 1) (ys ++ [y])) s' s'') (fun s'' => TurnE bb h₀ L m I oI C oC D (lst ys) (J (i + 1) ys) s' s'') E' s')
    (fin : ∀ D ys nw, J its.size ys nw → End s₁ D ys nw) :
    CompGoE prog w A bb h₀ L m env elt (.Name x px) iter ifs scope cl pos E End Err (.ref ax) s₁ := by
  intro RR hRR hErr
  have ht : IsTup s₁.heap ax its := hsrc.at F.keep N
  have hlt : ax < s₁.heap.objs.size := by obtain ⟨_, e, _⟩ := ht; exact Heap.lt_size e
  refine wpAny_pyIter_tuple ht ?_
  have up : ∀ b o, s₁.heap.get? b = some o → (s₁.heap.push { cls := .type "tuple_iterator", data := .fields #[.ref ax, .int 0 0] }).get? b = some o := fun b o e => Heap.get?_push_of_some _ e
  refine comp_loopE (Err := Err) (bb := bb) (Bd := fun v m' => m' x = some v) J (Walks.tuple hh s₁.heap.objs.size ax (Nat.ne_of_lt hlt) its) hsz (fun i h st => by obtain ⟨o, e, _⟩ := st.1; exact ⟨o, e⟩)
    (fun i h h' o nw ys st e e' k N' j => ⟨by obtain ⟨o', q, r⟩ := st.1; rw [e] at q; cases q; exact ⟨o, e', r⟩, (hJs _ _ _ j).1.at k N'⟩) (fun i ys nw j => (hJs _ _ _ j).2) (fun v => rfl) hcell hkind
    ⟨⟨_, Heap.get?_push_size _ rfl, rfl, rfl⟩, IsTup.keeps ht up⟩ (fun b hb => ?_)
    (F.keeps up) (N.grown up) (Nat.ne_of_lt F.ns.lt) (next_is_new F) (fun p hp => Nat.ne_of_lt (Heap.lt_size (N p hp).1)) h0
    (fun i v ys nw C mC s' Q' E' _ _ hn _ _ _ _ _ k => asg_name hkind hx hn k)
    (fun i v ys nw oI C oC D mC s' E' hi hP j hoC hB hsm F' N' o3 ne => turn i v ys nw _ oI C oC D mC s' E' hP j hoC hB (Sm.trans ⟨_, s₁.toks, s₁.drawn, fun _ => rfl, rfl⟩ hsm) F' N' o3 ne)
    hErr
    (fun D C m' ys nw s' j hsm F' N' o1 hn hC₀ hD₀ hCL hDL hCD offC => hRR D C m' ys nw s' (fin D ys nw j) (Sm.trans ⟨_, s₁.toks, s₁.drawn, fun _ => rfl, rfl⟩ hsm) F' N' o1 hn hC₀ hD₀ hCL hDL hCD offC)
  show b < (s₁.heap.push _).objs.size
  rw [Heap.size_push]
  rcases List.mem_cons.mp hb with rfl | hb
  · exact Nat.lt_succ_self _
  · rw [List.mem_singleton.mp hb]; exact Nat.lt_succ_of_lt hlt
end
theorem funFrames_move {h h' B B' : Heap} (hB : ∀ b, B.get? b = none → B'.get? b = none) (k : ∀ b o, B.get? b = none → h.get? b = some o → (∀ vs, o.data ≠ .fields vs) → ∃ o', h'.get? b = some o' ∧ ∀ vs, o'.data ≠ .fields vs) :
    ∀ {l : List Env}, h.FunFrames B l → h'.FunFrames B' l
  | [], _ => trivial
  | _ :: _, ⟨a, ⟨L, o, b, c, d, e⟩, r⟩ =>
    let ⟨o', d', e'⟩ := k L o c d e
    ⟨a, ⟨L, o', b, hB L c, d', e'⟩, funFrames_move hB k r⟩
/-- flying, whatever frame it last flew over -/
noncomputable def RaisedX (base G : Heap) (l : List Env) (e : Addr) (cls : Value) (t : Addr) (vs : List Value) (news : List (Addr × Obj)) (h : Heap) : Prop :=
  (∃ B fl, base.StaysIn B ∧ (∀ b o, G.get? b = some o → b ∉ l.filterMap (·.frame) → B.get? b = some o) ∧ (∀ q ∈ news, B.get? q.1 = some q.2 ∧ G.get? q.1 = none ∧ base.get? q.1 = none) ∧
    (B.StaysIn h ∧ B.get? e = none ∧ h.FunFrames B l ∧ h.TracedAtW B e cls (.ref t) fl) ∧ B.get? t = none) ∧ h.TupAt t vs
section
variable {M : Model} {A : Around} {E : Value → Shared → Prop} {s : Shared}
theorem leaves_anyW {base : Heap} {env : Env} {outer : List Env} {L e : Addr} {cls a0 fl : Value} {Q : Unit → Shared → Prop} (hfr : A.frames = some (env :: outer)) (hf : env.frame = some L) (f1 : base.StaysIn s.heap) (f2 : base.get? e = none) (f3 : s.heap.FunFrames base (env :: outer))
    (ht : s.heap.TracedAtW base e cls a0 fl) (hQ : ∀ h', Heap.FlyingW base outer e cls a0 h' → s.heap.UpToSlots h' → Q () { s with heap := h' }) : wpAny M A (leaving env (.ref e)) Q E s := by
  have ht0 := ht
  obtain ⟨oe, vs, T, oT, ts, he, ⟨hcls, h0⟩, hd, h1, hnT, hTe, hT, hdT, h3⟩ := ht
  subst hcls
  unfold leaving noteFrame
  simp only [hf]
  refine wpAny_bind (wpAny_bind (wpAny_field he hd h1 ?_))
  rw [if_pos (show (Value.ref T != Value.none) = true from by simp)]
  refine wpAny_bind (wpAny_field hT hdT h3 ?_)
  by_cases q : (fl == rawInt L) = true
  · rw [if_pos q]
    refine wpAny_pure ?_
    refine wpAny_setFlight_noneW f1 f3 ht0 fun h' k1 k2 k3 k4 => ?_
    exact hQ h' ⟨k1, f2, k2.2.2, k3⟩ fun b o hb hn => ⟨o.slots, k4 b o hb hn⟩
  · rw [if_neg q]
    refine wpAny_bind (wpAny_setField hT hdT (Array.getElem?_eq_some_iff.mp h3).1 ?_)
    have other : ∀ b, b ≠ T → (s.heap.update T (Obj.mapFields (·.setIfInBounds 3 Value.none))).get? b = s.heap.get? b := fun b hb => Heap.get?_update_other _ _ (Ne.symm hb)
    have noRecord : ∀ b o, s.heap.get? b = some o → (∀ vs, o.data ≠ .fields vs) → b ≠ T := fun b o hb hnf q => by
      rw [q, hT] at hb; injection hb with hb; subst hb; exact hnf ts hdT
    refine wpAny_newEntryW hfr (f3.of_keeps fun b o hb hnf => ⟨o, (other b (noRecord b o hb hnf)).trans hb, rfl⟩) hf ((other e (Ne.symm hTe)).trans he)
      (fun b o hbo => (other b fun q => by rw [q, hnT] at hbo; cases hbo).trans (f1 b o hbo)) f2 hd (Array.getElem?_eq_some_iff.mp h1).1 h0
      fun h' ⟨x1, x2, x3, x4⟩ => hQ h' ⟨x1, f2, x2.2.2, x3⟩ fun b o hb hnf => x4 b o ((other b (noRecord b o hb hnf)).trans hb) hnf
theorem leave_onX {base g g₂ : Heap} {env : Env} {outer : List Env} {L e t : Addr} {m : Str → Option Value} {cls : Value} {vs : List Value} {news : List (Addr × Obj)} {Q : Unit → Shared → Prop} (hf : env.frame = some L) (K : A.frames = some outer) (F : Fr g L g₂ m) (R : RaisedX base g₂ (env :: outer) e cls t vs news s.heap) (hsm : g₂.UpToSlots s.heap)
    (hQ : ∀ h', RaisedS base g outer e cls t vs news h' → g.UpToSlots h' → Q () { s with heap := h' }) : wpAny M (A.deeper env) (leaving env (.ref e)) Q E s := by
  obtain ⟨⟨B, fl, hB, hBG, hl, ⟨f1, f2, f3, f4⟩, hnew⟩, htup⟩ := R
  exact leaves_anyW (Around.frames_deeper K) hf f1 f2 f3 f4 fun h' x1 x2 =>
    hQ h' ⟨⟨B, hB, fun b o q nm => hBG b o (F.keep b o q) (fun hm => by
      rcases kts_memE hf hm with z | z
      · rw [z, kts_self F] at q
        cases q
      · exact nm z), fun q hq => ⟨(hl q hq).1, kts_none F.keep (hl q hq).2.1, (hl q hq).2.2⟩, x1, hnew⟩, htup.of_slots x2⟩ ((Heap.UpToSlots.of_keeps F.keep).trans (hsm.trans x2))
/-- the comprehension's own variables go, and the exception is passed on -/
theorem comp_err {base g₂ : Heap} {env : Env} {outer : List Env} {L e t C : Addr} {oC : Obj} {mC : Str → Option Value} {cls : Value} {vs : List Value} {nw : List (Addr × Obj)} {scope : Scope} {cl : List (Str × Addr)} (hf : env.frame = some L) (hfr : A.frames = some (env :: outer)) (R : RaisedS base g₂ (env :: outer) e cls t vs ((C, oC) :: nw) s.heap)
    (hoC : NsObj oC mC) (off : ∀ q ∈ nw, q.1 ≠ C) (hsm : g₂.UpToSlots s.heap) (hE : ∀ h5, RaisedX base g₂ (env :: outer) e cls t vs nw h5 → g₂.UpToSlots h5 → E (.ref e) { s with heap := h5 }) :
    notedBy M A (compEnvC scope cl C env) (fun e s' => ∃ m', s'.heap.Ns C m' ∧ ∀ h', Heap.SameBut C s'.heap h' → ∀ cenv : Env, cenv.locals = C → wpAny M A (passOn "comprehension.variables-let-go" e cenv : Sem Value) (fun _ _ => False) E { s' with heap := h' }) (.ref e) s := by
  obtain ⟨⟨B, hB, hBG, hl, hfl, hnew⟩, htup⟩ := R
  have zC := hl _ (.head _)
  show wpAny M A (noteFrame (.ref e) env) _ _ s
  refine wpAny_looks_onW hfr hf hfl fun h₄ hheld hsm₄ => ?_
  have htup4 := htup.of_slots hsm₄
  have hsm4 := hsm.trans hsm₄
  obtain ⟨f1, f2, f3, oe, ws, T, oT, ts, he, hcls, hd, h1, hnT, hTe, hT, hdT, h3⟩ := hheld
  refine ⟨mC, hoC.ns (f1 _ _ zC.1), fun h5 hsb cenv _ => ?_⟩
  have neC : ∀ b, B.get? b = none → b ≠ C := fun b hb q => by rw [q, zC.1] at hb; cases hb
  have k5 : ∀ b o, b ≠ C → h₄.get? b = some o → h5.get? b = some o := fun b o hb q => hsb.extBut b o hb q
  have he5 := k5 _ _ (neC _ f2) he
  have hT5 := k5 _ _ (neC _ hnT) hT
  unfold PySem.passOn
  refine wpAny_bind (wpAny_field he5 hd h1 ?_)
  rw [if_neg (show ¬ ((Value.ref T == Value.none) = true) from by simp)]
  unfold setFlight
  refine wpAny_bind (wpAny_bind (wpAny_field he5 hd h1 ?_))
  rw [if_pos (show (Value.ref T != Value.none) = true from by simp)]
  refine wpAny_setField hT5 hdT (Array.getElem?_eq_some_iff.mp h3).1 (wpAny_throw ?_)
  have k6 : ∀ b o, b ≠ C → b ≠ T → h₄.get? b = some o → (h5.update T (Obj.mapFields (·.setIfInBounds 3 (cenv.frame.elim Value.none fun f => rawInt f)))).get? b = some o := fun b o h1 h2 q => (Heap.get?_update_other _ _ (Ne.symm h2)).trans (k5 b o h1 q)
  have neT : ∀ b o, h₄.get? b = some o → (∀ vs, o.data ≠ .fields vs) → b ≠ T := fun b o hb hnf q => by
    rw [q, hT] at hb; injection hb with hb; subst hb; exact hnf ts hdT
  have hidn : ∀ b, B.get? b = none → (hideAll B [C]).get? b = none := fun b hb => by
    cases q : (hideAll B [C]).get? b with
    | none => rfl
    | some o => have := of_hideAll _ q; rw [hb] at this; cases this
  have hids : ∀ b o, B.get? b = some o → b ≠ C → (hideAll B [C]).get? b = some o := fun b o q hb => hideAll_get _ q (by simpa using hb)
  refine hE _ ⟨⟨hideAll B [C], cenv.frame.elim Value.none fun f => rawInt f, fun b o q => hids b o (hB b o q) (fun r => by rw [r, zC.2.2] at q; cases q), fun b o q nm => hids b o (hBG b o q nm) (fun r => by rw [r, zC.2.1] at q; cases q),
    fun q hq => ⟨hids _ _ (hl q (.tail _ hq)).1 (off q hq), (hl q (.tail _ hq)).2⟩, ⟨fun b o q => ?_, hidn _ f2, ?_, ?_⟩, hidn _ hnew⟩, ?_⟩ ?_
  · have q' := of_hideAll _ q
    have hbC : b ≠ C := fun r => by rw [r, hideAll_none _ (.head _)] at q; cases q
    exact k6 b o hbC (fun r => by rw [r, hnT] at q'; cases q') (f1 b o q')
  · exact funFrames_move hidn (fun b o hb ho hn => ⟨o, k6 b o (neC b hb) (neT b o ho hn) ho, hn⟩) f3
  · exact ⟨oe, ws, T, _, _, k6 _ _ (neC _ f2) (Ne.symm hTe) he, hcls, hd, h1, hidn _ hnT, hTe, Heap.get?_update_self _ hT5 (Obj.isFreed_of_fields (Obj.data_mapFields hdT _)), Obj.data_mapFields hdT _, by simp [(Array.getElem?_eq_some_iff.mp h3).1]⟩
  · obtain ⟨ot, nt, hot, hotc, hotd⟩ := htup4
    exact ⟨ot, nt, k6 _ _ (neC _ hnew) (neT _ _ hot (fun vs q => by rw [hotd] at q; cases q)) hot, hotc, hotd⟩
  · intro b o hb hn
    obtain ⟨sl, hs⟩ := hsm4 b o hb hn
    exact ⟨sl, k6 _ _ (fun r => by rw [r, zC.2.1] at hb; cases hb) (neT _ _ hs hn) hs⟩
end
noncomputable def ErrF (base g : Heap) (L : Addr) (m : Str → Option Value) (l : List Env) (s : Shared) (nw : List (Addr × Obj)) (C D0 : Addr) (x : Value) (s'' : Shared) : Prop :=
  ∃ e T' ws g₂ oC mC h' tk', x = .ref e ∧ s'' = { s with heap := h', toks := tk' } ∧ NsObj oC mC ∧ (∀ q ∈ nw, q.1 ≠ C) ∧ Fr g L g₂ m ∧ RaisedS base g₂ l e (.ref 65) T' ws ((C, oC) :: nw) h' ∧ g₂.UpToSlots h'
theorem Assign_neg {prog : Program} {w : World} {A : Around} {E : Value → Shared → Prop} {s : Shared} {h₀ base : Heap} {L : Addr} {m : Str → Option Value} {env : Env} {outer : List Env} {nw : List (Addr × Obj)} {elt target iter : Expr} {ifs : List Expr} {y : Str} {py spos : Pos} {scope : Scope} {cl : List (Str × Addr)} {pos : Pos} {Q : Flow → Shared → Prop}
    (F₀ : Fr h₀ L s.heap m) (hLe : env.locals = L) (hsw : swapsWith (.ListComp elt [⟨target, iter, ifs, 0⟩] scope pos) (some (.Name y py)) spos.line env = pure true)
    (hclos : closureFor scope env = pure cl) (hkind : scope.kind = .function) (hnames : ∀ z ∈ scope.names, z.2 = .local → scope.names.lookup z.1 = some .local)
    (hy : env.kindOf y = some .local) (hp : (env.scope.kind == .class || (env.scope.kind == .module && env.locals != env.globals)) = false) (hf : env.frame = some L) (hfr : A.frames = some (env :: outer))
    (hE : ∀ e T' ws g₂ h5 tk5, Fr h₀ L g₂ m → RaisedX base g₂ (env :: outer) e (.ref 65) T' ws nw h5 → g₂.UpToSlots h5 → E (.ref e) { s with heap := h5, toks := tk5 })
    (h : wpAny (model prog w) A (eval iter env) (CompGoE prog w A false h₀ L m env elt target iter ifs scope cl pos E (EndA false h₀ L m y Q) (ErrF base h₀ L m (env :: outer) s nw)) E s)
    (hs : ∀ x, foldedSetIterable iter env x = pure x := by intro _; rfl) :
    wpAny (model prog w) A (exec (.Assign [.Name y py] (.ListComp elt [⟨target, iter, ifs, 0⟩] scope pos) spos) env) Q E s :=
  Assign_goE (ErrF base h₀ L m (env :: outer) s nw) false F₀ hLe hsw hclos hkind hnames hy hp h (fun C D x s'' hx => by
    obtain ⟨e, T', ws, g₂, oC, mC, h', tk', rfl, rfl, hoC, off, F, R, U⟩ := hx
    exact comp_err hf hfr R hoC off U fun h5 X U5 => hE e T' ws g₂ h5 tk' F X U5) hs
theorem rows_79j : True := by
  k_with "exec Assign cons ListComp" => (k_extra "m:asgcomp")
  trivial
inductive ValN (prog : Program) (w : World) (n : Int) (D : List (PyData × PyData)) (news : List (Addr × Obj)) : List Value → Prop
  | mk {R a : Addr} {t : Tok} {v : Value} {k : Nat} {d : Addr} : RingIn news R n → (a, tupO [.str "neg" t, v] k) ∈ news → Odd news v → EnvIn prog w news d D → ValN prog w n D news [.ref R, .ref a, .ref d]
theorem value_negodd (w : World) (p : Program) (loose : List Str) (mean : ExcName → Option Value) (mg mb : Str → Option Value) (n : Int) (D : List (PyData × PyData)) (hD : ∀ z ∈ (["y", "neg", "add", "mul", "0", "sub"] : List Str), lookup (.str z) D = none) :
    RaiseI PySem.Challenge.rw_pq0039_01.prog w (Mine.hd.heap_39 w.params) p loose mean mg mb 169 27 (fun news vs => ValN PySem.Challenge.rw_pq0039_01.prog w n D news vs) := by
  unfold RaiseI
  k_fill
  intro dp un gd env outer A₀ base h₀ L mm news s vs Q E B F X N T hf hk hd hu hp hret
  cases hp with
  | @mk R ad tt v0 nn d hR hmem hO hE =>
  have hE2 := hE
  have hR2 := hR
  obtain ⟨lo, o, kvs, hm, hdo, hfl⟩ := hE
  obtain ⟨rd, rh, rt, rt', hm1, hm2⟩ := hR
  k_with "m:asgcomp" => ((with_reducible show wpAny _ _ (exec (Stmt.Assign _ _ _) _) _ _ _); k_dflt ((with_reducible rename Fr _ _ _ _ => kF9); (refine' Assign_neg (base := base) (nw := news) kF9 ?q1 ?q2 ?q3 ?q4 ?q5 ?q6 ?q7 ?q8 ?q9 ?qE ?_ ?qs; (case q1 => rfl); (case q2 => with_unfolding_all rfl); (case q3 => with_unfolding_all rfl); (case q4 => rfl); (case q5 => decide); (case q6 => rfl); (case q7 => rfl); (case q8 => rfl); (case q9 => exact Around.frames_deeper (Below.stack (by assumption))); (case qs => intro _; rfl); (case qE => (intro e6 T6 ws6 g6 h7 t7 F7 R7 U7; (try k_unmd); (repeat k_unfold); (try dsimp only); (refine leave_onX (by rfl) (Below.stack (by assumption)) F7 R7 U7 ?_); intro h8 R8 U8; exact hret _ _ _ _ _ _ (by assumption) R8 U8)); (try k_unmd); (try k_fold))))
  refine wpAny_call ?_
  k_dflt (walk_at "m:enter")
  walk_at "m:steps"
  rename Fr _ _ _ _ => F9
  rename News _ _ _ _ => N9
  refine CompGoE.tup (fun i ys nw => i = 0 ∧ nw = _ ∧ ys = []) (by decide) (by rfl) (by rfl) (by rfl) F9 N9 (.inr ⟨_, .head _, rfl, _, rfl⟩) (Nat.le_of_ble_eq_true rfl) ⟨rfl, rfl, rfl⟩ ?hJs ?turn ?fin
  case hJs =>
    intro i ys nw hr5
    refine hide9 fun G9 h9 => ?_
    rcases hr5 with ⟨rfl, rfl, rfl⟩
    refine h9 ?_
    clear h9 G9
    exact ⟨.inr ⟨_, .head _, rfl, _, rfl⟩, Nat.le_refl _⟩
  case turn =>
    intro i v ys nw I oI C oC D' mC s' E' hv hj hoC hx hs F1 N1 o3 ne hE'
    obtain ⟨rfl, rfl, rfl⟩ := hj
    obtain ⟨h1, tk1, rfl⟩ := hs.is
    obtain rfl : v0 = v := by simpa using hv
    have off9 : ∀ q ∈ news, q.1 ≠ C := by
      intro q hq
      refine (o3.mem q ?_).2.1
      repeat (first | exact hq | refine List.Mem.tail _ ?_)
    show wpAny _ _ (eval _ _) _ _ _
    clear F9 N9
    k_with "m:call2" => ((with_reducible show wpAny _ _ (call (Value.ref 169) _) _ _ _); k_dflt ((refine' value_odd _ _ _ _ _ _ n D hD _ _ _ _ _ _ _ _ _ _ _ _ _ _ _ ?k1 ?k2 ?k3 ?k4 ?k5 ?kf ?kk ?kd ?ku (ValO.mk (hR2.mono ?s0) (hO.mono ?s1) (hE2.mono ?s2)) ?_; (walk_at "m:sides"); (case s0 => walk_at "m:suf"); (case s1 => walk_at "m:suf"); (case s2 => walk_at "m:suf"); intro e6 T6 ws6 g6 h7 t7 F7 R7 U7; exact hE' _ _ ⟨e6, T6, ws6, g6, oC, mC, h7, t7, rfl, rfl, hoC, off9, F7, RaisedS.sub R7 (by (intro q hq; (rcases List.mem_cons.mp hq with rfl | hq); exact .tail _ (.head _); (repeat (first | exact hq | refine List.Mem.tail _ ?_)))), U7⟩)))
    walk_at "m:steps"
  case fin =>
    intro D' ys nw hj
    exact absurd hj.1 (show ¬ (1 = 0) by decide)
/-- a function that may catch is entered from the law's own frame: whatever its frames' slots became, home is home -/
theorem enter_one {prog : Program} {w : World} {A₀ A : Around} {s : Shared} {base h₀ : Heap} {L : Addr} {m : Str → Option Value} {env : Env} {news : List (Addr × Obj)} {K : Frag} {p : Program} {loose : List Str} {mean : ExcName → Option Value} {mg mb : Str → Option Value}
    {R : Result → Shared → Prop} {name qual : Str} {params : Arguments} {body : List Stmt} {scope : Scope} {dV kV doc pm cdv ct oc : Value} {an od : Option Addr} {osl : Array (Option Value)} {f : Addr} {args : Args} {binds : List (Str × Value)}
    (B : Below A₀ base [] h₀) (F : Fr h₀ L s.heap m) (X₀ : K.In h₀) (N : News h₀ L s.heap news) (T : Top p loose mean mg mb h₀) (hA : A.frames = some [env]) (hf : env.frame = some L) (hke : env.scope.kind = .function)
    (ho : K.lookup f = some ⟨oc, od, .func (fnOf name qual params body scope dV kV doc pm an cdv ct), osl⟩) (hcd : codeIn K cdv qual = true) (hroom : A.depth < recursionLimit)
    (hbind : BindsTo s (fnOf name qual params body scope dV kV doc pm an cdv ct) args binds) (hloc : ∀ y ∈ binds, scope.names.lookup y.1 = some .local)
    (hco : scope.isCoroutine = false) (hgen : scope.isGenerator = false) (hk : scope.kind = .function) (hcell : ∀ x ∈ scope.names, x.2 ≠ .cell)
    (h : ∀ g L' h₁, Fr g L' h₁ (fun y => binds.reverse.lookup y) → News g L' h₁ news → Below A base [env] g → K.In g → Top p loose mean mg mb g → KtsDicts ([env].filterMap (·.frame)) g →
      (∀ g' L'' h' m', KtsTurn ([env].filterMap (·.frame)) g g' → Fr g' L'' h' m' → News g' L'' h' news → Fr h₀ L h' m ∧ News h₀ L h' news) →
      wpAny (model prog w) (A.deeper (envOf qual scope L' f cdv)) (execs body (envOf qual scope L' f cdv)) (fun fl s' => R (.ok (.ret (match fl with | .ret v => v | _ => .none))) s')
        (fun e s' => wpAny (model prog w) (A.deeper (envOf qual scope L' f cdv)) (leaving (envOf qual scope L' f cdv) e) (fun _ s'' => R (.error e) s'') (fun e' s'' => R (.error e') s'') s')
        { s with heap := h₁, toks := s.toks + binds.length }) : codeAny (model prog w) A (.call (.ref f) args) R s := by
  have fr1 : ∀ b, b ∈ [env].filterMap (·.frame) → b = L := fun b hb => by
    rcases kts_memE hf hb with z | z
    · exact z
    · exact (List.not_mem_nil z).elim
  have L1 : L ∈ [env].filterMap (·.frame) := List.mem_filterMap.mpr ⟨env, .head _, hf⟩
  have nL₀ : h₀.get? L = none := kts_self F
  have nm : ∀ b o, h₀.get? b = some o → b ∉ news.map (·.1) := fun b o e q => by
    obtain ⟨x, hx, rfl⟩ := List.mem_map.mp q
    rw [(N x hx).2.2] at e
    cases e
  have st : h₀.StaysIn (hideAll s.heap (news.map (·.1))) := fun b o e => hideAll_get _ (F.keep b o e) (nm b o e)
  obtain ⟨oL, es, ep, hL, hLd, hLr⟩ := F.ns
  have hLg := hideAll_get (news.map (·.1)) hL fun q => by
    obtain ⟨x, hx, e⟩ := List.mem_map.mp q
    exact (N x hx).2.1 e
  refine codeAny_call_def (fd := fnOf name qual params body scope dV kV doc pm an cdv ct) (body := body) (binds := binds) hroom ((X₀.keeps F.keep) _ _ ho) rfl (T.nolimit.keeps F.keep) (codeRec_of (X₀.keeps F.keep) hcd) rfl hbind hcell hloc (fun h₁ hns hk₁ => ?_) hco hgen hk
  refine h _ s.heap.objs.size h₁ ⟨hns, fun b o e => hk₁ b o (of_hideAll _ e), Nat.le_of_eq (hideAll_size _ _)⟩
    (fun x hx => ⟨hk₁ _ _ (N x hx).1, Nat.ne_of_lt (Heap.lt_size (N x hx).1), hideAll_none _ (List.mem_map_of_mem hx)⟩)
    ⟨hA, fun b o e => st b o (B.stays b o e), ⟨by rw [hke]; decide, ⟨L, oL, hf, fresh_of_stays B.stays nL₀, hLg, fun vs q => by rw [hLd] at q; cases q⟩, trivial⟩⟩ (X₀.keeps st) (T.keeps st)
    (fun b hb => ⟨oL, es, ep, (fr1 b hb) ▸ hLg, hLd⟩) fun g' L'' h' m' T' F' N' => ?_
  obtain ⟨sl, hs⟩ := T'.up hLg
  refine ⟨⟨⟨_, es, ep, F'.keep _ _ hs, hLd, hLr⟩, fun b o e => F'.keep b o (T'.other b o (st b o e) fun q => ?_), F.above⟩, fun x hx => ⟨(N' x hx).1, fun q => ?_, (N x hx).2.2⟩⟩
  · rw [fr1 b q, nL₀] at e
    cases e
  · have z := (N' x hx).2.2
    rw [q, hs] at z
    cases z
noncomputable def RefT (w : World) (p : Program) (loose : List Str) (mean : ExcName → Option Value) (mg mb : Str → Option Value) (n : Int) (D : List (PyData × PyData)) : Prop :=
  ∀ (dp un : Nat) (gd : Option (List Code)) (env : Env) (A₀ : Around) (h₀ : Heap) (L : Addr) (m : Str → Option Value) (rest : List (Addr × Obj)) (s : Shared) (R d : Addr) (v : Value)
    (Q E : Value → Shared → Prop), Below A₀ h₀ [] h₀ → Fr h₀ L s.heap m → (Mine.hd.heap_39 w.params).In h₀ → News h₀ L s.heap rest → Top p loose mean mg mb h₀ → env.frame = some L → env.scope.kind = .function →
    dp + 30 < recursionLimit → un + 240 < cLine → RingIn rest R n → OddN rest v → EnvIn PySem.Challenge.rw_pq0039_01.prog w rest d D →
    (∀ h' tk', Fr h₀ L h' m → News h₀ L h' rest → Q (.bool true) { s with heap := h', toks := tk' }) →
    wpAny (model PySem.Challenge.rw_pq0039_01.prog w) (topA dp un gd env []) (call (.ref 219) [.ref R, v, .ref d]) Q E s
inductive ValM (prog : Program) (w : World) (n : Int) (D : List (PyData × PyData)) (news : List (Addr × Obj)) : List Value → Prop
  | mk {R : Addr} {v : Value} {d : Addr} : RingIn news R n → OddN news v → EnvIn prog w news d D → ValM prog w n D news [.ref R, v, .ref d]
theorem value_oddN (w : World) (p : Program) (loose : List Str) (mean : ExcName → Option Value) (mg mb : Str → Option Value) (n : Int) (D : List (PyData × PyData)) (hD : ∀ z ∈ (["y", "neg", "add", "mul", "0", "sub"] : List Str), lookup (.str z) D = none) :
    RaiseI PySem.Challenge.rw_pq0039_01.prog w (Mine.hd.heap_39 w.params) p loose mean mg mb 169 27 (fun news vs => ValM PySem.Challenge.rw_pq0039_01.prog w n D news vs) := by
  intro dp un gd env outer A₀ base h₀ L m news s vs Q E B F X N T hf hk hd hu hp hret
  cases hp with
  | mk hR hO hE =>
  cases hO with
  | odd h => exact value_odd w p loose mean mg mb n D hD dp un gd env outer A₀ base h₀ L m news s _ Q E B F X N T hf hk (Nat.lt_of_le_of_lt (Nat.add_le_add_left (by decide) _) hd) (Nat.lt_of_le_of_lt (Nat.add_le_add_left (by decide) _) hu) (.mk hR h hE) hret
  | neg h1 h2 => exact value_negodd w p loose mean mg mb n D hD dp un gd env outer A₀ base h₀ L m news s _ Q E B F X N T hf hk hd hu (.mk hR h1 h2 hE) hret
theorem ref_tell (w : World) (p : Program) (loose : List Str) (mean : ExcName → Option Value) (mg mb : Str → Option Value) (n : Int) (D : List (PyData × PyData))
    (hD : ∀ z ∈ (["y", "neg", "add", "mul", "0", "sub"] : List Str), lookup (.str z) D = none) : RefT w p loose mean mg mb n D := by
  unfold RefT
  k_fill
  intro dp un gd env A₀ h₀ L m rest s R d v Q E B F X N T hf hk hd hu hR hO hE hret
  obtain ⟨ad, rfl⟩ : ∃ ad, v = .ref ad := by
    cases hO with
    | odd h => cases h <;> exact ⟨_, rfl⟩
    | neg h _ => exact ⟨_, rfl⟩
  have hR2 := hR
  obtain ⟨rd, rh, rt, rt', hm1, hm2⟩ := hR
  refine wpAny_call ?_
  refine' enter_one ?k1 ?k2 ?k3 ?k4 ?k5 ?kA ?kF ?kK ?k6 ?k7 ?k8 ?k9 ?kB ?c2 ?c3 ?c4 ?c5 ?_
  (case kA => exact rfl)
  (case kF => exact hf)
  (case kK => exact hk)
  (case k1 => exact B)
  (case k2 => exact F)
  (case k3 => exact X)
  (case k4 => exact N)
  (case k5 => exact T)
  (case k6 => k_is)
  (case k7 => k_is)
  (case k8 => walk_at "m:room")
  (case k9 => exact BindsTo.of_eq rfl)
  (case c5 => decide)
  (case kB => exact locs rfl)
  (case c2 => exact rfl)
  (case c3 => exact rfl)
  (case c4 => exact rfl)
  intro g' L' h' F' N' B' X' T' D' home
  refine wpAny_execs_cons ?_
  refine wpAny_Try_except ?_
  k_with "m:call2" => ((with_reducible show wpAny _ _ (call (Value.ref 169) _) _ _ _); k_dflt (refine' value_oddN _ _ _ _ _ _ n D hD _ _ _ _ _ _ _ _ _ _ _ _ _ _ _ ?k1 ?k2 ?k3 ?k4 ?k5 ?kf ?kk ?kd ?ku (ValM.mk hR2 hO hE) ?_; (walk_at "m:sides"); intro e6 T6 ws6 g6 h7 t7 F7 R7 U7; (try k_unmd); (repeat k_unfold); (try dsimp only); (refine' caught_SO0 R7 F7 (by assumption) U7 X T D' KtsTurn.refl ?ex ?q ?_; (case ex => k_is); (case q => kts_isx)); intro h8 g8 n8 T8 F8 N8 G8 N9 B8 X8 P8 D8; (have home8 := home _ _ _ _ T8 F8 N9); (try k_unmd); (try dsimp only); (try k_fold)))
  try k_unmd
  try dsimp only
  try k_fold
  walk_at "m:steps"
  all_goals first | exact hret _ _ home8.1 home8.2
theorem ints_mem {vs : List Value} {ns : List Int} (h : IntsAre vs ns) {v : Value} (hv : v ∈ vs) : ∃ k t, v = .int k t := by
  induction h with
  | nil => exact (List.not_mem_nil hv).elim
  | cons k t _ ih =>
    rcases List.mem_cons.mp hv with rfl | hv
    · exact ⟨_, _, rfl⟩
    · exact ih hv
theorem ints_snoc {vs : List Value} {ns : List Int} {k : Int} {t : Tok} (h : IntsAre vs ns) : IntsAre (vs ++ [.int k t]) (ns ++ [k]) := by
  induction h with
  | nil => exact .cons _ _ .nil
  | cons a b _ ih => exact .cons _ _ ih
theorem hd_imports : importsNone Mine.hd.view_39 = true := by kernel_rfl
theorem hd_names : namesOk Mine.hd.view_39 (looseW Mine.hd.view_39 [Str.ofString "A", Str.ofString "B", Str.ofString "C"]) (namesW Mine.hd.view_39 [Str.ofString "A", Str.ofString "B", Str.ofString "C"]) = true := by kernel_rfl
theorem law_holds : PySem.Challenge.rw_pq0039_01.Holds := by
  refine holds_law hd_said fun said => ?_
  refine PySem.W.holds_open (q := Mine.hd.view_39) (loose := [Str.ofString "A", Str.ofString "B", Str.ofString "C"]) (Xt := fun s => xlAt Mine.hd.view_39 [(Str.ofString "A", .tuple [.str ⟨#[63, 97]⟩]), (Str.ofString "B", .tuple [.str ⟨#[63, 98]⟩]), (Str.ofString "C", .tuple [.str ⟨#[63, 99]⟩])] s && recOk PySem.Challenge.rw_pq0039_01.row.toRowW.records s) (XP := XL Mine.hd.view_39 [(Str.ofString "A", .tuple [.str ⟨#[63, 97]⟩]), (Str.ofString "B", .tuple [.str ⟨#[63, 98]⟩]), (Str.ofString "C", .tuple [.str ⟨#[63, 99]⟩])]) (Yf := fun s => hdAs.map s.heap.get?) (Ya := fun w => (Mine.hd.heap_39 w.params).map fun p : Addr × Obj => some p.2) (YP := (kHook Mine.hd.heap_39 hdAs hd_as).says) (N := 3742) hd_left (kHook Mine.hd.heap_39 hdAs hd_as).of (kHook Mine.hd.heap_39 hdAs hd_as).keeps (fun s e => xl_of s (Bool.and_eq_true_iff.mp e).1) XL.keeps (by rfl) (by rfl) (by rfl) (fun s e => recFacts_of (Bool.and_eq_true_iff.mp e).2) (by rfl) (by assumption) (by decide +kernel) ⟨rfl, rfl, rfl, rfl, rfl, by decide +kernel⟩ ?hw ?_
  case hw => w_witness2
  clear said
  k_fill
  intro w sa sb mg mb gG gY fa fo pm cdv doc dV kV gho ghd ghcd ghD ghmg ghg args vals as ghpre ghlay ghrd ghwl ghlo
  have KX := kIn_of gY
  have gX := (Ground.X gG).1
  have gV := (Ground.X gG).2
  have GL := glob_more (Ground.glob gG hd_names hd_imports) gV
  refine Ground.open gG ?_
  intro gT gB gD gTE gTW
  try (refine guard_noD gD (by decide +kernel) ?_; clear gD)
  obtain ⟨_, _, gM⟩ := bmod_of_top gT
  have gTA := at_of_top gT
  try (obtain ⟨_, _, ghe, gB0⟩ := based_of_top gT rfl ghmg gho ghd; have ghe' : cdv = _ := ghe; subst ghe'; clear ghe)
  clear ghmg
  wrow_args ghpre ghlay ghrd ghwl ghlo
  all_goals (
    first | refine callC_kw (enter_call ?_) | refine enter_call ?_ | refine callC_kw (enter_callW ?_) | refine enter_callW ?_ | w_how
    w_top on
    try refine codeAny_mono ?_ (fun _ _ g => GoodW.toG g)
    have gK0 := below_caller (Top.heap gT)
    w_call any gho ghd ghcd ghD gT gF
    clear ghd gTA
    k_drop
    skip)
  all_goals try k_fold
  walk_at "m:steps"
  with_reducible rename Fr _ _ _ _ => F9
  with_reducible rename News _ _ _ _ => N9
  with_reducible rename IntsAre _ (List.take _ _) => hI9
  with_reducible rename ¬ @LT.lt Int _ _ _ => h63
  refine CompGo.lst (fun i ys nw => nw = _ ∧ ∃ ms, IntsAre ys ms ∧ ms.length = i) (by decide) (by rfl) (by rfl) (by rfl) F9 N9 (.inr ⟨_, .head _, rfl, _, rfl⟩) ?hsz ⟨rfl, [], .nil, rfl⟩ ?hJs ?turn ?fin
  case hsz =>
    rw [List.size_toArray, hI9.length, List.length_take]
    exact Nat.le_trans (Nat.min_le_left _ _) (by decide)
  case hJs =>
    intro i ys nw hr5
    refine hide9 fun G9 h9 => ?_
    rcases hr5 with ⟨rfl, ms, hm, rfl⟩
    refine h9 ?_
    clear h9 G9
    exact ⟨.inr ⟨_, .head _, rfl, _, rfl⟩, Nat.le_of_eq hm.length⟩
  case turn =>
    intro i v ys nw I3 oI3 C3 oC3 D3 mC s3 E3 hv3 hr5 hoC hx3 hs3 F3 N3 o3 ne
    refine hide9 fun G9 h9 => ?_
    rcases hr5 with ⟨rfl, ms, hm, hml⟩
    rcases hs3.is with ⟨h3, tk3, rfl⟩
    refine h9 ?_
    clear h9 G9
    obtain ⟨cell, tc, rfl⟩ := ints_mem hI9 (List.mem_of_getElem? (by simpa using hv3))
    show wpAny _ _ (eval _ _) _ _ _
    clear F9 N9
    try k_fold
    walk_at "m:steps"
    all_goals exact TurnE.intro Sm.ht (by k_asm) (by k_asm) _ (fun _ h => h) o3 ⟨rfl, ms ++ [cell], ints_snoc hm, by rw [List.length_append, hml]; rfl⟩
  case fin =>
    intro D8 ys nw hr5 s8 hs8 F8 N8 o8
    refine hide9 fun G9 h9 => ?_
    rcases hr5 with ⟨rfl, ms, hm, hml⟩
    refine h9 ?_
    clear h9 G9
    have hm0 := hm
    obtain ⟨h8, tk8, rfl⟩ := hs8.is
    clear F9 N9
    have hms : ms.length ≤ 63 := by
      rw [hml, List.size_toArray, hI9.length, List.length_take]
      exact Nat.le_trans (Nat.min_le_left _ _) (by decide)
    k_with "m:call" => ((with_reducible show wpAny _ _ (call (Value.ref 183) _) _ _ _); k_dflt ((with_reducible rename News _ _ _ _ => kN9); (with_reducible rename Fr _ _ _ _ => kF9); (refine' pick_tell _ _ _ _ _ _ _ _ _ _ _ _ _ _ _ _ _ _ _ _ _ _ _ _ _ _ _ _ _ _ ?k1 kF9 ?k3 kN9 ?k5 ?kf ?kk ?kd ?ku ?ho ?hc hm hms ?pka ?pkb ?pkc ?pkd ?_; (case k1 => k_asm); (case k3 => k_asm); (case k5 => k_asm); (case kf => exact rfl); (case kk => exact rfl); (case kd => decide); (case ku => decide); (case ho => exact off_lt (by simp only [AllLt, and_true]; assumption)); (case hc => k_mem); (case pka => decide); (case pkb => decide); (case pkc => decide); (case pkd => decide)); intro r1 tr1 h1 tk1 tp1 np1 F1 N1 hr0 hr1; (try k_unmd); (try k_sweep); (try dsimp only); (try k_fold)))
    k_with "m:store" => ((with_reducible show wpAny _ _ (storeName _ (Str.ofString "ring") _) _ _ _); (with_reducible rename News _ _ _ _ => kN9); (with_reducible rename Fr _ _ _ _ => kF9); k_dflt (refine' store_cell2 (pre := [_, _, _, _, _, _]) (post := []) kF9 kN9 (by assumption) ?q1 ?q2 ?q3 ?q4 ?_; (case q1 => rfl); (case q2 => rfl); (case q3 => rfl); (case q4 => ((simp only [PyProof.Rows.LCg.Off1, and_true] at o8); intro p9 hp9; (simp only [List.append_nil, List.mem_cons, List.not_mem_nil, or_false] at hp9); rcases hp9 with rfl | rfl | rfl | rfl | rfl | rfl <;> exact neN (by (try dsimp only); omega)))); intro h5 oc5 F5 N5 hoc5; (simp only [List.cons_append, List.nil_append] at N5); (try k_sweep))
    have hn1 : (1 : Int) ≤ 1 + 0 := by decide
    k_with "m:free" => ((with_reducible show wpAny _ _ (eval (Expr.Name (Str.ofString "ring") _) _) _ _ _); (with_reducible rename News _ _ _ _ => kN9); k_dflt (refine' free_in kN9 ?q0 hoc5 ?q1 ?q2 ?q3 ?q4 ?q5 ?_; (case q0 => k_mem); (case q1 => rfl); (case q2 => rfl); (case q3 => rfl); (case q4 => decide +kernel); (case q5 => decide +kernel)))
    k_with "m:call" => ((with_reducible show wpAny _ _ (call (Value.ref 164) _) _ _ _); k_dflt ((with_reducible rename News _ _ _ _ => kN9); (with_reducible rename Fr _ _ _ _ => kF9); (refine' rules_tell _ _ _ _ _ _ (1 + r1) (by omega) (by omega) _ _ _ _ _ _ _ _ _ _ _ _ _ _ _ ?k1 kF9 ?k3 kN9 ?k5 ?kf ?kk ?kd ?ku ⟨⟨_, _, _, _, ?pkm, ?pkn⟩⟩ ?_; (case k1 => k_asm); (case k3 => k_asm); (case k5 => k_asm); (case kf => exact rfl); (case kk => exact rfl); (case kd => decide); (case ku => decide); (case pkm => k_mem); (case pkn => k_mem)); intro D2 vs2 c2 nw2 h2 tk2 dr2 F2 N2 O2 nl2 sb2 ru2; (try k_unmd); (try k_sweep); (try dsimp only); (try k_fold)))
    try k_fold
    walk_at "m:steps"
    with_reducible rename Fr _ _ _ _ => F9
    with_reducible rename News _ _ _ _ => N9
    have hn1 : 1 ≤ 1 + r1 := by omega
    have hn3 : 1 + r1 ≤ 3 := by omega
    have hmc := sb2 _ (.tail _ (.tail _ (.tail _ (.tail _ (.tail _ (.head _))))))
    have hH := CellAt.of N9 hmc (by with_reducible assumption)
    have hRu := NF.rules hH ru2
    have hmR := NF.mem hH (sb2 _ (.head _)) (fun v h => by cases h)
    have hmRd := NF.mem hH (sb2 _ (.tail _ (.head _))) (fun v h => by cases h)
    have hmP := NF.mem hH (sb2 _ (.tail _ (.tail _ (.head _)))) (fun v h => by cases h)
    have hmCl := NF.mem hH (sb2 _ (.tail _ (.tail _ (.tail _ (.head _))))) (fun v h => by cases h)
    have hmRc := NF.memA (c := _) (p := (_, oc5)) (sb2 _ (.tail _ (.tail _ (.tail _ (.tail _ (.tail _ (.tail _ (.head _)))))))) (fun e => absurd e (Nat.ne_of_lt (Nat.lt_succ_self _)))
    have N10 := rot_cell N9 hmc
    have hoff2 := rot_off (o2 := W.listOf vs2.toArray c2) (nw := nw2) (O2 _ (.tail _ (.tail _ (.tail _ (.tail _ (.tail _ (.head _)))))))
    have hRing : RingIn (NF _ nw2) _ (1 + r1) := ⟨⟨_, _, _, _, hmR, hmRd⟩⟩
    have hspec := specs_good hn1 hn3
    have hspat := specs_pat hn1 hn3
    refine ForGo.lst (bb := true) (fun i m' nw => ∃ oc v, oc.data = .cell v ∧ nw = (_, oc) :: _ ∧ m' "pool" = some (.ref _) ∧ m' "n" = some (.int (1 + r1) _)) (by rfl) (by rfl) (by rfl) (by rfl) F9 N10 (.inr ⟨_, .tail _ (.head _), rfl, _, rfl⟩) ⟨_, _, (by with_reducible assumption), rfl, by walk_at "m:frame", by walk_at "m:frame"⟩ ?hJo ?turno ?fino
    case hJo =>
      intro i m' nw hr5
      refine hide9 fun G9 h9 => ?_
      rcases hr5 with ⟨oc, v, hoc, rfl, _⟩
      refine h9 ?_
      clear h9 G9
      exact .inr ⟨_, .tail _ (.head _), rfl, _, rfl⟩
    case turno =>
      intro i v m₁ nw I1 oI1 s' E' hv hr5 hs F1 N1 off1 ltI
      refine hide9 fun G9 h9 => ?_
      rcases hr5 with ⟨oc, vc, hoc, rfl, gp, gn⟩
      refine h9 ?_
      clear h9 G9
      obtain ⟨h1, tk1, dr1, rfl⟩ := hs.isD
      refine hRu.elim i v (by simpa using hv) ?_; intro R rd q1 q2 q3 q4 t1 t2 t3 t4 tn l r nd kk nm T U eR hsp mR mrd tl tr; subst eR
      have hmem := List.mem_of_getElem? hsp
      have hg : Good (1 + r1) T U := hspec _ hmem
      have hpt : Pat T := (hspat _ hmem).1
      have hsz : T.size ≤ 7 := (specs_size _ hmem).1
      have hsu : U.size ≤ 7 := (specs_size _ hmem).2
      clear F9 N9 N10
      k_with "m:call" => ((with_reducible show wpAny _ _ (call (Value.ref 200) _) _ _ _); k_dflt ((with_reducible rename News _ _ _ _ => kN9); (with_reducible rename Fr _ _ _ _ => kF9); (refine' names_tell _ _ _ _ _ _ T _ _ _ _ _ _ _ _ _ _ _ _ _ _ _ ?k1 kF9 ?k3 kN9 ?k5 ?kf ?kk ?kd ?ku (tl.mono ?s1) hpt ?_; (case k1 => k_asm); (case k3 => k_asm); (case k5 => k_asm); (case kf => exact rfl); (case kk => exact rfl); (case kd => exact Nat.lt_of_le_of_lt (Nat.add_le_add_left (show 2 * T.size + 3 ≤ 17 by omega) _) (by decide)); (case ku => exact Nat.lt_of_le_of_lt (Nat.add_le_add_left (show 8 * (2 * T.size + 3) ≤ 136 by omega) _) (by decide)); (case s1 => exact fun p hp => .tail _ (.tail _ (.tail _ hp)))); intro D8' vs8 ss8 n8 h8' tk8' dr8 F8' N8' O8 st8 so8 nd8 mm8; (try k_unmd); (try k_sweep); (try dsimp only); (try k_fold)))
      k_with "m:call" => ((with_reducible show wpAny _ _ (call (Value.ref 207) _) _ _ _); k_dflt ((with_reducible rename News _ _ _ _ => kN9); (with_reducible rename Fr _ _ _ _ => kF9); (refine' worlds_tell _ _ _ _ _ _ _ _ _ _ _ _ _ _ _ _ _ _ _ vs8 ss8 _ (1 + r1) _ _ _ ?k1 kF9 ?k3 kN9 ?k5 ?kf ?kk ?kd ?ku (.head _) st8 (names_len nd8 mm8) hn1 hn3 ?_; (case k1 => k_asm); (case k3 => k_asm); (case k5 => k_asm); (case kf => exact rfl); (case kk => exact rfl); (case kd => decide); (case ku => decide)); intro D9' vs9 c9 tl9 h9' tk9' F9' N9' O9 len9 wo9; (try k_unmd); (try k_sweep); (try dsimp only); (try k_fold)))
      try k_fold
      walk_at "m:steps"
      with_reducible rename Fr _ _ _ _ => F9
      with_reducible rename News _ _ _ _ => N9
      have hoffw := off_world (oI := oI1) (o9 := W.listOf vs9.toArray c9) rfl O9 O8 off1 hoff2
      have N11 := rot_world N9
      refine ForGo.lstC (bb := false) (fun j m' nw => nw = _ ∧ m' "pool" = some (.ref _) ∧ m' "n" = some (.int (1 + r1) _) ∧ m' "rule" = some (.ref R)) (by rfl) (by rfl) (by rfl) (by rfl) hoc hoffw (by rfl) F9 N11 (.inr ⟨_, .head _, rfl, _, rfl⟩) ⟨rfl, by walk_at "m:frame", by walk_at "m:frame", by walk_at "m:frame"⟩ ?hJi ?turni ?fini
      case hJi =>
        intro j m' nw hr5
        refine hide9 fun G9 h9 => ?_
        rcases hr5 with ⟨rfl, _⟩
        refine h9 ?_
        clear h9 G9
        exact .inr ⟨_, .head _, rfl, _, rfl⟩
      case turni =>
        intro j v m₂ nw I2 oI2 oc2 s' E2 hv2 hr5 hs2 F2 hoc2 N2 off2 hcI2
        refine hide9 fun G9 h9 => ?_
        rcases hr5 with ⟨rfl, g1, g2, g3⟩
        rcases hs2.is with ⟨h2, tk2, rfl⟩
        refine h9 ?_
        clear h9 G9
        obtain ⟨dw, Dw, rfl, hEW, hWD⟩ := wo9 v (List.mem_of_getElem? (by simpa using hv2))
        obtain ⟨okL, okR, hVV⟩ := hg ss8 Dw mm8 hWD
        have hEW2 := EnvIn.drop hEW hoc
        clear F9 N9 N11 hEW
        have sub9 := fun (c : Addr) (p : Addr × Obj) (hp : p ∈ NF c nw2) => (List.mem_append_right tl9 (List.Mem.tail (D8', W.listOf vs8.toArray n8) (List.Mem.tail (I1, oI1) (List.Mem.tail (D2, W.listOf vs2.toArray c2) hp))))
        have mR2 := sub9 _ _ mR
        have mrd2 := sub9 _ _ mrd
        have hmR2 := sub9 _ _ hmR
        have hmRd2 := sub9 _ _ hmRd
        k_with "m:free" => ((with_reducible show wpAny _ _ (eval (Expr.Name (Str.ofString "ring") _) _) _ _ _); (with_reducible rename News _ _ _ _ => kN9); k_dflt (refine' free_in kN9 ?q0 hoc5 ?q1 ?q2 ?q3 ?q4 ?q5 ?_; (case q0 => refine (?_ : ∀ p ∈ NF _ nw2, p ∈ _) _ hmRc; walk_at "m:suf"); (case q1 => rfl); (case q2 => rfl); (case q3 => rfl); (case q4 => decide +kernel); (case q5 => decide +kernel)))
        k_with "m:free" => ((with_reducible show wpAny _ _ (eval (Expr.Name (Str.ofString "world") _) _) _ _ _); (with_reducible rename News _ _ _ _ => kN9); k_dflt (refine' free_in kN9 ?q0 hoc2 ?q1 ?q2 ?q3 ?q4 ?q5 ?_; (case q0 => k_mem); (case q1 => rfl); (case q2 => rfl); (case q3 => rfl); (case q4 => decide +kernel); (case q5 => decide +kernel)))
        k_with "m:call" => ((with_reducible show wpAny _ _ (call (Value.ref 195) _) _ _ _); k_dflt ((with_reducible rename News _ _ _ _ => kN9); (with_reducible rename Fr _ _ _ _ => kF9); (refine' TellI.use (worth_tell _ _ _ _ _ _ (1 + r1) (by omega) hn3 Dw okL) ?k1 kF9 ?k3 kN9 ?k5 ?kf ?kk ?kd ?ku (WorthR.mk (tl.mono ?s1) (hEW2.mono ?s2)) ?_; (case k1 => k_asm); (case k3 => k_asm); (case k5 => k_asm); (case kf => exact rfl); (case kk => exact rfl); (case kd => exact Nat.lt_of_le_of_lt (Nat.add_le_add_left (show 2 * T.size + 2 ≤ 17 by omega) _) (by decide)); (case ku => exact Nat.lt_of_le_of_lt (Nat.add_le_add_left (show 8 * (2 * T.size + 2) ≤ 136 by omega) _) (by decide)); (case s1 => walk_at "m:suf"); (case s2 => walk_at "m:suf")); intro k9 t9 h9 tk9 F9 N9 ho9; have g9 := ho9.1; have l9 := ho9.2.1; have u9 := ho9.2.2; clear ho9; (try k_unmd); (try k_sweep); (try dsimp only); (try k_fold)))
        try k_fold
        walk_at "m:steps"
        with_reducible rename Fr _ _ _ _ => F9
        with_reducible rename News _ _ _ _ => N9
        refine CompGo.tup (fun q ys nw => nw = _ ∧ Kids (1 + r1) Dw ([T, U].take q) ys) (by decide) (by rfl) (by rfl) (by rfl) F9 N9 (.inr ⟨_, .head _, rfl, _, rfl⟩) (Nat.le_of_ble_eq_true rfl) ⟨rfl, .nil⟩ ?hJv ?turnv ?finv
        case hJv =>
          intro q ys nw hr5
          refine hide9 fun G9 h9 => ?_
          rcases hr5 with ⟨rfl, hK⟩
          refine h9 ?_
          clear h9 G9
          exact ⟨.inr ⟨_, .head _, rfl, _, rfl⟩, by rw [hK.length]; exact List.length_take_le _ _⟩
        case turnv =>
          intro q vq ys nw I3 oI3 C3 oC3 D3 mC s3 E3 hvq hr5 hoC hxq hs3 F3 N3 o3 ne
          refine hide9 fun G9 h9 => ?_
          rcases hr5 with ⟨rfl, hK⟩
          rcases hs3.is with ⟨h3, tk3, rfl⟩
          refine h9 ?_
          clear h9 G9
          clear F9 N9
          refine hide9 fun G9 h9 => ?_
          obtain ⟨W, hW, tW, okW, szW⟩ : ∃ W, [T, U][q]? = some W ∧ TmIn (NF _ nw2) vq W ∧ Okay (1 + r1) Dw W ∧ W.size ≤ 7 := by
            rcases q with _ | _ | q
            · exact ⟨T, rfl, (by simpa using hvq : Value.ref l = vq) ▸ tl, okL, hsz⟩
            · exact ⟨U, rfl, (by simpa using hvq : Value.ref r = vq) ▸ tr, okR, hsu⟩
            · simp at hvq
          refine h9 ?_
          clear h9 G9
          obtain ⟨aq, rfl⟩ := tW.isRef
          show wpAny _ _ (eval _ _) _ _ _
          k_with "m:call" => ((with_reducible show wpAny _ _ (call (Value.ref 169) _) _ _ _); k_dflt ((with_reducible rename News _ _ _ _ => kN9); (with_reducible rename Fr _ _ _ _ => kF9); (refine' TellI.use (value_tell _ _ _ _ _ _ (1 + r1) (by omega) hn3 Dw okW) ?k1 kF9 ?k3 kN9 ?k5 ?kf ?kk ?kd ?ku (ValueR.mk (hRing.mono ?s0) (tW.mono ?s1) (hEW2.mono ?s2)) ?_; (case k1 => k_asm); (case k3 => k_asm); (case k5 => k_asm); (case kf => exact rfl); (case kk => exact rfl); (case kd => exact Nat.lt_of_le_of_lt (Nat.add_le_add_left (show 2 * W.size + 20 ≤ 34 by omega) _) (by decide)); (case ku => exact Nat.lt_of_le_of_lt (Nat.add_le_add_left (show 8 * (2 * W.size + 20) ≤ 272 by omega) _) (by decide)); (case s0 => walk_at "m:suf"); (case s1 => walk_at "m:suf"); (case s2 => walk_at "m:suf")); intro k8 t8 h8 tk8 F8 N8 ho8; (try k_unmd); (try k_sweep); (try dsimp only); (try k_fold)))
          try k_fold
          walk_at "m:steps"
          all_goals exact TurnE.intro Sm.ht (by k_asm) (by k_asm) _ (fun _ h => h) o3 ⟨rfl, by rw [List.take_add_one, hW]; exact hK.snoc ⟨_, _, rfl, ho8⟩⟩
        case finv =>
          intro D7 ys nw hr5 s7 hs7 F7 N7 o7
          refine hide9 fun G9 h9 => ?_
          rcases hr5 with ⟨rfl, hK⟩
          rcases hs7.is with ⟨h7, tk7, rfl⟩
          refine h9 ?_
          clear h9 G9
          obtain ⟨ka, ta, kb, tb, rfl, ⟨ha1, _, _⟩, hb1, _, _⟩ := Kids.two hK
          have e1 : ka = k9 := ha1.trans g9.symm
          have e2 : kb = k9 := (hb1.trans hVV).trans g9.symm
          subst e1 e2
          clear F9 N9
          try k_fold
          walk_at "m:steps"
          all_goals exact ⟨rfl, _, _, Sm.ht, by k_asm, News.sub (by k_asm) (by walk_at "m:tail"), off2, rfl, by walk_at "m:frame", by walk_at "m:frame", by walk_at "m:frame"⟩
      case fini =>
        intro m' nw s' hr5 hs2 F2 hr6 off2
        refine hide9 fun G9 h9 => ?_
        rcases hr5 with ⟨rfl, g1, g2, g3⟩
        rcases hr6 with ⟨oc2, vc2, hoc2, N2⟩
        rcases hs2.is with ⟨h2, tk2, rfl⟩
        refine h9 ?_
        clear h9 G9
        clear F9 N9 N11
        try k_fold
        walk_at "m:steps"
        all_goals exact ⟨rfl, _, _, ⟨_, _, _, (fun q => nomatch q), rfl⟩, by k_asm, News.sub (by k_asm) (by walk_at "m:gsub"), off_same off1, _, _, hoc2, rfl, by walk_at "m:frame", by walk_at "m:frame"⟩
    case fino =>
      intro m' nw s' hr5 hs F1 N1
      refine hide9 fun G9 h9 => ?_
      rcases hr5 with ⟨oc, vc, hoc, rfl, gp, gn⟩
      refine h9 ?_
      clear h9 G9
      obtain ⟨h1, tk1, dr1, rfl⟩ := hs.isD
      clear F9 N9 N10
      k_with "m:free" => ((with_reducible show wpAny _ _ (eval (Expr.Name (Str.ofString "ring") _) _) _ _ _); (with_reducible rename News _ _ _ _ => kN9); k_dflt (refine' free_in kN9 ?q0 hoc5 ?q1 ?q2 ?q3 ?q4 ?q5 ?_; (case q0 => refine (?_ : ∀ p ∈ NF _ nw2, p ∈ _) _ hmRc; walk_at "m:suf"); (case q1 => rfl); (case q2 => rfl); (case q3 => rfl); (case q4 => decide +kernel); (case q5 => decide +kernel)))
      k_with "m:call" => ((with_reducible show wpAny _ _ (call (Value.ref 164) _) _ _ _); k_dflt ((with_reducible rename News _ _ _ _ => kN9); (with_reducible rename Fr _ _ _ _ => kF9); (refine' rules_tell _ _ _ _ _ _ (1 + r1) (by omega) (by omega) _ _ _ _ _ _ _ _ _ _ _ _ _ _ _ ?k1 kF9 ?k3 kN9 ?k5 ?kf ?kk ?kd ?ku (hRing.mono ?s0) ?_; (case k1 => k_asm); (case k3 => k_asm); (case k5 => k_asm); (case kf => exact rfl); (case kk => exact rfl); (case kd => decide); (case ku => decide); (case s0 => walk_at "m:suf")); intro D3 vs3 c3 nw3 h3 tk3 dr3 F3 N3 O3 nl3 sb3 ru3; (try k_unmd); (try k_sweep); (try dsimp only); (try k_fold)))
      try k_fold
      walk_at "m:steps"
      with_reducible rename Fr _ _ _ _ => F9
      with_reducible rename News _ _ _ _ => N9
      refine CompGo.lst (fun i ys nw => nw = _ ∧ StrsAre ys (nameL.take i)) (by decide) (by rfl) (by rfl) (by rfl) F9 N9 (.inr ⟨_, .head _, rfl, _, rfl⟩) ?hszn ⟨rfl, .nil⟩ ?hJn ?turnn ?finn
      case hszn =>
        rw [List.size_toArray, ru3.length]
        exact Nat.le_of_ble_eq_true rfl
      case hJn =>
        intro i ys nw hr5
        refine hide9 fun G9 h9 => ?_
        rcases hr5 with ⟨rfl, hm⟩
        refine h9 ?_
        clear h9 G9
        exact ⟨.inr ⟨_, .head _, rfl, _, rfl⟩, by rw [StrsAre_length hm]; exact List.length_take_le _ _⟩
      case turnn =>
        intro i v ys nw I3 oI3 C3 oC3 D7 mC s3 E3 hv3 hr5 hoC hx3 hs3 F3 N3 o3 ne
        refine hide9 fun G9 h9 => ?_
        rcases hr5 with ⟨rfl, hm⟩
        rcases hs3.is with ⟨h3, tk3, rfl⟩
        refine h9 ?_
        clear h9 G9
        refine ru3.elim i v (by simpa using hv3) ?_; intro R rd q1 q2 q3 q4 t1 t2 t3 t4 tn l r nd kk nm T U eR hsp mR mrd tl tr; subst eR
        have hnm : nameL[i]? = some nm := by rw [← specs_names (n := 1 + r1), List.getElem?_map, hsp]; rfl
        show wpAny _ _ (eval _ _) _ _ _
        clear F9 N9
        try k_fold
        walk_at "m:steps"
        all_goals exact TurnE.intro Sm.ht (by k_asm) (by k_asm) _ (fun _ h => h) o3 ⟨rfl, by rw [List.take_add_one, hnm]; exact StrsAre_append hm strs_one⟩
      case finn =>
        intro Dn ysn nw hr5 s8 hs8 F8 N8 o8
        refine hide9 fun G9 h9 => ?_
        rcases hr5 with ⟨rfl, hm⟩
        rcases hs8.is with ⟨h8, tk8, rfl⟩
        refine h9 ?_
        clear h9 G9
        rw [List.size_toArray, ru3.length] at hm
        have hm : StrsAre ysn nameL := hm
        have hlen : ysn.length = 13 := StrsAre_length hm
        have kP := sb3 _ (.tail _ (.tail _ hmP))
        have kX := sb3 _ (.tail _ (.tail _ hmR))
        have kY := sb3 _ (.tail _ (.tail _ hmRd))
        have kZ := sb3 _ (.tail _ (.tail _ hmCl))
        have kC := sb3 _ (.tail _ (.tail _ hmRc))
        have offP := pool_off (fun p hp => N8 p (.tail _ (.tail _ hp))) kP kX kY kZ kC hm0 hoc5
        have N12 := small_ledger N8 kP kX kY kZ kC
        clear F9 N9 N8
        k_with "m:call" => ((with_reducible show wpAny _ _ (call (Value.ref 183) _) _ _ _); k_dflt ((with_reducible rename News _ _ _ _ => kN9); (with_reducible rename Fr _ _ _ _ => kF9); (refine' pick_tell _ _ _ _ _ _ _ _ _ _ _ _ _ _ _ _ _ _ _ _ _ _ _ _ _ _ _ _ _ _ ?k1 kF9 ?k3 kN9 ?k5 ?kf ?kk ?kd ?ku (off_cons ?pke offP) ?hc hm0 hms ?pka ?pkb ?pkc ?pkd ?_; (case k1 => k_asm); (case k3 => k_asm); (case k5 => k_asm); (case kf => exact rfl); (case kk => exact rfl); (case kd => decide); (case ku => decide); (case hc => k_mem); (case pke => exact neN (by (try dsimp only); omega)); (case pka => decide); (case pkb => decide); (case pkc => omega); (case pkd => omega)); intro r3 tr3 h3 tk3 tp3 np3 F3 N3 hr30 hr31; (try k_unmd); (try k_sweep); (try dsimp only); (try k_fold)))
        k_with "m:call" => ((with_reducible show wpAny _ _ (call (Value.ref 183) _) _ _ _); k_dflt ((with_reducible rename News _ _ _ _ => kN9); (with_reducible rename Fr _ _ _ _ => kF9); (refine' pick_tell _ _ _ _ _ _ _ _ _ _ _ _ _ _ _ _ _ _ _ _ _ _ _ _ _ _ _ _ _ _ ?k1 kF9 ?k3 (pool_pull kN9) ?k5 ?kf ?kk ?kd ?ku (off_cons ?pke offP) ?hc hm0 hms ?pka ?pkb ?pkc ?pkd ?_; (case k1 => k_asm); (case k3 => k_asm); (case k5 => k_asm); (case kf => exact rfl); (case kk => exact rfl); (case kd => decide); (case ku => decide); (case hc => k_mem); (case pke => exact neN (by (try dsimp only); omega)); (case pka => decide); (case pkb => decide); (case pkc => omega); (case pkd => omega)); intro r2 tr2 h2 tk2 tp2 np2 F2 N2 hr20 hr21; (try k_unmd); (try k_sweep); (try dsimp only); (try k_fold)))
        k_with "m:set" => ((with_reducible show wpAny _ _ (call (Value.type "set") [Value.ref Dn]) _ _ _); k_dflt (refine set_new_N (by rfl) (by k_asm) (by k_asm) (by k_mem) (by rfl) (by rfl) hm (by decide) ?_; intro D7 o7 zs7 h7 tk7 F7 N7 O7 so7 nd7 ln7 mm7; (try k_unmd); (try k_sweep); (try dsimp only); (try k_fold)))
        k_with "m:sorted" => ((with_reducible show wpAny _ _ (call (Value.builtin "sorted") [Value.ref Dn]) _ _ _); k_dflt (refine sorted_list_NN (by k_asm) (by k_asm) (by k_mem) hm (by omega) ?_; intro hn8 Db vsb ssb eb Fb Nb Ob stb pmb sdb; (have stb2 := names_sorted pmb sdb); subst stb2; (try k_unmd); (try k_sweep); (try dsimp only); (try k_fold)))
        k_with "m:sorted" => ((with_reducible show wpAny _ _ (call (Value.builtin "sorted") [Value.ref D7]) _ _ _); k_dflt (refine sorted_set_NN (by rfl) (by k_asm) (by k_asm) (by k_mem) so7 (Nat.lt_of_le_of_lt ln7 (by decide)) ?_; intro h8' tk8' dr8 Da vsa ssa ea Fa Na Oa sta pma sda; (have sta2 := names_set pma nd7 mm7 sda); subst sta2; (try k_unmd); (try k_sweep); (try dsimp only); (try k_fold)))
        k_with "m:nenames" => ((with_reducible rename News _ _ _ _ => kN9); k_dflt (refine ne_names kN9 (.tail _ (.head _)) (.head _) sta stb (show callerA.units + 3 + 64 < cLine by decide) ?_))
        k_with "m:dict0" => ((with_reducible show wpAny _ _ (evalPairs (pairTrees [] [] _ _)) _ _ _); k_dflt ((refine pairTrees_nil_walk ?_); (repeat k_unfold); (with_reducible rename News _ _ _ _ => kN9); (with_reducible rename Fr _ _ _ _ => kF9); (refine' env_made kF9 kN9 ?o1 ?o2 ?hd ?_; (case o1 => exact neN (by (try dsimp only); omega)); (case o2 => (intro p9 hp9; (simp only [List.mem_cons, List.not_mem_nil, or_false] at hp9); rcases hp9 with rfl | rfl | rfl | rfl <;> exact neN (by (try dsimp only); omega))); (case hd => assumption)); intro h4 o4 kvs4 F4 N4 hPd hd4 hf4; (have offE := off_cons (d := (_, o4)) (Ne.symm hPd) offP); (with_reducible rename @Eq Bool (_ == sysModules) false => elo); (try k_unmd); (try k_sweep); (try dsimp only); (try k_fold)))
        k_with "m:call" => ((with_reducible show wpAny _ _ (call (Value.ref 212) _) _ _ _); k_dflt ((with_reducible rename News _ _ _ _ => kN9); (with_reducible rename Fr _ _ _ _ => kF9); (refine' drawn_tell _ _ _ _ _ _ 3 _ _ _ _ _ _ _ _ _ _ _ _ _ _ _ _ _ _ _ _ _ _ _ _ ?k1 kF9 ?k3 kN9 ?k5 ?kf ?kk ?kd ?ku offE (.tail _ (.tail _ (.tail _ (.head _)))) hm0 hms ?pka ?pkb rfl ?_; (case k1 => k_asm); (case k3 => k_asm); (case k5 => k_asm); (case kf => exact rfl); (case kk => exact rfl); (case kd => decide); (case ku => decide); (case pka => decide); (case pkb => decide)); intro ad Td tld hd tkd kd td nd Fd Nd Od kd0 kd1 TTd DTd SZd; (have mRa := (mem_ring Nd).1); (have mRb := (mem_ring Nd).2); (have hRg : RingIn _ _ (1 + r1) := ⟨⟨_, _, _, _, (mem_ring0 Nd).1, (mem_ring0 Nd).2.1⟩⟩); (have hEv : EnvIn PySem.Challenge.rw_pq0039_01.prog _ _ _ (Env2 r2 r3) := ⟨elo, _, _, (mem_ring0 Nd).2.2, hd4, hf4⟩); (have SZe : Td.size ≤ 15 := Nat.le_of_lt_succ SZd); (have okT : Okay (1 + r1) (Env2 r2 r3) Td := Env2.okay ⟨hr20, hr21⟩ ⟨hr30, hr31⟩ DTd); (try k_unmd); (try k_sweep); (try dsimp only); (try k_fold)))
        k_with "m:free" => ((with_reducible show wpAny _ _ (eval (Expr.Name (Str.ofString "ring") _) _) _ _ _); (with_reducible rename News _ _ _ _ => kN9); k_dflt (refine' free_in kN9 ?q0 hoc5 ?q1 ?q2 ?q3 ?q4 ?q5 ?_; (case q0 => walk_at "m:deep"); (case q1 => rfl); (case q2 => rfl); (case q3 => rfl); (case q4 => decide +kernel); (case q5 => decide +kernel)))
        k_with "m:call" => ((with_reducible show wpAny _ _ (call (Value.ref 195) _) _ _ _); k_dflt ((with_reducible rename News _ _ _ _ => kN9); (with_reducible rename Fr _ _ _ _ => kF9); (refine' TellI.use (worth_tell _ _ _ _ _ _ (1 + r1) (by omega) hn3 (Env2 r2 r3) okT) ?k1 kF9 ?k3 kN9 ?k5 ?kf ?kk ?kd ?ku (WorthR.mk (TTd.mono ?s1) (hEv.mono fun p hp => .tail _ hp)) ?_; (case k1 => k_asm); (case k3 => k_asm); (case k5 => k_asm); (case kf => exact rfl); (case kk => exact rfl); (case kd => exact Nat.lt_of_le_of_lt (Nat.add_le_add_left (show 2 * Td.size + 2 ≤ 32 by omega) _) (by decide)); (case ku => exact Nat.lt_of_le_of_lt (Nat.add_le_add_left (show 8 * (2 * Td.size + 2) ≤ 256 by omega) _) (by decide)); (case s1 => exact fun p hp => .tail _ (List.mem_append_left _ hp))); intro k9 t9 h9 tk9 F9 N9 ho9; (have e9 := ho8.1.trans ho9.1.symm); subst e9; (try k_unmd); (try k_sweep); (try dsimp only); (try k_fold)))
        k_with "m:call" => ((with_reducible show wpAny _ _ (call (Value.ref 169) _) _ _ _); k_dflt ((with_reducible rename News _ _ _ _ => kN9); (with_reducible rename Fr _ _ _ _ => kF9); (refine' TellI.use (value_tell _ _ _ _ _ _ (1 + r1) (by omega) hn3 (Env2 r2 r3) okT) ?k1 kF9 ?k3 kN9 ?k5 ?kf ?kk ?kd ?ku (ValueR.mk (hRg.mono fun p hp => .tail _ hp) (TTd.mono ?s1) (hEv.mono fun p hp => .tail _ hp)) ?_; (case k1 => k_asm); (case k3 => k_asm); (case k5 => k_asm); (case kf => exact rfl); (case kk => exact rfl); (case kd => exact Nat.lt_of_le_of_lt (Nat.add_le_add_left (show 2 * Td.size + 20 ≤ 50 by omega) _) (by decide)); (case ku => exact Nat.lt_of_le_of_lt (Nat.add_le_add_left (show 8 * (2 * Td.size + 20) ≤ 400 by omega) _) (by decide)); (case s1 => exact fun p hp => .tail _ (List.mem_append_left _ hp))); intro k8 t8 h8 tk8 F8 N8 ho8; (try k_unmd); (try k_sweep); (try dsimp only); (try k_fold)))
        k_with "m:call" => ((with_reducible show wpAny _ _ (call (Value.ref 183) [_, Value.int 8 _]) _ _ _); k_dflt ((with_reducible rename News _ _ _ _ => kN9); (with_reducible rename Fr _ _ _ _ => kF9); (have hst := odd_stage kN9 Od offE); (refine' pick_tell _ _ _ _ _ _ _ _ _ _ _ _ _ _ _ _ _ _ _ _ _ _ _ _ _ _ _ _ _ _ ?k1 kF9 ?k3 hst.1 ?k5 ?kf ?kk ?kd ?ku hst.2 (.tail _ (.tail _ (.tail _ (.tail _ (.tail _ (.tail _ (.tail _ (.tail _ (.tail _ (List.mem_append_right _ (.tail _ (.tail _ (.tail _ (.head _)))))))))))))) hm0 hms ?pka ?pkb ?pkc ?pkd ?_; (case k1 => k_asm); (case k3 => k_asm); (case k5 => k_asm); (case kf => exact rfl); (case kk => exact rfl); (case kd => decide); (case ku => decide); (case pka => (have := kd0; omega)); (case pkb => (have := kd1; (simp only [cost] at this); omega)); (case pkc => decide); (case pkd => decide)); intro r4 tr4 h4' tk4' tp4 np4 F4' N4' hr40 hr41; clear hst; (try k_unmd); (try k_sweep); (try dsimp only); (try k_fold)))
        k_with "m:menu3" => ((with_reducible show wpAny _ _ (subscriptTail _ _ (Value.ref _) (Value.int _ _)) _ _ _); k_dflt ((with_reducible rename News _ _ _ _ => kN9); (refine' menu_item (News.isList kN9 (.tail _ (.head _))) hr40 hr41 ?mx ?_ ?my; (case mx => (show ((8 : Nat) : Int) ≤ 63; decide)); (case my => rfl); intro v9 hv9; (have ov9 := odd_all kN9 v9 hv9))))
        k_with "m:call" => ((with_reducible show wpAny _ _ (call (Value.ref 219) _) _ _ _); k_dflt ((with_reducible rename News _ _ _ _ => kN9); (with_reducible rename Fr _ _ _ _ => kF9); (refine' ref_tell _ _ _ _ _ _ (1 + r1) (Env2 r2 r3) Env2.odd _ _ _ _ _ _ _ _ _ _ _ _ _ _ _ ?k1 kF9 ?k3 kN9 ?k5 ?kf ?kk ?kd ?ku (hRg.mono ?s1) ?od (hEv.mono ?s2) ?_; (case k1 => k_asm); (case k3 => k_asm); (case k5 => k_asm); (case kf => exact rfl); (case kk => exact rfl); (case kd => decide); (case ku => decide); (case s1 => walk_at "m:suf"); (case od => (first | (refine OddN.odd ?_; assumption) | (refine OddN.neg (List.Mem.head _) (Odd.mono (fun p hp => List.Mem.tail _ hp) ?_); assumption))); (case s2 => walk_at "m:suf")); intro h6 tk6 F6 N6; (try k_unmd); (try k_sweep); (try dsimp only); (try k_fold)))
        try k_fold
        walk_at "m:steps"
        all_goals first | ((with_reducible rename @Ne Int _ _ => hne); exact (hne rfl).elim) | ((with_reducible rename Fr _ _ _ _ => kF9); refine goodW_bool kF9 (by with_reducible assumption) (raisesW_false ?n9) ?p9; (case n9 => wrow_none_raised); (case p9 => exact law_post _))
end Mine
set_option maxRecDepth 100000 in
theorem PySem.Challenge.cw_pq0039_01_holds : PySem.Challenge.rw_pq0039_01.Holds := by
  exact Mine.law_holds
