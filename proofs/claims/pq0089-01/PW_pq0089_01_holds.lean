import PyProof.Rows.All
import Wide.All
import OpenK.AllK
import Wide.FinOn
import Lean
import PySem.Challenge.RW_pq0089_01
set_option Elab.async false
set_option maxRecDepth 100000
set_option linter.all false
/- part KF -/
namespace Mine
open PySem PySem.W PySem.Calls PyProof.Rows
/-! the objects of the top, the bodies of defs by their places (printed by genkf.lean) -/
abbrev PW : Program := PySem.Challenge.pw_pq0089_01
noncomputable def nthS : List Stmt → Nat → Stmt
  | [], _ => .Pass ⟨0, 0, 0, 0⟩
  | s :: _, 0 => s
  | _ :: r, n + 1 => nthS r n
noncomputable def stAt (p : Program) (i : Nat) : Stmt := nthS p.main.body i
noncomputable def stIn (s : Stmt) (j : Nat) : Stmt := match s with
  | .ClassDef _ _ _ b .. => nthS b j
  | s => s
noncomputable def fnP (s : Stmt) (qual : Str) (cl : List (Str × Addr)) (dV kV doc pm : Value) (an : Option Addr) (cdv ct : Value) : FuncData := match s with
  | .FunctionDef n a b _ _ _ sc .. => ⟨n, qual, a, .stmts b, sc, mainGlobals, cl, dV, kV, doc, pm, an, cdv, ct, builtinsNs⟩
  | _ => ⟨qual, qual, ⟨[], [], none, [], [], none, []⟩, .stmts [], { kind := .function, names := [], isGenerator := false, isCoroutine := false }, mainGlobals, cl, dV, kV, doc, pm, an, cdv, ct, builtinsNs⟩
noncomputable def KF (P : Params) : Frag := [
  (2, { cls := Value.none, data := Data.dict #[{ hash := PyData.keyHash P (Str.ofString "type.__subclasses__.Exception.0"), key := Value.str (Str.ofString "type.__subclasses__.Exception.0") 230, val := Value.int 47 0 }, { hash := PyData.keyHash P (Str.ofString "type.__subclasses__.Exception.n"), key := Value.str (Str.ofString "type.__subclasses__.Exception.n") 231, val := Value.int 1 0 }] 2 }),
  (3, { cls := Value.type "dict", data := Data.dict #[{ hash := PyData.keyHash P (Str.ofString "__name__"), key := Value.str (Str.ofString "__name__") 165, val := Value.str (Str.ofString "law_pq0089_01") 910 }, { hash := PyData.keyHash P (Str.ofString "__doc__"), key := Value.str (Str.ofString "__doc__") 166, val := Value.none }, { hash := PyData.keyHash P (Str.ofString "__package__"), key := Value.str (Str.ofString "__package__") 167, val := Value.none }, { hash := PyData.keyHash P (Str.ofString "__loader__"), key := Value.str (Str.ofString "__loader__") 168, val := Value.builtin "__main__.__loader__#opaque" }, { hash := PyData.keyHash P (Str.ofString "__spec__"), key := Value.str (Str.ofString "__spec__") 169, val := Value.none }, { hash := PyData.keyHash P (Str.ofString "__annotations__"), key := Value.str (Str.ofString "__annotations__") 170, val := Value.ref 6 }, { hash := PyData.keyHash P (Str.ofString "__builtins__"), key := Value.str (Str.ofString "__builtins__") 171, val := Value.ref 4 }, { hash := PyData.keyHash P (Str.ofString "__file__"), key := Value.str (Str.ofString "__file__") 173, val := Value.str (Str.ofString "/claim/cut.py") 172 }, { hash := PyData.keyHash P (Str.ofString "__cached__"), key := Value.str (Str.ofString "__cached__") 174, val := Value.none }, { hash := PyData.keyHash P (Str.ofString "_wall"), key := Value.str (Str.ofString "_wall") 193, val := Value.ref 21 }, { hash := PyData.keyHash P (Str.ofString "HeapError"), key := Value.str (Str.ofString "HeapError") 233, val := Value.ref 47 }, { hash := PyData.keyHash P (Str.ofString "RuleFault"), key := Value.str (Str.ofString "RuleFault") 249, val := Value.ref 60 }, { hash := PyData.keyHash P (Str.ofString "is_variable"), key := Value.str (Str.ofString "is_variable") 258, val := Value.ref 69 }, { hash := PyData.keyHash P (Str.ofString "variables"), key := Value.str (Str.ofString "variables") 264, val := Value.ref 74 }, { hash := PyData.keyHash P (Str.ofString "parts"), key := Value.str (Str.ofString "parts") 270, val := Value.ref 79 }, { hash := PyData.keyHash P (Str.ofString "Bank"), key := Value.str (Str.ofString "Bank") 404, val := Value.ref 185 }, { hash := PyData.keyHash P (Str.ofString "Walker"), key := Value.str (Str.ofString "Walker") 458, val := Value.ref 223 }, { hash := PyData.keyHash P (Str.ofString "ORDERS"), key := Value.str (Str.ofString "ORDERS") 464, val := Value.ref 228 }, { hash := PyData.keyHash P (Str.ofString "Rule"), key := Value.str (Str.ofString "Rule") 501, val := Value.ref 250 }, { hash := PyData.keyHash P (Str.ofString "Placer"), key := Value.str (Str.ofString "Placer") 557, val := Value.ref 292 }, { hash := PyData.keyHash P (Str.ofString "Runner"), key := Value.str (Str.ofString "Runner") 640, val := Value.ref 353 }, { hash := PyData.keyHash P (Str.ofString "Unions"), key := Value.str (Str.ofString "Unions") 742, val := Value.ref 435 }, { hash := PyData.keyHash P (Str.ofString "Heap"), key := Value.str (Str.ofString "Heap") 909, val := Value.ref 569 }, { hash := PyData.keyHash P (Str.ofString "_law_feed"), key := Value.str (Str.ofString "_law_feed") 917, val := Value.ref 578 }, { hash := PyData.keyHash P (Str.ofString "_law_take"), key := Value.str (Str.ofString "_law_take") 927, val := Value.ref 585 }, { hash := PyData.keyHash P (Str.ofString "_law_pattern"), key := Value.str (Str.ofString "_law_pattern") 933, val := Value.ref 590 }, { hash := PyData.keyHash P (Str.ofString "_law_seen"), key := Value.str (Str.ofString "_law_seen") 939, val := Value.ref 595 }, { hash := PyData.keyHash P (Str.ofString "_law_wrong"), key := Value.str (Str.ofString "_law_wrong") 945, val := Value.ref 600 }, { hash := PyData.keyHash P (Str.ofString "_law_told"), key := Value.str (Str.ofString "_law_told") 953, val := Value.ref 607 }, { hash := PyData.keyHash P (Str.ofString "_law_is"), key := Value.str (Str.ofString "_law_is") 964, val := Value.ref 614 }, { hash := PyData.keyHash P (Str.ofString "law"), key := Value.str (Str.ofString "law") 990, val := Value.ref 621 }] 31 }),
  (20, { cls := Value.type "code", data := Data.fields #[Value.str (Str.ofString "_wall") 187, Value.str (Str.ofString "_wall") 188, Value.str (Str.ofString "/claim/cut.py") 189, Value.int 1 0, Value.int 1 0, Value.int 0 0, Value.int 0 0, Value.int 3 0, Value.ref 15, Value.bool true, Value.int 181 0, Value.ref 16, Value.none, Value.ref 17, Value.ref 18, Value.ref 19, Value.int 191 0, Value.int 1 0, Value.str (Str.ofString "/claim/cut.py") 192] }),
  (21, ⟨Value.type "function", none, .func (fnP (stAt PW 0) (Str.ofString "_wall") ([]) (Value.none) (Value.none) (Value.none) (Value.str (Str.ofString "__main__") 164) (none) (Value.ref 20) (Value.none)), #[]⟩),
  (22, { cls := Value.type "tuple", data := Data.seq #[Value.type "Exception"] }),
  (25, { cls := Value.type "cell", data := Data.cell (some (Value.ref 47)) }),
  (30, { cls := Value.type "tuple", data := Data.seq #[Value.ref 25] }),
  (36, { cls := Value.type "code", data := Data.fields #[Value.str (Str.ofString "__init__") 208, Value.str (Str.ofString "HeapError.__init__") 209, Value.str (Str.ofString "/claim/cut.py") 210, Value.int 7 0, Value.int 2 0, Value.int 0 0, Value.int 0 0, Value.int 3 0, Value.ref 31, Value.bool true, Value.int 181 0, Value.ref 32, Value.none, Value.ref 33, Value.ref 34, Value.ref 35, Value.int 214 0, Value.int 7 0, Value.str (Str.ofString "/claim/cut.py") 215] }),
  (37, ⟨Value.type "function", none, .func (fnP (stIn (stAt PW 2) 0) (Str.ofString "HeapError.__init__") ([(Str.ofString "__class__", 25)]) (Value.none) (Value.none) (Value.none) (Value.str (Str.ofString "alikeheap.errors") 194) (none) (Value.ref 36) (Value.ref 30)), #[]⟩),
  (43, { cls := Value.type "code", data := Data.fields #[Value.str (Str.ofString "told") 217, Value.str (Str.ofString "HeapError.told") 218, Value.str (Str.ofString "/claim/cut.py") 219, Value.int 11 0, Value.int 1 0, Value.int 0 0, Value.int 0 0, Value.int 3 0, Value.ref 38, Value.bool true, Value.int 181 0, Value.ref 39, Value.none, Value.ref 40, Value.ref 41, Value.ref 42, Value.int 221 0, Value.int 11 0, Value.str (Str.ofString "/claim/cut.py") 222] }),
  (44, ⟨Value.type "function", none, .func (fnP (stIn (stAt PW 2) 1) (Str.ofString "HeapError.told") ([]) (Value.none) (Value.none) (Value.none) (Value.str (Str.ofString "alikeheap.errors") 194) (none) (Value.ref 43) (Value.none)), #[]⟩),
  (46, { cls := Value.type "dict", data := Data.dict #[{ hash := PyData.keyHash P (Str.ofString "__module__"), key := Value.str (Str.ofString "__module__") 203, val := Value.str (Str.ofString "alikeheap.errors") 194 }, { hash := PyData.keyHash P (Str.ofString "__firstlineno__"), key := Value.str (Str.ofString "__firstlineno__") 207, val := Value.int 5 206 }, { hash := PyData.keyHash P (Str.ofString "__init__"), key := Value.str (Str.ofString "__init__") 216, val := Value.ref 37 }, { hash := PyData.keyHash P (Str.ofString "told"), key := Value.str (Str.ofString "told") 223, val := Value.ref 44 }, { hash := PyData.keyHash P (Str.ofString "__static_attributes__"), key := Value.str (Str.ofString "__static_attributes__") 225, val := Value.ref 45 }, { hash := PyData.keyHash P (Str.ofString "__weakref__"), key := Value.str (Str.ofString "__weakref__") 228, val := Value.ref 48 }, { hash := PyData.keyHash P (Str.ofString "__doc__"), key := Value.str (Str.ofString "__doc__") 229, val := Value.none }] 4 }),
  (47, { cls := Value.type "type", data := Data.cls { name := Str.ofString "HeapError", bases := [Value.type "Exception"], mro := [Value.ref 47, Value.type "Exception", Value.type "BaseException", Value.type "object"], ns := 46, qualname := Str.ofString "HeapError", subclasses := [Value.ref 60] }, slots := #[some (Value.ref 22), none, some (Value.str (Str.ofString "HeapError") 196), some (Value.str (Str.ofString "HeapError") 204), some (Value.builtin "Exception.__new__"), some (Value.bool true)] }),
  (48, { cls := Value.type "getset_descriptor", data := Data.fields #[Value.str (Str.ofString "__weakref__") 227, Value.ref 47, Value.builtin "ExceptionGroup.__weakref__", Value.none] }),
  (51, { cls := Value.type "tuple", data := Data.seq #[Value.ref 47] }),
  (59, { cls := Value.type "dict", data := Data.dict #[{ hash := PyData.keyHash P (Str.ofString "__module__"), key := Value.str (Str.ofString "__module__") 241, val := Value.str (Str.ofString "alikeheap.errors") 194 }, { hash := PyData.keyHash P (Str.ofString "__firstlineno__"), key := Value.str (Str.ofString "__firstlineno__") 245, val := Value.int 13 244 }, { hash := PyData.keyHash P (Str.ofString "__static_attributes__"), key := Value.str (Str.ofString "__static_attributes__") 246, val := Value.ref 58 }, { hash := PyData.keyHash P (Str.ofString "__doc__"), key := Value.str (Str.ofString "__doc__") 247, val := Value.none }] 2 }),
  (60, { cls := Value.type "type", data := Data.cls { name := Str.ofString "RuleFault", bases := [Value.ref 47], mro := [Value.ref 60, Value.ref 47, Value.type "Exception", Value.type "BaseException", Value.type "object"], ns := 59, qualname := Str.ofString "RuleFault" }, slots := #[some (Value.ref 51), none, some (Value.str (Str.ofString "RuleFault") 234), some (Value.str (Str.ofString "RuleFault") 242), some (Value.builtin "Exception.__new__"), some (Value.bool true)] }),
  (68, { cls := Value.type "code", data := Data.fields #[Value.str (Str.ofString "is_variable") 252, Value.str (Str.ofString "is_variable") 253, Value.str (Str.ofString "/claim/cut.py") 254, Value.int 16 0, Value.int 1 0, Value.int 0 0, Value.int 0 0, Value.int 3 0, Value.ref 63, Value.bool true, Value.int 181 0, Value.ref 64, Value.none, Value.ref 65, Value.ref 66, Value.ref 67, Value.int 256 0, Value.int 16 0, Value.str (Str.ofString "/claim/cut.py") 257] }),
  (69, ⟨Value.type "function", none, .func (fnP (stAt PW 5) (Str.ofString "is_variable") ([]) (Value.none) (Value.none) (Value.none) (Value.str (Str.ofString "alikeheap.terms") 250) (none) (Value.ref 68) (Value.none)), #[]⟩),
  (73, { cls := Value.type "code", data := Data.fields #[Value.str (Str.ofString "variables") 259, Value.str (Str.ofString "variables") 260, Value.str (Str.ofString "/claim/cut.py") 261, Value.int 18 0, Value.int 1 0, Value.int 0 0, Value.int 0 0, Value.int 3 0, Value.ref 70, Value.bool true, Value.int 181 0, Value.ref 71, Value.none, Value.none, Value.none, Value.ref 72, Value.int 262 0, Value.int 18 0, Value.str (Str.ofString "/claim/cut.py") 263] }),
  (74, ⟨Value.type "function", none, .func (fnP (stAt PW 6) (Str.ofString "variables") ([]) (Value.none) (Value.none) (Value.none) (Value.str (Str.ofString "alikeheap.terms") 250) (none) (Value.ref 73) (Value.none)), #[]⟩),
  (78, { cls := Value.type "code", data := Data.fields #[Value.str (Str.ofString "parts") 265, Value.str (Str.ofString "parts") 266, Value.str (Str.ofString "/claim/cut.py") 267, Value.int 20 0, Value.int 1 0, Value.int 0 0, Value.int 0 0, Value.int 3 0, Value.ref 75, Value.bool true, Value.int 181 0, Value.ref 76, Value.none, Value.none, Value.none, Value.ref 77, Value.int 268 0, Value.int 20 0, Value.str (Str.ofString "/claim/cut.py") 269] }),
  (79, ⟨Value.type "function", none, .func (fnP (stAt PW 7) (Str.ofString "parts") ([]) (Value.none) (Value.none) (Value.none) (Value.str (Str.ofString "alikeheap.terms") 250) (none) (Value.ref 78) (Value.none)), #[]⟩),
  (92, { cls := Value.type "code", data := Data.fields #[Value.str (Str.ofString "__init__") 283, Value.str (Str.ofString "Bank.__init__") 284, Value.str (Str.ofString "/claim/cut.py") 285, Value.int 27 0, Value.int 1 0, Value.int 0 0, Value.int 0 0, Value.int 3 0, Value.ref 87, Value.bool true, Value.int 181 0, Value.ref 88, Value.none, Value.ref 89, Value.ref 90, Value.ref 91, Value.int 287 0, Value.int 27 0, Value.str (Str.ofString "/claim/cut.py") 288] }),
  (93, ⟨Value.type "function", none, .func (fnP (stIn (stAt PW 8) 0) (Str.ofString "Bank.__init__") ([]) (Value.none) (Value.none) (Value.none) (Value.str (Str.ofString "alikeheap.terms") 250) (none) (Value.ref 92) (Value.none)), #[]⟩),
  (99, { cls := Value.type "code", data := Data.fields #[Value.str (Str.ofString "size") 290, Value.str (Str.ofString "Bank.size") 291, Value.str (Str.ofString "/claim/cut.py") 292, Value.int 33 0, Value.int 1 0, Value.int 0 0, Value.int 0 0, Value.int 3 0, Value.ref 94, Value.bool true, Value.int 181 0, Value.ref 95, Value.none, Value.ref 96, Value.ref 97, Value.ref 98, Value.int 294 0, Value.int 33 0, Value.str (Str.ofString "/claim/cut.py") 295] }),
  (100, ⟨Value.type "function", none, .func (fnP (stIn (stAt PW 8) 1) (Str.ofString "Bank.size") ([]) (Value.none) (Value.none) (Value.none) (Value.str (Str.ofString "alikeheap.terms") 250) (none) (Value.ref 99) (Value.none)), #[]⟩),
  (106, { cls := Value.type "code", data := Data.fields #[Value.str (Str.ofString "take") 297, Value.str (Str.ofString "Bank.take") 298, Value.str (Str.ofString "/claim/cut.py") 299, Value.int 36 0, Value.int 3 0, Value.int 0 0, Value.int 0 0, Value.int 3 0, Value.ref 101, Value.bool true, Value.int 181 0, Value.ref 102, Value.none, Value.ref 103, Value.ref 104, Value.ref 105, Value.int 303 0, Value.int 36 0, Value.str (Str.ofString "/claim/cut.py") 304] }),
  (107, ⟨Value.type "function", none, .func (fnP (stIn (stAt PW 8) 2) (Str.ofString "Bank.take") ([]) (Value.none) (Value.none) (Value.none) (Value.str (Str.ofString "alikeheap.terms") 250) (none) (Value.ref 106) (Value.none)), #[]⟩),
  (113, { cls := Value.type "code", data := Data.fields #[Value.str (Str.ofString "require") 306, Value.str (Str.ofString "Bank.require") 307, Value.str (Str.ofString "/claim/cut.py") 308, Value.int 39 0, Value.int 2 0, Value.int 0 0, Value.int 0 0, Value.int 3 0, Value.ref 108, Value.bool true, Value.int 181 0, Value.ref 109, Value.none, Value.ref 110, Value.ref 111, Value.ref 112, Value.int 311 0, Value.int 39 0, Value.str (Str.ofString "/claim/cut.py") 312] }),
  (114, ⟨Value.type "function", none, .func (fnP (stIn (stAt PW 8) 3) (Str.ofString "Bank.require") ([]) (Value.none) (Value.none) (Value.none) (Value.str (Str.ofString "alikeheap.terms") 250) (none) (Value.ref 113) (Value.none)), #[]⟩),
  (120, { cls := Value.type "code", data := Data.fields #[Value.str (Str.ofString "put") 314, Value.str (Str.ofString "Bank.put") 315, Value.str (Str.ofString "/claim/cut.py") 316, Value.int 42 0, Value.int 2 0, Value.int 0 0, Value.int 0 0, Value.int 3 0, Value.ref 115, Value.bool true, Value.int 181 0, Value.ref 116, Value.none, Value.ref 117, Value.ref 118, Value.ref 119, Value.int 319 0, Value.int 42 0, Value.str (Str.ofString "/claim/cut.py") 320] }),
  (121, ⟨Value.type "function", none, .func (fnP (stIn (stAt PW 8) 4) (Str.ofString "Bank.put") ([]) (Value.none) (Value.none) (Value.none) (Value.str (Str.ofString "alikeheap.terms") 250) (none) (Value.ref 120) (Value.none)), #[]⟩),
  (127, { cls := Value.type "code", data := Data.fields #[Value.str (Str.ofString "put_all") 322, Value.str (Str.ofString "Bank.put_all") 323, Value.str (Str.ofString "/claim/cut.py") 324, Value.int 45 0, Value.int 2 0, Value.int 0 0, Value.int 0 0, Value.int 3 0, Value.ref 122, Value.bool true, Value.int 181 0, Value.ref 123, Value.none, Value.ref 124, Value.ref 125, Value.ref 126, Value.int 327 0, Value.int 45 0, Value.str (Str.ofString "/claim/cut.py") 328] }),
  (128, ⟨Value.type "function", none, .func (fnP (stIn (stAt PW 8) 5) (Str.ofString "Bank.put_all") ([]) (Value.none) (Value.none) (Value.none) (Value.str (Str.ofString "alikeheap.terms") 250) (none) (Value.ref 127) (Value.none)), #[]⟩),
  (134, { cls := Value.type "code", data := Data.fields #[Value.str (Str.ofString "cut") 330, Value.str (Str.ofString "Bank.cut") 331, Value.str (Str.ofString "/claim/cut.py") 332, Value.int 48 0, Value.int 2 0, Value.int 0 0, Value.int 0 0, Value.int 3 0, Value.ref 129, Value.bool true, Value.int 181 0, Value.ref 130, Value.none, Value.ref 131, Value.ref 132, Value.ref 133, Value.int 335 0, Value.int 48 0, Value.str (Str.ofString "/claim/cut.py") 336] }),
  (135, ⟨Value.type "function", none, .func (fnP (stIn (stAt PW 8) 6) (Str.ofString "Bank.cut") ([]) (Value.none) (Value.none) (Value.none) (Value.str (Str.ofString "alikeheap.terms") 250) (none) (Value.ref 134) (Value.none)), #[]⟩),
  (141, { cls := Value.type "code", data := Data.fields #[Value.str (Str.ofString "op") 338, Value.str (Str.ofString "Bank.op") 339, Value.str (Str.ofString "/claim/cut.py") 340, Value.int 51 0, Value.int 2 0, Value.int 0 0, Value.int 0 0, Value.int 3 0, Value.ref 136, Value.bool true, Value.int 181 0, Value.ref 137, Value.none, Value.ref 138, Value.ref 139, Value.ref 140, Value.int 343 0, Value.int 51 0, Value.str (Str.ofString "/claim/cut.py") 344] }),
  (142, ⟨Value.type "function", none, .func (fnP (stIn (stAt PW 8) 7) (Str.ofString "Bank.op") ([]) (Value.none) (Value.none) (Value.none) (Value.str (Str.ofString "alikeheap.terms") 250) (none) (Value.ref 141) (Value.none)), #[]⟩),
  (148, { cls := Value.type "code", data := Data.fields #[Value.str (Str.ofString "kids") 346, Value.str (Str.ofString "Bank.kids") 347, Value.str (Str.ofString "/claim/cut.py") 348, Value.int 54 0, Value.int 2 0, Value.int 0 0, Value.int 0 0, Value.int 3 0, Value.ref 143, Value.bool true, Value.int 181 0, Value.ref 144, Value.none, Value.ref 145, Value.ref 146, Value.ref 147, Value.int 351 0, Value.int 54 0, Value.str (Str.ofString "/claim/cut.py") 352] }),
  (149, ⟨Value.type "function", none, .func (fnP (stIn (stAt PW 8) 8) (Str.ofString "Bank.kids") ([]) (Value.none) (Value.none) (Value.none) (Value.str (Str.ofString "alikeheap.terms") 250) (none) (Value.ref 148) (Value.none)), #[]⟩),
  (155, { cls := Value.type "code", data := Data.fields #[Value.str (Str.ofString "node") 354, Value.str (Str.ofString "Bank.node") 355, Value.str (Str.ofString "/claim/cut.py") 356, Value.int 57 0, Value.int 2 0, Value.int 0 0, Value.int 0 0, Value.int 3 0, Value.ref 150, Value.bool true, Value.int 181 0, Value.ref 151, Value.none, Value.ref 152, Value.ref 153, Value.ref 154, Value.int 359 0, Value.int 57 0, Value.str (Str.ofString "/claim/cut.py") 360] }),
  (156, ⟨Value.type "function", none, .func (fnP (stIn (stAt PW 8) 9) (Str.ofString "Bank.node") ([]) (Value.none) (Value.none) (Value.none) (Value.str (Str.ofString "alikeheap.terms") 250) (none) (Value.ref 155) (Value.none)), #[]⟩),
  (160, { cls := Value.type "code", data := Data.fields #[Value.str (Str.ofString "term") 362, Value.str (Str.ofString "Bank.term") 363, Value.str (Str.ofString "/claim/cut.py") 364, Value.int 60 0, Value.int 2 0, Value.int 0 0, Value.int 0 0, Value.int 3 0, Value.ref 157, Value.bool true, Value.int 181 0, Value.ref 158, Value.none, Value.none, Value.none, Value.ref 159, Value.int 365 0, Value.int 60 0, Value.str (Str.ofString "/claim/cut.py") 366] }),
  (161, ⟨Value.type "function", none, .func (fnP (stIn (stAt PW 8) 10) (Str.ofString "Bank.term") ([]) (Value.none) (Value.none) (Value.none) (Value.str (Str.ofString "alikeheap.terms") 250) (none) (Value.ref 160) (Value.none)), #[]⟩),
  (167, { cls := Value.type "code", data := Data.fields #[Value.str (Str.ofString "weight") 368, Value.str (Str.ofString "Bank.weight") 369, Value.str (Str.ofString "/claim/cut.py") 370, Value.int 72 0, Value.int 2 0, Value.int 0 0, Value.int 0 0, Value.int 3 0, Value.ref 162, Value.bool true, Value.int 181 0, Value.ref 163, Value.none, Value.ref 164, Value.ref 165, Value.ref 166, Value.int 373 0, Value.int 72 0, Value.str (Str.ofString "/claim/cut.py") 374] }),
  (168, ⟨Value.type "function", none, .func (fnP (stIn (stAt PW 8) 11) (Str.ofString "Bank.weight") ([]) (Value.none) (Value.none) (Value.none) (Value.str (Str.ofString "alikeheap.terms") 250) (none) (Value.ref 167) (Value.none)), #[]⟩),
  (174, { cls := Value.type "code", data := Data.fields #[Value.str (Str.ofString "depth") 376, Value.str (Str.ofString "Bank.depth") 377, Value.str (Str.ofString "/claim/cut.py") 378, Value.int 75 0, Value.int 2 0, Value.int 0 0, Value.int 0 0, Value.int 3 0, Value.ref 169, Value.bool true, Value.int 181 0, Value.ref 170, Value.none, Value.ref 171, Value.ref 172, Value.ref 173, Value.int 381 0, Value.int 75 0, Value.str (Str.ofString "/claim/cut.py") 382] }),
  (175, ⟨Value.type "function", none, .func (fnP (stIn (stAt PW 8) 12) (Str.ofString "Bank.depth") ([]) (Value.none) (Value.none) (Value.none) (Value.str (Str.ofString "alikeheap.terms") 250) (none) (Value.ref 174) (Value.none)), #[]⟩),
  (181, { cls := Value.type "code", data := Data.fields #[Value.str (Str.ofString "seek") 384, Value.str (Str.ofString "Bank.seek") 385, Value.str (Str.ofString "/claim/cut.py") 386, Value.int 78 0, Value.int 3 0, Value.int 0 0, Value.int 0 0, Value.int 3 0, Value.ref 176, Value.bool true, Value.int 181 0, Value.ref 177, Value.none, Value.ref 178, Value.ref 179, Value.ref 180, Value.int 390 0, Value.int 78 0, Value.str (Str.ofString "/claim/cut.py") 391] }),
  (182, ⟨Value.type "function", none, .func (fnP (stIn (stAt PW 8) 13) (Str.ofString "Bank.seek") ([]) (Value.none) (Value.none) (Value.none) (Value.str (Str.ofString "alikeheap.terms") 250) (none) (Value.ref 181) (Value.none)), #[]⟩),
  (184, { cls := Value.type "dict", data := Data.dict #[{ hash := PyData.keyHash P (Str.ofString "__module__"), key := Value.str (Str.ofString "__module__") 278, val := Value.str (Str.ofString "alikeheap.terms") 250 }, { hash := PyData.keyHash P (Str.ofString "__firstlineno__"), key := Value.str (Str.ofString "__firstlineno__") 282, val := Value.int 25 281 }, { hash := PyData.keyHash P (Str.ofString "__init__"), key := Value.str (Str.ofString "__init__") 289, val := Value.ref 93 }, { hash := PyData.keyHash P (Str.ofString "size"), key := Value.str (Str.ofString "size") 296, val := Value.ref 100 }, { hash := PyData.keyHash P (Str.ofString "take"), key := Value.str (Str.ofString "take") 305, val := Value.ref 107 }, { hash := PyData.keyHash P (Str.ofString "require"), key := Value.str (Str.ofString "require") 313, val := Value.ref 114 }, { hash := PyData.keyHash P (Str.ofString "put"), key := Value.str (Str.ofString "put") 321, val := Value.ref 121 }, { hash := PyData.keyHash P (Str.ofString "put_all"), key := Value.str (Str.ofString "put_all") 329, val := Value.ref 128 }, { hash := PyData.keyHash P (Str.ofString "cut"), key := Value.str (Str.ofString "cut") 337, val := Value.ref 135 }, { hash := PyData.keyHash P (Str.ofString "op"), key := Value.str (Str.ofString "op") 345, val := Value.ref 142 }, { hash := PyData.keyHash P (Str.ofString "kids"), key := Value.str (Str.ofString "kids") 353, val := Value.ref 149 }, { hash := PyData.keyHash P (Str.ofString "node"), key := Value.str (Str.ofString "node") 361, val := Value.ref 156 }, { hash := PyData.keyHash P (Str.ofString "term"), key := Value.str (Str.ofString "term") 367, val := Value.ref 161 }, { hash := PyData.keyHash P (Str.ofString "weight"), key := Value.str (Str.ofString "weight") 375, val := Value.ref 168 }, { hash := PyData.keyHash P (Str.ofString "depth"), key := Value.str (Str.ofString "depth") 383, val := Value.ref 175 }, { hash := PyData.keyHash P (Str.ofString "seek"), key := Value.str (Str.ofString "seek") 392, val := Value.ref 182 }, { hash := PyData.keyHash P (Str.ofString "__static_attributes__"), key := Value.str (Str.ofString "__static_attributes__") 397, val := Value.ref 183 }, { hash := PyData.keyHash P (Str.ofString "__dict__"), key := Value.str (Str.ofString "__dict__") 399, val := Value.ref 186 }, { hash := PyData.keyHash P (Str.ofString "__weakref__"), key := Value.str (Str.ofString "__weakref__") 401, val := Value.ref 187 }, { hash := PyData.keyHash P (Str.ofString "__doc__"), key := Value.str (Str.ofString "__doc__") 402, val := Value.none }] 4 }),
  (185, { cls := Value.type "type", data := Data.cls { name := Str.ofString "Bank", bases := [Value.type "object"], mro := [Value.ref 185, Value.type "object"], ns := 184, qualname := Str.ofString "Bank" }, slots := #[none, none, some (Value.str (Str.ofString "Bank") 271), some (Value.str (Str.ofString "Bank") 279), some (Value.builtin "object.__new__"), some (Value.bool true)] }),
  (186, { cls := Value.type "getset_descriptor", data := Data.fields #[Value.str (Str.ofString "__dict__") 398, Value.ref 185, Value.builtin "function.__dict__", Value.builtin "function.__dict__#set"] }),
  (187, { cls := Value.type "getset_descriptor", data := Data.fields #[Value.str (Str.ofString "__weakref__") 400, Value.ref 185, Value.builtin "ExceptionGroup.__weakref__", Value.none] }),
  (202, { cls := Value.type "code", data := Data.fields #[Value.str (Str.ofString "__init__") 419, Value.str (Str.ofString "Walker.__init__") 420, Value.str (Str.ofString "/claim/cut.py") 421, Value.int 83 0, Value.int 2 0, Value.int 0 0, Value.int 0 0, Value.int 3 0, Value.ref 197, Value.bool true, Value.int 181 0, Value.ref 198, Value.none, Value.ref 199, Value.ref 200, Value.ref 201, Value.int 424 0, Value.int 83 0, Value.str (Str.ofString "/claim/cut.py") 425] }),
  (203, ⟨Value.type "function", none, .func (fnP (stIn (stAt PW 10) 0) (Str.ofString "Walker.__init__") ([]) (Value.none) (Value.none) (Value.none) (Value.str (Str.ofString "alikeheap.matching") 405) (none) (Value.ref 202) (Value.none)), #[]⟩),
  (207, { cls := Value.type "code", data := Data.fields #[Value.str (Str.ofString "extended") 427, Value.str (Str.ofString "Walker.extended") 428, Value.str (Str.ofString "/claim/cut.py") 429, Value.int 86 0, Value.int 4 0, Value.int 0 0, Value.int 0 0, Value.int 3 0, Value.ref 204, Value.bool true, Value.int 181 0, Value.ref 205, Value.none, Value.none, Value.none, Value.ref 206, Value.int 430 0, Value.int 86 0, Value.str (Str.ofString "/claim/cut.py") 431] }),
  (208, ⟨Value.type "function", none, .func (fnP (stIn (stAt PW 10) 1) (Str.ofString "Walker.extended") ([]) (Value.none) (Value.none) (Value.none) (Value.str (Str.ofString "alikeheap.matching") 405) (none) (Value.ref 207) (Value.none)), #[]⟩),
  (214, { cls := Value.type "code", data := Data.fields #[Value.str (Str.ofString "found_in") 433, Value.str (Str.ofString "Walker.found_in") 434, Value.str (Str.ofString "/claim/cut.py") 435, Value.int 101 0, Value.int 3 0, Value.int 0 0, Value.int 0 0, Value.int 3 0, Value.ref 209, Value.bool true, Value.int 181 0, Value.ref 210, Value.none, Value.ref 211, Value.ref 212, Value.ref 213, Value.int 441 0, Value.int 101 0, Value.str (Str.ofString "/claim/cut.py") 442] }),
  (215, ⟨Value.type "function", none, .func (fnP (stIn (stAt PW 10) 2) (Str.ofString "Walker.found_in") ([]) (Value.none) (Value.none) (Value.none) (Value.str (Str.ofString "alikeheap.matching") 405) (none) (Value.ref 214) (Value.none)), #[]⟩),
  (219, { cls := Value.type "code", data := Data.fields #[Value.str (Str.ofString "found") 444, Value.str (Str.ofString "Walker.found") 445, Value.str (Str.ofString "/claim/cut.py") 446, Value.int 107 0, Value.int 2 0, Value.int 0 0, Value.int 0 0, Value.int 3 0, Value.ref 216, Value.bool true, Value.int 181 0, Value.ref 217, Value.none, Value.none, Value.none, Value.ref 218, Value.int 447 0, Value.int 107 0, Value.str (Str.ofString "/claim/cut.py") 448] }),
  (220, ⟨Value.type "function", none, .func (fnP (stIn (stAt PW 10) 3) (Str.ofString "Walker.found") ([]) (Value.none) (Value.none) (Value.none) (Value.str (Str.ofString "alikeheap.matching") 405) (none) (Value.ref 219) (Value.none)), #[]⟩),
  (222, { cls := Value.type "dict", data := Data.dict #[{ hash := PyData.keyHash P (Str.ofString "__module__"), key := Value.str (Str.ofString "__module__") 414, val := Value.str (Str.ofString "alikeheap.matching") 405 }, { hash := PyData.keyHash P (Str.ofString "__firstlineno__"), key := Value.str (Str.ofString "__firstlineno__") 418, val := Value.int 81 417 }, { hash := PyData.keyHash P (Str.ofString "__init__"), key := Value.str (Str.ofString "__init__") 426, val := Value.ref 203 }, { hash := PyData.keyHash P (Str.ofString "extended"), key := Value.str (Str.ofString "extended") 432, val := Value.ref 208 }, { hash := PyData.keyHash P (Str.ofString "found_in"), key := Value.str (Str.ofString "found_in") 443, val := Value.ref 215 }, { hash := PyData.keyHash P (Str.ofString "found"), key := Value.str (Str.ofString "found") 449, val := Value.ref 220 }, { hash := PyData.keyHash P (Str.ofString "__static_attributes__"), key := Value.str (Str.ofString "__static_attributes__") 451, val := Value.ref 221 }, { hash := PyData.keyHash P (Str.ofString "__dict__"), key := Value.str (Str.ofString "__dict__") 453, val := Value.ref 224 }, { hash := PyData.keyHash P (Str.ofString "__weakref__"), key := Value.str (Str.ofString "__weakref__") 455, val := Value.ref 225 }, { hash := PyData.keyHash P (Str.ofString "__doc__"), key := Value.str (Str.ofString "__doc__") 456, val := Value.none }] 4 }),
  (223, { cls := Value.type "type", data := Data.cls { name := Str.ofString "Walker", bases := [Value.type "object"], mro := [Value.ref 223, Value.type "object"], ns := 222, qualname := Str.ofString "Walker" }, slots := #[none, none, some (Value.str (Str.ofString "Walker") 407), some (Value.str (Str.ofString "Walker") 415), some (Value.builtin "object.__new__"), some (Value.bool true)] }),
  (224, { cls := Value.type "getset_descriptor", data := Data.fields #[Value.str (Str.ofString "__dict__") 452, Value.ref 223, Value.builtin "function.__dict__", Value.builtin "function.__dict__#set"] }),
  (225, { cls := Value.type "getset_descriptor", data := Data.fields #[Value.str (Str.ofString "__weakref__") 454, Value.ref 223, Value.builtin "ExceptionGroup.__weakref__", Value.none] }),
  (228, { cls := Value.type "tuple", data := Data.seq #[Value.str (Str.ofString "together") 461, Value.str (Str.ofString "turns") 462, Value.str (Str.ofString "rests") 463] }),
  (239, { cls := Value.type "code", data := Data.fields #[Value.str (Str.ofString "__init__") 477, Value.str (Str.ofString "Rule.__init__") 478, Value.str (Str.ofString "/claim/cut.py") 479, Value.int 113 0, Value.int 5 0, Value.int 0 0, Value.int 0 0, Value.int 3 0, Value.ref 236, Value.bool true, Value.int 181 0, Value.ref 237, Value.none, Value.none, Value.none, Value.ref 238, Value.int 480 0, Value.int 113 0, Value.str (Str.ofString "/claim/cut.py") 481] }),
  (240, ⟨Value.type "function", none, .func (fnP (stIn (stAt PW 13) 0) (Str.ofString "Rule.__init__") ([]) (Value.none) (Value.none) (Value.none) (Value.str (Str.ofString "alikeheap.rules") 459) (none) (Value.ref 239) (Value.none)), #[]⟩),
  (246, { cls := Value.type "code", data := Data.fields #[Value.str (Str.ofString "turned") 483, Value.str (Str.ofString "Rule.turned") 484, Value.str (Str.ofString "/claim/cut.py") 485, Value.int 129 0, Value.int 1 0, Value.int 0 0, Value.int 0 0, Value.int 3 0, Value.ref 241, Value.bool true, Value.int 181 0, Value.ref 242, Value.none, Value.ref 243, Value.ref 244, Value.ref 245, Value.int 487 0, Value.int 129 0, Value.str (Str.ofString "/claim/cut.py") 488] }),
  (247, ⟨Value.type "function", none, .func (fnP (stIn (stAt PW 13) 1) (Str.ofString "Rule.turned") ([]) (Value.none) (Value.none) (Value.none) (Value.str (Str.ofString "alikeheap.rules") 459) (none) (Value.ref 246) (Value.none)), #[]⟩),
  (249, { cls := Value.type "dict", data := Data.dict #[{ hash := PyData.keyHash P (Str.ofString "__module__"), key := Value.str (Str.ofString "__module__") 472, val := Value.str (Str.ofString "alikeheap.rules") 459 }, { hash := PyData.keyHash P (Str.ofString "__firstlineno__"), key := Value.str (Str.ofString "__firstlineno__") 476, val := Value.int 111 475 }, { hash := PyData.keyHash P (Str.ofString "__init__"), key := Value.str (Str.ofString "__init__") 482, val := Value.ref 240 }, { hash := PyData.keyHash P (Str.ofString "turned"), key := Value.str (Str.ofString "turned") 489, val := Value.ref 247 }, { hash := PyData.keyHash P (Str.ofString "__static_attributes__"), key := Value.str (Str.ofString "__static_attributes__") 494, val := Value.ref 248 }, { hash := PyData.keyHash P (Str.ofString "__dict__"), key := Value.str (Str.ofString "__dict__") 496, val := Value.ref 251 }, { hash := PyData.keyHash P (Str.ofString "__weakref__"), key := Value.str (Str.ofString "__weakref__") 498, val := Value.ref 252 }, { hash := PyData.keyHash P (Str.ofString "__doc__"), key := Value.str (Str.ofString "__doc__") 499, val := Value.none }] 4 }),
  (250, { cls := Value.type "type", data := Data.cls { name := Str.ofString "Rule", bases := [Value.type "object"], mro := [Value.ref 250, Value.type "object"], ns := 249, qualname := Str.ofString "Rule" }, slots := #[none, none, some (Value.str (Str.ofString "Rule") 465), some (Value.str (Str.ofString "Rule") 473), some (Value.builtin "object.__new__"), some (Value.bool true)] }),
  (251, { cls := Value.type "getset_descriptor", data := Data.fields #[Value.str (Str.ofString "__dict__") 495, Value.ref 250, Value.builtin "function.__dict__", Value.builtin "function.__dict__#set"] }),
  (252, { cls := Value.type "getset_descriptor", data := Data.fields #[Value.str (Str.ofString "__weakref__") 497, Value.ref 250, Value.builtin "ExceptionGroup.__weakref__", Value.none] }),
  (267, { cls := Value.type "code", data := Data.fields #[Value.str (Str.ofString "__init__") 514, Value.str (Str.ofString "Placer.__init__") 515, Value.str (Str.ofString "/claim/cut.py") 516, Value.int 133 0, Value.int 2 0, Value.int 0 0, Value.int 0 0, Value.int 3 0, Value.ref 262, Value.bool true, Value.int 181 0, Value.ref 263, Value.none, Value.ref 264, Value.ref 265, Value.ref 266, Value.int 519 0, Value.int 133 0, Value.str (Str.ofString "/claim/cut.py") 520] }),
  (268, ⟨Value.type "function", none, .func (fnP (stIn (stAt PW 14) 0) (Str.ofString "Placer.__init__") ([]) (Value.none) (Value.none) (Value.none) (Value.str (Str.ofString "alikeheap.rules") 459) (none) (Value.ref 267) (Value.none)), #[]⟩),
  (274, { cls := Value.type "code", data := Data.fields #[Value.str (Str.ofString "put") 522, Value.str (Str.ofString "Placer.put") 523, Value.str (Str.ofString "/claim/cut.py") 524, Value.int 136 0, Value.int 3 0, Value.int 0 0, Value.int 0 0, Value.int 3 0, Value.ref 269, Value.bool true, Value.int 181 0, Value.ref 270, Value.none, Value.ref 271, Value.ref 272, Value.ref 273, Value.int 528 0, Value.int 136 0, Value.str (Str.ofString "/claim/cut.py") 529] }),
  (275, ⟨Value.type "function", none, .func (fnP (stIn (stAt PW 14) 1) (Str.ofString "Placer.put") ([]) (Value.none) (Value.none) (Value.none) (Value.str (Str.ofString "alikeheap.rules") 459) (none) (Value.ref 274) (Value.none)), #[]⟩),
  (281, { cls := Value.type "code", data := Data.fields #[Value.str (Str.ofString "class_of") 531, Value.str (Str.ofString "Placer.class_of") 532, Value.str (Str.ofString "/claim/cut.py") 533, Value.int 139 0, Value.int 3 0, Value.int 0 0, Value.int 0 0, Value.int 3 0, Value.ref 276, Value.bool true, Value.int 181 0, Value.ref 277, Value.none, Value.ref 278, Value.ref 279, Value.ref 280, Value.int 537 0, Value.int 139 0, Value.str (Str.ofString "/claim/cut.py") 538] }),
  (282, ⟨Value.type "function", none, .func (fnP (stIn (stAt PW 14) 2) (Str.ofString "Placer.class_of") ([]) (Value.none) (Value.none) (Value.none) (Value.str (Str.ofString "alikeheap.rules") 459) (none) (Value.ref 281) (Value.none)), #[]⟩),
  (288, { cls := Value.type "code", data := Data.fields #[Value.str (Str.ofString "holds") 540, Value.str (Str.ofString "Placer.holds") 541, Value.str (Str.ofString "/claim/cut.py") 542, Value.int 142 0, Value.int 3 0, Value.int 0 0, Value.int 0 0, Value.int 3 0, Value.ref 283, Value.bool true, Value.int 181 0, Value.ref 284, Value.none, Value.ref 285, Value.ref 286, Value.ref 287, Value.int 546 0, Value.int 142 0, Value.str (Str.ofString "/claim/cut.py") 547] }),
  (289, ⟨Value.type "function", none, .func (fnP (stIn (stAt PW 14) 3) (Str.ofString "Placer.holds") ([]) (Value.none) (Value.none) (Value.none) (Value.str (Str.ofString "alikeheap.rules") 459) (none) (Value.ref 288) (Value.none)), #[]⟩),
  (291, { cls := Value.type "dict", data := Data.dict #[{ hash := PyData.keyHash P (Str.ofString "__module__"), key := Value.str (Str.ofString "__module__") 509, val := Value.str (Str.ofString "alikeheap.rules") 459 }, { hash := PyData.keyHash P (Str.ofString "__firstlineno__"), key := Value.str (Str.ofString "__firstlineno__") 513, val := Value.int 131 512 }, { hash := PyData.keyHash P (Str.ofString "__init__"), key := Value.str (Str.ofString "__init__") 521, val := Value.ref 268 }, { hash := PyData.keyHash P (Str.ofString "put"), key := Value.str (Str.ofString "put") 530, val := Value.ref 275 }, { hash := PyData.keyHash P (Str.ofString "class_of"), key := Value.str (Str.ofString "class_of") 539, val := Value.ref 282 }, { hash := PyData.keyHash P (Str.ofString "holds"), key := Value.str (Str.ofString "holds") 548, val := Value.ref 289 }, { hash := PyData.keyHash P (Str.ofString "__static_attributes__"), key := Value.str (Str.ofString "__static_attributes__") 550, val := Value.ref 290 }, { hash := PyData.keyHash P (Str.ofString "__dict__"), key := Value.str (Str.ofString "__dict__") 552, val := Value.ref 293 }, { hash := PyData.keyHash P (Str.ofString "__weakref__"), key := Value.str (Str.ofString "__weakref__") 554, val := Value.ref 294 }, { hash := PyData.keyHash P (Str.ofString "__doc__"), key := Value.str (Str.ofString "__doc__") 555, val := Value.none }] 4 }),
  (292, { cls := Value.type "type", data := Data.cls { name := Str.ofString "Placer", bases := [Value.type "object"], mro := [Value.ref 292, Value.type "object"], ns := 291, qualname := Str.ofString "Placer" }, slots := #[none, none, some (Value.str (Str.ofString "Placer") 502), some (Value.str (Str.ofString "Placer") 510), some (Value.builtin "object.__new__"), some (Value.bool true)] }),
  (293, { cls := Value.type "getset_descriptor", data := Data.fields #[Value.str (Str.ofString "__dict__") 551, Value.ref 292, Value.builtin "function.__dict__", Value.builtin "function.__dict__#set"] }),
  (294, { cls := Value.type "getset_descriptor", data := Data.fields #[Value.str (Str.ofString "__weakref__") 553, Value.ref 292, Value.builtin "ExceptionGroup.__weakref__", Value.none] }),
  (307, { cls := Value.type "code", data := Data.fields #[Value.str (Str.ofString "__init__") 570, Value.str (Str.ofString "Runner.__init__") 571, Value.str (Str.ofString "/claim/cut.py") 572, Value.int 146 0, Value.int 4 0, Value.int 0 0, Value.int 0 0, Value.int 3 0, Value.ref 304, Value.bool true, Value.int 181 0, Value.ref 305, Value.none, Value.none, Value.none, Value.ref 306, Value.int 573 0, Value.int 146 0, Value.str (Str.ofString "/claim/cut.py") 574] }),
  (308, ⟨Value.type "function", none, .func (fnP (stIn (stAt PW 15) 0) (Str.ofString "Runner.__init__") ([]) (Value.none) (Value.none) (Value.none) (Value.str (Str.ofString "alikeheap.rules") 459) (none) (Value.ref 307) (Value.none)), #[]⟩),
  (314, { cls := Value.type "code", data := Data.fields #[Value.str (Str.ofString "is_full") 576, Value.str (Str.ofString "Runner.is_full") 577, Value.str (Str.ofString "/claim/cut.py") 578, Value.int 162 0, Value.int 1 0, Value.int 0 0, Value.int 0 0, Value.int 3 0, Value.ref 309, Value.bool true, Value.int 181 0, Value.ref 310, Value.none, Value.ref 311, Value.ref 312, Value.ref 313, Value.int 580 0, Value.int 162 0, Value.str (Str.ofString "/claim/cut.py") 581] }),
  (315, ⟨Value.type "function", none, .func (fnP (stIn (stAt PW 15) 1) (Str.ofString "Runner.is_full") ([]) (Value.none) (Value.none) (Value.none) (Value.str (Str.ofString "alikeheap.rules") 459) (none) (Value.ref 314) (Value.none)), #[]⟩),
  (321, { cls := Value.type "code", data := Data.fields #[Value.str (Str.ofString "matches") 583, Value.str (Str.ofString "Runner.matches") 584, Value.str (Str.ofString "/claim/cut.py") 585, Value.int 165 0, Value.int 2 0, Value.int 0 0, Value.int 0 0, Value.int 3 0, Value.ref 316, Value.bool true, Value.int 181 0, Value.ref 317, Value.none, Value.ref 318, Value.ref 319, Value.ref 320, Value.int 589 0, Value.int 165 0, Value.str (Str.ofString "/claim/cut.py") 590] }),
  (322, ⟨Value.type "function", none, .func (fnP (stIn (stAt PW 15) 2) (Str.ofString "Runner.matches") ([]) (Value.none) (Value.none) (Value.none) (Value.str (Str.ofString "alikeheap.rules") 459) (none) (Value.ref 321) (Value.none)), #[]⟩),
  (328, { cls := Value.type "code", data := Data.fields #[Value.str (Str.ofString "apply") 592, Value.str (Str.ofString "Runner.apply") 593, Value.str (Str.ofString "/claim/cut.py") 594, Value.int 176 0, Value.int 3 0, Value.int 0 0, Value.int 0 0, Value.int 3 0, Value.ref 323, Value.bool true, Value.int 181 0, Value.ref 324, Value.none, Value.ref 325, Value.ref 326, Value.ref 327, Value.int 598 0, Value.int 176 0, Value.str (Str.ofString "/claim/cut.py") 599] }),
  (329, ⟨Value.type "function", none, .func (fnP (stIn (stAt PW 15) 3) (Str.ofString "Runner.apply") ([]) (Value.none) (Value.none) (Value.none) (Value.str (Str.ofString "alikeheap.rules") 459) (none) (Value.ref 328) (Value.none)), #[]⟩),
  (335, { cls := Value.type "code", data := Data.fields #[Value.str (Str.ofString "apply_all") 601, Value.str (Str.ofString "Runner.apply_all") 602, Value.str (Str.ofString "/claim/cut.py") 603, Value.int 179 0, Value.int 3 0, Value.int 0 0, Value.int 0 0, Value.int 3 0, Value.ref 330, Value.bool true, Value.int 181 0, Value.ref 331, Value.none, Value.ref 332, Value.ref 333, Value.ref 334, Value.int 607 0, Value.int 179 0, Value.str (Str.ofString "/claim/cut.py") 608] }),
  (336, ⟨Value.type "function", none, .func (fnP (stIn (stAt PW 15) 4) (Str.ofString "Runner.apply_all") ([]) (Value.none) (Value.none) (Value.none) (Value.str (Str.ofString "alikeheap.rules") 459) (none) (Value.ref 335) (Value.none)), #[]⟩),
  (342, { cls := Value.type "code", data := Data.fields #[Value.str (Str.ofString "one_round") 610, Value.str (Str.ofString "Runner.one_round") 611, Value.str (Str.ofString "/claim/cut.py") 612, Value.int 182 0, Value.int 1 0, Value.int 0 0, Value.int 0 0, Value.int 3 0, Value.ref 337, Value.bool true, Value.int 181 0, Value.ref 338, Value.none, Value.ref 339, Value.ref 340, Value.ref 341, Value.int 614 0, Value.int 182 0, Value.str (Str.ofString "/claim/cut.py") 615] }),
  (343, ⟨Value.type "function", none, .func (fnP (stIn (stAt PW 15) 5) (Str.ofString "Runner.one_round") ([]) (Value.none) (Value.none) (Value.none) (Value.str (Str.ofString "alikeheap.rules") 459) (none) (Value.ref 342) (Value.none)), #[]⟩),
  (349, { cls := Value.type "code", data := Data.fields #[Value.str (Str.ofString "run") 617, Value.str (Str.ofString "Runner.run") 618, Value.str (Str.ofString "/claim/cut.py") 619, Value.int 185 0, Value.int 1 0, Value.int 0 0, Value.int 0 0, Value.int 3 0, Value.ref 344, Value.bool true, Value.int 181 0, Value.ref 345, Value.none, Value.ref 346, Value.ref 347, Value.ref 348, Value.int 621 0, Value.int 185 0, Value.str (Str.ofString "/claim/cut.py") 622] }),
  (350, ⟨Value.type "function", none, .func (fnP (stIn (stAt PW 15) 6) (Str.ofString "Runner.run") ([]) (Value.none) (Value.none) (Value.none) (Value.str (Str.ofString "alikeheap.rules") 459) (none) (Value.ref 349) (Value.none)), #[]⟩),
  (352, { cls := Value.type "dict", data := Data.dict #[{ hash := PyData.keyHash P (Str.ofString "__module__"), key := Value.str (Str.ofString "__module__") 565, val := Value.str (Str.ofString "alikeheap.rules") 459 }, { hash := PyData.keyHash P (Str.ofString "__firstlineno__"), key := Value.str (Str.ofString "__firstlineno__") 569, val := Value.int 144 568 }, { hash := PyData.keyHash P (Str.ofString "__init__"), key := Value.str (Str.ofString "__init__") 575, val := Value.ref 308 }, { hash := PyData.keyHash P (Str.ofString "is_full"), key := Value.str (Str.ofString "is_full") 582, val := Value.ref 315 }, { hash := PyData.keyHash P (Str.ofString "matches"), key := Value.str (Str.ofString "matches") 591, val := Value.ref 322 }, { hash := PyData.keyHash P (Str.ofString "apply"), key := Value.str (Str.ofString "apply") 600, val := Value.ref 329 }, { hash := PyData.keyHash P (Str.ofString "apply_all"), key := Value.str (Str.ofString "apply_all") 609, val := Value.ref 336 }, { hash := PyData.keyHash P (Str.ofString "one_round"), key := Value.str (Str.ofString "one_round") 616, val := Value.ref 343 }, { hash := PyData.keyHash P (Str.ofString "run"), key := Value.str (Str.ofString "run") 623, val := Value.ref 350 }, { hash := PyData.keyHash P (Str.ofString "__static_attributes__"), key := Value.str (Str.ofString "__static_attributes__") 633, val := Value.ref 351 }, { hash := PyData.keyHash P (Str.ofString "__dict__"), key := Value.str (Str.ofString "__dict__") 635, val := Value.ref 354 }, { hash := PyData.keyHash P (Str.ofString "__weakref__"), key := Value.str (Str.ofString "__weakref__") 637, val := Value.ref 355 }, { hash := PyData.keyHash P (Str.ofString "__doc__"), key := Value.str (Str.ofString "__doc__") 638, val := Value.none }] 4 }),
  (353, { cls := Value.type "type", data := Data.cls { name := Str.ofString "Runner", bases := [Value.type "object"], mro := [Value.ref 353, Value.type "object"], ns := 352, qualname := Str.ofString "Runner" }, slots := #[none, none, some (Value.str (Str.ofString "Runner") 558), some (Value.str (Str.ofString "Runner") 566), some (Value.builtin "object.__new__"), some (Value.bool true)] }),
  (354, { cls := Value.type "getset_descriptor", data := Data.fields #[Value.str (Str.ofString "__dict__") 634, Value.ref 353, Value.builtin "function.__dict__", Value.builtin "function.__dict__#set"] }),
  (355, { cls := Value.type "getset_descriptor", data := Data.fields #[Value.str (Str.ofString "__weakref__") 636, Value.ref 353, Value.builtin "ExceptionGroup.__weakref__", Value.none] }),
  (370, { cls := Value.type "code", data := Data.fields #[Value.str (Str.ofString "__init__") 655, Value.str (Str.ofString "Unions.__init__") 656, Value.str (Str.ofString "/claim/cut.py") 657, Value.int 190 0, Value.int 1 0, Value.int 0 0, Value.int 0 0, Value.int 3 0, Value.ref 365, Value.bool true, Value.int 181 0, Value.ref 366, Value.none, Value.ref 367, Value.ref 368, Value.ref 369, Value.int 659 0, Value.int 190 0, Value.str (Str.ofString "/claim/cut.py") 660] }),
  (371, ⟨Value.type "function", none, .func (fnP (stIn (stAt PW 17) 0) (Str.ofString "Unions.__init__") ([]) (Value.none) (Value.none) (Value.none) (Value.str (Str.ofString "alikeheap.unions") 641) (none) (Value.ref 370) (Value.none)), #[]⟩),
  (377, { cls := Value.type "code", data := Data.fields #[Value.str (Str.ofString "make") 662, Value.str (Str.ofString "Unions.make") 663, Value.str (Str.ofString "/claim/cut.py") 664, Value.int 195 0, Value.int 1 0, Value.int 0 0, Value.int 0 0, Value.int 3 0, Value.ref 372, Value.bool true, Value.int 181 0, Value.ref 373, Value.none, Value.ref 374, Value.ref 375, Value.ref 376, Value.int 666 0, Value.int 195 0, Value.str (Str.ofString "/claim/cut.py") 667] }),
  (378, ⟨Value.type "function", none, .func (fnP (stIn (stAt PW 17) 1) (Str.ofString "Unions.make") ([]) (Value.none) (Value.none) (Value.none) (Value.str (Str.ofString "alikeheap.unions") 641) (none) (Value.ref 377) (Value.none)), #[]⟩),
  (384, { cls := Value.type "code", data := Data.fields #[Value.str (Str.ofString "size") 669, Value.str (Str.ofString "Unions.size") 670, Value.str (Str.ofString "/claim/cut.py") 671, Value.int 200 0, Value.int 1 0, Value.int 0 0, Value.int 0 0, Value.int 3 0, Value.ref 379, Value.bool true, Value.int 181 0, Value.ref 380, Value.none, Value.ref 381, Value.ref 382, Value.ref 383, Value.int 673 0, Value.int 200 0, Value.str (Str.ofString "/claim/cut.py") 674] }),
  (385, ⟨Value.type "function", none, .func (fnP (stIn (stAt PW 17) 2) (Str.ofString "Unions.size") ([]) (Value.none) (Value.none) (Value.none) (Value.str (Str.ofString "alikeheap.unions") 641) (none) (Value.ref 384) (Value.none)), #[]⟩),
  (391, { cls := Value.type "code", data := Data.fields #[Value.str (Str.ofString "find") 676, Value.str (Str.ofString "Unions.find") 677, Value.str (Str.ofString "/claim/cut.py") 678, Value.int 203 0, Value.int 2 0, Value.int 0 0, Value.int 0 0, Value.int 3 0, Value.ref 386, Value.bool true, Value.int 181 0, Value.ref 387, Value.none, Value.ref 388, Value.ref 389, Value.ref 390, Value.int 681 0, Value.int 203 0, Value.str (Str.ofString "/claim/cut.py") 682] }),
  (392, ⟨Value.type "function", none, .func (fnP (stIn (stAt PW 17) 3) (Str.ofString "Unions.find") ([]) (Value.none) (Value.none) (Value.none) (Value.str (Str.ofString "alikeheap.unions") 641) (none) (Value.ref 391) (Value.none)), #[]⟩),
  (398, { cls := Value.type "code", data := Data.fields #[Value.str (Str.ofString "merge") 684, Value.str (Str.ofString "Unions.merge") 685, Value.str (Str.ofString "/claim/cut.py") 686, Value.int 208 0, Value.int 3 0, Value.int 0 0, Value.int 0 0, Value.int 3 0, Value.ref 393, Value.bool true, Value.int 181 0, Value.ref 394, Value.none, Value.ref 395, Value.ref 396, Value.ref 397, Value.int 690 0, Value.int 208 0, Value.str (Str.ofString "/claim/cut.py") 691] }),
  (399, ⟨Value.type "function", none, .func (fnP (stIn (stAt PW 17) 4) (Str.ofString "Unions.merge") ([]) (Value.none) (Value.none) (Value.none) (Value.str (Str.ofString "alikeheap.unions") 641) (none) (Value.ref 398) (Value.none)), #[]⟩),
  (405, { cls := Value.type "code", data := Data.fields #[Value.str (Str.ofString "members") 693, Value.str (Str.ofString "Unions.members") 694, Value.str (Str.ofString "/claim/cut.py") 695, Value.int 211 0, Value.int 2 0, Value.int 0 0, Value.int 0 0, Value.int 3 0, Value.ref 400, Value.bool true, Value.int 181 0, Value.ref 401, Value.none, Value.ref 402, Value.ref 403, Value.ref 404, Value.int 698 0, Value.int 211 0, Value.str (Str.ofString "/claim/cut.py") 699] }),
  (406, ⟨Value.type "function", none, .func (fnP (stIn (stAt PW 17) 5) (Str.ofString "Unions.members") ([]) (Value.none) (Value.none) (Value.none) (Value.str (Str.ofString "alikeheap.unions") 641) (none) (Value.ref 405) (Value.none)), #[]⟩),
  (410, { cls := Value.type "code", data := Data.fields #[Value.str (Str.ofString "classes") 701, Value.str (Str.ofString "Unions.classes") 702, Value.str (Str.ofString "/claim/cut.py") 703, Value.int 214 0, Value.int 1 0, Value.int 0 0, Value.int 0 0, Value.int 3 0, Value.ref 407, Value.bool true, Value.int 181 0, Value.ref 408, Value.none, Value.none, Value.none, Value.ref 409, Value.int 704 0, Value.int 214 0, Value.str (Str.ofString "/claim/cut.py") 705] }),
  (411, ⟨Value.type "function", none, .func (fnP (stIn (stAt PW 17) 6) (Str.ofString "Unions.classes") ([]) (Value.none) (Value.none) (Value.none) (Value.str (Str.ofString "alikeheap.unions") 641) (none) (Value.ref 410) (Value.none)), #[]⟩),
  (417, { cls := Value.type "code", data := Data.fields #[Value.str (Str.ofString "log") 707, Value.str (Str.ofString "Unions.log") 708, Value.str (Str.ofString "/claim/cut.py") 709, Value.int 217 0, Value.int 1 0, Value.int 0 0, Value.int 0 0, Value.int 3 0, Value.ref 412, Value.bool true, Value.int 181 0, Value.ref 413, Value.none, Value.ref 414, Value.ref 415, Value.ref 416, Value.int 711 0, Value.int 217 0, Value.str (Str.ofString "/claim/cut.py") 712] }),
  (418, ⟨Value.type "function", none, .func (fnP (stIn (stAt PW 17) 7) (Str.ofString "Unions.log") ([]) (Value.none) (Value.none) (Value.none) (Value.str (Str.ofString "alikeheap.unions") 641) (none) (Value.ref 417) (Value.none)), #[]⟩),
  (424, { cls := Value.type "code", data := Data.fields #[Value.str (Str.ofString "back") 714, Value.str (Str.ofString "Unions.back") 715, Value.str (Str.ofString "/claim/cut.py") 716, Value.int 220 0, Value.int 2 0, Value.int 0 0, Value.int 0 0, Value.int 3 0, Value.ref 419, Value.bool true, Value.int 181 0, Value.ref 420, Value.none, Value.ref 421, Value.ref 422, Value.ref 423, Value.int 721 0, Value.int 220 0, Value.str (Str.ofString "/claim/cut.py") 722] }),
  (425, ⟨Value.type "function", none, .func (fnP (stIn (stAt PW 17) 8) (Str.ofString "Unions.back") ([]) (Value.none) (Value.none) (Value.none) (Value.str (Str.ofString "alikeheap.unions") 641) (none) (Value.ref 424) (Value.none)), #[]⟩),
  (431, { cls := Value.type "code", data := Data.fields #[Value.str (Str.ofString "cut") 724, Value.str (Str.ofString "Unions.cut") 725, Value.str (Str.ofString "/claim/cut.py") 726, Value.int 226 0, Value.int 2 0, Value.int 0 0, Value.int 0 0, Value.int 3 0, Value.ref 426, Value.bool true, Value.int 181 0, Value.ref 427, Value.none, Value.ref 428, Value.ref 429, Value.ref 430, Value.int 729 0, Value.int 226 0, Value.str (Str.ofString "/claim/cut.py") 730] }),
  (432, ⟨Value.type "function", none, .func (fnP (stIn (stAt PW 17) 9) (Str.ofString "Unions.cut") ([]) (Value.none) (Value.none) (Value.none) (Value.str (Str.ofString "alikeheap.unions") 641) (none) (Value.ref 431) (Value.none)), #[]⟩),
  (434, { cls := Value.type "dict", data := Data.dict #[{ hash := PyData.keyHash P (Str.ofString "__module__"), key := Value.str (Str.ofString "__module__") 650, val := Value.str (Str.ofString "alikeheap.unions") 641 }, { hash := PyData.keyHash P (Str.ofString "__firstlineno__"), key := Value.str (Str.ofString "__firstlineno__") 654, val := Value.int 188 653 }, { hash := PyData.keyHash P (Str.ofString "__init__"), key := Value.str (Str.ofString "__init__") 661, val := Value.ref 371 }, { hash := PyData.keyHash P (Str.ofString "make"), key := Value.str (Str.ofString "make") 668, val := Value.ref 378 }, { hash := PyData.keyHash P (Str.ofString "size"), key := Value.str (Str.ofString "size") 675, val := Value.ref 385 }, { hash := PyData.keyHash P (Str.ofString "find"), key := Value.str (Str.ofString "find") 683, val := Value.ref 392 }, { hash := PyData.keyHash P (Str.ofString "merge"), key := Value.str (Str.ofString "merge") 692, val := Value.ref 399 }, { hash := PyData.keyHash P (Str.ofString "members"), key := Value.str (Str.ofString "members") 700, val := Value.ref 406 }, { hash := PyData.keyHash P (Str.ofString "classes"), key := Value.str (Str.ofString "classes") 706, val := Value.ref 411 }, { hash := PyData.keyHash P (Str.ofString "log"), key := Value.str (Str.ofString "log") 713, val := Value.ref 418 }, { hash := PyData.keyHash P (Str.ofString "back"), key := Value.str (Str.ofString "back") 723, val := Value.ref 425 }, { hash := PyData.keyHash P (Str.ofString "cut"), key := Value.str (Str.ofString "cut") 731, val := Value.ref 432 }, { hash := PyData.keyHash P (Str.ofString "__static_attributes__"), key := Value.str (Str.ofString "__static_attributes__") 735, val := Value.ref 433 }, { hash := PyData.keyHash P (Str.ofString "__dict__"), key := Value.str (Str.ofString "__dict__") 737, val := Value.ref 436 }, { hash := PyData.keyHash P (Str.ofString "__weakref__"), key := Value.str (Str.ofString "__weakref__") 739, val := Value.ref 437 }, { hash := PyData.keyHash P (Str.ofString "__doc__"), key := Value.str (Str.ofString "__doc__") 740, val := Value.none }] 4 }),
  (435, { cls := Value.type "type", data := Data.cls { name := Str.ofString "Unions", bases := [Value.type "object"], mro := [Value.ref 435, Value.type "object"], ns := 434, qualname := Str.ofString "Unions" }, slots := #[none, none, some (Value.str (Str.ofString "Unions") 643), some (Value.str (Str.ofString "Unions") 651), some (Value.builtin "object.__new__"), some (Value.bool true)] }),
  (436, { cls := Value.type "getset_descriptor", data := Data.fields #[Value.str (Str.ofString "__dict__") 736, Value.ref 435, Value.builtin "function.__dict__", Value.builtin "function.__dict__#set"] }),
  (437, { cls := Value.type "getset_descriptor", data := Data.fields #[Value.str (Str.ofString "__weakref__") 738, Value.ref 435, Value.builtin "ExceptionGroup.__weakref__", Value.none] }),
  (452, { cls := Value.type "code", data := Data.fields #[Value.str (Str.ofString "__init__") 757, Value.str (Str.ofString "Heap.__init__") 758, Value.str (Str.ofString "/claim/cut.py") 759, Value.int 231 0, Value.int 1 0, Value.int 0 0, Value.int 0 0, Value.int 3 0, Value.ref 447, Value.bool true, Value.int 181 0, Value.ref 448, Value.none, Value.ref 449, Value.ref 450, Value.ref 451, Value.int 761 0, Value.int 231 0, Value.str (Str.ofString "/claim/cut.py") 762] }),
  (453, ⟨Value.type "function", none, .func (fnP (stIn (stAt PW 19) 0) (Str.ofString "Heap.__init__") ([]) (Value.none) (Value.none) (Value.none) (Value.str (Str.ofString "alikeheap.heap") 743) (none) (Value.ref 452) (Value.none)), #[]⟩),
  (459, { cls := Value.type "code", data := Data.fields #[Value.str (Str.ofString "size") 764, Value.str (Str.ofString "Heap.size") 765, Value.str (Str.ofString "/claim/cut.py") 766, Value.int 240 0, Value.int 1 0, Value.int 0 0, Value.int 0 0, Value.int 3 0, Value.ref 454, Value.bool true, Value.int 181 0, Value.ref 455, Value.none, Value.ref 456, Value.ref 457, Value.ref 458, Value.int 768 0, Value.int 240 0, Value.str (Str.ofString "/claim/cut.py") 769] }),
  (460, ⟨Value.type "function", none, .func (fnP (stIn (stAt PW 19) 1) (Str.ofString "Heap.size") ([]) (Value.none) (Value.none) (Value.none) (Value.str (Str.ofString "alikeheap.heap") 743) (none) (Value.ref 459) (Value.none)), #[]⟩),
  (464, { cls := Value.type "code", data := Data.fields #[Value.str (Str.ofString "node") 771, Value.str (Str.ofString "Heap.node") 772, Value.str (Str.ofString "/claim/cut.py") 773, Value.int 243 0, Value.int 2 0, Value.int 0 0, Value.int 0 0, Value.int 3 0, Value.ref 461, Value.bool true, Value.int 181 0, Value.ref 462, Value.none, Value.none, Value.none, Value.ref 463, Value.int 774 0, Value.int 243 0, Value.str (Str.ofString "/claim/cut.py") 775] }),
  (465, ⟨Value.type "function", none, .func (fnP (stIn (stAt PW 19) 2) (Str.ofString "Heap.node") ([]) (Value.none) (Value.none) (Value.none) (Value.str (Str.ofString "alikeheap.heap") 743) (none) (Value.ref 464) (Value.none)), #[]⟩),
  (471, { cls := Value.type "code", data := Data.fields #[Value.str (Str.ofString "add") 777, Value.str (Str.ofString "Heap.add") 778, Value.str (Str.ofString "/claim/cut.py") 779, Value.int 246 0, Value.int 3 0, Value.int 0 0, Value.int 0 0, Value.int 3 0, Value.ref 466, Value.bool true, Value.int 181 0, Value.ref 467, Value.none, Value.ref 468, Value.ref 469, Value.ref 470, Value.int 783 0, Value.int 246 0, Value.str (Str.ofString "/claim/cut.py") 784] }),
  (472, ⟨Value.type "function", none, .func (fnP (stIn (stAt PW 19) 3) (Str.ofString "Heap.add") ([]) (Value.none) (Value.none) (Value.none) (Value.str (Str.ofString "alikeheap.heap") 743) (none) (Value.ref 471) (Value.none)), #[]⟩),
  (478, { cls := Value.type "code", data := Data.fields #[Value.str (Str.ofString "put") 786, Value.str (Str.ofString "Heap.put") 787, Value.str (Str.ofString "/claim/cut.py") 788, Value.int 249 0, Value.int 2 0, Value.int 0 0, Value.int 0 0, Value.int 3 0, Value.ref 473, Value.bool true, Value.int 181 0, Value.ref 474, Value.none, Value.ref 475, Value.ref 476, Value.ref 477, Value.int 791 0, Value.int 249 0, Value.str (Str.ofString "/claim/cut.py") 792] }),
  (479, ⟨Value.type "function", none, .func (fnP (stIn (stAt PW 19) 4) (Str.ofString "Heap.put") ([]) (Value.none) (Value.none) (Value.none) (Value.str (Str.ofString "alikeheap.heap") 743) (none) (Value.ref 478) (Value.none)), #[]⟩),
  (485, { cls := Value.type "code", data := Data.fields #[Value.str (Str.ofString "look_at") 794, Value.str (Str.ofString "Heap.look_at") 795, Value.str (Str.ofString "/claim/cut.py") 796, Value.int 252 0, Value.int 2 0, Value.int 0 0, Value.int 0 0, Value.int 3 0, Value.ref 480, Value.bool true, Value.int 181 0, Value.ref 481, Value.none, Value.ref 482, Value.ref 483, Value.ref 484, Value.int 799 0, Value.int 252 0, Value.str (Str.ofString "/claim/cut.py") 800] }),
  (486, ⟨Value.type "function", none, .func (fnP (stIn (stAt PW 19) 5) (Str.ofString "Heap.look_at") ([]) (Value.none) (Value.none) (Value.none) (Value.str (Str.ofString "alikeheap.heap") 743) (none) (Value.ref 485) (Value.none)), #[]⟩),
  (492, { cls := Value.type "code", data := Data.fields #[Value.str (Str.ofString "find") 802, Value.str (Str.ofString "Heap.find") 803, Value.str (Str.ofString "/claim/cut.py") 804, Value.int 255 0, Value.int 2 0, Value.int 0 0, Value.int 0 0, Value.int 3 0, Value.ref 487, Value.bool true, Value.int 181 0, Value.ref 488, Value.none, Value.ref 489, Value.ref 490, Value.ref 491, Value.int 807 0, Value.int 255 0, Value.str (Str.ofString "/claim/cut.py") 808] }),
  (493, ⟨Value.type "function", none, .func (fnP (stIn (stAt PW 19) 6) (Str.ofString "Heap.find") ([]) (Value.none) (Value.none) (Value.none) (Value.str (Str.ofString "alikeheap.heap") 743) (none) (Value.ref 492) (Value.none)), #[]⟩),
  (499, { cls := Value.type "code", data := Data.fields #[Value.str (Str.ofString "are_like") 810, Value.str (Str.ofString "Heap.are_like") 811, Value.str (Str.ofString "/claim/cut.py") 812, Value.int 258 0, Value.int 3 0, Value.int 0 0, Value.int 0 0, Value.int 3 0, Value.ref 494, Value.bool true, Value.int 181 0, Value.ref 495, Value.none, Value.ref 496, Value.ref 497, Value.ref 498, Value.int 816 0, Value.int 258 0, Value.str (Str.ofString "/claim/cut.py") 817] }),
  (500, ⟨Value.type "function", none, .func (fnP (stIn (stAt PW 19) 7) (Str.ofString "Heap.are_like") ([]) (Value.none) (Value.none) (Value.none) (Value.str (Str.ofString "alikeheap.heap") 743) (none) (Value.ref 499) (Value.none)), #[]⟩),
  (506, { cls := Value.type "code", data := Data.fields #[Value.str (Str.ofString "merge") 819, Value.str (Str.ofString "Heap.merge") 820, Value.str (Str.ofString "/claim/cut.py") 821, Value.int 261 0, Value.int 4 0, Value.int 0 0, Value.int 0 0, Value.int 3 0, Value.ref 501, Value.bool true, Value.int 181 0, Value.ref 502, Value.none, Value.ref 503, Value.ref 504, Value.ref 505, Value.int 826 0, Value.int 261 0, Value.str (Str.ofString "/claim/cut.py") 827] }),
  (507, ⟨Value.type "function", none, .func (fnP (stIn (stAt PW 19) 8) (Str.ofString "Heap.merge") ([]) (Value.none) (Value.none) (Value.none) (Value.str (Str.ofString "alikeheap.heap") 743) (none) (Value.ref 506) (Value.none)), #[]⟩),
  (513, { cls := Value.type "code", data := Data.fields #[Value.str (Str.ofString "join") 829, Value.str (Str.ofString "Heap.join") 830, Value.str (Str.ofString "/claim/cut.py") 831, Value.int 264 0, Value.int 4 0, Value.int 0 0, Value.int 0 0, Value.int 3 0, Value.ref 508, Value.bool true, Value.int 181 0, Value.ref 509, Value.none, Value.ref 510, Value.ref 511, Value.ref 512, Value.int 836 0, Value.int 264 0, Value.str (Str.ofString "/claim/cut.py") 837] }),
  (514, ⟨Value.type "function", none, .func (fnP (stIn (stAt PW 19) 9) (Str.ofString "Heap.join") ([]) (Value.none) (Value.none) (Value.none) (Value.str (Str.ofString "alikeheap.heap") 743) (none) (Value.ref 513) (Value.none)), #[]⟩),
  (520, { cls := Value.type "code", data := Data.fields #[Value.str (Str.ofString "settle") 839, Value.str (Str.ofString "Heap.settle") 840, Value.str (Str.ofString "/claim/cut.py") 841, Value.int 267 0, Value.int 1 0, Value.int 0 0, Value.int 0 0, Value.int 3 0, Value.ref 515, Value.bool true, Value.int 181 0, Value.ref 516, Value.none, Value.ref 517, Value.ref 518, Value.ref 519, Value.int 843 0, Value.int 267 0, Value.str (Str.ofString "/claim/cut.py") 844] }),
  (521, ⟨Value.type "function", none, .func (fnP (stIn (stAt PW 19) 10) (Str.ofString "Heap.settle") ([]) (Value.none) (Value.none) (Value.none) (Value.str (Str.ofString "alikeheap.heap") 743) (none) (Value.ref 520) (Value.none)), #[]⟩),
  (527, { cls := Value.type "code", data := Data.fields #[Value.str (Str.ofString "is_settled") 846, Value.str (Str.ofString "Heap.is_settled") 847, Value.str (Str.ofString "/claim/cut.py") 848, Value.int 270 0, Value.int 1 0, Value.int 0 0, Value.int 0 0, Value.int 3 0, Value.ref 522, Value.bool true, Value.int 181 0, Value.ref 523, Value.none, Value.ref 524, Value.ref 525, Value.ref 526, Value.int 850 0, Value.int 270 0, Value.str (Str.ofString "/claim/cut.py") 851] }),
  (528, ⟨Value.type "function", none, .func (fnP (stIn (stAt PW 19) 11) (Str.ofString "Heap.is_settled") ([]) (Value.none) (Value.none) (Value.none) (Value.str (Str.ofString "alikeheap.heap") 743) (none) (Value.ref 527) (Value.none)), #[]⟩),
  (534, { cls := Value.type "code", data := Data.fields #[Value.str (Str.ofString "classes") 853, Value.str (Str.ofString "Heap.classes") 854, Value.str (Str.ofString "/claim/cut.py") 855, Value.int 273 0, Value.int 1 0, Value.int 0 0, Value.int 0 0, Value.int 3 0, Value.ref 529, Value.bool true, Value.int 181 0, Value.ref 530, Value.none, Value.ref 531, Value.ref 532, Value.ref 533, Value.int 857 0, Value.int 273 0, Value.str (Str.ofString "/claim/cut.py") 858] }),
  (535, ⟨Value.type "function", none, .func (fnP (stIn (stAt PW 19) 12) (Str.ofString "Heap.classes") ([]) (Value.none) (Value.none) (Value.none) (Value.str (Str.ofString "alikeheap.heap") 743) (none) (Value.ref 534) (Value.none)), #[]⟩),
  (541, { cls := Value.type "code", data := Data.fields #[Value.str (Str.ofString "members") 860, Value.str (Str.ofString "Heap.members") 861, Value.str (Str.ofString "/claim/cut.py") 862, Value.int 276 0, Value.int 2 0, Value.int 0 0, Value.int 0 0, Value.int 3 0, Value.ref 536, Value.bool true, Value.int 181 0, Value.ref 537, Value.none, Value.ref 538, Value.ref 539, Value.ref 540, Value.int 865 0, Value.int 276 0, Value.str (Str.ofString "/claim/cut.py") 866] }),
  (542, ⟨Value.type "function", none, .func (fnP (stIn (stAt PW 19) 13) (Str.ofString "Heap.members") ([]) (Value.none) (Value.none) (Value.none) (Value.str (Str.ofString "alikeheap.heap") 743) (none) (Value.ref 541) (Value.none)), #[]⟩),
  (546, { cls := Value.type "code", data := Data.fields #[Value.str (Str.ofString "nodes_of") 868, Value.str (Str.ofString "Heap.nodes_of") 869, Value.str (Str.ofString "/claim/cut.py") 870, Value.int 279 0, Value.int 2 0, Value.int 0 0, Value.int 0 0, Value.int 3 0, Value.ref 543, Value.bool true, Value.int 181 0, Value.ref 544, Value.none, Value.none, Value.none, Value.ref 545, Value.int 871 0, Value.int 279 0, Value.str (Str.ofString "/claim/cut.py") 872] }),
  (547, ⟨Value.type "function", none, .func (fnP (stIn (stAt PW 19) 14) (Str.ofString "Heap.nodes_of") ([]) (Value.none) (Value.none) (Value.none) (Value.str (Str.ofString "alikeheap.heap") 743) (none) (Value.ref 546) (Value.none)), #[]⟩),
  (553, { cls := Value.type "code", data := Data.fields #[Value.str (Str.ofString "many_nodes") 874, Value.str (Str.ofString "Heap.many_nodes") 875, Value.str (Str.ofString "/claim/cut.py") 876, Value.int 282 0, Value.int 1 0, Value.int 0 0, Value.int 0 0, Value.int 3 0, Value.ref 548, Value.bool true, Value.int 181 0, Value.ref 549, Value.none, Value.ref 550, Value.ref 551, Value.ref 552, Value.int 878 0, Value.int 282 0, Value.str (Str.ofString "/claim/cut.py") 879] }),
  (554, ⟨Value.type "function", none, .func (fnP (stIn (stAt PW 19) 15) (Str.ofString "Heap.many_nodes") ([]) (Value.none) (Value.none) (Value.none) (Value.str (Str.ofString "alikeheap.heap") 743) (none) (Value.ref 553) (Value.none)), #[]⟩),
  (558, { cls := Value.type "code", data := Data.fields #[Value.str (Str.ofString "seek") 881, Value.str (Str.ofString "Heap.seek") 882, Value.str (Str.ofString "/claim/cut.py") 883, Value.int 285 0, Value.int 3 0, Value.int 0 0, Value.int 0 0, Value.int 3 0, Value.ref 555, Value.bool true, Value.int 181 0, Value.ref 556, Value.none, Value.none, Value.none, Value.ref 557, Value.int 884 0, Value.int 285 0, Value.str (Str.ofString "/claim/cut.py") 885] }),
  (559, ⟨Value.type "function", none, .func (fnP (stIn (stAt PW 19) 16) (Str.ofString "Heap.seek") ([]) (Value.none) (Value.none) (Value.none) (Value.str (Str.ofString "alikeheap.heap") 743) (none) (Value.ref 558) (Value.none)), #[]⟩),
  (565, { cls := Value.type "code", data := Data.fields #[Value.str (Str.ofString "users") 887, Value.str (Str.ofString "Heap.users") 888, Value.str (Str.ofString "/claim/cut.py") 889, Value.int 289 0, Value.int 2 0, Value.int 0 0, Value.int 0 0, Value.int 3 0, Value.ref 560, Value.bool true, Value.int 181 0, Value.ref 561, Value.none, Value.ref 562, Value.ref 563, Value.ref 564, Value.int 892 0, Value.int 289 0, Value.str (Str.ofString "/claim/cut.py") 893] }),
  (566, ⟨Value.type "function", none, .func (fnP (stIn (stAt PW 19) 17) (Str.ofString "Heap.users") ([]) (Value.none) (Value.none) (Value.none) (Value.str (Str.ofString "alikeheap.heap") 743) (none) (Value.ref 565) (Value.none)), #[]⟩),
  (568, { cls := Value.type "dict", data := Data.dict #[{ hash := PyData.keyHash P (Str.ofString "__module__"), key := Value.str (Str.ofString "__module__") 752, val := Value.str (Str.ofString "alikeheap.heap") 743 }, { hash := PyData.keyHash P (Str.ofString "__firstlineno__"), key := Value.str (Str.ofString "__firstlineno__") 756, val := Value.int 229 755 }, { hash := PyData.keyHash P (Str.ofString "__init__"), key := Value.str (Str.ofString "__init__") 763, val := Value.ref 453 }, { hash := PyData.keyHash P (Str.ofString "size"), key := Value.str (Str.ofString "size") 770, val := Value.ref 460 }, { hash := PyData.keyHash P (Str.ofString "node"), key := Value.str (Str.ofString "node") 776, val := Value.ref 465 }, { hash := PyData.keyHash P (Str.ofString "add"), key := Value.str (Str.ofString "add") 785, val := Value.ref 472 }, { hash := PyData.keyHash P (Str.ofString "put"), key := Value.str (Str.ofString "put") 793, val := Value.ref 479 }, { hash := PyData.keyHash P (Str.ofString "look_at"), key := Value.str (Str.ofString "look_at") 801, val := Value.ref 486 }, { hash := PyData.keyHash P (Str.ofString "find"), key := Value.str (Str.ofString "find") 809, val := Value.ref 493 }, { hash := PyData.keyHash P (Str.ofString "are_like"), key := Value.str (Str.ofString "are_like") 818, val := Value.ref 500 }, { hash := PyData.keyHash P (Str.ofString "merge"), key := Value.str (Str.ofString "merge") 828, val := Value.ref 507 }, { hash := PyData.keyHash P (Str.ofString "join"), key := Value.str (Str.ofString "join") 838, val := Value.ref 514 }, { hash := PyData.keyHash P (Str.ofString "settle"), key := Value.str (Str.ofString "settle") 845, val := Value.ref 521 }, { hash := PyData.keyHash P (Str.ofString "is_settled"), key := Value.str (Str.ofString "is_settled") 852, val := Value.ref 528 }, { hash := PyData.keyHash P (Str.ofString "classes"), key := Value.str (Str.ofString "classes") 859, val := Value.ref 535 }, { hash := PyData.keyHash P (Str.ofString "members"), key := Value.str (Str.ofString "members") 867, val := Value.ref 542 }, { hash := PyData.keyHash P (Str.ofString "nodes_of"), key := Value.str (Str.ofString "nodes_of") 873, val := Value.ref 547 }, { hash := PyData.keyHash P (Str.ofString "many_nodes"), key := Value.str (Str.ofString "many_nodes") 880, val := Value.ref 554 }, { hash := PyData.keyHash P (Str.ofString "seek"), key := Value.str (Str.ofString "seek") 886, val := Value.ref 559 }, { hash := PyData.keyHash P (Str.ofString "users"), key := Value.str (Str.ofString "users") 894, val := Value.ref 566 }, { hash := PyData.keyHash P (Str.ofString "__static_attributes__"), key := Value.str (Str.ofString "__static_attributes__") 902, val := Value.ref 567 }, { hash := PyData.keyHash P (Str.ofString "__dict__"), key := Value.str (Str.ofString "__dict__") 904, val := Value.ref 570 }, { hash := PyData.keyHash P (Str.ofString "__weakref__"), key := Value.str (Str.ofString "__weakref__") 906, val := Value.ref 571 }, { hash := PyData.keyHash P (Str.ofString "__doc__"), key := Value.str (Str.ofString "__doc__") 907, val := Value.none }] 4 }),
  (569, { cls := Value.type "type", data := Data.cls { name := Str.ofString "Heap", bases := [Value.type "object"], mro := [Value.ref 569, Value.type "object"], ns := 568, qualname := Str.ofString "Heap" }, slots := #[none, none, some (Value.str (Str.ofString "Heap") 745), some (Value.str (Str.ofString "Heap") 753), some (Value.builtin "object.__new__"), some (Value.bool true)] }),
  (570, { cls := Value.type "getset_descriptor", data := Data.fields #[Value.str (Str.ofString "__dict__") 903, Value.ref 569, Value.builtin "function.__dict__", Value.builtin "function.__dict__#set"] }),
  (571, { cls := Value.type "getset_descriptor", data := Data.fields #[Value.str (Str.ofString "__weakref__") 905, Value.ref 569, Value.builtin "ExceptionGroup.__weakref__", Value.none] }),
  (577, { cls := Value.type "code", data := Data.fields #[Value.str (Str.ofString "_law_feed") 912, Value.str (Str.ofString "_law_feed") 913, Value.str (Str.ofString "/claim/cut.py") 914, Value.int 292 0, Value.int 1 0, Value.int 0 0, Value.int 0 0, Value.int 3 0, Value.ref 574, Value.bool true, Value.int 181 0, Value.ref 575, Value.none, Value.none, Value.none, Value.ref 576, Value.int 915 0, Value.int 292 0, Value.str (Str.ofString "/claim/cut.py") 916] }),
  (578, ⟨Value.type "function", none, .func (fnP (stAt PW 21) (Str.ofString "_law_feed") ([]) (Value.none) (Value.none) (Value.none) (Value.str (Str.ofString "law_pq0089_01") 910) (none) (Value.ref 577) (Value.none)), #[]⟩),
  (584, { cls := Value.type "code", data := Data.fields #[Value.str (Str.ofString "_law_take") 918, Value.str (Str.ofString "_law_take") 919, Value.str (Str.ofString "/claim/cut.py") 920, Value.int 294 0, Value.int 2 0, Value.int 0 0, Value.int 0 0, Value.int 3 0, Value.ref 579, Value.bool true, Value.int 181 0, Value.ref 580, Value.none, Value.ref 581, Value.ref 582, Value.ref 583, Value.int 925 0, Value.int 294 0, Value.str (Str.ofString "/claim/cut.py") 926] }),
  (585, ⟨Value.type "function", none, .func (fnP (stAt PW 22) (Str.ofString "_law_take") ([]) (Value.none) (Value.none) (Value.none) (Value.str (Str.ofString "law_pq0089_01") 910) (none) (Value.ref 584) (Value.none)), #[]⟩),
  (589, { cls := Value.type "code", data := Data.fields #[Value.str (Str.ofString "_law_pattern") 928, Value.str (Str.ofString "_law_pattern") 929, Value.str (Str.ofString "/claim/cut.py") 930, Value.int 298 0, Value.int 2 0, Value.int 0 0, Value.int 0 0, Value.int 3 0, Value.ref 586, Value.bool true, Value.int 181 0, Value.ref 587, Value.none, Value.none, Value.none, Value.ref 588, Value.int 931 0, Value.int 298 0, Value.str (Str.ofString "/claim/cut.py") 932] }),
  (590, ⟨Value.type "function", none, .func (fnP (stAt PW 23) (Str.ofString "_law_pattern") ([]) (Value.none) (Value.none) (Value.none) (Value.str (Str.ofString "law_pq0089_01") 910) (none) (Value.ref 589) (Value.none)), #[]⟩),
  (594, { cls := Value.type "code", data := Data.fields #[Value.str (Str.ofString "_law_seen") 934, Value.str (Str.ofString "_law_seen") 935, Value.str (Str.ofString "/claim/cut.py") 936, Value.int 305 0, Value.int 1 0, Value.int 0 0, Value.int 0 0, Value.int 3 0, Value.ref 591, Value.bool true, Value.int 181 0, Value.ref 592, Value.none, Value.none, Value.none, Value.ref 593, Value.int 937 0, Value.int 305 0, Value.str (Str.ofString "/claim/cut.py") 938] }),
  (595, ⟨Value.type "function", none, .func (fnP (stAt PW 24) (Str.ofString "_law_seen") ([]) (Value.none) (Value.none) (Value.none) (Value.str (Str.ofString "law_pq0089_01") 910) (none) (Value.ref 594) (Value.none)), #[]⟩),
  (599, { cls := Value.type "code", data := Data.fields #[Value.str (Str.ofString "_law_wrong") 940, Value.str (Str.ofString "_law_wrong") 941, Value.str (Str.ofString "/claim/cut.py") 942, Value.int 312 0, Value.int 4 0, Value.int 0 0, Value.int 0 0, Value.int 3 0, Value.ref 596, Value.bool true, Value.int 181 0, Value.ref 597, Value.none, Value.none, Value.none, Value.ref 598, Value.int 943 0, Value.int 312 0, Value.str (Str.ofString "/claim/cut.py") 944] }),
  (600, ⟨Value.type "function", none, .func (fnP (stAt PW 25) (Str.ofString "_law_wrong") ([]) (Value.none) (Value.none) (Value.none) (Value.str (Str.ofString "law_pq0089_01") 910) (none) (Value.ref 599) (Value.none)), #[]⟩),
  (606, { cls := Value.type "code", data := Data.fields #[Value.str (Str.ofString "_law_told") 946, Value.str (Str.ofString "_law_told") 947, Value.str (Str.ofString "/claim/cut.py") 948, Value.int 326 0, Value.int 1 0, Value.int 0 0, Value.int 0 0, Value.int 3 0, Value.ref 601, Value.bool true, Value.int 181 0, Value.ref 602, Value.none, Value.ref 603, Value.ref 604, Value.ref 605, Value.int 951 0, Value.int 326 0, Value.str (Str.ofString "/claim/cut.py") 952] }),
  (607, ⟨Value.type "function", none, .func (fnP (stAt PW 26) (Str.ofString "_law_told") ([]) (Value.none) (Value.none) (Value.none) (Value.str (Str.ofString "law_pq0089_01") 910) (none) (Value.ref 606) (Value.none)), #[]⟩),
  (613, { cls := Value.type "code", data := Data.fields #[Value.str (Str.ofString "_law_is") 954, Value.str (Str.ofString "_law_is") 955, Value.str (Str.ofString "/claim/cut.py") 956, Value.int 331 0, Value.int 5 0, Value.int 0 0, Value.int 0 0, Value.int 3 0, Value.ref 608, Value.bool true, Value.int 181 0, Value.ref 609, Value.none, Value.ref 610, Value.ref 611, Value.ref 612, Value.int 962 0, Value.int 331 0, Value.str (Str.ofString "/claim/cut.py") 963] }),
  (614, ⟨Value.type "function", none, .func (fnP (stAt PW 27) (Str.ofString "_law_is") ([]) (Value.none) (Value.none) (Value.none) (Value.str (Str.ofString "law_pq0089_01") 910) (none) (Value.ref 613) (Value.none)), #[]⟩),
  (620, { cls := Value.type "code", data := Data.fields #[Value.str (Str.ofString "law") 965, Value.str (Str.ofString "law") 966, Value.str (Str.ofString "/claim/cut.py") 967, Value.int 333 0, Value.int 1 0, Value.int 0 0, Value.int 0 0, Value.int 3 0, Value.ref 615, Value.bool true, Value.int 181 0, Value.ref 616, Value.none, Value.ref 617, Value.ref 618, Value.ref 619, Value.int 988 0, Value.int 333 0, Value.str (Str.ofString "/claim/cut.py") 989] }),
  (621, ⟨Value.type "function", none, .func (fnP (stAt PW 28) (Str.ofString "law") ([]) (Value.none) (Value.none) (Value.none) (Value.str (Str.ofString "law_pq0089_01") 910) (none) (Value.ref 620) (Value.none)), #[]⟩)]
noncomputable def KA : List Addr := [2, 3, 20, 21, 22, 25, 30, 36, 37, 43, 44, 46, 47, 48, 51, 59, 60, 68, 69, 73, 74, 78, 79, 92, 93, 99, 100, 106, 107, 113, 114, 120, 121, 127, 128, 134, 135, 141, 142, 148, 149, 155, 156, 160, 161, 167, 168, 174, 175, 181, 182, 184, 185, 186, 187, 202, 203, 207, 208, 214, 215, 219, 220, 222, 223, 224, 225, 228, 239, 240, 246, 247, 249, 250, 251, 252, 267, 268, 274, 275, 281, 282, 288, 289, 291, 292, 293, 294, 307, 308, 314, 315, 321, 322, 328, 329, 335, 336, 342, 343, 349, 350, 352, 353, 354, 355, 370, 371, 377, 378, 384, 385, 391, 392, 398, 399, 405, 406, 410, 411, 417, 418, 424, 425, 431, 432, 434, 435, 436, 437, 452, 453, 459, 460, 464, 465, 471, 472, 478, 479, 485, 486, 492, 493, 499, 500, 506, 507, 513, 514, 520, 521, 527, 528, 534, 535, 541, 542, 546, 547, 553, 554, 558, 559, 565, 566, 568, 569, 570, 571, 577, 578, 584, 585, 589, 590, 594, 595, 599, 600, 606, 607, 613, 614, 620, 621]
end Mine
/- part MBase -/
namespace Mine
open PySem PySem.W PySem.Calls PyProof.Rows

/-- abstract values -/
inductive V where
  | none
  | bool (b : Bool)
  | int (i : Int)
  | str (x : Str)
  | tup (ds : List V)
  | fl (ds : List V)
  | ref (i : Nat)
  | val (v : Value)
  | rng (x y : Int)
  | st (b : Bool) (ks : List V)
  | pk (p : Addr → List Value → Obj → Prop) (ds : List V)

/-- abstract objects -/
inductive O where
  | list (ds : List V)
  | dict (kvs : List (V × V))
  | inst (c : Addr) (fs : List (Str × V))
  | cell (v : Option V)
  | exc (c : Addr) (fo : Option (List (Str × V)))
  | pk (p : Addr → List Value → Obj → Prop) (ds : List V)

structure Sto where
  nx : Nat
  get : Nat → Option O

noncomputable def Sto.push (σ : Sto) (o : O) : Sto := ⟨σ.nx + 1, fun i => if i = σ.nx then some o else σ.get i⟩
noncomputable def Sto.set (σ : Sto) (i : Nat) (o : O) : Sto := ⟨σ.nx, fun j => if j = i then some o else σ.get j⟩
theorem Sto.get_push (σ : Sto) (o : O) (i : Nat) : (σ.push o).get i = if i = σ.nx then some o else σ.get i := rfl
theorem Sto.nx_push (σ : Sto) (o : O) : (σ.push o).nx = σ.nx + 1 := rfl
theorem Sto.get_set (σ : Sto) (i : Nat) (o : O) (j : Nat) : (σ.set i o).get j = if j = i then some o else σ.get j := rfl
theorem Sto.nx_set (σ : Sto) (i : Nat) (o : O) : (σ.set i o).nx = σ.nx := rfl

abbrev Loc := Str → Option V
noncomputable def Loc.set (l : Loc) (x : Str) (v : V) : Loc := fun y => if y = x then some v else l y

inductive Tag where
  | free
  | froz (o : Obj)
  | held (o : Obj)
  | fr (m : Str → Option Value)
  | main (i : Nat)
  | dict (i : Nat)

abbrev TagMap := Addr → Tag

abbrev tupObj (vs : List Value) : Obj := { cls := .type "tuple", data := .seq vs.toArray }
abbrev lstObj (vs : List Value) (n : Nat) : Obj := { cls := .type "list", data := .seq vs.toArray n }
abbrev dctObj (es : List DictEntry) (n : Nat) : Obj := { cls := .type "dict", data := .dict es.toArray n }

abbrev rngObj (x y : Int) (t u w : Tok) : Obj := { cls := .type "range", data := .fields #[.int x t, .int y u, .int 1 w] }
abbrev setObj (es : Array (Int × Value)) (n : Nat) (t : SetTable) : Obj := { cls := .type "set", data := .set es n t }
mutual
noncomputable def VR (g : TagMap) : V → Value → Prop
  | .none, v => v = .none
  | .bool b, v => v = .bool b
  | .int i, v => ∃ t, v = .int i t
  | .str x, v => ∃ t, v = .str x t
  | .tup ds, v => ∃ a vs, v = .ref a ∧ g a = .froz (tupObj vs) ∧ VRs g ds vs
  | .fl ds, v => ∃ a vs n, v = .ref a ∧ g a = .froz (lstObj vs n) ∧ VRs g ds vs
  | .ref i, v => ∃ a, v = .ref a ∧ g a = .main i
  | .val u, v => v = u
  | .rng x y, v => ∃ a t u w, v = .ref a ∧ g a = .froz (rngObj x y t u w)
  | .pk p ds, v => ∃ a vs o, v = .ref a ∧ g a = .froz o ∧ p a vs o ∧ VRs g ds vs
  | .st b ks, v => ∃ a es n t vs, v = .ref a ∧ g a = .froz (setObj es n t) ∧ (t.fits es.size = true ∧ t.led = b ∧ (t.plain = false ∨ es.size ≤ 1)) ∧ VRs g ks vs ∧ (es.toList.map (·.2)).Perm vs
noncomputable def VRs (g : TagMap) : List V → List Value → Prop
  | [], vs => vs = []
  | d :: ds, vs => ∃ v r, vs = v :: r ∧ VR g d v ∧ VRs g ds r
end

noncomputable def OVR (g : TagMap) : Option V → Option Value → Prop
  | none, v => v = none
  | some d, v => ∃ u, v = some u ∧ VR g d u

noncomputable def Ext (g g' : TagMap) : Prop := ∀ a, g a ≠ .free → g' a = g a
theorem Ext.refl (g : TagMap) : Ext g g := fun _ _ => rfl
theorem Ext.trans {g g' g'' : TagMap} (x : Ext g g') (y : Ext g' g'') : Ext g g'' := fun a h => by
  have e := x a h
  rw [← e] at h ⊢
  exact y a h
theorem Ext.at {g g' : TagMap} (x : Ext g g') {a : Addr} {t : Tag} (h : g a = t) (ht : t ≠ .free) : g' a = t := by
  rw [← h] at ht ⊢; exact x a ht

noncomputable def Tag.solid : Tag → Prop
  | .froz _ | .main _ | .dict _ => True
  | _ => False
/-- what values tell of stays -/
noncomputable def ExtV (g g' : TagMap) : Prop := ∀ a, (g a).solid → g' a = g a
theorem ExtV.refl (g : TagMap) : ExtV g g := fun _ _ => rfl
theorem ExtV.trans {g g' g'' : TagMap} (x : ExtV g g') (y : ExtV g' g'') : ExtV g g'' := fun a h => by
  have e := x a h
  rw [← e] at h ⊢
  exact y a h
theorem ExtV.at {g g' : TagMap} (x : ExtV g g') {a : Addr} {t : Tag} (h : g a = t) (ht : t.solid) : g' a = t := by
  rw [← h] at ht ⊢; exact x a ht
theorem Ext.v {g g' : TagMap} (x : Ext g g') : ExtV g g' := fun a h => x a (by intro e; rw [e] at h; exact h)

mutual
theorem VR.ext {g g' : TagMap} (x : ExtV g g') : ∀ {d : V} {v : Value}, VR g d v → VR g' d v
  | .none, _, h => h
  | .bool _, _, h => h
  | .int _, _, h => h
  | .str _, _, h => h
  | .tup _, _, ⟨a, vs, e, t, r⟩ => ⟨a, vs, e, x.at t trivial, VRs.ext x r⟩
  | .fl _, _, ⟨a, vs, n, e, t, r⟩ => ⟨a, vs, n, e, x.at t trivial, VRs.ext x r⟩
  | .ref _, _, ⟨a, e, t⟩ => ⟨a, e, x.at t trivial⟩
  | .val _, _, h => h
  | .rng _ _, _, ⟨a, t, u, w, e, h⟩ => ⟨a, t, u, w, e, x.at h trivial⟩
  | .pk _ _, _, ⟨a, vs, o, e, t, q, r⟩ => ⟨a, vs, o, e, x.at t trivial, q, VRs.ext x r⟩
  | .st _ _, _, ⟨a, es, n, t, vs, e, h, f, r, p⟩ => ⟨a, es, n, t, vs, e, x.at h trivial, f, VRs.ext x r, p⟩
theorem VRs.ext {g g' : TagMap} (x : ExtV g g') : ∀ {ds : List V} {vs : List Value}, VRs g ds vs → VRs g' ds vs
  | [], _, h => h
  | _ :: _, _, ⟨v, r, e, a, b⟩ => ⟨v, r, e, VR.ext x a, VRs.ext x b⟩
end

theorem OVR.ext {g g' : TagMap} (x : ExtV g g') {d : Option V} {v : Option Value} (h : OVR g d v) : OVR g' d v := by
  cases d with
  | none => exact h
  | some d => obtain ⟨u, e, r⟩ := h; exact ⟨u, e, r.ext x⟩

theorem VRs.length {g : TagMap} : ∀ {ds : List V} {vs : List Value}, VRs g ds vs → ds.length = vs.length
  | [], _, h => by cases h; rfl
  | _ :: _, _, ⟨_, _, e, _, b⟩ => by cases e; simp [VRs.length b]
theorem VRs.get {g : TagMap} : ∀ {ds : List V} {vs : List Value} {i : Nat} {d : V}, VRs g ds vs → ds[i]? = some d → ∃ v, vs[i]? = some v ∧ VR g d v
  | _ :: _, _, 0, _, ⟨v, r, e, a, _⟩, h => by cases e; cases h; exact ⟨v, rfl, a⟩
  | _ :: _, _, i + 1, _, ⟨v, r, e, _, b⟩, h => by cases e; exact VRs.get (i := i) b h
theorem VRs.append {g : TagMap} : ∀ {ds es : List V} {vs us : List Value}, VRs g ds vs → VRs g es us → VRs g (ds ++ es) (vs ++ us)
  | [], _, _, _, h, h' => by cases h; exact h'
  | _ :: _, _, _, _, ⟨v, r, e, a, b⟩, h' => by cases e; exact ⟨v, r ++ _, rfl, a, VRs.append b h'⟩
theorem VRs.take {g : TagMap} : ∀ {ds : List V} {vs : List Value} (n : Nat), VRs g ds vs → VRs g (ds.take n) (vs.take n)
  | _, _, 0, _ => rfl
  | [], _, _ + 1, h => by cases h; rfl
  | _ :: _, _, n + 1, ⟨v, r, e, a, b⟩ => by cases e; exact ⟨v, r.take n, rfl, a, VRs.take n b⟩
theorem VRs.drop {g : TagMap} : ∀ {ds : List V} {vs : List Value} (n : Nat), VRs g ds vs → VRs g (ds.drop n) (vs.drop n)
  | _, _, 0, h => h
  | [], _, _ + 1, h => by cases h; rfl
  | _ :: _, _, n + 1, ⟨v, r, e, a, b⟩ => by cases e; exact VRs.drop n b
theorem VRs.reverse {g : TagMap} : ∀ {ds : List V} {vs : List Value}, VRs g ds vs → VRs g ds.reverse vs.reverse
  | [], _, h => by cases h; rfl
  | _ :: _, _, ⟨v, r, e, a, b⟩ => by
    cases e
    rw [List.reverse_cons, List.reverse_cons]
    exact VRs.append (VRs.reverse b) ⟨v, [], rfl, a, rfl⟩

/-- one entry of a dict -/
noncomputable def ER (P : Params) (g : TagMap) (hk : V → Int) (kv : V × V) (e : DictEntry) : Prop := e.hash = hk kv.1 ∧ VR g kv.1 e.key ∧ VR g kv.2 e.val
noncomputable def ERs (P : Params) (g : TagMap) (hk : V → Int) : List (V × V) → List DictEntry → Prop
  | [], es => es = []
  | kv :: r, es => ∃ e t, es = e :: t ∧ ER P g hk kv e ∧ ERs P g hk r t
theorem ERs.ext {P : Params} {g g' : TagMap} {hk : V → Int} (x : ExtV g g') : ∀ {kvs : List (V × V)} {es : List DictEntry}, ERs P g hk kvs es → ERs P g' hk kvs es
  | [], _, h => h
  | _ :: _, _, ⟨e, t, q, ⟨a1, a2, a3⟩, b⟩ => ⟨e, t, q, ⟨a1, a2.ext x, a3.ext x⟩, ERs.ext x b⟩
theorem ERs.length {P : Params} {g : TagMap} {hk : V → Int} : ∀ {kvs : List (V × V)} {es : List DictEntry}, ERs P g hk kvs es → kvs.length = es.length
  | [], _, h => by cases h; rfl
  | _ :: _, _, ⟨_, _, e, _, b⟩ => by cases e; simp [ERs.length b]

/-- the data of an abstract value that may be a dict's key -/
noncomputable def wd : V → WData
  | .none => .none
  | .bool b => .bool b
  | .int i => .int i
  | .str x => .str x
  | .tup ds => .tuple (wds ds)
  | _ => .list []
where wds : List V → List WData
  | [] => []
  | d :: r => wd d :: wds r

noncomputable def hashV (P : Params) (k : V) : Int := hashW P (wd k)

/-- a dict that never changes any more -/
noncomputable def dfl : List (V × V) → List V
  | [] => []
  | kv :: r => kv.1 :: kv.2 :: dfl r
noncomputable def DEnts (P : Params) : List (V × V) → List Value → List DictEntry → Prop
  | [], vs, es => vs = [] ∧ es = []
  | kv :: r, vs, es => ∃ e t w, es = e :: t ∧ vs = e.key :: e.val :: w ∧ e.hash = hashV P kv.1 ∧ DEnts P r w t
noncomputable def fdV (P : Params) (kvs : List (V × V)) : V := .pk (fun a vs o => a ≠ sysModules ∧ ∃ es n, o = dctObj es n ∧ DEnts P kvs vs es) (dfl kvs)
theorem ERs.flat {P : Params} {g : TagMap} : ∀ {kvs : List (V × V)} {es : List DictEntry}, ERs P g (hashV P) kvs es → ∃ vs, VRs g (dfl kvs) vs ∧ DEnts P kvs vs es
  | [], _, h => by cases h; exact ⟨[], rfl, rfl, rfl⟩
  | kv :: r, _, ⟨e, t, q, ⟨h1, h2, h3⟩, hr⟩ => by
    subst q
    obtain ⟨w, hw, hd⟩ := ERs.flat hr
    exact ⟨e.key :: e.val :: w, ⟨_, _, rfl, h2, _, _, rfl, h3, hw⟩, e, t, w, rfl, rfl, h1, hd⟩
theorem ERs.of_flat {P : Params} {g : TagMap} : ∀ {kvs : List (V × V)} {es : List DictEntry} {vs : List Value}, VRs g (dfl kvs) vs → DEnts P kvs vs es → ERs P g (hashV P) kvs es
  | [], _, _, _, ⟨_, h⟩ => h
  | kv :: r, _, _, ⟨v, _, e1, h2, u, _, e2, h3, hr⟩, ⟨e, t, w, q, q2, h1, hd⟩ => by
    subst e2; subst e1; subst q
    injection q2 with a b
    injection b with b c
    subst a; subst b; subst c
    exact ⟨e, t, rfl, ⟨h1, h2, h3⟩, ERs.of_flat hr hd⟩
theorem VR.fd {P : Params} {g : TagMap} {kvs : List (V × V)} {v : Value} (h : VR g (fdV P kvs) v) : ∃ a es n, v = .ref a ∧ a ≠ sysModules ∧ g a = .froz (dctObj es n) ∧ ERs P g (hashV P) kvs es := by
  obtain ⟨a, vs, o, e, t, ⟨hs, es, n, rfl, hd⟩, r⟩ := h
  exact ⟨a, es, n, e, hs, t, ERs.of_flat r hd⟩
theorem VR.fdOf {P : Params} {g : TagMap} {kvs : List (V × V)} {a : Addr} {es : List DictEntry} {n : Nat} (hs : a ≠ sysModules) (t : g a = .froz (dctObj es n)) (h : ERs P g (hashV P) kvs es) : VR g (fdV P kvs) (.ref a) := by
  obtain ⟨vs, hv, hd⟩ := h.flat
  exact ⟨a, vs, _, rfl, t, ⟨hs, es, n, rfl, hd⟩, hv⟩

/-- an instance's own names -/
noncomputable def FRs (P : Params) (g : TagMap) : List (Str × V) → List DictEntry → Prop
  | [], es => es = []
  | (x, d) :: r, es => ∃ t v l, es = ⟨PyData.keyHash P x, .str x t, v⟩ :: l ∧ VR g d v ∧ FRs P g r l
theorem FRs.ext {P : Params} {g g' : TagMap} (x : ExtV g g') : ∀ {fs : List (Str × V)} {es : List DictEntry}, FRs P g fs es → FRs P g' fs es
  | [], _, h => h
  | (_, _) :: _, _, ⟨t, v, l, q, a, b⟩ => ⟨t, v, l, q, a.ext x, FRs.ext x b⟩

/-- the names of an object that may lack them -/
noncomputable def DictR (P : Params) (g : TagMap) (h : Heap) (i : Nat) (od : Option Addr) : Option (List (Str × V)) → Prop
  | none => od = none
  | some fs => ∃ d es n, od = some d ∧ g d = .dict i ∧ h.get? d = some (dctObj es n) ∧ FRs P g fs es

noncomputable def OR (P : Params) (g : TagMap) (h : Heap) (i : Nat) (a : Addr) : O → Prop
  | .list ds => ∃ vs n, h.get? a = some (lstObj vs n) ∧ VRs g ds vs
  | .dict kvs => ∃ es n, a ≠ sysModules ∧ h.get? a = some (dctObj es n) ∧ ERs P g (hashV P) kvs es
  | .inst c fs => ∃ d es n, h.get? a = some (instObj c d) ∧ g d = .dict i ∧ h.get? d = some (dctObj es n) ∧ FRs P g fs es
  | .cell v => ∃ o u, h.get? a = some o ∧ o.data = .cell u ∧ OVR g v u
  | .exc c fo => ∃ o vs, h.get? a = some o ∧ o.cls = .ref c ∧ o.data = .fields vs ∧ (vs.size = 6 ∧ vs[1]? = some .none) ∧ DictR P g h i o.dict fo
  | .pk p ds => ∃ vs o, h.get? a = some o ∧ p a vs o ∧ VRs g ds vs

structure Cx where
  prog : Program
  w : World
  H0 : Heap
  K : Frag
  os : OsState
  top : Program
  loose : List Str
  mg : Str → Option Value
  mb : Str → Option Value

structure Cx.Ok (C : Cx) : Prop where
  kin : C.K.In C.H0
  T : TopRead C.top C.loose C.mg C.mb C.H0
  big : ∃ a : Addr, sysModules < a ∧ C.H0.get? a ≠ none

structure Rel (C : Cx) (g : TagMap) (σ : Sto) (s : Shared) : Prop where
  ok : C.Ok
  base : ∀ b o, C.H0.get? b = some o → s.heap.get? b = some o
  has : ∀ a, g a ≠ .free → ∃ o, s.heap.get? a = some o
  old : ∀ a, C.H0.get? a ≠ none → (∃ o, g a = .froz o) ∨ g a = .free
  froz : ∀ a o, g a = .froz o → s.heap.get? a = some o
  held : ∀ a o, g a = .held o → s.heap.get? a = some o
  fr : ∀ a m, g a = .fr m → s.heap.Ns a m
  uniq : ∀ a b i, g a = .main i → g b = .main i → a = b
  idx : ∀ a i, g a = .main i → i < σ.nx
  idxd : ∀ a i, g a = .dict i → i < σ.nx
  objs : ∀ i o, σ.get i = some o → ∃ a, g a = .main i ∧ OR C.w.params g s.heap i a o
  gens : s.gens = #[]
  os : s.os = C.os

theorem Rel.lt {C : Cx} {g : TagMap} {σ : Sto} {s : Shared} (R : Rel C g σ s) {a : Addr} (h : g a ≠ .free) : a < s.heap.objs.size :=
  let ⟨_, e⟩ := R.has a h; Heap.lt_size e
theorem Rel.free_size {C : Cx} {g : TagMap} {σ : Sto} {s : Shared} (R : Rel C g σ s) {a : Addr} (h : s.heap.objs.size ≤ a) : g a = .free := by
  by_cases q : g a = .free
  · exact q
  · exact absurd (R.lt q) (Nat.not_lt.mpr h)
theorem Rel.h0_size {C : Cx} {g : TagMap} {σ : Sto} {s : Shared} (R : Rel C g σ s) {a : Addr} (h : s.heap.objs.size ≤ a) : C.H0.get? a = none := by
  cases q : C.H0.get? a with
  | none => rfl
  | some o => exact absurd (Heap.lt_size (R.base a o q)) (Nat.not_lt.mpr h)
theorem Rel.kin {C : Cx} {g : TagMap} {σ : Sto} {s : Shared} (R : Rel C g σ s) : C.K.In s.heap := R.ok.kin.keeps R.base
theorem Rel.top {C : Cx} {g : TagMap} {σ : Sto} {s : Shared} (R : Rel C g σ s) : TopRead C.top C.loose C.mg C.mb s.heap := R.ok.T.keeps R.base
theorem Rel.big {C : Cx} {g : TagMap} {σ : Sto} {s : Shared} (R : Rel C g σ s) {a : Addr} (h : s.heap.objs.size ≤ a) : a ≠ sysModules := by
  obtain ⟨b, hb, e⟩ := R.ok.big
  obtain ⟨o, e⟩ := Option.ne_none_iff_exists'.mp e
  have h2 := Heap.lt_size (R.base b o e)
  exact Nat.ne_of_gt (Nat.lt_of_lt_of_le (Nat.lt_trans hb h2) h)
/-- an address that can be changed is none of the old ones -/
theorem Rel.h0_none {C : Cx} {g : TagMap} {σ : Sto} {s : Shared} (R : Rel C g σ s) {a : Addr} (h : g a ≠ .free) (h' : ∀ o, g a ≠ .froz o) : C.H0.get? a = none := by
  by_cases q : C.H0.get? a = none
  · exact q
  · rcases R.old a q with ⟨o, e⟩ | e
    · exact absurd e (h' o)
    · exact absurd e h

theorem DictR.ext {P : Params} {g g' : TagMap} (x : ExtV g g') {h : Heap} {i : Nat} {od : Option Addr} : ∀ {fo : Option (List (Str × V))}, DictR P g h i od fo → DictR P g' h i od fo
  | none, r => r
  | some _, ⟨d, es, n, e, t, e', r⟩ => ⟨d, es, n, e, x.at t trivial, e', r.ext x⟩
theorem DictR.same {P : Params} {g : TagMap} {h h' : Heap} {i : Nat} {od : Option Addr} (k : ∀ b, g b = .dict i → ∀ o, h.get? b = some o → h'.get? b = some o) : ∀ {fo : Option (List (Str × V))}, DictR P g h i od fo → DictR P g h' i od fo
  | none, r => r
  | some _, ⟨d, es, n, e, t, e', r⟩ => ⟨d, es, n, e, t, k d t _ e', r⟩
theorem OR.ext {P : Params} {g g' : TagMap} (x : ExtV g g') {h : Heap} {i : Nat} {a : Addr} {o : O} (r : OR P g h i a o) : OR P g' h i a o := by
  cases o with
  | list ds => obtain ⟨vs, n, e, r⟩ := r; exact ⟨vs, n, e, r.ext x⟩
  | dict kvs => obtain ⟨es, n, ns, e, r⟩ := r; exact ⟨es, n, ns, e, r.ext x⟩
  | inst c fs => obtain ⟨d, es, n, e, t, e', r⟩ := r; exact ⟨d, es, n, e, x.at t trivial, e', r.ext x⟩
  | cell v => obtain ⟨o, u, e, e', r⟩ := r; exact ⟨o, u, e, e', r.ext x⟩
  | exc c fo => obtain ⟨o, vs, e, e1, e2, e3, r⟩ := r; exact ⟨o, vs, e, e1, e2, e3, r.ext x⟩
  | pk p ds => obtain ⟨vs, o, e, q, r⟩ := r; exact ⟨vs, o, e, q, r.ext x⟩

/-- the heap changed at nothing that the relation tells of -/
theorem OR.same {P : Params} {g : TagMap} {h h' : Heap} {i : Nat} {a : Addr} {o : O} (r : OR P g h i a o) (k : ∀ b, (g b = .main i ∧ b = a) ∨ g b = .dict i → ∀ o, h.get? b = some o → h'.get? b = some o) (ha : g a = .main i) : OR P g h' i a o := by
  cases o with
  | list ds => obtain ⟨vs, n, e, r⟩ := r; exact ⟨vs, n, k a (.inl ⟨ha, rfl⟩) _ e, r⟩
  | dict kvs => obtain ⟨es, n, ns, e, r⟩ := r; exact ⟨es, n, ns, k a (.inl ⟨ha, rfl⟩) _ e, r⟩
  | inst c fs => obtain ⟨d, es, n, e, t, e', r⟩ := r; exact ⟨d, es, n, k a (.inl ⟨ha, rfl⟩) _ e, t, k d (.inr t) _ e', r⟩
  | cell v => obtain ⟨o, u, e, e', r⟩ := r; exact ⟨o, u, k a (.inl ⟨ha, rfl⟩) _ e, e', r⟩
  | exc c fo => obtain ⟨o, vs, e, e1, e2, e3, r⟩ := r; exact ⟨o, vs, k a (.inl ⟨ha, rfl⟩) _ e, e1, e2, e3, r.same fun b t o e => k b (.inr t) o e⟩
  | pk p ds => obtain ⟨vs, o, e, q, r⟩ := r; exact ⟨vs, o, k a (.inl ⟨ha, rfl⟩) _ e, q, r⟩

/-- what stood, stands -/
theorem Rel.keeps {C : Cx} {g : TagMap} {σ : Sto} {s s' : Shared} (R : Rel C g σ s) (k : ∀ b o, s.heap.get? b = some o → s'.heap.get? b = some o) (hg : s'.gens = s.gens := by rfl) (ho : s'.os = s.os := by rfl) : Rel C g σ s' where
  ok := R.ok
  base := fun b o e => k b o (R.base b o e)
  has := fun a h => let ⟨o, e⟩ := R.has a h; ⟨o, k a o e⟩
  old := R.old
  froz := fun a o h => k a o (R.froz a o h)
  held := fun a o h => k a o (R.held a o h)
  fr := fun a m h => (R.fr a m h).keeps k
  uniq := R.uniq
  idx := R.idx
  idxd := R.idxd
  objs := fun i o h => let ⟨a, t, r⟩ := R.objs i o h; ⟨a, t, r.same (fun b _ o e => k b o e) t⟩
  gens := hg.trans R.gens
  os := ho.trans R.os

theorem Rel.toks {C : Cx} {g : TagMap} {σ : Sto} {s : Shared} (R : Rel C g σ s) (n : Nat) : Rel C g σ { s with toks := n } := R.keeps fun _ _ e => e
theorem Rel.push {C : Cx} {g : TagMap} {σ : Sto} {s : Shared} (R : Rel C g σ s) (o : Obj) : Rel C g σ { s with heap := s.heap.push o } := R.keeps fun _ _ e => Heap.get?_push_of_some o e

/-- only tagged addresses matter -/
theorem Rel.keepsT {C : Cx} {g : TagMap} {σ : Sto} {s s' : Shared} (R : Rel C g σ s) (k : ∀ b o, (g b ≠ .free ∨ C.H0.get? b ≠ none) → s.heap.get? b = some o → s'.heap.get? b = some o) (hg : s'.gens = s.gens := by rfl) (ho : s'.os = s.os := by rfl) : Rel C g σ s' where
  ok := R.ok
  base := fun b o e => k b o (.inr (by rw [e]; intro h; cases h)) (R.base b o e)
  has := fun a h => let ⟨o, e⟩ := R.has a h; ⟨o, k a o (.inl h) e⟩
  old := R.old
  froz := fun a o h => k a o (.inl (by rw [h]; intro h; cases h)) (R.froz a o h)
  held := fun a o h => k a o (.inl (by rw [h]; intro h; cases h)) (R.held a o h)
  fr := fun a m h => (R.fr a m h).at' fun o e => k a o (.inl (by rw [h]; intro h; cases h)) e
  uniq := R.uniq
  idx := R.idx
  idxd := R.idxd
  objs := fun i o h => let ⟨a, t, r⟩ := R.objs i o h; ⟨a, t, r.same (fun b hb o e => k b o (.inl (by rcases hb with ⟨hb, _⟩ | hb <;> (rw [hb]; intro h; cases h))) e) t⟩
  gens := hg.trans R.gens
  os := ho.trans R.os

noncomputable def TagMap.put (g : TagMap) (a : Addr) (t : Tag) : TagMap := fun b => if b = a then t else g b
theorem put_self (g : TagMap) (a : Addr) (t : Tag) : g.put a t a = t := by simp [TagMap.put]
theorem put_ne (g : TagMap) {a b : Addr} (t : Tag) (h : b ≠ a) : g.put a t b = g b := by simp [TagMap.put, h]
theorem Ext.put {g : TagMap} {a : Addr} (h : g a = .free) (t : Tag) : Ext g (g.put a t) := fun b hb => put_ne g t fun e => hb (e ▸ h)

theorem ExtV.put {g : TagMap} {a : Addr} (h : ¬ (g a).solid) (t : Tag) : ExtV g (g.put a t) := fun b hb => put_ne g t fun e => h (e ▸ hb)

noncomputable def Tag.fits (t : Tag) (h : Heap) (a : Addr) (H0 : Heap) : Prop := match t with
  | .free => True
  | .froz o => h.get? a = some o
  | .held o => h.get? a = some o ∧ H0.get? a = none
  | .fr m => h.Ns a m ∧ H0.get? a = none
  | _ => False
/-- an address that no value tells of gets another tag -/
theorem Rel.retag {C : Cx} {g : TagMap} {σ : Sto} {s : Shared} {a : Addr} {t : Tag} (R : Rel C g σ s) (h : ¬ (g a).solid) (f : t.fits s.heap a C.H0) : Rel C (g.put a t) σ s where
  ok := R.ok
  base := R.base
  has := fun b hb => by
    by_cases q : b = a
    · subst q; rw [put_self] at hb
      cases t with
      | free => exact absurd rfl hb
      | froz o => exact ⟨o, f⟩
      | held o => exact ⟨o, f.1⟩
      | fr m => obtain ⟨⟨o, _, _, e, _⟩, _⟩ := f; exact ⟨o, e⟩
      | main i => exact f.elim
      | dict i => exact f.elim
    · exact R.has b (by rwa [put_ne g _ q] at hb)
  old := fun b hb => by
    by_cases q : b = a
    · subst q; rw [put_self]
      cases t with
      | free => exact .inr rfl
      | froz o => exact .inl ⟨o, rfl⟩
      | held o => exact absurd f.2 hb
      | fr m => exact absurd f.2 hb
      | main i => exact f.elim
      | dict i => exact f.elim
    · rw [put_ne g _ q]; exact R.old b hb
  froz := fun b o' hb => by
    by_cases q : b = a
    · subst q; rw [put_self] at hb; subst hb; exact f
    · rw [put_ne g _ q] at hb; exact R.froz b o' hb
  held := fun b o' hb => by
    by_cases q : b = a
    · subst q; rw [put_self] at hb; subst hb; exact f.1
    · rw [put_ne g _ q] at hb; exact R.held b o' hb
  fr := fun b o' hb => by
    by_cases q : b = a
    · subst q; rw [put_self] at hb; subst hb; exact f.1
    · rw [put_ne g _ q] at hb; exact R.fr b o' hb
  uniq := fun b c i hb hc => by
    by_cases q : b = a
    · subst q; rw [put_self] at hb; subst hb; exact f.elim
    · by_cases q' : c = a
      · subst q'; rw [put_self] at hc; subst hc; exact f.elim
      · rw [put_ne g _ q] at hb; rw [put_ne g _ q'] at hc; exact R.uniq b c i hb hc
  idx := fun b i hb => by
    by_cases q : b = a
    · subst q; rw [put_self] at hb; subst hb; exact f.elim
    · rw [put_ne g _ q] at hb; exact R.idx b i hb
  idxd := fun b i hb => by
    by_cases q : b = a
    · subst q; rw [put_self] at hb; subst hb; exact f.elim
    · rw [put_ne g _ q] at hb; exact R.idxd b i hb
  objs := fun i o' hi => by
    obtain ⟨b, t, r⟩ := R.objs i o' hi
    exact ⟨b, (ExtV.put h _).at t trivial, r.ext (ExtV.put h _)⟩
  gens := R.gens
  os := R.os

/-- things may be forgotten -/
theorem Rel.forget {C : Cx} {g : TagMap} {σ σ' : Sto} {s : Shared} (R : Rel C g σ s) (h : ∀ i o, σ'.get i = some o → σ.get i = some o) (hx : σ.nx ≤ σ'.nx) : Rel C g σ' s :=
  ⟨R.ok, R.base, R.has, R.old, R.froz, R.held, R.fr, R.uniq, fun a i e => Nat.lt_of_lt_of_le (R.idx a i e) hx, fun a i e => Nat.lt_of_lt_of_le (R.idxd a i e) hx, fun i o e => R.objs i o (h i o e), R.gens, R.os⟩

/-- a place of the store is filled -/
theorem Rel.fill {C : Cx} {g : TagMap} {σ : Sto} {s : Shared} {a : Addr} {o : O} {k : Nat} (R : Rel C g σ s) (hk : k < σ.nx) (hno : ∀ b, g b ≠ .main k) (h : g a = .free) (h0 : C.H0.get? a = none) (e : OR C.w.params (g.put a (.main k)) s.heap k a o) (he : ∃ o, s.heap.get? a = some o) :
    Rel C (g.put a (.main k)) (σ.set k o) s := by
  have hs : ¬ (g a).solid := by rw [h]; exact fun x => x
  refine ⟨R.ok, R.base, ?_, ?_, ?_, ?_, ?_, ?_, ?_, ?_, ?_, R.gens, R.os⟩
  · intro b hb
    by_cases q : b = a
    · exact q ▸ he
    · exact R.has b (by rwa [put_ne g _ q] at hb)
  · intro b hb
    by_cases q : b = a
    · exact absurd (q ▸ h0) hb
    · rw [put_ne g _ q]; exact R.old b hb
  · intro b o' hb
    by_cases q : b = a
    · rw [q, put_self] at hb; cases hb
    · rw [put_ne g _ q] at hb; exact R.froz b o' hb
  · intro b o' hb
    by_cases q : b = a
    · rw [q, put_self] at hb; cases hb
    · rw [put_ne g _ q] at hb; exact R.held b o' hb
  · intro b o' hb
    by_cases q : b = a
    · rw [q, put_self] at hb; cases hb
    · rw [put_ne g _ q] at hb; exact R.fr b o' hb
  · intro b c i hb hc
    by_cases q : b = a
    · by_cases q' : c = a
      · rw [q, q']
      · rw [q, put_self] at hb; cases hb; rw [put_ne g _ q'] at hc; exact absurd hc (hno c)
    · rw [put_ne g _ q] at hb
      by_cases q' : c = a
      · rw [q', put_self] at hc; cases hc; exact absurd hb (hno b)
      · rw [put_ne g _ q'] at hc; exact R.uniq b c i hb hc
  · intro b i hb
    by_cases q : b = a
    · rw [q, put_self] at hb; cases hb; exact hk
    · rw [put_ne g _ q] at hb; exact R.idx b i hb
  · intro b i hb
    by_cases q : b = a
    · rw [q, put_self] at hb; cases hb
    · rw [put_ne g _ q] at hb; exact R.idxd b i hb
  · intro i o' hi
    rw [Sto.get_set] at hi
    split at hi
    · rename_i q; cases hi; subst q; exact ⟨a, put_self .., e⟩
    · obtain ⟨b, t, r⟩ := R.objs i o' hi
      exact ⟨b, (ExtV.put hs _).at t trivial, r.ext (ExtV.put hs _)⟩
noncomputable def Sto.bump (σ : Sto) : Sto := ⟨σ.nx + 1, σ.get⟩
theorem Sto.bump_set (σ : Sto) (o : O) : σ.bump.set σ.nx o = σ.push o := rfl
theorem Rel.bump {C : Cx} {g : TagMap} {σ : Sto} {s : Shared} (R : Rel C g σ s) : Rel C g σ.bump s := R.forget (fun _ _ h => h) (Nat.le_succ _)
/-- a new object of the store -/
theorem Rel.newMain {C : Cx} {g : TagMap} {σ : Sto} {s : Shared} {a : Addr} {o : O} (R : Rel C g σ s) (h : g a = .free) (h0 : C.H0.get? a = none) (e : OR C.w.params (g.put a (.main σ.nx)) s.heap σ.nx a o) (he : ∃ o, s.heap.get? a = some o) :
    Rel C (g.put a (.main σ.nx)) (σ.push o) s :=
  R.bump.fill (Nat.lt_succ_self _) (fun b q => Nat.lt_irrefl _ (R.idx b _ q)) h h0 e he

/-- a second address of an object of the store (an instance's names) -/
theorem Rel.newDict {C : Cx} {g : TagMap} {σ : Sto} {s : Shared} {d : Addr} {i : Nat} (R : Rel C g σ s) (hi : i < σ.nx) (h : g d = .free) (h0 : C.H0.get? d = none) (he : ∃ o, s.heap.get? d = some o) : Rel C (g.put d (.dict i)) σ s := by
  have hs : ¬ (g d).solid := by rw [h]; exact fun x => x
  refine ⟨R.ok, R.base, ?_, ?_, ?_, ?_, ?_, ?_, ?_, ?_, ?_, R.gens, R.os⟩
  · intro b hb
    by_cases q : b = d
    · exact q ▸ he
    · exact R.has b (by rwa [put_ne g _ q] at hb)
  · intro b hb
    by_cases q : b = d
    · exact absurd (q ▸ h0) hb
    · rw [put_ne g _ q]; exact R.old b hb
  · intro b o' hb
    by_cases q : b = d
    · rw [q, put_self] at hb; cases hb
    · rw [put_ne g _ q] at hb; exact R.froz b o' hb
  · intro b o' hb
    by_cases q : b = d
    · rw [q, put_self] at hb; cases hb
    · rw [put_ne g _ q] at hb; exact R.held b o' hb
  · intro b o' hb
    by_cases q : b = d
    · rw [q, put_self] at hb; cases hb
    · rw [put_ne g _ q] at hb; exact R.fr b o' hb
  · intro b c j hb hc
    by_cases q : b = d
    · rw [q, put_self] at hb; cases hb
    · by_cases q' : c = d
      · rw [q', put_self] at hc; cases hc
      · rw [put_ne g _ q] at hb; rw [put_ne g _ q'] at hc; exact R.uniq b c j hb hc
  · intro b j hb
    by_cases q : b = d
    · rw [q, put_self] at hb; cases hb
    · rw [put_ne g _ q] at hb; exact R.idx b j hb
  · intro b j hb
    by_cases q : b = d
    · rw [q, put_self] at hb; cases hb; exact hi
    · rw [put_ne g _ q] at hb; exact R.idxd b j hb
  · intro j o' hj
    obtain ⟨b, t, r⟩ := R.objs j o' hj
    exact ⟨b, (ExtV.put hs _).at t trivial, r.ext (ExtV.put hs _)⟩

/-- an object of the store is changed -/
theorem Rel.upd {C : Cx} {g : TagMap} {σ : Sto} {s s' : Shared} {a b : Addr} {i : Nat} {o : O} (R : Rel C g σ s) (ta : g a = .main i) (tb : b = a ∨ g b = .dict i) (k : ∀ c o, c ≠ b → s.heap.get? c = some o → s'.heap.get? c = some o)
    (he : ∃ o, s'.heap.get? b = some o) (e : OR C.w.params g s'.heap i a o) (hg : s'.gens = s.gens := by rfl) (ho : s'.os = s.os := by rfl) : Rel C g (σ.set i o) s' := by
  have nb : ∀ {c t}, g c = t → t ≠ .main i → t ≠ .dict i → c ≠ b := by
    intro c t ht h1 h2 q
    subst q
    rcases tb with rfl | tb
    · exact h1 (ht.symm.trans ta)
    · exact h2 (ht.symm.trans tb)
  have b0 : C.H0.get? b = none := R.h0_none (by rcases tb with rfl | tb <;> simp [*]) (by rcases tb with rfl | tb <;> simp [*])
  refine ⟨R.ok, fun c o q => k c o (fun z => ?_) (R.base c o q), ?_, R.old, ?_, ?_, ?_, R.uniq, R.idx, R.idxd, ?_, hg.trans R.gens, ho.trans R.os⟩
  · rw [z, b0] at q; cases q
  · intro c hc
    by_cases q : c = b
    · exact q ▸ he
    · obtain ⟨o, e⟩ := R.has c hc; exact ⟨o, k c o q e⟩
  · intro c o' hc
    exact k c o' (nb hc (by intro h; cases h) (by intro h; cases h)) (R.froz c o' hc)
  · intro c o' hc
    exact k c o' (nb hc (by intro h; cases h) (by intro h; cases h)) (R.held c o' hc)
  · intro c m hc
    exact (R.fr c m hc).at' fun o' q => k c o' (nb hc (by intro h; cases h) (by intro h; cases h)) q
  · intro j o' hj
    rw [Sto.get_set] at hj
    split at hj
    · rename_i q; cases hj; subst q; exact ⟨a, ta, e⟩
    · rename_i q
      obtain ⟨c, t, r⟩ := R.objs j o' hj
      refine ⟨c, t, r.same (fun z hz o'' e'' => k z o'' ?_ e'') t⟩
      rcases hz with ⟨hz, _⟩ | hz <;> exact nb hz (by intro h; cases h <;> exact q rfl) (by intro h; cases h <;> exact q rfl)

/-- the names of a frame (or any held thing) may turn: all else stands -/
noncomputable def ExtL (L : Addr) (g g' : TagMap) : Prop := ∀ a, a ≠ L → g a ≠ .free → g' a = g a
theorem ExtL.refl (L : Addr) (g : TagMap) : ExtL L g g := fun _ _ _ => rfl
theorem ExtL.trans {L : Addr} {g g' g'' : TagMap} (x : ExtL L g g') (y : ExtL L g' g'') : ExtL L g g'' := fun a n h => by
  have e := x a n h
  rw [← e] at h ⊢
  exact y a n h
theorem Ext.l {g g' : TagMap} (L : Addr) (x : Ext g g') : ExtL L g g' := fun a _ h => x a h
theorem ExtL.v {L : Addr} {g g' : TagMap} (x : ExtL L g g') (h : ¬ (g L).solid) : ExtV g g' := fun a ha => by
  by_cases q : a = L
  · exact absurd (q ▸ ha) h
  · exact x a q (by intro e; rw [e] at ha; exact ha)
theorem ExtL.put {L : Addr} (g : TagMap) (t : Tag) : ExtL L g (g.put L t) := fun _ n _ => put_ne g t n

end Mine
/- part MSem -/
namespace Mine
open PySem PySem.W PySem.Calls PyProof.Rows

abbrev Cx.M (C : Cx) : Model := model C.prog C.w

/-- what is to hold when an exception flies: the tags as they were, the frames, the exception, the state -/
structure XPost where
  P : Addr → TagMap → Option (List Env) → Value → Shared → Prop
  monoL : ∀ {L : Addr} {g g' : TagMap} {f : Option (List Env)} {e : Value} {s : Shared}, ExtL L g g' → P L g' f e s → P L g f e s
noncomputable def XPost.none : XPost := ⟨fun _ _ _ _ _ => False, fun _ h => h⟩
theorem XPost.mono (X : XPost) {L : Addr} {g g' : TagMap} {f : Option (List Env)} {e : Value} {s : Shared} (x : Ext g g') (h : X.P L g' f e s) : X.P L g f e s := X.monoL (x.l L) h

structure En where
  sc : Scope
  cells : List (Str × Nat)
  d : Nat
  calm : Bool
  fn : Option (Value × Str)

noncomputable def FrameOk (g : TagMap) (env : Env) : Prop := env.scope.kind ≠ .module ∧ ∃ L m, env.frame = some L ∧ g L = .fr m

structure Ar (g : TagMap) (d : Nat) (calm : Bool) (A : Around) : Prop where
  depth : A.depth + 2 * d < recursionLimit
  units : A.units + 20 * d + 200 < cLine
  calm : calm = true → A.handled = .none
  frames : ∃ l, A.frames = some l ∧ ∀ env ∈ l, FrameOk g env
  guards : A.guards = some []

structure EnvR (W : En) (g : TagMap) (L : Addr) (cenv : Env) : Prop where
  sc : cenv.scope = W.sc
  kind : W.sc.kind = .function
  loc : cenv.locals = L
  glob : cenv.globals = mainGlobals
  blt : cenv.builtins = builtinsNs
  cells : ∀ x i, W.cells.lookup x = some i → ∃ a, cenv.cells.lookup x = some a ∧ g a = .main i
  frame : FrameOk g cenv
  fn : ∀ c q, W.fn = some (c, q) → cenv.code = c ∧ cenv.qual = q

noncomputable def LocR (g : TagMap) (l : Loc) (m : Str → Option Value) : Prop := ∀ x, OVR g (l x) (m x)

structure Pre (C : Cx) (W : En) (l : Loc) (σ : Sto) (g : TagMap) (A : Around) (cenv : Env) (L : Addr) (m : Str → Option Value) (s : Shared) : Prop where
  R : Rel C g σ s
  E : EnvR W g L cenv
  A : Ar g W.d W.calm A
  fm : g L = .fr m
  fl : LocR g l m

theorem FrameOk.ext {g g' : TagMap} {env : Env} (x : Ext g g') (h : FrameOk g env) : FrameOk g' env :=
  let ⟨k, L, m, e, t⟩ := h; ⟨k, L, m, e, x.at t (by intro h; cases h)⟩
theorem Ar.ext {g g' : TagMap} {d : Nat} {c : Bool} {A : Around} (x : Ext g g') (h : Ar g d c A) : Ar g' d c A :=
  ⟨h.depth, h.units, h.calm, let ⟨l, e, k⟩ := h.frames; ⟨l, e, fun env he => (k env he).ext x⟩, h.guards⟩
theorem EnvR.ext {W : En} {g g' : TagMap} {L : Addr} {cenv : Env} (x : Ext g g') (h : EnvR W g L cenv) : EnvR W g' L cenv :=
  ⟨h.sc, h.kind, h.loc, h.glob, h.blt, fun y i e => let ⟨a, e1, t⟩ := h.cells y i e; ⟨a, e1, x.at t (by intro h; cases h)⟩, h.frame.ext x, h.fn⟩
theorem LocR.ext {g g' : TagMap} {l : Loc} {m : Str → Option Value} (x : ExtV g g') (h : LocR g l m) : LocR g' l m := fun y => (h y).ext x
theorem Pre.step {C : Cx} {W : En} {l : Loc} {σ σ' : Sto} {g g' : TagMap} {A : Around} {cenv : Env} {L : Addr} {m : Str → Option Value} {s s' : Shared} (p : Pre C W l σ g A cenv L m s) (x : Ext g g') (R : Rel C g' σ' s') : Pre C W l σ' g' A cenv L m s' :=
  ⟨R, p.E.ext x, p.A.ext x, x.at p.fm (by intro h; cases h), p.fl.ext x.v⟩

set_option genSizeOf false
set_option genInjectivity false
inductive Up (C : Cx) (g : TagMap) (Q : V → Sto → Prop) (v : Value) (s' : Shared) : Prop
  | mk (d : V) (g' : TagMap) (σ' : Sto) (x : Ext g g') (R : Rel C g' σ' s') (hv : VR g' d v) (q : Q d σ')
inductive UpB (C : Cx) (g : TagMap) (Q : Bool → Sto → Prop) (b : Bool) (s' : Shared) : Prop
  | mk (g' : TagMap) (σ' : Sto) (x : Ext g g') (R : Rel C g' σ' s') (q : Q b σ')
inductive UpL (C : Cx) (g : TagMap) (Q : List V → Sto → Prop) (vs : List Value) (s' : Shared) : Prop
  | mk (ds : List V) (g' : TagMap) (σ' : Sto) (x : Ext g g') (R : Rel C g' σ' s') (hv : VRs g' ds vs) (q : Q ds σ')
theorem Up.back {C : Cx} {g g' : TagMap} {Q : V → Sto → Prop} {v : Value} {s' : Shared} (x : Ext g g') (h : Up C g' Q v s') : Up C g Q v s' :=
  let ⟨d, g'', σ', y, r, r2, r3⟩ := h; ⟨d, g'', σ', x.trans y, r, r2, r3⟩
theorem UpB.back {C : Cx} {g g' : TagMap} {Q : Bool → Sto → Prop} {v : Bool} {s' : Shared} (x : Ext g g') (h : UpB C g' Q v s') : UpB C g Q v s' :=
  let ⟨g'', σ', y, r, r2⟩ := h; ⟨g'', σ', x.trans y, r, r2⟩
theorem UpL.back {C : Cx} {g g' : TagMap} {Q : List V → Sto → Prop} {v : List Value} {s' : Shared} (x : Ext g g') (h : UpL C g' Q v s') : UpL C g Q v s' :=
  let ⟨d, g'', σ', y, r, r2, r3⟩ := h; ⟨d, g'', σ', x.trans y, r, r2, r3⟩

/-- an expression's value -/
noncomputable def SE (C : Cx) (X : XPost) (W : En) (e : Expr) (l : Loc) (σ : Sto) (Q : V → Sto → Prop) : Prop :=
  ∀ g A cenv L m s, Pre C W l σ g A cenv L m s → wpAny C.M A (eval e cenv) (Up C g Q) (X.P L g A.frames) s
/-- an expression as a test -/
noncomputable def ST (C : Cx) (X : XPost) (W : En) (e : Expr) (l : Loc) (σ : Sto) (Q : Bool → Sto → Prop) : Prop :=
  ∀ g A cenv L m s, Pre C W l σ g A cenv L m s → wpAny C.M A (isTrue e cenv (eval e cenv)) (UpB C g Q) (X.P L g A.frames) s
/-- a step without names: a value out of values -/
noncomputable def SV (C : Cx) (X : XPost) (W : En) (σ : Sto) (ds : List V) (t : List Value → Sem Value) (Q : V → Sto → Prop) : Prop :=
  ∀ g A L s vs, Rel C g σ s → Ar g W.d W.calm A → VRs g ds vs → wpAny C.M A (t vs) (Up C g Q) (X.P L g A.frames) s

section
variable {C : Cx} {X : XPost} {W : En} {l : Loc} {σ : Sto} {Q : V → Sto → Prop} {P : Bool → Sto → Prop}

theorem SE.mono {Q' : V → Sto → Prop} {e : Expr} (h : SE C X W e l σ Q) (k : ∀ d σ', Q d σ' → Q' d σ') : SE C X W e l σ Q' :=
  fun g A cenv L m s p => wpAny_mono (h g A cenv L m s p) (fun _ _ ⟨d, g', σ', x, R, v, q⟩ => ⟨d, g', σ', x, R, v, k _ _ q⟩) fun _ _ h => h

/-- one value, then more -/
theorem SE.then {e : Expr} {g : TagMap} {A : Around} {cenv : Env} {L : Addr} {m : Str → Option Value} {s : Shared} {α : Type} {f : Value → Sem α} {Qc : α → Shared → Prop} {Q₁ : V → Sto → Prop} (p : Pre C W l σ g A cenv L m s) (h : SE C X W e l σ Q₁)
    (k : ∀ d v g' σ' s', Ext g g' → Pre C W l σ' g' A cenv L m s' → VR g' d v → Q₁ d σ' → wpAny C.M A (f v) Qc (X.P L g A.frames) s') : wpAny C.M A (eval e cenv) (fun v s' => wpAny C.M A (f v) Qc (X.P L g A.frames) s') (X.P L g A.frames) s :=
  wpAny_mono (h g A cenv L m s p) (fun v s' ⟨d, g', σ', x, R, hv, q⟩ => k d v g' σ' s' x (p.step x R) hv q) fun _ _ h => h
theorem ST.then {e : Expr} {g : TagMap} {A : Around} {cenv : Env} {L : Addr} {m : Str → Option Value} {s : Shared} {Qc : Bool → Shared → Prop} {Q₁ : Bool → Sto → Prop} (p : Pre C W l σ g A cenv L m s) (h : ST C X W e l σ Q₁)
    (k : ∀ b g' σ' s', Ext g g' → Pre C W l σ' g' A cenv L m s' → Q₁ b σ' → Qc b s') : wpAny C.M A (isTrue e cenv (eval e cenv)) Qc (X.P L g A.frames) s :=
  wpAny_mono (h g A cenv L m s p) (fun b s' ⟨g', σ', x, R, q⟩ => k b g' σ' s' x (p.step x R) q) fun _ _ h => h

theorem up_back {α : Type} {t : Sem α} {g g' : TagMap} {A : Around} {L : Addr} {s : Shared} {Qc Qc' : α → Shared → Prop} (x : Ext g g') (h : wpAny C.M A t Qc' (X.P L g' A.frames) s) (k : ∀ a s, Qc' a s → Qc a s) : wpAny C.M A t Qc (X.P L g A.frames) s :=
  wpAny_mono h k fun _ _ h => X.mono x h
/-- nothing is made, nothing changed -/
theorem Up.here {C : Cx} {g : TagMap} {σ : Sto} {s : Shared} {d : V} {v : Value} {Q : V → Sto → Prop} (R : Rel C g σ s) (h : VR g d v) (q : Q d σ) : Up C g Q v s := ⟨d, g, σ, Ext.refl g, R, h, q⟩
theorem UpB.here {C : Cx} {g : TagMap} {σ : Sto} {s : Shared} {b : Bool} {Q : Bool → Sto → Prop} (R : Rel C g σ s) (q : Q b σ) : UpB C g Q b s := ⟨g, σ, Ext.refl g, R, q⟩

theorem SE.none {k pos} (h : Q .none σ) : SE C X W (.Constant .none k pos) l σ Q := fun _ _ _ _ _ _ p => wpAny_Constant_none (Up.here (d := .none) p.R rfl h)
theorem SE.bool {b k pos} (h : Q (.bool b) σ) : SE C X W (.Constant (.bool b) k pos) l σ Q := fun _ _ _ _ _ _ p => wpAny_Constant_bool (Up.here (d := .bool b) p.R rfl h)
theorem SE.int {i k pos} (h : Q (.int i) σ) : SE C X W (.Constant (.int i) k pos) l σ Q := fun _ _ _ _ _ _ p => wpAny_Constant_int (Up.here (d := .int i) (p.R.toks _) ⟨_, rfl⟩ h)
theorem SE.str {x k pos} (h : Q (.str x) σ) : SE C X W (.Constant (.str x) k pos) l σ Q := fun _ _ _ _ _ _ p => wpAny_Constant_str (Up.here (d := .str x) (p.R.toks _) ⟨_, rfl⟩ h)

theorem EnvR.kindOf {g : TagMap} {L : Addr} {cenv : Env} (h : EnvR W g L cenv) (x : Str) : cenv.kindOf x = W.sc.names.lookup x := by
  show cenv.scope.names.lookup x = _; rw [h.sc]
theorem EnvR.ckind {g : TagMap} {L : Addr} {cenv : Env} (h : EnvR W g L cenv) : cenv.scope.kind = .function := by rw [h.sc]; exact h.kind

theorem SE.local {x : Str} {pos : Pos} {d : V} (hk : W.sc.names.lookup x = some .local) (hv : l x = some d) (hd : (x == ("__debug__" : Str)) = false) (h : Q d σ) : SE C X W (.Name x pos) l σ Q := fun g A cenv L m s p => by
  have e := p.fl x
  rw [hv] at e
  obtain ⟨u, e, r⟩ := e
  exact wpAny_Name (wpAny_loadName_local p.E.ckind ((p.E.kindOf x).trans hk) (p.E.loc ▸ p.R.fr L m p.fm) e (Up.here p.R r h)) hd

/-- a cell's value -/
theorem Rel.cellAt {g : TagMap} {s : Shared} {a : Addr} {i : Nat} {d : V} (R : Rel C g σ s) (t : g a = .main i) (h : σ.get i = some (.cell (some d))) : ∃ v, s.heap.IsCell a (some v) ∧ VR g d v := by
  obtain ⟨b, tb, o, u, e, e', r⟩ := R.objs i _ h
  obtain rfl := R.uniq a b i t tb
  obtain ⟨v, rfl, r⟩ := r
  exact ⟨v, ⟨o, e, e'⟩, r⟩
theorem SE.cell {x : Str} {pos : Pos} {d : V} {i : Nat} (hk : W.sc.names.lookup x = some .cell ∨ W.sc.names.lookup x = some .free) (hc : W.cells.lookup x = some i) (hv : σ.get i = some (.cell (some d)))
    (hd : (x == ("__debug__" : Str)) = false) (hn : (x == ("__classdict__" : Str)) = false) (h : Q d σ) : SE C X W (.Name x pos) l σ Q := fun g A cenv L m s p => by
  obtain ⟨a, e, t⟩ := p.E.cells x i hc
  obtain ⟨v, hcv, r⟩ := p.R.cellAt t hv
  rcases hk with hk | hk
  · exact wpAny_Name (wpAny_loadName_cell p.E.ckind ((p.E.kindOf x).trans hk) e hcv (Up.here p.R r h)) hd
  · exact wpAny_Name (wpAny_loadName_free p.E.ckind ((p.E.kindOf x).trans hk) e hcv (Up.here p.R r h) hn) hd

theorem SE.glob {x : Str} {pos : Pos} {v : Value} (hk : W.sc.names.lookup x = some .globalImplicit) (hg : C.mg x = some v) (hd : (x == ("__debug__" : Str)) = false) (h : Q (.val v) σ) : SE C X W (.Name x pos) l σ Q := fun g A cenv L m s p => by
  exact Name_function_global p.E.ckind ((p.E.kindOf x).trans hk) (loadGlobal_global (by rw [p.E.glob]; exact p.R.top.g) hg (Up.here (d := .val v) p.R rfl h)) hd
theorem SE.blt {x : Str} {pos : Pos} {v : Value} (hk : W.sc.names.lookup x = some .globalImplicit) (hg : C.mg x = .none) (hb : C.mb x = some v) (hd : (x == ("__debug__" : Str)) = false) (h : Q (.val v) σ) : SE C X W (.Name x pos) l σ Q := fun g A cenv L m s p => by
  exact Name_function_global p.E.ckind ((p.E.kindOf x).trans hk) (loadGlobal_builtin (by rw [p.E.glob]; exact p.R.top.g) hg (by rw [p.E.blt]; exact p.R.top.b) hb (Up.here (d := .val v) p.R rfl h)) hd

/-- a value in hand goes on to a step of values -/
theorem SV.use1 {g : TagMap} {A : Around} {L : Addr} {s : Shared} {σ : Sto} {d : V} {v : Value} {t : List Value → Sem Value} (h : SV C X W σ [d] t Q) (R : Rel C g σ s) (a : Ar g W.d W.calm A) (hv : VR g d v) : wpAny C.M A (t [v]) (Up C g Q) (X.P L g A.frames) s :=
  h g A L s [v] R a ⟨v, [], rfl, hv, rfl⟩
theorem SV.use2 {g : TagMap} {A : Around} {L : Addr} {s : Shared} {σ : Sto} {d d' : V} {v v' : Value} {t : List Value → Sem Value} (h : SV C X W σ [d, d'] t Q) (R : Rel C g σ s) (a : Ar g W.d W.calm A) (hv : VR g d v) (hv' : VR g d' v') : wpAny C.M A (t [v, v']) (Up C g Q) (X.P L g A.frames) s :=
  h g A L s [v, v'] R a ⟨v, [v'], rfl, hv, v', [], rfl, hv', rfl⟩

noncomputable def tBin (op : Operator) : List Value → Sem Value
  | [a, b] => binaryOp op a b
  | _ => unsupported ""
noncomputable def tCmp (op : CmpOp) : List Value → Sem Value
  | [a, b] => compareOp op a b
  | _ => unsupported ""
noncomputable def tUn (op : UnaryOp) : List Value → Sem Value
  | [a] => unaryOp op a
  | _ => unsupported ""

theorem SE.two {a b : Expr} {t : List Value → Sem Value} {g : TagMap} {A : Around} {cenv : Env} {L : Addr} {m : Str → Option Value} {s : Shared} (p : Pre C W l σ g A cenv L m s)
    (h : SE C X W a l σ fun x σ₁ => SE C X W b l σ₁ fun y σ₂ => SV C X W σ₂ [x, y] t Q) :
    wpAny C.M A (eval a cenv) (fun v s₁ => wpAny C.M A (eval b cenv) (fun u s₂ => wpAny C.M A (t [v, u]) (Up C g Q) (X.P L g A.frames) s₂) (X.P L g A.frames) s₁) (X.P L g A.frames) s := by
  refine wpAny_mono (h g A cenv L m s p) ?_ fun _ _ h => h
  rintro v s₁ ⟨x, g₁, σ₁, e₁, R₁, hv, q⟩
  have p₁ := p.step e₁ R₁
  refine wpAny_mono (q g₁ A cenv L m s₁ p₁) ?_ fun _ _ h => X.mono e₁ h
  rintro u s₂ ⟨y, g₂, σ₂, e₂, R₂, hu, q₂⟩
  have p₂ := p₁.step e₂ R₂
  exact wpAny_mono (q₂.use2 R₂ p₂.A (hv.ext e₂.v) hu) (fun _ _ h => Up.back (e₁.trans e₂) h) fun _ _ h => X.mono (e₁.trans e₂) h
theorem SE.bin {a b : Expr} {op : Operator} {pos : Pos} (h : SE C X W a l σ fun x σ₁ => SE C X W b l σ₁ fun y σ₂ => SV C X W σ₂ [x, y] (tBin op) Q) : SE C X W (.BinOp a op b pos) l σ Q := fun _ _ _ _ _ _ p =>
  wpAny_BinOp (SE.two p h)
theorem SE.cmp {a b : Expr} {op : CmpOp} {pos : Pos} (hm : behindInMarks op b = false) (h : SE C X W a l σ fun x σ₁ => SE C X W b l σ₁ fun y σ₂ => SV C X W σ₂ [x, y] (tCmp op) Q) : SE C X W (.Compare a [op] [b] pos) l σ Q := fun _ _ _ _ _ _ p =>
  wpAny_Compare1 (SE.two p h) hm
theorem SE.un {a : Expr} {op : UnaryOp} {pos : Pos} (h : SE C X W a l σ fun x σ₁ => SV C X W σ₁ [x] (tUn op) Q) : SE C X W (.UnaryOp op a pos) l σ Q := fun g A cenv L m s p =>
  wpAny_UnaryOp (SE.then p h fun x v g₁ σ₁ s₁ e₁ p₁ hv q => up_back e₁ (q.use1 p₁.R p₁.A hv) fun _ _ h => h.back e₁)
theorem SE.ifExp {t a b : Expr} {pos : Pos} (h : ST C X W t l σ fun c σ₁ => if c = true then SE C X W a l σ₁ Q else SE C X W b l σ₁ Q) : SE C X W (.IfExp t a b pos) l σ Q := fun g A cenv L m s p =>
  wpAny_IfExp (ST.then p h fun c g₁ σ₁ s₁ e₁ p₁ q => by
    cases c with
    | false => exact up_back e₁ (q g₁ A cenv L m s₁ p₁) fun _ _ h => h.back e₁
    | true => exact up_back e₁ (q g₁ A cenv L m s₁ p₁) fun _ _ h => h.back e₁)

/-- tests -/
theorem ST.cmp {a b : Expr} {op : CmpOp} {pos : Pos} (hm : behindInMarks op b = false) (h : SE C X W a l σ fun x σ₁ => SE C X W b l σ₁ fun y σ₂ => SV C X W σ₂ [x, y] (tCmp op) fun d σ₃ => ∃ c, d = .bool c ∧ P c σ₃) : ST C X W (.Compare a [op] [b] pos) l σ P := fun g A cenv L m s p => by
  refine wpAny_isTrue_Compare1 (wpAny_mono (SE.two p h) ?_ fun _ _ h => h) hm
  intro v s₁ h₁
  refine wpAny_mono h₁ ?_ fun _ _ h => h
  intro u s₂ h₂
  refine wpAny_mono h₂ ?_ fun _ _ h => h
  rintro c s₃ ⟨d, g₃, σ₃, e₃, R₃, hc, k, rfl, hP⟩
  obtain rfl : c = .bool k := hc
  exact wpAny_truthy_bool (UpB.back e₃ (UpB.here R₃ hP))

noncomputable def plainTest : Expr → Bool
  | .UnaryOp .Not _ _ | .BoolOp .. | .IfExp .. | .Compare .. => false
  | _ => true
theorem isTrue_plainTest {e : Expr} {env : Env} {whole : Sem Value} (h : plainTest e = true) : isTrue e env whole = (do let v ← whole; standAt e.pos; holding [v] (truthy v)) := by
  cases e <;> first | rfl | exact absurd h Bool.false_ne_true | skip
  rename_i op _ _
  cases op <;> first | rfl | exact absurd h Bool.false_ne_true
theorem ST.val {e : Expr} (hp : plainTest e = true) (h : SE C X W e l σ fun d σ₁ => ∃ c, d = .bool c ∧ P c σ₁) : ST C X W e l σ P := fun g A cenv L m s p => by
  rw [isTrue_plainTest hp]
  refine wpAny_bind (SE.then p h fun d v g₁ σ₁ s₁ e₁ p₁ hv q => ?_)
  obtain ⟨c, rfl, hP⟩ := q
  obtain rfl := hv
  exact wpAny_bind (wpAny_standAt (wpAny_holding (wpAny_truthy_bool (UpB.back e₁ (UpB.here p₁.R hP)))))
theorem ST.not {e : Expr} {pos : Pos} (h : ST C X W e l σ fun b σ₁ => P (!b) σ₁) : ST C X W (.UnaryOp .Not e pos) l σ P := fun g A cenv L m s p =>
  wpAny_isTrue_Not (ST.then p h fun _ _ _ _ e₁ p₁ q => UpB.back e₁ (UpB.here p₁.R q))
theorem ST.ifExp {t a b : Expr} {pos : Pos} (h : ST C X W t l σ fun c σ₁ => if c = true then ST C X W a l σ₁ P else ST C X W b l σ₁ P) : ST C X W (.IfExp t a b pos) l σ P := fun g A cenv L m s p => by
  show wpAny C.M A (do if ← isTrue t cenv (eval t cenv) then isTrue a cenv (eval a cenv) else isTrue b cenv (eval b cenv)) _ _ _
  refine wpAny_bind (ST.then p h fun c g₁ σ₁ s₁ e₁ p₁ q => ?_)
  cases c with
  | false => exact up_back e₁ (q g₁ A cenv L m s₁ p₁) fun _ _ h => h.back e₁
  | true => exact up_back e₁ (q g₁ A cenv L m s₁ p₁) fun _ _ h => h.back e₁

/-- and, or as tests -/
noncomputable def SA (C : Cx) (X : XPost) (W : En) (op : PySem.BoolOp) (es : List Expr) (l : Loc) (σ : Sto) (Q : Bool → Sto → Prop) : Prop :=
  ∀ g A cenv L m s, Pre C W l σ g A cenv L m s → wpAny C.M A (allTrue op es cenv) (UpB C g Q) (X.P L g A.frames) s
theorem SA.nilAnd (h : P true σ) : SA C X W .And [] l σ P := fun _ _ _ _ _ _ p => wpAny_allTrue_And_nil (UpB.here p.R h)
theorem SA.nilOr (h : P false σ) : SA C X W .Or [] l σ P := fun _ _ _ _ _ _ p => wpAny_allTrue_Or_nil (UpB.here p.R h)
theorem SA.consAnd {e : Expr} {r : List Expr} (h : ST C X W e l σ fun b σ₁ => if b = true then SA C X W .And r l σ₁ P else P false σ₁) : SA C X W .And (e :: r) l σ P := fun g A cenv L m s p => by
  show wpAny C.M A (do match BoolOp.And, ← isTrue e cenv (eval e cenv) with
    | .And, false => pure false
    | .Or, true => pure true
    | _, _ => allTrue .And r cenv) _ _ _
  refine wpAny_bind (ST.then p h fun b g₁ σ₁ s₁ e₁ p₁ q => ?_)
  cases b with
  | false => exact wpAny_pure (UpB.back e₁ (UpB.here p₁.R q))
  | true => exact up_back e₁ (q g₁ A cenv L m s₁ p₁) fun _ _ h => h.back e₁
theorem SA.consOr {e : Expr} {r : List Expr} (h : ST C X W e l σ fun b σ₁ => if b = true then P true σ₁ else SA C X W .Or r l σ₁ P) : SA C X W .Or (e :: r) l σ P := fun g A cenv L m s p => by
  show wpAny C.M A (do match BoolOp.Or, ← isTrue e cenv (eval e cenv) with
    | .And, false => pure false
    | .Or, true => pure true
    | _, _ => allTrue .Or r cenv) _ _ _
  refine wpAny_bind (ST.then p h fun b g₁ σ₁ s₁ e₁ p₁ q => ?_)
  cases b with
  | true => exact wpAny_pure (UpB.back e₁ (UpB.here p₁.R q))
  | false => exact up_back e₁ (q g₁ A cenv L m s₁ p₁) fun _ _ h => h.back e₁
theorem ST.boolOp {op : PySem.BoolOp} {es : List Expr} {pos : Pos} (h : SA C X W op es l σ P) : ST C X W (.BoolOp op es pos) l σ P := fun g A cenv L m s p => wpAny_isTrue_BoolOp (h g A cenv L m s p)

/-- and, or as values, of two bools -/
theorem SE.and2 {a b : Expr} {pos : Pos} (h : SE C X W a l σ fun d σ₁ => ∃ c, d = .bool c ∧ if c = true then SE C X W b l σ₁ Q else Q (.bool false) σ₁) : SE C X W (.BoolOp .And [a, b] pos) l σ Q := fun g A cenv L m s p => by
  refine wpAny_And2 (wpAny_mono (h g A cenv L m s p) ?_ fun _ _ h => h)
  rintro v s₁ ⟨d, g₁, σ₁, e₁, R₁, hv, c, rfl, q⟩
  obtain rfl : v = .bool c := hv
  refine wpAny_truthy_bool ?_
  cases c with
  | false => exact ⟨.bool false, g₁, σ₁, e₁, R₁, rfl, q⟩
  | true => exact up_back e₁ (q g₁ A cenv L m s₁ (p.step e₁ R₁)) fun _ _ h => Up.back e₁ h
theorem SE.or2 {a b : Expr} {pos : Pos} (h : SE C X W a l σ fun d σ₁ => ∃ c, d = .bool c ∧ if c = true then Q (.bool true) σ₁ else SE C X W b l σ₁ Q) : SE C X W (.BoolOp .Or [a, b] pos) l σ Q := fun g A cenv L m s p => by
  refine wpAny_Or2 (wpAny_mono (h g A cenv L m s p) ?_ fun _ _ h => h)
  rintro v s₁ ⟨d, g₁, σ₁, e₁, R₁, hv, c, rfl, q⟩
  obtain rfl : v = .bool c := hv
  refine wpAny_truthy_bool ?_
  cases c with
  | true => exact ⟨.bool true, g₁, σ₁, e₁, R₁, rfl, q⟩
  | false => exact up_back e₁ (q g₁ A cenv L m s₁ (p.step e₁ R₁)) fun _ _ h => Up.back e₁ h

/-- several values -/
noncomputable def SL (C : Cx) (X : XPost) (W : En) (es : List Expr) (l : Loc) (σ : Sto) (Q : List V → Sto → Prop) : Prop :=
  ∀ pos g A cenv L m s, Pre C W l σ g A cenv L m s → wpAny C.M A (spliced (backTo pos (starEach es cenv))) (UpL C g Q) (X.P L g A.frames) s
noncomputable def noStar : Expr → Bool
  | .Starred .. => false
  | _ => true
theorem starEach_cons {e : Expr} {r : List Expr} {env : Env} (h : noStar e = true) : starEach (e :: r) env = (false, eval e env) :: starEach r env := by
  cases e <;> first | rfl | exact absurd h Bool.false_ne_true
theorem SL.nil {QL : List V → Sto → Prop} (h : QL [] σ) : SL C X W [] l σ QL := fun _ g _ _ _ _ _ p => wpAny_items_nil ⟨[], g, σ, Ext.refl g, p.R, rfl, h⟩
theorem SL.cons {QL : List V → Sto → Prop} {e : Expr} {r : List Expr} (hs : noStar e = true) (h : SE C X W e l σ fun d σ₁ => SL C X W r l σ₁ fun ds σ₂ => QL (d :: ds) σ₂) : SL C X W (e :: r) l σ QL := fun pos g A cenv L m s p => by
  rw [starEach_cons hs]
  show wpAny C.M A (do
    let v ← eval e cenv
    let here ← (pure [v] : Sem (List Value))
    return here ++ (← holding here (spliced (backTo pos (starEach r cenv))))) _ _ _
  refine wpAny_bind (SE.then p h fun d v g₁ σ₁ s₁ e₁ p₁ hv q => ?_)
  refine wpAny_bind (wpAny_pure (wpAny_bind (wpAny_holding (up_back e₁ (q pos g₁ A cenv L m s₁ p₁) ?_))))
  rintro vs s₂ ⟨ds, g₂, σ₂, e₂, R₂, hvs, q₂⟩
  exact wpAny_pure ⟨d :: ds, g₂, σ₂, e₁.trans e₂, R₂, ⟨v, vs, rfl, hv.ext e₂.v, hvs⟩, q₂⟩

/-- a new object that never changes -/
theorem Rel.newFroz {g : TagMap} {σ : Sto} {s : Shared} (R : Rel C g σ s) (o : Obj) (hf : o.isFreed = false) : Rel C (g.put s.heap.objs.size (.froz o)) σ { s with heap := s.heap.push o } ∧ Ext g (g.put s.heap.objs.size (.froz o)) :=
  have hfree := R.free_size (Nat.le_refl s.heap.objs.size)
  ⟨(R.push o).retag (by rw [hfree]; exact fun x => x) (show (s.heap.push o).get? s.heap.objs.size = some o from Heap.get?_push_size _ hf), Ext.put hfree _⟩

theorem up_newTuple {g : TagMap} {A : Around} {s : Shared} {σ : Sto} {ds : List V} {vs : List Value} {E : Value → Shared → Prop} (R : Rel C g σ s) (h : VRs g ds vs) (hz : ds.length ≤ 1000000) (q : Q (.tup ds) σ) : wpAny C.M A (newTuple vs) (Up C g Q) E s := by
  obtain ⟨R', x⟩ := R.newFroz (tupObj vs) rfl
  exact wpAny_newObj_type ⟨.tup ds, _, σ, x, R', ⟨_, vs, rfl, put_self .., h.ext x.v⟩, q⟩ (by show vs.toArray.size ≤ sizeLine; rw [List.size_toArray, ← h.length, sizeLine_eq]; lia)
theorem SE.tuple {es : List Expr} {k : Nat} {pos : Pos} (h : SL C X W es l σ fun ds σ₁ => ds.length ≤ 1000000 ∧ Q (.tup ds) σ₁) : SE C X W (.Tuple es k pos) l σ Q := fun g A cenv L m s p => by
  refine Tuple_ (wpAny_mono (h pos g A cenv L m s p) ?_ fun _ _ h => h)
  rintro vs s₁ ⟨ds, g₁, σ₁, e₁, R₁, hvs, hz, q⟩
  exact wpAny_mono (up_newTuple (E := fun _ _ => False) R₁ hvs hz q) (fun _ _ h => h.back e₁) fun _ _ h => h.elim

theorem up_newList {g : TagMap} {A : Around} {s : Shared} {σ : Sto} {ds : List V} {vs : List Value} {E : Value → Shared → Prop} (R : Rel C g σ s) (h : VRs g ds vs) (hz : ds.length ≤ 1000000) (q : Q (.ref σ.nx) (σ.push (.list ds))) : wpAny C.M A (newList vs) (Up C g Q) E s := by
  have hfree := R.free_size (Nat.le_refl s.heap.objs.size)
  have x : Ext g (g.put s.heap.objs.size (.main σ.nx)) := Ext.put hfree _
  have ho : (s.heap.push (lstObj vs 0)).get? s.heap.objs.size = some (lstObj vs 0) := Heap.get?_push_size _ rfl
  refine wpAny_newObj_type ⟨.ref σ.nx, _, _, x, (R.push (lstObj vs 0)).newMain (o := .list ds) hfree (R.h0_size (Nat.le_refl _)) ⟨vs, 0, ho, h.ext x.v⟩ ⟨_, ho⟩, ⟨_, rfl, put_self ..⟩, q⟩ (by show vs.toArray.size ≤ sizeLine; rw [List.size_toArray, ← h.length, sizeLine_eq]; lia)
theorem SE.list {es : List Expr} {pos : Pos} (h : SL C X W es l σ fun ds σ₁ => ds.length ≤ 1000000 ∧ Q (.ref σ₁.nx) (σ₁.push (.list ds))) : SE C X W (.List es pos) l σ Q := fun g A cenv L m s p => by
  refine List_ (wpAny_mono (h pos g A cenv L m s p) ?_ fun _ _ h => h)
  rintro vs s₁ ⟨ds, g₁, σ₁, e₁, R₁, hvs, hz, q⟩
  exact wpAny_mono (up_newList (E := fun _ _ => False) R₁ hvs hz q) (fun _ _ h => h.back e₁) fun _ _ h => h.elim
end

end Mine
/- part MStm -/
namespace Mine
open PySem PySem.W PySem.Calls PyProof.Rows

inductive Fl where
  | next | brk | cont
  | ret (d : V)
noncomputable def FlR (g : TagMap) : Fl → Flow → Prop
  | .next, f => f = .next
  | .brk, f => f = .brk
  | .cont, f => f = .cont
  | .ret d, f => ∃ v, f = .ret v ∧ VR g d v
theorem FlR.ext {g g' : TagMap} (x : ExtV g g') : ∀ {f : Fl} {fl : Flow}, FlR g f fl → FlR g' f fl
  | .next, _, h => h
  | .brk, _, h => h
  | .cont, _, h => h
  | .ret _, _, ⟨v, e, h⟩ => ⟨v, e, h.ext x⟩

set_option genSizeOf false
set_option genInjectivity false
inductive UpS (C : Cx) (L : Addr) (g : TagMap) (Q : Fl → Loc → Sto → Prop) (fl : Flow) (s' : Shared) : Prop
  | mk (f : Fl) (l' : Loc) (g' : TagMap) (σ' : Sto) (m' : Str → Option Value) (x : ExtL L g g') (R : Rel C g' σ' s') (hm : g' L = .fr m') (hl : LocR g' l' m') (hf : FlR g' f fl) (q : Q f l' σ')
inductive UpA (C : Cx) (L : Addr) (g : TagMap) (Q : Loc → Sto → Prop) (u : Unit) (s' : Shared) : Prop
  | mk (l' : Loc) (g' : TagMap) (σ' : Sto) (m' : Str → Option Value) (x : ExtL L g g') (R : Rel C g' σ' s') (hm : g' L = .fr m') (hl : LocR g' l' m') (q : Q l' σ')
theorem UpS.back {C : Cx} {L : Addr} {g g' : TagMap} {Q : Fl → Loc → Sto → Prop} {v : Flow} {s' : Shared} (x : ExtL L g g') (h : UpS C L g' Q v s') : UpS C L g Q v s' :=
  let ⟨f, l', g'', σ', m', y, r, r1, r2, r3, r4⟩ := h; ⟨f, l', g'', σ', m', x.trans y, r, r1, r2, r3, r4⟩
theorem UpA.back {C : Cx} {L : Addr} {g g' : TagMap} {Q : Loc → Sto → Prop} {v : Unit} {s' : Shared} (x : ExtL L g g') (h : UpA C L g' Q v s') : UpA C L g Q v s' :=
  let ⟨l', g'', σ', m', y, r, r1, r2, r3⟩ := h; ⟨l', g'', σ', m', x.trans y, r, r1, r2, r3⟩

/-- the code of a frame of its own -/
noncomputable def OwnFrame (A : Around) (cenv : Env) (L : Addr) : Prop := (∃ outer, A.frames = some (cenv :: outer)) ∧ cenv.frame = some L
noncomputable def SS (C : Cx) (X : XPost) (W : En) (ss : List Stmt) (l : Loc) (σ : Sto) (Q : Fl → Loc → Sto → Prop) : Prop :=
  ∀ g A cenv L m s, Pre C W l σ g A cenv L m s → OwnFrame A cenv L → wpAny C.M A (execs ss cenv) (UpS C L g Q) (X.P L g A.frames) s
noncomputable def S1 (C : Cx) (X : XPost) (W : En) (st : Stmt) (l : Loc) (σ : Sto) (Q : Fl → Loc → Sto → Prop) : Prop :=
  ∀ g A cenv L m s, Pre C W l σ g A cenv L m s → OwnFrame A cenv L → wpAny C.M A (exec st cenv) (UpS C L g Q) (X.P L g A.frames) s
/-- a target takes a value -/
noncomputable def SG (C : Cx) (X : XPost) (W : En) (t : Expr) (l : Loc) (σ : Sto) (d : V) (Q : Loc → Sto → Prop) : Prop :=
  ∀ g A cenv L m s v, Pre C W l σ g A cenv L m s → VR g d v → wpAny C.M A (assign t cenv v) (UpA C L g Q) (X.P L g A.frames) s

theorem FrameOk.extL {g g' : TagMap} {env : Env} {L : Addr} {m' : Str → Option Value} (x : ExtL L g g') (hm : g' L = .fr m') (h : FrameOk g env) : FrameOk g' env := by
  obtain ⟨k, L', m, e, t⟩ := h
  by_cases q : L' = L
  · exact ⟨k, L', m', e, q ▸ hm⟩
  · exact ⟨k, L', m, e, (x L' q (by rw [t]; intro h; cases h)).trans t⟩
theorem Pre.stepL {C : Cx} {W : En} {l l' : Loc} {σ σ' : Sto} {g g' : TagMap} {A : Around} {cenv : Env} {L : Addr} {m m' : Str → Option Value} {s s' : Shared} (p : Pre C W l σ g A cenv L m s) (x : ExtL L g g') (R : Rel C g' σ' s') (hm : g' L = .fr m') (hl : LocR g' l' m') : Pre C W l' σ' g' A cenv L m' s' where
  R := R
  E := ⟨p.E.sc, p.E.kind, p.E.loc, p.E.glob, p.E.blt, fun y i e => let ⟨a, e1, t⟩ := p.E.cells y i e; ⟨a, e1, (x.v (by rw [p.fm]; exact fun h => h)).at t trivial⟩, p.E.frame.extL x hm, p.E.fn⟩
  A := ⟨p.A.depth, p.A.units, p.A.calm, let ⟨f, e, k⟩ := p.A.frames; ⟨f, e, fun env he => (k env he).extL x hm⟩, p.A.guards⟩
  fm := hm
  fl := hl
theorem Pre.vL {C : Cx} {W : En} {l : Loc} {σ : Sto} {g g' : TagMap} {A : Around} {cenv : Env} {L : Addr} {m : Str → Option Value} {s : Shared} (p : Pre C W l σ g A cenv L m s) (x : ExtL L g g') : ExtV g g' := x.v (by rw [p.fm]; exact fun h => h)

section
variable {C : Cx} {X : XPost} {W : En} {l : Loc} {σ : Sto} {Q : Fl → Loc → Sto → Prop}

theorem SS.mono {Q' : Fl → Loc → Sto → Prop} {ss : List Stmt} (h : SS C X W ss l σ Q) (k : ∀ f l' σ', Q f l' σ' → Q' f l' σ') : SS C X W ss l σ Q' :=
  fun g A cenv L m s p o => wpAny_mono (h g A cenv L m s p o) (fun _ _ ⟨f, l', g', σ', m', x, R, hm, hl, hf, q⟩ => ⟨f, l', g', σ', m', x, R, hm, hl, hf, k _ _ _ q⟩) fun _ _ h => h
theorem SS.nil (h : Q .next l σ) : SS C X W [] l σ Q := fun g _ _ L m _ p _ => wpAny_execs_nil ⟨.next, l, g, σ, m, ExtL.refl L g, p.R, p.fm, p.fl, rfl, h⟩
theorem SS.cons {st : Stmt} {r : List Stmt} (h : S1 C X W st l σ fun f l' σ' => match f with | .next => SS C X W r l' σ' Q | f => Q f l' σ') : SS C X W (st :: r) l σ Q := fun g A cenv L m s p o => by
  refine wpAny_execs_cons (wpAny_mono (h g A cenv L m s p o) ?_ fun _ _ h => h)
  rintro fl s' ⟨f, l', g', σ', m', x, R, hm, hl, hf, q⟩
  cases f with
  | next =>
    obtain rfl : fl = .next := hf
    exact wpAny_mono (q g' A cenv L m' s' (p.stepL x R hm hl) o) (fun _ _ h => UpS.back x h) fun _ _ h => X.monoL x h
  | brk => obtain rfl : fl = .brk := hf; exact ⟨.brk, l', g', σ', m', x, R, hm, hl, rfl, q⟩
  | cont => obtain rfl : fl = .cont := hf; exact ⟨.cont, l', g', σ', m', x, R, hm, hl, rfl, q⟩
  | ret d => obtain ⟨v, rfl, hv⟩ := hf; exact ⟨.ret d, l', g', σ', m', x, R, hm, hl, ⟨v, rfl, hv⟩, q⟩

theorem S1.ret {e : Expr} {pos : Pos} (h : SE C X W e l σ fun d σ' => Q (.ret d) l σ') : S1 C X W (.Return (some e) pos) l σ Q := fun g A cenv L m s p _ => by
  refine wpAny_Return_some (wpAny_mono (h g A cenv L m s p) ?_ fun _ _ h => h)
  rintro v s' ⟨d, g', σ', x, R, hv, q⟩
  have p' := p.step x R
  exact ⟨.ret d, l, g', σ', m, x.l L, R, p'.fm, p'.fl, ⟨v, rfl, hv⟩, q⟩
theorem S1.pass {pos : Pos} (h : Q .next l σ) : S1 C X W (.Pass pos) l σ Q := fun g _ _ L m _ p _ => wpAny_Pass ⟨.next, l, g, σ, m, ExtL.refl L g, p.R, p.fm, p.fl, rfl, h⟩
theorem S1.cont {pos : Pos} (h : Q .cont l σ) : S1 C X W (.Continue pos) l σ Q := fun g _ _ L m _ p _ => wpAny_Continue ⟨.cont, l, g, σ, m, ExtL.refl L g, p.R, p.fm, p.fl, rfl, h⟩
theorem S1.ifS {t : Expr} {a b : List Stmt} {pos : Pos} (h : ST C X W t l σ fun c σ' => if c = true then SS C X W a l σ' Q else SS C X W b l σ' Q) : S1 C X W (.If t a b pos) l σ Q := fun g A cenv L m s p o => by
  refine wpAny_If (wpAny_mono (h g A cenv L m s p) ?_ fun _ _ h => h)
  rintro c s' ⟨g', σ', x, R, q⟩
  have p' := p.step x R
  cases c with
  | false => exact wpAny_mono (q g' A cenv L m s' p' o) (fun _ _ h => UpS.back (x.l L) h) fun _ _ h => X.mono x h
  | true => exact wpAny_mono (q g' A cenv L m s' p' o) (fun _ _ h => UpS.back (x.l L) h) fun _ _ h => X.mono x h

noncomputable def notComp : Expr → Bool
  | .ListComp .. | .SetComp .. | .DictComp .. => false
  | _ => true
theorem swapsWith_notComp {e : Expr} {t : Option Expr} {n : Nat} {env : Env} (h : notComp e = true) : swapsWith e t n env = pure false := by
  cases e <;> first | rfl | exact absurd h Bool.false_ne_true
theorem EnvR.notInteractive {g : TagMap} {L : Addr} {cenv : Env} (h : EnvR W g L cenv) : interactive cenv = false := by
  unfold interactive; rw [h.sc, h.kind]; rfl
/-- an expression alone -/
theorem S1.expr {e : Expr} {pos : Pos} (hn : notComp e = true) (h : SE C X W e l σ fun _ σ' => Q .next l σ') : S1 C X W (.Expr e pos) l σ Q := fun g A cenv L m s p _ => by
  rw [exec_Expr cenv e pos p.E.notInteractive (swapsWith_notComp hn)]
  refine wpAny_bind (wpAny_standAt (wpAny_bind (wpAny_mono (h g A cenv L m s p) ?_ fun _ _ h => h)))
  rintro v s' ⟨d, g', σ', x, R, hv, q⟩
  have p' := p.step x R
  have fin : UpS C L g Q .next s' := ⟨.next, l, g', σ', m, x.l L, R, p'.fm, p'.fl, rfl, q⟩
  unfold dropValue
  split
  · exact wpAny_pure fin
  · exact wpAny_bind (wpAny_standAt (wpAny_bind (wpAny_runValue (codeAny_builtin entry_let_go (show wpAny _ _ (PySem.ret .none) _ _ s' from wpAny_pure (wpAny_pure fin))))))
  · exact wpAny_pure fin

theorem put_put (g : TagMap) (a : Addr) (t t' : Tag) : (g.put a t).put a t' = g.put a t' := by
  funext b; by_cases q : b = a <;> simp [TagMap.put, q]
/-- the names of the frame turn -/
theorem Rel.store {g : TagMap} {s : Shared} {L : Addr} {m m' : Str → Option Value} {h' : Heap} {tk : Nat} (R : Rel C g σ s) (t : g L = .fr m) (hn : h'.Ns L m') (hs : Heap.SameBut L s.heap h') : Rel C (g.put L (.fr m')) σ { s with heap := h', toks := tk } := by
  have h0 : C.H0.get? L = .none := R.h0_none (by rw [t]; intro h; cases h) (by rw [t]; intro o h; cases h)
  have hs0 : ¬ (g L).solid := by rw [t]; exact fun h => h
  have R1 : Rel C (g.put L .free) σ s := R.retag hs0 trivial
  have R2 : Rel C (g.put L .free) σ { s with heap := h', toks := tk } := R1.keepsT fun b o hb e => by
    by_cases q : b = L
    · subst q; rw [put_self] at hb; rcases hb with hb | hb
      · exact absurd rfl hb
      · exact absurd h0 hb
    · exact (hs.2 b q).trans e
  have R3 := R2.retag (a := L) (t := .fr m') (by rw [put_self]; exact fun h => h) ⟨hn, h0⟩
  rwa [put_put] at R3
theorem LocR.set {g : TagMap} {m : Str → Option Value} {x : Str} {d : V} {v : Value} (h : LocR g l m) (hv : VR g d v) : LocR g (l.set x d) (fun y => if y = x then some v else m y) := fun y => by
  by_cases q : y = x
  · simp only [Loc.set, q, if_true]; exact ⟨v, rfl, hv⟩
  · simp only [Loc.set, q, if_false]; exact h y

theorem notModuleStore {W : En} {g : TagMap} {L : Addr} {cenv : Env} (E : EnvR W g L cenv) : (cenv.scope.kind == .class || (cenv.scope.kind == .module && cenv.locals != cenv.globals)) = false := by
  rw [E.ckind]; rfl
variable {QA : Loc → Sto → Prop}
theorem SG.local {x : Str} {pos : Pos} {d : V} (hk : W.sc.names.lookup x = some .local) (h : QA (l.set x d) σ) : SG C X W (.Name x pos) l σ d QA := fun g A cenv L m s v p hv => by
  show wpAny C.M A (do standAt pos; bindName cenv x v) _ _ _
  refine wpAny_bind (wpAny_standAt (wpAny_bindName ?_))
  refine wpAny_storeName_local ((p.E.kindOf x).trans hk) (p.E.loc ▸ p.R.fr L m p.fm) (fun h' hn hs => ?_) (notModuleStore p.E)
  rw [p.E.loc] at hn hs
  have xl : ExtL L g (g.put L (.fr fun y => if y = x then some v else m y)) := ExtL.put g _
  have xv := p.vL xl
  exact ⟨_, _, σ, _, xl, p.R.store p.fm hn hs, put_self .., (p.fl.ext xv).set (hv.ext xv), h⟩
theorem SG.cell {x : Str} {pos : Pos} {d : V} {i : Nat} {o : Option V} (hk : W.sc.names.lookup x = some .cell) (hc : W.cells.lookup x = some i) (ho : σ.get i = some (.cell o)) (h : QA l (σ.set i (.cell (some d)))) : SG C X W (.Name x pos) l σ d QA := fun g A cenv L m s v p hv => by
  show wpAny C.M A (do standAt pos; bindName cenv x v) _ _ _
  refine wpAny_bind (wpAny_standAt (wpAny_bindName ?_))
  obtain ⟨a, e, t⟩ := p.E.cells x i hc
  obtain ⟨b, tb, ob, u, e1, e2, _⟩ := p.R.objs i _ ho
  obtain rfl := p.R.uniq a b i t tb
  refine wpAny_storeName_cell p.E.ckind ((p.E.kindOf x).trans hk) e ⟨ob, e1, e2⟩ fun h' hcv hs => ?_
  obtain ⟨o', eo', ed'⟩ := hcv
  exact ⟨l, g, _, m, ExtL.refl L g, p.R.upd (o := .cell (some d)) t (.inl rfl) (fun c o hc e => (hs.2 c hc).trans e) ⟨o', eo'⟩ ⟨o', some v, eo', ed', v, rfl, hv⟩, p.fm, p.fl, h⟩

noncomputable def envS (sc : Scope) : Env := { scope := sc, locals := 0, globals := 0, cells := [] }
theorem swapped_scope {env : Env} {ts : List Expr} {v : Expr} {sc : Scope} (h : env.scope = sc) : swappedStores ts v env = swappedStores ts v (envS sc) := by
  subst h; rfl
theorem swapsSole_notComp {t e : Expr} {n : Nat} {env : Env} (h : notComp e = true) : swapsWithSole [t] e n env = pure false := swapsWith_notComp h

/-- one target, no stores exchanged -/
theorem S1.assign {t e : Expr} {pos : Pos} (hn : notComp e = true) (hw : swappedStores [t] e (envS W.sc) = pure .none) (ht : noStar t = true) (h : SE C X W e l σ fun d σ' => SG C X W t l σ' d fun l' σ'' => Q .next l' σ'') : S1 C X W (.Assign [t] e pos) l σ Q := fun g A cenv L m s p _ => by
  refine wpAny_Assign_stores (wpAny_mono (h g A cenv L m s p) ?_ fun _ _ h => h) (swapsSole_notComp hn) ((swapped_scope p.E.sc).trans hw)
  rintro v s' ⟨d, g', σ', x, R, hv, q⟩
  have p' := p.step x R
  have he : (assignEach [t] cenv).map (·.2) = [PySem.assign t cenv] := by cases t <;> first | rfl | exact absurd ht Bool.false_ne_true
  rw [he]
  refine wpAny_mono (q g' A cenv L m s' v p' hv) ?_ fun _ _ h => X.mono x h
  rintro _ s'' ⟨l', g'', σ'', m', y, R', hm, hl, hq⟩
  exact ⟨.next, l', g'', σ'', m', (x.l L).trans y, R', hm, hl, rfl, hq⟩

/-- several targets, in order -/
noncomputable def SGs (C : Cx) (X : XPost) (W : En) : List Expr → List V → Loc → Sto → (Loc → Sto → Prop) → Prop
  | [], [], l, σ, Q => Q l σ
  | t :: ts, d :: ds, l, σ, Q => noStar t = true ∧ SG C X W t l σ d fun l' σ' => SGs C X W ts ds l' σ' Q
  | _, _, _, _, _ => False
theorem SGs.length {C : Cx} {X : XPost} {W : En} : ∀ {ts : List Expr} {ds : List V} {l : Loc} {σ : Sto} {Q : Loc → Sto → Prop}, SGs C X W ts ds l σ Q → True := fun _ => trivial

theorem assignEach_cons {t : Expr} {r : List Expr} {env : Env} (h : noStar t = true) : assignEach (t :: r) env = (false, assign t env) :: assignEach r env := by
  cases t <;> first | rfl | exact absurd h Bool.false_ne_true
theorem assignOrder {g : TagMap} {A : Around} {cenv : Env} {L : Addr} : ∀ {ts : List Expr} {ds : List V} {vs : List Value} {l : Loc} {σ : Sto} {g' : TagMap} {m : Str → Option Value} {s : Shared} {QA : Loc → Sto → Prop}, (∀ t ∈ ts, noStar t = true) → SGs C X W ts ds l σ QA → Pre C W l σ g' A cenv L m s → VRs g' ds vs → ExtL L g g' →
    wpAny C.M A (assignInOrder ((assignEach ts cenv).map (·.2)) vs) (UpA C L g QA) (X.P L g A.frames) s
  | [], [], _, l, σ, g', m, s, QA, _, h, p, hv, x => by cases hv; exact wpAny_assignInOrder_none ⟨l, g', σ, m, x, p.R, p.fm, p.fl, h⟩
  | t :: ts, d :: ds, _, l, σ, g', m, s, QA, hs, h, p, ⟨v, r, e, hv, hr⟩, x => by
    subst e
    rw [assignEach_cons (hs t (.head _))]
    refine wpAny_assignInOrder_more (wpAny_mono (h.2 g' A cenv L m s v p hv) ?_ fun _ _ h => X.monoL x h)
    rintro _ s' ⟨l', g'', σ', m', y, R, hm, hl, q⟩
    exact assignOrder (fun t ht => hs t (.tail _ ht)) q (p.stepL y R hm hl) (hr.ext (p.vL y)) (x.trans y)
  | [], _ :: _, _, _, _, _, _, _, _, _, h, _, _, _ => h.elim
  | _ :: _, [], _, _, _, _, _, _, _, _, h, _, _, _ => h.elim

theorem assignEach_length {env : Env} : ∀ {ts : List Expr}, (assignEach ts env).length = ts.length
  | [] => rfl
  | t :: ts => by cases t <;> exact congrArg Nat.succ (assignEach_length (ts := ts))
theorem assignEach_star {env : Env} : ∀ {ts : List Expr}, (∀ t ∈ ts, noStar t = true) → (assignEach ts env).findIdx? (·.1) = none
  | [], _ => rfl
  | t :: ts, h => by
    rw [assignEach_cons (h t (.head _)), List.findIdx?_cons]
    simp [assignEach_star (ts := ts) fun t ht => h t (.tail _ ht)]
theorem SGs.len : ∀ {ts : List Expr} {ds : List V} {l : Loc} {σ : Sto} {QA : Loc → Sto → Prop} {g : TagMap} {A : Around} {cenv : Env} {L : Addr} {m : Str → Option Value} {s : Shared}, SGs C X W ts ds l σ QA → ts.length = ds.length ∨ ts.length ≠ ds.length := fun _ => Nat.decEq _ _ |>.em
/-- a tuple's items go to the targets -/
theorem SG.tuple {ts : List Expr} {k : Nat} {pos : Pos} {ds : List V} (hc : W.calm = true) (hlen : ts.length = ds.length) (hs : ∀ t ∈ ts, noStar t = true) (h : SGs C X W ts ds l σ QA) : SG C X W (.Tuple ts k pos) l σ (.tup ds) QA := fun g A cenv L m s v p hv => by
  obtain ⟨a, vs, rfl, t, hvs⟩ := hv
  have ht : IsTup s.heap a vs.toArray := ⟨_, p.R.froz a _ t, rfl, 0, rfl⟩
  refine assign_Tuple_tuple (p.A.calm hc) ht (by rw [assignEach_length, hlen, hvs.length]; simp) (assignEach_star hs) fun h' he => ?_
  have hf := p.R.free_size (Nat.le_refl s.heap.objs.size)
  have R' : Rel C g σ { s with heap := h' } := p.R.keepsT fun b o hb e => he b o (fun q => by
    subst q; rcases hb with hb | hb
    · exact hb hf
    · exact hb (p.R.h0_size (Nat.le_refl _))) e
  exact assignOrder hs h (p.step (Ext.refl g) R') hvs (ExtL.refl L g)
end

end Mine
/- part MCall -/
namespace Mine
open PySem PySem.W PySem.Calls PyProof.Rows

/-! what a value names lies below a number -/
mutual
noncomputable def lowV (n : Nat) : V → Prop
  | .tup ds | .fl ds | .st _ ds | .pk _ ds => lowVs n ds
  | .ref i => i < n
  | _ => True
noncomputable def lowVs (n : Nat) : List V → Prop
  | [] => True
  | d :: r => lowV n d ∧ lowVs n r
end
noncomputable def lowOV (n : Nat) : Option V → Prop
  | none => True
  | some d => lowV n d
noncomputable def lowO (n : Nat) : O → Prop
  | .list ds => lowVs n ds
  | .dict kvs => ∀ kv ∈ kvs, lowV n kv.1 ∧ lowV n kv.2
  | .inst _ fs => ∀ f ∈ fs, lowV n f.2
  | .cell v => lowOV n v
  | .exc _ fo => match fo with
    | none => True
    | some fs => ∀ f ∈ fs, lowV n f.2
  | .pk _ ds => lowVs n ds
noncomputable def Sto.Closed (σ : Sto) : Prop := ∀ i o, σ.get i = some o → i < σ.nx ∧ lowO σ.nx o

mutual
theorem VR.low {g : TagMap} {n : Nat} (hg : ∀ a i, g a = .main i → i < n) : ∀ {d : V} {v : Value}, VR g d v → lowV n d
  | .none, _, _ | .bool _, _, _ | .int _, _, _ | .str _, _, _ | .val _, _, _ | .rng _ _, _, _ => trivial
  | .pk _ _, _, ⟨_, _, _, _, _, _, r⟩ => show lowVs n _ from VRs.low hg r
  | .st _ _, _, ⟨_, _, _, _, _, _, _, _, r, _⟩ => show lowVs n _ from VRs.low hg r
  | .tup _, _, ⟨_, _, _, _, r⟩ => show lowVs n _ from VRs.low hg r
  | .fl _, _, ⟨_, _, _, _, _, r⟩ => show lowVs n _ from VRs.low hg r
  | .ref i, _, ⟨a, _, t⟩ => show i < n from hg a i t
theorem VRs.low {g : TagMap} {n : Nat} (hg : ∀ a i, g a = .main i → i < n) : ∀ {ds : List V} {vs : List Value}, VRs g ds vs → lowVs n ds
  | [], _, _ => by simp [lowVs]
  | _ :: _, _, ⟨_, _, _, a, b⟩ => by rw [lowVs]; exact ⟨VR.low hg a, VRs.low hg b⟩
end
theorem ERs.low {P : Params} {g : TagMap} {hk : V → Int} {n : Nat} (hg : ∀ a i, g a = .main i → i < n) : ∀ {kvs : List (V × V)} {es : List DictEntry}, ERs P g hk kvs es → ∀ kv ∈ kvs, lowV n kv.1 ∧ lowV n kv.2
  | kv :: _, _, ⟨_, _, _, ⟨_, a, b⟩, r⟩, x, hx => by
    rcases List.mem_cons.mp hx with rfl | hx
    · exact ⟨a.low hg, b.low hg⟩
    · exact ERs.low hg r x hx
theorem FRs.low {P : Params} {g : TagMap} {n : Nat} (hg : ∀ a i, g a = .main i → i < n) : ∀ {fs : List (Str × V)} {es : List DictEntry}, FRs P g fs es → ∀ f ∈ fs, lowV n f.2
  | (_, _) :: _, _, ⟨_, _, _, _, a, r⟩, x, hx => by
    rcases List.mem_cons.mp hx with rfl | hx
    · exact a.low hg
    · exact FRs.low hg r x hx
theorem Rel.closed {C : Cx} {g : TagMap} {σ : Sto} {s : Shared} (R : Rel C g σ s) : σ.Closed := by
  intro i o h
  obtain ⟨a, t, r⟩ := R.objs i o h
  refine ⟨R.idx a i t, ?_⟩
  cases o with
  | list ds => obtain ⟨_, _, _, r⟩ := r; exact r.low R.idx
  | dict kvs => obtain ⟨_, _, _, _, r⟩ := r; exact r.low R.idx
  | inst c fs => obtain ⟨_, _, _, _, _, _, r⟩ := r; exact r.low R.idx
  | cell v =>
    obtain ⟨_, _, _, _, r⟩ := r
    cases v with
    | none => trivial
    | some d => obtain ⟨_, _, r⟩ := r; exact r.low R.idx
  | exc c fo =>
    obtain ⟨_, _, _, _, _, _, r⟩ := r
    cases fo with
    | none => trivial
    | some fs => obtain ⟨_, _, _, _, _, _, r⟩ := r; exact r.low R.idx
  | pk p ds => obtain ⟨_, _, _, _, r⟩ := r; exact r.low R.idx

mutual
/-- a fresh list or dict, never changed any more, counts as a value -/
inductive Conv (P : Params) (n : Nat) (σ : Sto) : V → V → Prop
  | keep {d : V} (h : lowV n d) : Conv P n σ d d
  | tup {ds ds' : List V} (h : Convs P n σ ds ds') : Conv P n σ (.tup ds) (.tup ds')
  | fl {ds ds' : List V} (h : Convs P n σ ds ds') : Conv P n σ (.fl ds) (.fl ds')
  | list {i : Nat} {ds ds' : List V} (hi : n ≤ i) (e : σ.get i = some (.list ds)) (h : Convs P n σ ds ds') : Conv P n σ (.ref i) (.fl ds')
  | dict {i : Nat} {kvs : List (V × V)} (hi : n ≤ i) (e : σ.get i = some (.dict kvs)) (h : ∀ kv ∈ kvs, lowV n kv.1 ∧ lowV n kv.2) : Conv P n σ (.ref i) (fdV P kvs)
inductive Convs (P : Params) (n : Nat) (σ : Sto) : List V → List V → Prop
  | nil : Convs P n σ [] []
  | cons {d d' : V} {ds ds' : List V} (a : Conv P n σ d d') (b : Convs P n σ ds ds') : Convs P n σ (d :: ds) (d' :: ds')
end
theorem Convs.keep {P : Params} {n : Nat} {σ : Sto} : ∀ {ds : List V}, lowVs n ds → Convs P n σ ds ds
  | [], _ => .nil
  | d :: ds, b => by rw [lowVs] at b; exact .cons (.keep b.1) (Convs.keep b.2)
/-- a state and a value may be told as less: things made since may be dropped -/
structure Weak (P : Params) (n₀ : Nat) (σ : Sto) (d : V) (σ' : Sto) (d' : V) : Prop where
  le : n₀ ≤ σ'.nx
  le' : σ'.nx ≤ σ.nx
  sub : ∀ i o, σ'.get i = some o → σ.get i = some o
  closed : σ'.Closed
  conv : Conv P σ'.nx σ d d'

/-- the tags that are left: a dropped list is frozen, all else that is dropped is free -/
noncomputable def dropTag (n : Nat) (σ : Sto) (h : Heap) (g : TagMap) : TagMap := fun a => match g a with
  | .main i => if i < n then .main i else (match σ.get i, h.get? a with
      | some (.list _), some o => .froz o
      | some (.dict _), some o => .froz o
      | _, _ => .free)
  | .dict i => if i < n then .dict i else .free
  | t => t
mutual
theorem VR.dropd {n : Nat} {σ : Sto} {h : Heap} {g : TagMap} : ∀ {d : V} {v : Value}, lowV n d → VR g d v → VR (dropTag n σ h g) d v
  | .none, _, _, r | .bool _, _, _, r | .int _, _, _, r | .str _, _, _, r | .val _, _, _, r => r
  | .rng _ _, _, _, ⟨a, t, u, w, e, h⟩ => ⟨a, t, u, w, e, by simp only [dropTag, h]⟩
  | .pk _ _, _, b, ⟨a, vs, o, e, t, q, r⟩ => by rw [lowV] at b; exact ⟨a, vs, o, e, by simp only [dropTag, t], q, VRs.dropd b r⟩
  | .st _ _, _, b, ⟨a, es, m, t, vs, e, h, f, r, p⟩ => by rw [lowV] at b; exact ⟨a, es, m, t, vs, e, by simp only [dropTag, h], f, VRs.dropd b r, p⟩
  | .tup _, _, b, ⟨a, vs, e, t, r⟩ => by rw [lowV] at b; exact ⟨a, vs, e, by simp only [dropTag, t], VRs.dropd b r⟩
  | .fl _, _, b, ⟨a, vs, m, e, t, r⟩ => by rw [lowV] at b; exact ⟨a, vs, m, e, by simp only [dropTag, t], VRs.dropd b r⟩
  | .ref i, _, b, ⟨a, e, t⟩ => by rw [lowV] at b; exact ⟨a, e, by simp only [dropTag, t, b, if_true]⟩
theorem VRs.dropd {n : Nat} {σ : Sto} {h : Heap} {g : TagMap} : ∀ {ds : List V} {vs : List Value}, lowVs n ds → VRs g ds vs → VRs (dropTag n σ h g) ds vs
  | [], _, _, r => r
  | _ :: _, _, b, ⟨v, r, e, x, y⟩ => by rw [lowVs] at b; exact ⟨v, r, e, VR.dropd b.1 x, VRs.dropd b.2 y⟩
end
theorem ERs.dropd {P : Params} {n : Nat} {σ : Sto} {h : Heap} {g : TagMap} {hk : V → Int} : ∀ {kvs : List (V × V)} {es : List DictEntry}, (∀ kv ∈ kvs, lowV n kv.1 ∧ lowV n kv.2) → ERs P g hk kvs es → ERs P (dropTag n σ h g) hk kvs es
  | [], _, _, r => r
  | kv :: _, _, b, ⟨e, t, q, ⟨x, y, z⟩, r⟩ => ⟨e, t, q, ⟨x, y.dropd (b kv (.head _)).1, z.dropd (b kv (.head _)).2⟩, ERs.dropd (fun kv' h' => b kv' (.tail _ h')) r⟩
theorem FRs.dropd {P : Params} {n : Nat} {σ : Sto} {h : Heap} {g : TagMap} : ∀ {fs : List (Str × V)} {es : List DictEntry}, (∀ f ∈ fs, lowV n f.2) → FRs P g fs es → FRs P (dropTag n σ h g) fs es
  | [], _, _, r => r
  | (x, d) :: _, _, b, ⟨t, v, l, q, y, r⟩ => ⟨t, v, l, q, y.dropd (b (x, d) (.head _)), FRs.dropd (fun f h' => b f (.tail _ h')) r⟩

theorem Rel.dropped {C : Cx} {g : TagMap} {σ σ' : Sto} {s : Shared} (R : Rel C g σ s) (sub : ∀ i o, σ'.get i = some o → σ.get i = some o) (cl : σ'.Closed) : Rel C (dropTag σ'.nx σ s.heap g) σ' s := by
  have ne : ∀ a, dropTag σ'.nx σ s.heap g a ≠ .free → g a ≠ .free := by
    intro a h q; apply h; simp only [dropTag, q]
  refine ⟨R.ok, R.base, fun a h => R.has a (ne a h), ?_, ?_, ?_, ?_, ?_, ?_, ?_, ?_, R.gens, R.os⟩
  · intro a ha
    rcases R.old a ha with ⟨o, e⟩ | e
    · exact .inl ⟨o, by simp only [dropTag, e]⟩
    · exact .inr (by simp only [dropTag, e])
  · intro a o h
    unfold dropTag at h
    split at h
    · split at h
      · cases h
      · split at h
        · rename_i o' _ e; cases h; exact e
        · rename_i o' _ e; cases h; exact e
        · cases h
    · split at h <;> cases h
    · exact R.froz a o h
  · intro a o h
    unfold dropTag at h
    split at h
    · split at h
      · cases h
      · split at h <;> cases h
    · split at h <;> cases h
    · exact R.held a o h
  · intro a o h
    unfold dropTag at h
    split at h
    · split at h
      · cases h
      · split at h <;> cases h
    · split at h <;> cases h
    · exact R.fr a o h
  · intro a b i ha hb
    have main : ∀ c, dropTag σ'.nx σ s.heap g c = .main i → g c = .main i := by
      intro c h
      unfold dropTag at h
      split at h
      · rename_i j e
        split at h
        · cases h; exact e
        · split at h <;> cases h
      · split at h <;> cases h
      · rename_i h1 h2; exact absurd h (h1 i)
    exact R.uniq a b i (main a ha) (main b hb)
  · intro a i h
    unfold dropTag at h
    split at h
    · split at h
      · rename_i q; cases h; exact q
      · split at h <;> cases h
    · split at h <;> cases h
    · rename_i h1 h2; exact absurd h (h1 i)
  · intro a i h
    unfold dropTag at h
    split at h
    · split at h
      · cases h
      · split at h <;> cases h
    · split at h
      · rename_i q; cases h; exact q
      · cases h
    · rename_i h1 h2; exact absurd h (h2 i)
  · intro i o h
    obtain ⟨a, t, r⟩ := R.objs i o (sub i o h)
    obtain ⟨hi, hb⟩ := cl i o h
    have td : ∀ d, g d = .dict i → dropTag σ'.nx σ s.heap g d = .dict i := by intro d e; simp only [dropTag, e, hi, if_true]
    refine ⟨a, by simp only [dropTag, t, hi, if_true], ?_⟩
    cases o with
    | list ds => obtain ⟨vs, n, e, r⟩ := r; exact ⟨vs, n, e, r.dropd hb⟩
    | dict kvs => obtain ⟨es, n, ns, e, r⟩ := r; exact ⟨es, n, ns, e, r.dropd hb⟩
    | inst c fs => obtain ⟨d, es, n, e, t', e', r⟩ := r; exact ⟨d, es, n, e, td d t', e', r.dropd hb⟩
    | cell v =>
      obtain ⟨ob, u, e, e', r⟩ := r
      refine ⟨ob, u, e, e', ?_⟩
      cases v with
      | none => exact r
      | some d => obtain ⟨u', rfl, r⟩ := r; exact ⟨u', rfl, r.dropd hb⟩
    | exc c fo =>
      obtain ⟨ob, vs, e, e1, e2, e3, r⟩ := r
      refine ⟨ob, vs, e, e1, e2, e3, ?_⟩
      cases fo with
      | none => exact r
      | some fs => obtain ⟨d, es, n, e4, t', e', r⟩ := r; exact ⟨d, es, n, e4, td d t', e', r.dropd hb⟩
    | pk p ds => obtain ⟨vs, ob, e, q, r⟩ := r; exact ⟨vs, ob, e, q, r.dropd hb⟩

mutual
theorem Conv.vr {C : Cx} {g : TagMap} {n : Nat} {σ : Sto} {s : Shared} (R : Rel C g σ s) : ∀ {d d' : V} {v : Value}, Conv C.w.params n σ d d' → VR g d v → VR (dropTag n σ s.heap g) d' v
  | _, _, _, .keep b, h => VR.dropd b h
  | .tup _, _, _, .tup c, ⟨a, vs, e, t, r⟩ => ⟨a, vs, e, by simp only [dropTag, t], Convs.vr R c r⟩
  | .fl _, _, _, .fl c, ⟨a, vs, m, e, t, r⟩ => ⟨a, vs, m, e, by simp only [dropTag, t], Convs.vr R c r⟩
  | .ref i, _, _, .list hi hl c, ⟨a, e0, t⟩ => by
    subst e0
    obtain ⟨a', t', vs, m, e, r⟩ := R.objs i _ hl
    obtain rfl := R.uniq a a' i t t'
    exact ⟨a, vs, m, rfl, by simp only [dropTag, t, Nat.not_lt.mpr hi, if_false, hl, e], Convs.vr R c r⟩
  | .ref i, _, _, .dict hi hl b, ⟨a, e0, t⟩ => by
    subst e0
    obtain ⟨a', t', es, m, hs, e, r⟩ := R.objs i _ hl
    obtain rfl := R.uniq a a' i t t'
    exact VR.fdOf (n := m) hs (by simp only [dropTag, t, Nat.not_lt.mpr hi, if_false, hl, e]) (r.dropd b)
theorem Convs.vr {C : Cx} {g : TagMap} {n : Nat} {σ : Sto} {s : Shared} (R : Rel C g σ s) : ∀ {ds ds' : List V} {vs : List Value}, Convs C.w.params n σ ds ds' → VRs g ds vs → VRs (dropTag n σ s.heap g) ds' vs
  | [], _, _, .nil, h => h
  | _ :: _, _, _, .cons c1 c2, ⟨v, r, e, a, b⟩ => ⟨v, r, e, Conv.vr R c1 a, Convs.vr R c2 b⟩
end

theorem Up.weak {C : Cx} {g : TagMap} {σ₀ : Sto} {s₀ : Shared} (R₀ : Rel C g σ₀ s₀) {Q : V → Sto → Prop} {v : Value} {s : Shared} (h : Up C g (fun d σ => ∃ σ' d', Weak C.w.params σ₀.nx σ d σ' d' ∧ Q d' σ') v s) : Up C g Q v s := by
  obtain ⟨d, g', σ, x, R, hv, σ', d', W, q⟩ := h
  refine ⟨d', dropTag σ'.nx σ s.heap g', σ', fun a ha => ?_, R.dropped W.sub W.closed, W.conv.vr R hv, q⟩
  have e := x a ha
  unfold dropTag
  rw [e]
  split
  · rename_i i q; rw [q, if_pos (Nat.lt_of_lt_of_le (R₀.idx a i q) W.le)]
  · rename_i i q
    by_cases hi : i < σ'.nx
    · rw [q, if_pos hi]
    · exact absurd (Nat.lt_of_lt_of_le (R₀.idxd a i q) W.le) hi
  · rfl

/-- a call -/
noncomputable def SC (C : Cx) (X : XPost) (W : En) (σ : Sto) (f : V) (ds : List V) (Q : V → Sto → Prop) : Prop :=
  ∀ g A L s fv vs, Rel C g σ s → Ar g W.d W.calm A → VR g f fv → VRs g ds vs → wpAny C.M A (call fv vs) (Up C g Q) (X.P L g A.frames) s

end Mine
/- part MFun -/
namespace Mine
open PySem PySem.W PySem.Calls PyProof.Rows

noncomputable def bindLA (k : Str → Option NameKind) : List (Str × V) → Loc → Loc
  | [], m => m
  | (n, v) :: r, m => bindLA k r (if k n = some .local then fun y => if y = n then some v else m y else m)
noncomputable def bindCA (k : Str → Option NameKind) : List (Str × V) → Loc → Loc
  | [], m => m
  | (n, v) :: r, m => bindCA k r (if k n = some .local then m else fun y => if y = n then some v else m y)
/-- names and values, side by side -/
noncomputable def BR (g : TagMap) : List (Str × V) → List (Str × Value) → Prop
  | [], l => l = []
  | (n, d) :: r, l => ∃ v t, l = (n, v) :: t ∧ VR g d v ∧ BR g r t
theorem BR.zip {g : TagMap} : ∀ {ns : List Str} {ds : List V} {vs : List Value}, VRs g ds vs → BR g (ns.zip ds) (ns.zip vs)
  | [], _, _, _ => by rw [List.zip_nil_left, List.zip_nil_left]; rfl
  | _ :: _, [], _, h => by cases h; rfl
  | n :: ns, d :: ds, _, ⟨v, r, e, a, b⟩ => by subst e; exact ⟨v, ns.zip r, rfl, a, BR.zip b⟩
theorem bindL_rel {g : TagMap} {k : Str → Option NameKind} : ∀ {bs : List (Str × V)} {cs : List (Str × Value)} {l : Loc} {m : Str → Option Value}, BR g bs cs → LocR g l m → LocR g (bindLA k bs l) (bindL k cs m)
  | [], _, _, _, h, r => by cases h; exact r
  | (n, d) :: bs, _, l, m, ⟨v, t, e, a, b⟩, r => by
    subst e
    show LocR g (bindLA k bs (if k n = some .local then _ else l)) (bindL k t (if k n = some .local then _ else m))
    by_cases hk : k n = some .local
    · rw [if_pos hk, if_pos hk]; exact bindL_rel b (LocR.set r a)
    · rw [if_neg hk, if_neg hk]; exact bindL_rel b r
theorem bindC_rel {g : TagMap} {k : Str → Option NameKind} : ∀ {bs : List (Str × V)} {cs : List (Str × Value)} {l : Loc} {m : Str → Option Value}, BR g bs cs → LocR g l m → LocR g (bindCA k bs l) (bindC k cs m)
  | [], _, _, _, h, r => by cases h; exact r
  | (n, d) :: bs, _, l, m, ⟨v, t, e, a, b⟩, r => by
    subst e
    show LocR g (bindCA k bs (if k n = some .local then l else _)) (bindC k t (if k n = some .local then m else _))
    by_cases hk : k n = some .local
    · rw [if_pos hk, if_pos hk]; exact bindC_rel b r
    · rw [if_neg hk, if_neg hk]; exact bindC_rel b (LocR.set r a)

/-- the cells that a call makes -/
noncomputable def pushC (b : Loc) : List (Str × NameKind) → Sto → Sto
  | [], σ => σ
  | (x, k) :: r, σ => if k == .cell then pushC b r (σ.push (.cell (b x))) else pushC b r σ

theorem cellsFrom_acc {x : Str} {c : Nat} : ∀ (names : List (Str × NameKind)) (n : Nat) (acc : List (Str × Nat)), (x, c) ∈ acc → (x, c) ∈ cellsFrom n names acc
  | [], _, _, h => h
  | (y, k) :: r, n, acc, h => by
    unfold cellsFrom
    split
    · exact cellsFrom_acc r _ _ (.tail _ h)
    · exact cellsFrom_acc r _ _ h

theorem cellsTag {C : Cx} {s : Shared} {b : Loc} {cm : Str → Option Value} : ∀ (names : List (Str × NameKind)) (n : Nat) (acc : List (Str × Addr)) (acci : List (Str × Nat)) (g : TagMap) (σ : Sto), Rel C g σ s →
    (∀ a, n ≤ a → g a = .free ∧ C.H0.get? a = none) → (∀ y c, (y, c) ∈ cellsFrom n names acc → n ≤ c → s.heap.IsCell c (cm y)) → (∀ x, OVR g (b x) (cm x)) →
    (∀ x i, acci.lookup x = some i → ∃ a, acc.lookup x = some a ∧ g a = .main i) →
    ∃ g', Ext g g' ∧ Rel C g' (pushC b names σ) s ∧ ∀ x i, (cellsFrom σ.nx names acci).lookup x = some i → ∃ a, (cellsFrom n names acc).lookup x = some a ∧ g' a = .main i
  | [], n, acc, acci, g, σ, R, _, _, _, hacc => ⟨g, Ext.refl g, R, hacc⟩
  | (x, k) :: r, n, acc, acci, g, σ, R, hfree, hcell, hb, hacc => by
    unfold pushC cellsFrom
    unfold cellsFrom at hcell
    by_cases hk : (k == NameKind.cell) = true
    · rw [if_pos hk] at hcell ⊢
      rw [if_pos hk, if_pos hk]
      obtain ⟨o, ho, hd⟩ := hcell x n (cellsFrom_acc r _ _ (.head _)) (Nat.le_refl _)
      have x1 : Ext g (g.put n (.main σ.nx)) := Ext.put (hfree n (Nat.le_refl _)).1 _
      have R' := R.newMain (a := n) (o := .cell (b x)) (hfree n (Nat.le_refl _)).1 (hfree n (Nat.le_refl _)).2 ⟨o, _, ho, hd, (hb x).ext x1.v⟩ ⟨o, ho⟩
      obtain ⟨g', e, R'', h⟩ := cellsTag r (n + 1) ((x, n) :: acc) ((x, σ.nx) :: acci) _ _ R'
        (fun a ha => ⟨by rw [put_ne _ _ (show a ≠ n by lia)]; exact (hfree a (by lia)).1, (hfree a (by lia)).2⟩)
        (fun y c h hc => hcell y c h (by lia)) (fun y => (hb y).ext x1.v) (fun y i hy => by
          rw [List.lookup_cons] at hy ⊢
          cases q : y == x with
          | true => rw [q] at hy; cases hy; exact ⟨n, rfl, put_self ..⟩
          | false => rw [q] at hy; obtain ⟨a, e, t⟩ := hacc y i hy; exact ⟨a, e, x1.at t (by intro h; cases h)⟩)
      exact ⟨g', x1.trans e, R'', h⟩
    · rw [if_neg hk] at hcell ⊢
      rw [if_neg hk, if_neg hk]
      exact cellsTag r n acc acci g σ R hfree hcell hb hacc

noncomputable def argNames (p : Arguments) : List Str := p.args.map fun x : Arg => x.arg
/-- the static facts of a def -/
structure FnFacts (scope : Scope) (ns : List Str) : Prop where
  co : scope.isCoroutine = false
  gen : scope.isGenerator = false
  kind : scope.kind = .function
  nd : ((cellsFrom 0 scope.names []).map (·.1)).Nodup
  kinds : ∀ x ∈ ns, scope.names.lookup x = some .local ∨ (scope.names.lookup x = some .cell ∧ ((cellsFrom 0 scope.names []).lookup x).isSome = true)

theorem cellsFrom_isSome {x : Str} : ∀ (names : List (Str × NameKind)) (n n' : Nat) (acc acc' : List (Str × Nat)), ((acc.lookup x).isSome = true → (acc'.lookup x).isSome = true) → ((cellsFrom n names acc).lookup x).isSome = true → ((cellsFrom n' names acc').lookup x).isSome = true
  | [], _, _, _, _, h, h' => h h'
  | (y, k) :: r, n, n', acc, acc', h, h' => by
    unfold cellsFrom at h' ⊢
    split
    · rename_i q
      rw [if_pos q] at h'
      refine cellsFrom_isSome r _ _ _ _ (fun z => ?_) h'
      rw [List.lookup_cons] at z ⊢
      cases q' : x == y with
      | true => rfl
      | false => rw [q'] at z; exact h z
    · rename_i q
      rw [if_neg q] at h'
      exact cellsFrom_isSome r _ _ _ _ h h'

noncomputable def enIn (scope : Scope) (σ : Sto) (d : Nat) (calm : Bool) (fn : Option (Value × Str)) : En := ⟨scope, cellsFrom σ.nx scope.names [], d, calm, fn⟩
noncomputable def locIn (scope : Scope) (ns : List Str) (ds : List V) : Loc := bindLA (fun x => scope.names.lookup x) (ns.zip ds) fun _ => none
noncomputable def stoIn (scope : Scope) (ns : List Str) (ds : List V) (σ : Sto) : Sto := pushC (bindCA (fun x => scope.names.lookup x) (ns.zip ds) fun _ => none) scope.names σ

/-- how an exception leaves a frame -/
noncomputable def XLeaves (C : Cx) (X Xi : XPost) : Prop := ∀ (g g' : TagMap) (L L' : Addr) (A : Around) (cenv : Env) (outer : List Env) (m : Str → Option Value) (e : Value) (s : Shared), A.frames = some outer → Ext g g' → g L' = .free → g' L' = .fr m → cenv.frame = some L' →
  Xi.P L' g' (some (cenv :: outer)) e s → wpAny C.M (A.deeper cenv) (leaving cenv e) (fun _ s'' => X.P L g A.frames e s'') (fun e' s'' => X.P L g A.frames e' s'') s
theorem XLeaves.none {C : Cx} {X : XPost} : XLeaves C X .none := fun _ _ _ _ _ _ _ _ _ _ _ _ _ _ _ h => h.elim

/-- a call, as code -/
noncomputable def SCc (C : Cx) (X : XPost) (W : En) (σ : Sto) (f : V) (ds : List V) (Q : V → Sto → Prop) : Prop :=
  ∀ g A L s fv vs, Rel C g σ s → Ar g W.d W.calm A → VR g f fv → VRs g ds vs → codeAny C.M A (.call fv ⟨vs, []⟩) (fun r s' => match r with | .ok (.ret v) => Up C g Q v s' | .ok _ => False | .error e => X.P L g A.frames e s') s
theorem SC.ofCode {C : Cx} {X : XPost} {W : En} {σ : Sto} {f : V} {ds : List V} {Q : V → Sto → Prop} (h : SCc C X W σ f ds Q) : SC C X W σ f ds Q := fun g A L s fv vs R hA hf hv => wpAny_call (h g A L s fv vs R hA hf hv)
theorem SCc.fn {C : Cx} {X Xi : XPost} {W : En} {σ : Sto} {ds : List V} {Q : V → Sto → Prop} {a : Addr} {oc : Value} {od : Option Addr} {osl : Array (Option Value)} {name qual : Str} {params : Arguments} {body : List Stmt} {scope : Scope} {dV kV doc pm cdv ct : Value} {an : Option Addr} {d' : Nat}
    (ho : C.K.lookup a = some ⟨oc, od, .func (fnOf name qual params body scope dV kV doc pm an cdv ct), osl⟩) (hcd : codeIn C.K cdv qual = true) (hW : W.d = d' + 1)
    (ff : FnFacts scope (argNames params))
    (hb : ∀ vs : List Value, vs.length = ds.length → bindArgs (fnOf name qual params body scope dV kV doc pm an cdv ct) ⟨vs, []⟩ = pure ((argNames params).zip vs))
    (hx : XLeaves C X Xi)
    (h : σ.Closed → SS C Xi (enIn scope σ d' W.calm (some (cdv, qual ++ ".<locals>."))) body (locIn scope (argNames params) ds) (stoIn scope (argNames params) ds σ)
      fun f _ σ' => match f with | .ret d => Q d σ' | _ => Q .none σ') : SCc C X W σ (.val (.ref a)) ds Q := by
  intro g A L s fv vs R hA hf hv
  obtain rfl : fv = .ref a := hf
  have hroom : A.depth < recursionLimit := by have := hA.depth; lia
  refine codeAny_call_function hroom (R.kin _ _ ho) rfl ff.co ff.gen rfl (codeRec_of R.kin hcd) ?_
  rw [hb vs hv.length.symm]
  refine wpAny_pure ?_
  have hbr : BR g ((argNames params).zip ds) ((argNames params).zip vs) := BR.zip hv
  refine wpAny_newFunctionEnv_cells ff.kind (fun x hx => ?_) fun env he s' ic => ?_
  · have hm : x.1 ∈ argNames params := (List.of_mem_zip hx).1
    rcases ff.kinds x.1 hm with q | ⟨q, q'⟩
    · exact .inl q
    · exact .inr ⟨q, cellsFrom_isSome _ _ _ _ _ (fun z => by cases z) q'⟩
  subst he
  obtain ⟨h₁, tk, rfl, hk₁⟩ := ic.done
  refine ⟨(R.top.nolimit).keeps hk₁, codeAny_func ?_⟩
  have R1 : Rel C g σ { s with heap := h₁, toks := tk } := R.keeps hk₁
  have hLfree : g s.heap.objs.size = .free := R.free_size (Nat.le_refl _)
  have hL0 : C.H0.get? s.heap.objs.size = none := R.h0_size (Nat.le_refl _)
  have hns : h₁.Ns s.heap.objs.size (bindL (fun x => scope.names.lookup x) ((argNames params).zip vs) fun _ => none) := ic.toInCall.ns
  have hnone : LocR g (fun _ => none) (fun _ => none) := fun _ => rfl
  -- the frame
  have R2 := R1.retag (a := s.heap.objs.size) (t := .fr (bindL (fun x => scope.names.lookup x) ((argNames params).zip vs) fun _ => none)) (by rw [hLfree]; exact fun h => h) ⟨hns, hL0⟩
  have x1 : Ext g (g.put s.heap.objs.size (.fr (bindL (fun x => scope.names.lookup x) ((argNames params).zip vs) fun _ => none))) := Ext.put hLfree _
  obtain ⟨g₂, x2, R3, hcells⟩ := cellsTag (cm := bindC (fun x => scope.names.lookup x) ((argNames params).zip vs) fun _ => none) (b := bindCA (fun x => scope.names.lookup x) ((argNames params).zip ds) fun _ => none) scope.names (s.heap.objs.size + 1) [] [] _ σ R2
    (fun a ha => ⟨by rw [put_ne _ _ (show a ≠ s.heap.objs.size by lia)]; exact R.free_size (by lia), R.h0_size (by lia)⟩)
    (fun y c hm _ => ic.cell y c (lookup_of_mem_nodup (cellsFrom_names scope.names 0 (s.heap.objs.size + 1) [] [] rfl ▸ ff.nd) hm))
    (fun x => (bindC_rel hbr hnone x).ext x1.v) (fun x i h => by cases h)
  have xg : Ext g g₂ := x1.trans x2
  have hfr2 : g₂ s.heap.objs.size = .fr (bindL (fun x => scope.names.lookup x) ((argNames params).zip vs) fun _ => none) := x2.at (put_self ..) (by intro h; cases h)
  obtain ⟨outer, hfr, hok⟩ := hA.frames
  -- what stands before the body
  have p : Pre C (enIn scope σ d' W.calm (some (cdv, qual ++ ".<locals>."))) (locIn scope (argNames params) ds) (stoIn scope (argNames params) ds σ) g₂
      (A.deeper (newEnv scope s.heap.objs.size mainGlobals (cellsFrom (s.heap.objs.size + 1) scope.names []) (qual ++ ".<locals>.") (some a) cdv none builtinsNs))
      (newEnv scope s.heap.objs.size mainGlobals (cellsFrom (s.heap.objs.size + 1) scope.names []) (qual ++ ".<locals>.") (some a) cdv none builtinsNs) s.heap.objs.size (bindL (fun x => scope.names.lookup x) ((argNames params).zip vs) fun _ => none) { s with heap := h₁, toks := tk } := by
    refine ⟨R3, ⟨rfl, ff.kind, rfl, rfl, rfl, hcells, ?_, fun c q h => by cases h; exact ⟨rfl, rfl⟩⟩, ⟨?_, ?_, hA.calm, ⟨_, Around.frames_deeper hfr, ?_⟩, hA.guards⟩, hfr2, ?_⟩
    · exact ⟨by show scope.kind ≠ _; rw [ff.kind]; decide, _, _, rfl, hfr2⟩
    · have := hA.depth; show A.depth + 1 + 2 * d' < _; lia
    · have := hA.units; show A.units + 3 + 20 * d' + 200 < _; lia
    · intro env he
      rcases List.mem_cons.mp he with rfl | he
      · exact ⟨by show scope.kind ≠ _; rw [ff.kind]; decide, _, _, rfl, hfr2⟩
      · exact (hok env he).ext xg
    · exact LocR.ext xg.v (bindL_rel hbr hnone)
  refine wpAny_mono (h R.closed g₂ _ _ _ _ _ p ⟨⟨outer, Around.frames_deeper hfr⟩, rfl⟩) ?_ ?_
  · rintro fl s'' ⟨f, l', g', σ', m', x, R', hm, hl, hfl, q⟩
    have xx : Ext g g' := fun b hb => by
      have hne : b ≠ s.heap.objs.size := fun e => hb (e ▸ hLfree)
      have e1 := xg b hb
      rw [← e1]
      exact x b hne (by rw [e1]; exact hb)
    have fin : ∀ v, (∃ d, VR g' d v ∧ Q d σ') → Up C g Q v s'' := fun v ⟨d, hv, q⟩ => ⟨d, g', σ', xx, R', hv, q⟩
    cases f with
    | ret d => obtain ⟨v, rfl, hv⟩ := hfl; exact fin _ ⟨d, hv, q⟩
    | next => obtain rfl : fl = .next := hfl; exact fin _ ⟨.none, rfl, q⟩
    | brk => obtain rfl : fl = .brk := hfl; exact fin _ ⟨.none, rfl, q⟩
    | cont => obtain rfl : fl = .cont := hfl; exact fin _ ⟨.none, rfl, q⟩
  · intro e s' hxi
    exact hx g g₂ L _ A _ outer _ e s' hfr xg hLfree hfr2 rfl (by rw [Around.frames_deeper hfr] at hxi; exact hxi)

theorem SC.fn {C : Cx} {X Xi : XPost} {W : En} {σ : Sto} {ds : List V} {Q : V → Sto → Prop} {a : Addr} {oc : Value} {od : Option Addr} {osl : Array (Option Value)} {name qual : Str} {params : Arguments} {body : List Stmt} {scope : Scope} {dV kV doc pm cdv ct : Value} {an : Option Addr} {d' : Nat}
    (ho : C.K.lookup a = some ⟨oc, od, .func (fnOf name qual params body scope dV kV doc pm an cdv ct), osl⟩) (hcd : codeIn C.K cdv qual = true) (hW : W.d = d' + 1)
    (ff : FnFacts scope (argNames params))
    (hb : ∀ vs : List Value, vs.length = ds.length → bindArgs (fnOf name qual params body scope dV kV doc pm an cdv ct) ⟨vs, []⟩ = pure ((argNames params).zip vs))
    (hx : XLeaves C X Xi)
    (h : σ.Closed → SS C Xi (enIn scope σ d' W.calm (some (cdv, qual ++ ".<locals>."))) body (locIn scope (argNames params) ds) (stoIn scope (argNames params) ds σ)
      fun f _ σ' => match f with | .ret d => Q d σ' | _ => Q .none σ') : SC C X W σ (.val (.ref a)) ds Q :=
  SC.ofCode (SCc.fn ho hcd hW ff hb hx h)

end Mine
/- part MCal2 -/
namespace Mine
open PySem PySem.W PySem.Calls PyProof.Rows

/-- a callee of a kind that the calling form knows -/
noncomputable def Keep (C : Cx) (f : V) : Prop := ∀ g σ s fv, Rel C g σ s → VR g f fv → ∃ k, (k = Keeper.frame ∨ k = Keeper.machine ∨ k = Keeper.boundFrame) ∧ Looks C.M s.heap (keeperOf fv) k
theorem Keep.k {C : Cx} {u : Value} (h : keepIn C.K u = true) : Keep C (.val u) := fun _ _ s fv R hv => by
  obtain rfl : fv = u := hv
  exact keeps_K h s.heap R.kin
theorem Keep.type {C : Cx} {T : String} : Keep C (.val (.type T)) := fun _ _ s fv _ hv => by
  obtain rfl : fv = .type T := hv
  exact ⟨.machine, .inr (.inl rfl), Looks.of_pure rfl⟩
theorem Keep.builtin {C : Cx} {T : String} : Keep C (.val (.builtin T)) := fun _ _ s fv _ hv => by
  obtain rfl : fv = .builtin T := hv
  exact ⟨.machine, .inr (.inl rfl), Looks.of_pure rfl⟩

noncomputable def noStars (es : List Expr) : Bool := es.all noStar
theorem backTo_plain {pos : Pos} {env : Env} : ∀ {es : List Expr}, noStars es = true → (backTo pos (starEach es env)).any (·.1) = false
  | [], _ => rfl
  | e :: r, h => by
    simp only [noStars, List.all_cons, Bool.and_eq_true] at h
    rw [starEach_cons h.1]
    show (false || (backTo pos (starEach r env)).any (·.1)) = false
    rw [backTo_plain (es := r) h.2]; rfl
theorem backTo_all {pos : Pos} {env : Env} : ∀ {es : List Expr}, noStars es = true → (backTo pos (starEach es env)).all (fun x => !x.1) = true
  | [], _ => rfl
  | e :: r, h => by
    simp only [noStars, List.all_cons, Bool.and_eq_true] at h
    rw [starEach_cons h.1]
    show (!false && (backTo pos (starEach r env)).all (fun x => !x.1)) = true
    rw [backTo_all (es := r) h.2]; rfl

section
variable {C : Cx} {X : XPost} {W : En} {l : Loc} {σ : Sto} {Q : V → Sto → Prop}

/-- the arguments, then the call -/
theorem callWith_V {args : List Expr} {pos : Pos} {g : TagMap} {A : Around} {cenv : Env} {L : Addr} {m : Str → Option Value} {s : Shared} {f : V} {fv : Value} {fs : List V} {first : List Value} (hs : noStars args = true) (hk : Keep C f) (p : Pre C W l σ g A cenv L m s) (hf : VR g f fv) (hfs : VRs g fs first)
    (h : SL C X W args l σ fun ds σ₂ => SC C X W σ₂ f (fs ++ ds) Q) : wpAny C.M A (callWith pos fv first (backTo pos (starEach args cenv)) []) (Up C g Q) (X.P L g A.frames) s := by
  have hpl : ((backTo pos (starEach args cenv)).any (·.1) || ([] : List (Option Str × Sem Value)).any (·.1.isNone)) = false := by rw [backTo_plain hs]; rfl
  refine callWith_of (P := fun h => ∃ k, (k = Keeper.frame ∨ k = Keeper.machine ∨ k = Keeper.boundFrame) ∧ Looks C.M h (keeperOf fv) k) hpl (fun h k => k) ?_
  have body : wpAny C.M A (spliced (backTo pos (starEach args cenv))) (fun vs s₁ => (∃ k, (k = Keeper.frame ∨ k = Keeper.machine ∨ k = Keeper.boundFrame) ∧ Looks C.M s₁.heap (keeperOf fv) k) ∧ wpAny C.M A (call fv (first ++ vs) []) (Up C g Q) (X.P L g A.frames) s₁) (X.P L g A.frames) s := by
    refine wpAny_mono (h pos g A cenv L m s p) ?_ fun _ _ h => h
    rintro vs s₁ ⟨ds, g₁, σ₁, x, R₁, hvs, q⟩
    have p₁ := p.step x R₁
    refine ⟨hk g₁ σ₁ s₁ fv R₁ (hf.ext x.v), up_back x (q g₁ A L s₁ fv (first ++ vs) R₁ p₁.A (hf.ext x.v) ((hfs.ext x.v).append hvs)) fun _ _ h => h.back x⟩
  cases args with
  | nil =>
    exact evalArgs_nil3 ⟨hk g σ s fv p.R hf, nilArgs (pos := pos) h p hf hfs⟩
  | cons e r =>
    simp only [noStars, List.all_cons, Bool.and_eq_true] at hs
    rw [starEach_cons hs.1] at body ⊢
    exact evalArgs_plain body
where
  nilArgs {pos : Pos} {g : TagMap} {A : Around} {cenv : Env} {L : Addr} {m : Str → Option Value} {s : Shared} {f : V} {fv : Value} {fs : List V} {first : List Value} (h : SL C X W [] l σ fun ds σ₂ => SC C X W σ₂ f (fs ++ ds) Q) (p : Pre C W l σ g A cenv L m s) (hf : VR g f fv) (hfs : VRs g fs first) :
      wpAny C.M A (call fv (first ++ []) []) (Up C g Q) (X.P L g A.frames) s := by
    have w := h pos g A cenv L m s p
    have w' : wpAny C.M A (pure [] : Sem (List Value)) (fun vs s₁ => wpAny C.M A (call fv (first ++ vs) []) (Up C g Q) (X.P L g A.frames) s₁) (X.P L g A.frames) s := by
      refine wpAny_mono w ?_ fun _ _ h => h
      rintro vs s₁ ⟨ds, g₁, σ₁, x, R₁, hvs, q⟩
      have p₁ := p.step x R₁
      exact up_back x (q g₁ A L s₁ fv (first ++ vs) R₁ p₁.A (hf.ext x.v) ((hfs.ext x.v).append hvs)) fun _ _ h => h.back x
    exact fun Γ q hΓ => w' Γ q hΓ Γ q hΓ

/-- f(..) by a name -/
theorem SE.callName {x : Str} {np pos : Pos} {args : List Expr} (hs : noStars args = true) (h : SE C X W (.Name x np) l σ fun f σ₁ => Keep C f ∧ SL C X W args l σ₁ fun ds σ₂ => SC C X W σ₂ f ds Q) : SE C X W (.Call (.Name x np) args [] pos) l σ Q := fun g A cenv L m s p => by
  refine wpAny_Call_ofName (wpAny_mono (h g A cenv L m s p) ?_ fun _ _ h => h)
  rintro fv s₁ ⟨f, g₁, σ₁, x₁, R₁, hf, hk, q⟩
  exact up_back x₁ (callWith_V (fs := []) (first := []) hs hk (p.step x₁ R₁) hf rfl q) fun _ _ h => h.back x₁
end
end Mine
/- part MOps -/
namespace Mine
open PySem PySem.W PySem.Calls PyProof.Rows

/-- a list, frozen or not -/
noncomputable def IsL (σ : Sto) (d : V) (ds : List V) : Prop := d = .fl ds ∨ ∃ i, d = .ref i ∧ σ.get i = some (.list ds)
theorem IsL.fl {σ : Sto} {ds : List V} : IsL σ (.fl ds) ds := .inl rfl
theorem IsL.ref {σ : Sto} {i : Nat} {ds : List V} (h : σ.get i = some (.list ds)) : IsL σ (.ref i) ds := .inr ⟨i, rfl, h⟩
theorem IsL.at {C : Cx} {g : TagMap} {σ : Sto} {s : Shared} {d : V} {ds : List V} {v : Value} (h : IsL σ d ds) (R : Rel C g σ s) (hv : VR g d v) : ∃ a vs n, v = .ref a ∧ s.heap.get? a = some (lstObj vs n) ∧ VRs g ds vs := by
  rcases h with rfl | ⟨i, rfl, h⟩
  · obtain ⟨a, vs, n, rfl, t, r⟩ := hv; exact ⟨a, vs, n, rfl, R.froz _ _ t, r⟩
  · obtain ⟨a, rfl, t⟩ := hv
    obtain ⟨b, t', vs, n, e, r⟩ := R.objs i _ h
    obtain rfl := R.uniq a b i t t'
    exact ⟨a, vs, n, rfl, e, r⟩
theorem isList_of {h : Heap} {a : Addr} {vs : List Value} {n : Nat} (e : h.get? a = some (lstObj vs n)) : h.IsList a vs.toArray := ⟨_, e, rfl, n, rfl⟩
theorem isTup_of {h : Heap} {a : Addr} {vs : List Value} (e : h.get? a = some (tupObj vs)) : IsTup h a vs.toArray := ⟨_, e, rfl, 0, rfl⟩
theorem VR.tupAt {C : Cx} {g : TagMap} {σ : Sto} {s : Shared} {ds : List V} {v : Value} (R : Rel C g σ s) (hv : VR g (.tup ds) v) : ∃ a vs, v = .ref a ∧ s.heap.get? a = some (tupObj vs) ∧ VRs g ds vs := by
  obtain ⟨a, vs, rfl, t, r⟩ := hv; exact ⟨a, vs, rfl, R.froz _ _ t, r⟩

section
variable {C : Cx} {X : XPost} {W : En} {l : Loc} {σ : Sto} {Q : V → Sto → Prop} {a b : Int} {x y : Str}

theorem SV.addInt (h : Q (.int (a + b)) σ) : SV C X W σ [.int a, .int b] (tBin .Add) Q := by
  rintro g A L s _ R hA ⟨_, _, rfl, ⟨t, rfl⟩, _, _, rfl, ⟨u, rfl⟩, rfl⟩
  exact P.add_int (Up.here (d := .int _) (R.toks _) ⟨_, rfl⟩ h)
theorem SV.subInt (h : Q (.int (a - b)) σ) : SV C X W σ [.int a, .int b] (tBin .Sub) Q := by
  rintro g A L s _ R hA ⟨_, _, rfl, ⟨t, rfl⟩, _, _, rfl, ⟨u, rfl⟩, rfl⟩
  exact P.sub_int (Up.here (d := .int _) (R.toks _) ⟨_, rfl⟩ h)
theorem SV.mulInt (hm : IntMulOk a b) (h : Q (.int (a * b)) σ) : SV C X W σ [.int a, .int b] (tBin .Mult) Q := by
  rintro g A L s _ R hA ⟨_, _, rfl, ⟨t, rfl⟩, _, _, rfl, ⟨u, rfl⟩, rfl⟩
  exact P.mul_int (Up.here (d := .int _) (R.toks _) ⟨_, rfl⟩ h) hm
theorem SV.modInt (hb : b ≠ 0) (h : Q (.int (a.fmod b)) σ) : SV C X W σ [.int a, .int b] (tBin .Mod) Q := by
  rintro g A L s _ R hA ⟨_, _, rfl, ⟨t, rfl⟩, _, _, rfl, ⟨u, rfl⟩, rfl⟩
  exact mod_int' hb (Up.here (d := .int _) (R.toks _) ⟨_, rfl⟩ h)
theorem SV.negInt (h : Q (.int (-a)) σ) : SV C X W σ [.int a] (tUn .USub) Q := by
  rintro g A L s _ R hA ⟨_, _, rfl, ⟨t, rfl⟩, rfl⟩
  exact P.neg_int (Up.here (d := .int _) (R.toks _) ⟨_, rfl⟩ h)
theorem SV.eqInt (h : Q (.bool (a == b)) σ) : SV C X W σ [.int a, .int b] (tCmp .Eq) Q := by
  rintro g A L s _ R hA ⟨_, _, rfl, ⟨t, rfl⟩, _, _, rfl, ⟨u, rfl⟩, rfl⟩
  exact P.eq_int (Up.here (d := .bool _) R rfl h)
theorem SV.neInt (h : Q (.bool (a != b)) σ) : SV C X W σ [.int a, .int b] (tCmp .NotEq) Q := by
  rintro g A L s _ R hA ⟨_, _, rfl, ⟨t, rfl⟩, _, _, rfl, ⟨u, rfl⟩, rfl⟩
  exact P.ne_int (Up.here (d := .bool _) R rfl h)
theorem SV.ltInt (h : Q (.bool (decide (a < b))) σ) : SV C X W σ [.int a, .int b] (tCmp .Lt) Q := by
  rintro g A L s _ R hA ⟨_, _, rfl, ⟨t, rfl⟩, _, _, rfl, ⟨u, rfl⟩, rfl⟩
  exact P.lt_int (Up.here (d := .bool _) R rfl h)
theorem SV.leInt (h : Q (.bool (decide (a ≤ b))) σ) : SV C X W σ [.int a, .int b] (tCmp .LtE) Q := by
  rintro g A L s _ R hA ⟨_, _, rfl, ⟨t, rfl⟩, _, _, rfl, ⟨u, rfl⟩, rfl⟩
  exact P.le_int (Up.here (d := .bool _) R rfl h)
theorem SV.gtInt (h : Q (.bool (decide (a > b))) σ) : SV C X W σ [.int a, .int b] (tCmp .Gt) Q := by
  rintro g A L s _ R hA ⟨_, _, rfl, ⟨t, rfl⟩, _, _, rfl, ⟨u, rfl⟩, rfl⟩
  exact P.gt_int (Up.here (d := .bool _) R rfl h)
theorem SV.eqStr (h : Q (.bool (x == y)) σ) : SV C X W σ [.str x, .str y] (tCmp .Eq) Q := by
  rintro g A L s _ R hA ⟨_, _, rfl, ⟨t, rfl⟩, _, _, rfl, ⟨u, rfl⟩, rfl⟩
  exact PyProof.Rows.eq_str (Up.here (d := .bool _) R rfl h)
theorem SV.neStr (h : Q (.bool (x != y)) σ) : SV C X W σ [.str x, .str y] (tCmp .NotEq) Q := by
  rintro g A L s _ R hA ⟨_, _, rfl, ⟨t, rfl⟩, _, _, rfl, ⟨u, rfl⟩, rfl⟩
  exact PyProof.Rows.ne_str (Up.here (d := .bool _) R rfl h)
theorem SV.addStr (hx : x.length ≤ 1000) (hy : y.length ≤ 1000) (h : Q (.str (x ++ y)) σ) : SV C X W σ [.str x, .str y] (tBin .Add) Q := by
  rintro g A L s _ R hA ⟨_, _, rfl, ⟨t, rfl⟩, _, _, rfl, ⟨u, rfl⟩, rfl⟩
  have em : ∀ z : Str, (z.length == 0) = true → z = Str.empty := fun z e => Str.ext' (Array.eq_empty_of_size_eq_zero (beq_iff_eq.mp e))
  refine P.add_str ?_
  split
  · rename_i e
    have e := em x e
    subst e
    rw [Str.empty_append] at h
    exact Up.here (d := .str y) R ⟨u, rfl⟩ h
  · split
    · rename_i e
      have e := em y e
      subst e
      rw [Str.append_empty] at h
      exact Up.here (d := .str x) R ⟨t, rfl⟩ h
    · exact ⟨by rw [Str.length_append, sizeLine_eq]; lia, Up.here (d := .str (x ++ y)) (R.toks _) ⟨_, rfl⟩ h⟩

/-- is None -/
theorem SV.isNone {d : V} (hd : d ≠ .val .none) (h : Q (.bool (match d with | .none => true | _ => false)) σ) : SV C X W σ [d, .none] (tCmp .Is) Q := by
  rintro g A L s _ R hA ⟨v, _, rfl, hv, _, _, rfl, rfl, rfl⟩
  refine is_none (Up.here (d := .bool _) R ?_ h)
  cases d with
  | none => obtain rfl : v = .none := hv; rfl
  | val u => obtain rfl : v = u := hv; cases v <;> first | rfl | exact absurd rfl hd
  | bool _ => obtain rfl := hv; rfl
  | int _ => obtain ⟨_, rfl⟩ := hv; rfl
  | str _ => obtain ⟨_, rfl⟩ := hv; rfl
  | tup _ => obtain ⟨_, _, rfl, _⟩ := hv; rfl
  | fl _ => obtain ⟨_, _, _, rfl, _⟩ := hv; rfl
  | ref _ => obtain ⟨_, rfl, _⟩ := hv; rfl
  | rng _ _ => obtain ⟨_, _, _, _, rfl, _⟩ := hv; rfl
  | st _ _ => obtain ⟨_, _, _, _, _, rfl, _⟩ := hv; rfl
  | pk _ _ => obtain ⟨_, _, _, rfl, _⟩ := hv; rfl
theorem SV.isNotNone {d : V} (hd : d ≠ .val .none) (h : Q (.bool (match d with | .none => false | _ => true)) σ) : SV C X W σ [d, .none] (tCmp .IsNot) Q := by
  rintro g A L s _ R hA ⟨v, _, rfl, hv, _, _, rfl, rfl, rfl⟩
  refine isNot_none (Up.here (d := .bool _) R ?_ h)
  cases d with
  | none => obtain rfl : v = .none := hv; rfl
  | val u => obtain rfl : v = u := hv; cases v <;> first | rfl | exact absurd rfl hd
  | bool _ => obtain rfl := hv; rfl
  | int _ => obtain ⟨_, rfl⟩ := hv; rfl
  | str _ => obtain ⟨_, rfl⟩ := hv; rfl
  | tup _ => obtain ⟨_, _, rfl, _⟩ := hv; rfl
  | fl _ => obtain ⟨_, _, _, rfl, _⟩ := hv; rfl
  | ref _ => obtain ⟨_, rfl, _⟩ := hv; rfl
  | rng _ _ => obtain ⟨_, _, _, _, rfl, _⟩ := hv; rfl
  | st _ _ => obtain ⟨_, _, _, _, _, rfl, _⟩ := hv; rfl
  | pk _ _ => obtain ⟨_, _, _, rfl, _⟩ := hv; rfl

/-- two lists -/
theorem SV.addList {d e : V} {ds es : List V} (hd : IsL σ d ds) (he : IsL σ e es) (hz : ds.length + es.length ≤ 1000000) (h : Q (.ref σ.nx) (σ.push (.list (ds ++ es)))) : SV C X W σ [d, e] (tBin .Add) Q := by
  rintro g A L s _ R hA ⟨v, _, rfl, hv, u, _, rfl, hu, rfl⟩
  obtain ⟨a, vs, n, rfl, ho, hvs⟩ := hd.at R hv
  obtain ⟨b, us, n2, rfl, ho2, hus⟩ := he.at R hu
  refine concat_meets ⟨_, ho, rfl⟩ ⟨_, ho2, rfl⟩ noFill_list_add seq_list_add PySem.F.slot_list_add PySem.F.entry_list_add (PySem.F.args_list_add_2 _ _) (list_addW a b vs.toArray us.toArray n n2 none none #[] #[] (by rw [List.size_toArray, List.size_toArray, ← hvs.length, ← hus.length, sizeLine_eq]; lia)) ⟨ho, ho2, ?_⟩
  have e : vs.toArray ++ us.toArray = (vs ++ us).toArray := by simp
  rw [e]
  have hfree := R.free_size (Nat.le_refl s.heap.objs.size)
  have hg : (s.heap.push (lstObj (vs ++ us) 0)).get? s.heap.objs.size = some (lstObj (vs ++ us) 0) := Heap.get?_push_size _ rfl
  have x : Ext g (g.put s.heap.objs.size (.main σ.nx)) := Ext.put hfree _
  exact ⟨.ref σ.nx, _, _, x, (R.push (lstObj (vs ++ us) 0)).newMain (o := .list (ds ++ es)) hfree (R.h0_size (Nat.le_refl _)) ⟨_, 0, hg, (hvs.append hus).ext x.v⟩ ⟨_, hg⟩, ⟨_, rfl, put_self ..⟩, h⟩

/-- two tuples -/
theorem SV.addTup {ds es : List V} (hz : ds.length + es.length ≤ 1000000) (h : Q (.tup (ds ++ es)) σ) : SV C X W σ [.tup ds, .tup es] (tBin .Add) Q := by
  rintro g A L s _ R hA ⟨v, _, rfl, hv, u, _, rfl, hu, rfl⟩
  have hv' := hv
  have hu' := hu
  obtain ⟨a, vs, rfl, ho, hvs⟩ := VR.tupAt R hv
  obtain ⟨b, us, rfl, ho2, hus⟩ := VR.tupAt R hu
  by_cases h1 : vs = []
  · subst h1
    have : ds = [] := List.eq_nil_of_length_eq_zero (by rw [hvs.length]; rfl)
    subst this
    exact concat_meets ⟨_, ho, rfl⟩ ⟨_, ho2, rfl⟩ noFill_tuple_add seq_tuple_add PySem.F.slot_tuple_add PySem.F.entry_tuple_add (PySem.F.args_tuple_add_2 _ _)
      (tuple_addW0 a b [].toArray us.toArray 0 0 none none #[] #[] (by simp)) ⟨ho, ho2, Up.here (d := .tup es) R hu' h⟩
  · by_cases h2 : us = []
    · subst h2
      have : es = [] := List.eq_nil_of_length_eq_zero (by rw [hus.length]; rfl)
      subst this
      rw [List.append_nil] at h
      exact concat_meets ⟨_, ho, rfl⟩ ⟨_, ho2, rfl⟩ noFill_tuple_add seq_tuple_add PySem.F.slot_tuple_add PySem.F.entry_tuple_add (PySem.F.args_tuple_add_2 _ _)
        (tuple_addW1 a b vs.toArray [].toArray 0 0 none none #[] #[] (by simpa using h1) (by simp)) ⟨ho, ho2, Up.here (d := .tup ds) R hv' h⟩
    · refine concat_meets ⟨_, ho, rfl⟩ ⟨_, ho2, rfl⟩ noFill_tuple_add seq_tuple_add PySem.F.slot_tuple_add PySem.F.entry_tuple_add (PySem.F.args_tuple_add_2 _ _)
        (tuple_addW2 a b vs.toArray us.toArray 0 0 none none #[] #[] (by simpa using h1) (by simpa using h2) (by rw [List.size_toArray, List.size_toArray, ← hvs.length, ← hus.length, sizeLine_eq]; lia)) ⟨ho, ho2, ?_⟩
      have e : vs.toArray ++ us.toArray = (vs ++ us).toArray := by simp
      rw [e]
      obtain ⟨R', x⟩ := R.newFroz (tupObj (vs ++ us)) rfl
      exact ⟨.tup (ds ++ es), _, σ, x, R', ⟨_, vs ++ us, rfl, put_self .., (hvs.append hus).ext x.v⟩, h⟩
end
end Mine
/- part MSub -/
namespace Mine
open PySem PySem.W PySem.Calls PyProof.Rows PySem.SeqAt

/-! plain data -/
mutual
noncomputable def isData : V → Bool
  | .none | .bool _ | .int _ => true
  | .str x => PyData.strOk x
  | .tup ds | .fl ds => areData ds
  | _ => false
noncomputable def areData : List V → Bool
  | [] => true
  | d :: r => isData d && areData r
end
mutual
noncomputable def pd : V → PyData
  | .none => .none
  | .bool b => .bool b
  | .int i => .int i
  | .str x => .str x
  | .tup ds => .tuple (pds ds)
  | .fl ds => .list (pds ds)
  | _ => .none
noncomputable def pds : List V → List PyData
  | [] => []
  | d :: r => pd d :: pds r
end
mutual
theorem VR.reads {g : TagMap} {h : Heap} (hf : ∀ a o, g a = .froz o → h.get? a = some o) : ∀ {d : V} {v : Value}, isData d = true → VR g d v → ∃ as, Reads h v (pd d) as
  | .none, _, _, r => by obtain rfl := r; exact ⟨_, .none⟩
  | .bool b, _, _, r => by obtain rfl := r; exact ⟨_, .bool b⟩
  | .int i, _, _, r => by obtain ⟨t, rfl⟩ := r; exact ⟨_, .int i t⟩
  | .str x, _, _, r => by obtain ⟨t, rfl⟩ := r; exact ⟨_, .str x t⟩
  | .tup ds, _, b, ⟨a, vs, e, t, r⟩ => by
    subst e; rw [isData] at b
    obtain ⟨as, ra⟩ := VRs.reads hf b r
    exact ⟨_, .tuple (hf a _ t) rfl rfl (by simpa using ra)⟩
  | .fl ds, _, b, ⟨a, vs, n, e, t, r⟩ => by
    subst e; rw [isData] at b
    obtain ⟨as, ra⟩ := VRs.reads hf b r
    exact ⟨_, .list (hf a _ t) rfl rfl (by simpa using ra)⟩
  | .ref _, _, b, _ | .val _, _, b, _ | .rng _ _, _, b, _ | .st _ _, _, b, _ | .pk _ _, _, b, _ => absurd b Bool.false_ne_true
theorem VRs.reads {g : TagMap} {h : Heap} (hf : ∀ a o, g a = .froz o → h.get? a = some o) : ∀ {ds : List V} {vs : List Value}, areData ds = true → VRs g ds vs → ∃ as, ReadsAll h vs (pds ds) as
  | [], _, _, r => by cases r; exact ⟨_, .nil⟩
  | _ :: _, _, b, ⟨v, r, e, x, y⟩ => by
    subst e; rw [areData, Bool.and_eq_true] at b
    obtain ⟨as, ra⟩ := VR.reads hf b.1 x
    obtain ⟨bs, rb⟩ := VRs.reads hf b.2 y
    exact ⟨_, .cons ra rb⟩
end
/-- a value as plain data: a list of the store counts by what it holds -/
noncomputable def DataIs (σ : Sto) (d : V) (p : PyData) : Prop := (isData d = true ∧ p = pd d) ∨ ∃ ds, IsL σ d ds ∧ areData ds = true ∧ p = .list (pds ds)
theorem DataIs.reads {C : Cx} {g : TagMap} {σ : Sto} {s : Shared} {d : V} {p : PyData} {v : Value} (h : DataIs σ d p) (R : Rel C g σ s) (hv : VR g d v) : ∃ as, Reads s.heap v p as := by
  rcases h with ⟨b, rfl⟩ | ⟨ds, hl, b, rfl⟩
  · exact VR.reads R.froz b hv
  · obtain ⟨a, vs, n, rfl, e, r⟩ := hl.at R hv
    obtain ⟨as, ra⟩ := VRs.reads R.froz b r
    exact ⟨_, .list e rfl rfl (by simpa using ra)⟩

section
variable {C : Cx} {X : XPost} {W : En} {l : Loc} {σ : Sto} {Q : V → Sto → Prop}

theorem SV.eqData {d e : V} {p q : PyData} (hd : DataIs σ d p) (he : DataIs σ e q) (sp : shaped p = true) (sq : shaped q = true) (h : Q (.bool (PyData.eqv p q)) σ) : SV C X W σ [d, e] (tCmp .Eq) Q := by
  rintro g A L s _ R hA ⟨v, _, rfl, hv, u, _, rfl, hu, rfl⟩
  obtain ⟨as, ra⟩ := hd.reads R hv
  obtain ⟨bs, rb⟩ := he.reads R hu
  exact compareEq_shaped ra rb sp sq (by have := hA.units; lia) (Up.here (d := .bool _) R rfl h)
theorem SV.neData {d e : V} {p q : PyData} (hd : DataIs σ d p) (he : DataIs σ e q) (sp : shaped p = true) (sq : shaped q = true) (h : Q (.bool (!PyData.eqv p q)) σ) : SV C X W σ [d, e] (tCmp .NotEq) Q := by
  rintro g A L s _ R hA ⟨v, _, rfl, hv, u, _, rfl, hu, rfl⟩
  obtain ⟨as, ra⟩ := hd.reads R hv
  obtain ⟨bs, rb⟩ := he.reads R hu
  exact compareNe_shaped ra rb sp sq (by have := hA.units; lia) (Up.here (d := .bool _) R rfl h)
theorem depthIn {A : Around} {xs : List PyData} {p : PyData} (sp : shaped p = true) (hu : A.units + 100 < cLine) : A.units + 1 + min (PyData.depthAll xs) p.depth < cLine := by
  have := depth_of_shaped sp
  have : min (PyData.depthAll xs) p.depth ≤ p.depth := Nat.min_le_right _ _
  lia
theorem SV.inList {d e : V} {p : PyData} {es : List V} (hd : DataIs σ d p) (he : IsL σ e es) (ha : areData es = true) (hc : PyData.canLayAll0 (pds es) = true) (sp : shaped p = true) (h : Q (.bool ((pds es).any fun y => PyData.eqv y p)) σ) : SV C X W σ [d, e] (tCmp .In) Q := by
  rintro g A L s _ R hA ⟨v, _, rfl, hv, u, _, rfl, hu, rfl⟩
  obtain ⟨as, ra⟩ := hd.reads R hv
  obtain ⟨bs, rb⟩ := DataIs.reads (.inr ⟨es, he, ha, rfl⟩) R hu
  exact PySem.SeqAt.in_list_reads rb ra hc (canLay_of_shaped sp) (depthIn sp (by have := hA.units; lia)) (Up.here (d := .bool _) R rfl h)
theorem SV.notInList {d e : V} {p : PyData} {es : List V} (hd : DataIs σ d p) (he : IsL σ e es) (ha : areData es = true) (hc : PyData.canLayAll0 (pds es) = true) (sp : shaped p = true) (h : Q (.bool (!(pds es).any fun y => PyData.eqv y p)) σ) : SV C X W σ [d, e] (tCmp .NotIn) Q := by
  rintro g A L s _ R hA ⟨v, _, rfl, hv, u, _, rfl, hu, rfl⟩
  obtain ⟨as, ra⟩ := hd.reads R hv
  obtain ⟨bs, rb⟩ := DataIs.reads (.inr ⟨es, he, ha, rfl⟩) R hu
  exact PySem.SeqAt.notIn_list_reads rb ra hc (canLay_of_shaped sp) (depthIn sp (by have := hA.units; lia)) (Up.here (d := .bool _) R rfl h)
theorem SV.inTup {d : V} {p : PyData} {es : List V} (hd : DataIs σ d p) (ha : areData es = true) (hc : PyData.canLayAll0 (pds es) = true) (sp : shaped p = true) (h : Q (.bool ((pds es).any fun y => PyData.eqv y p)) σ) : SV C X W σ [d, .tup es] (tCmp .In) Q := by
  rintro g A L s _ R hA ⟨v, _, rfl, hv, u, _, rfl, hu, rfl⟩
  obtain ⟨as, ra⟩ := hd.reads R hv
  obtain ⟨bs, rb⟩ := VR.reads R.froz (show isData (.tup es) = true by rw [isData]; exact ha) hu
  exact PySem.SeqAt.in_tuple_reads rb ra hc (canLay_of_shaped sp) (depthIn sp (by have := hA.units; lia)) (Up.here (d := .bool _) R rfl h)
theorem SV.notInTup {d : V} {p : PyData} {es : List V} (hd : DataIs σ d p) (ha : areData es = true) (hc : PyData.canLayAll0 (pds es) = true) (sp : shaped p = true) (h : Q (.bool (!(pds es).any fun y => PyData.eqv y p)) σ) : SV C X W σ [d, .tup es] (tCmp .NotIn) Q := by
  rintro g A L s _ R hA ⟨v, _, rfl, hv, u, _, rfl, hu, rfl⟩
  obtain ⟨as, ra⟩ := hd.reads R hv
  obtain ⟨bs, rb⟩ := VR.reads R.froz (show isData (.tup es) = true by rw [isData]; exact ha) hu
  exact PySem.SeqAt.notIn_tuple_reads rb ra hc (canLay_of_shaped sp) (depthIn sp (by have := hA.units; lia)) (Up.here (d := .bool _) R rfl h)

/-! items -/
theorem subscripted_ops (slice : Expr) (o i : Value) : ∃ ops, subscripted slice false o i = operate ops (getItem o i) := by
  cases slice <;> first | exact ⟨_, rfl⟩ | (rename_i a b c p; cases c <;> exact ⟨_, rfl⟩)
/-- o[i] -/
noncomputable def SI (C : Cx) (X : XPost) (W : En) (σ : Sto) (o i : V) (Q : V → Sto → Prop) : Prop :=
  ∀ g A L s ov iv, Rel C g σ s → Ar g W.d W.calm A → VR g o ov → VR g i iv → ItemOn C.M A (X.P L g A.frames) ov iv (Up C g Q) s
theorem SE.sub {v sl : Expr} {pos : Pos} (h : SE C X W v l σ fun o σ₁ => SE C X W sl l σ₁ fun i σ₂ => SI C X W σ₂ o i Q) : SE C X W (.Subscript v sl pos) l σ Q := fun g A cenv L m s p => by
  refine Subscript_ (wpAny_mono (h g A cenv L m s p) ?_ fun _ _ h => h)
  rintro ov s₁ ⟨o, g₁, σ₁, e₁, R₁, ho, q⟩
  have p₁ := p.step e₁ R₁
  refine wpAny_mono (q g₁ A cenv L m s₁ p₁) ?_ fun _ _ h => X.mono e₁ h
  rintro iv s₂ ⟨i, g₂, σ₂, e₂, R₂, hi, q₂⟩
  have p₂ := p₁.step e₂ R₂
  obtain ⟨T, id, hl, hT, hg⟩ := q₂ g₂ A L s₂ ov iv R₂ p₂.A (ho.ext e₂.v) hi
  obtain ⟨ops, e⟩ := subscripted_ops sl ov iv
  exact wpAny_mono (tail_any hT hl hg e) (fun _ _ h => Up.back (e₁.trans e₂) h) fun _ _ h => X.mono (e₁.trans e₂) h

theorem SI.tup {ds : List V} {k : Int} {j : Nat} {d : V} (hlo : -(2 ^ 63) ≤ k) (hhi : k < 2 ^ 63) (hj : seqIndex? k ds.length = some j) (hx : ds[j]? = some d) (h : Q d σ) : SI C X W σ (.tup ds) (.int k) Q := by
  rintro g A L s ov iv R hA ho ⟨t, rfl⟩
  obtain ⟨a, vs, rfl, e, r⟩ := VR.tupAt R ho
  obtain ⟨v, hv, rv⟩ := r.get hx
  exact ⟨"tuple", _, slot_tuple_getitem.lookup, ⟨_, e, rfl⟩, getItem_tuple (isTup_of e) hlo hhi (by rw [List.size_toArray, ← r.length]; exact hj) (by simpa using hv) (Up.here R rv h)⟩
theorem SI.list {o : V} {ds : List V} {k : Int} {d : V} (ho : IsL σ o ds) (h0 : 0 ≤ k) (hhi : k < 2 ^ 63) (hx : ds[k.toNat]? = some d) (h : Q d σ) : SI C X W σ o (.int k) Q := by
  rintro g A L s ov iv R hA hv ⟨t, rfl⟩
  obtain ⟨a, vs, n, rfl, e, r⟩ := ho.at R hv
  obtain ⟨v, hv, rv⟩ := r.get hx
  exact ⟨"list", _, slot_list_getitem.lookup, ⟨_, e, rfl⟩, wpAny_getItem_list (isList_of e) h0 hhi (by simpa using hv) (Up.here R rv h)⟩

/-! slices -/
noncomputable def SOpt (C : Cx) (X : XPost) (W : En) (eo : Option Expr) (l : Loc) (σ : Sto) (Q : Option Int → Sto → Prop) : Prop := match eo with
  | none => Q none σ
  | some e => SE C X W e l σ fun d σ' => ∃ i, d = .int i ∧ Q (some i) σ'
/-- o[lo:hi] -/
noncomputable def SSl (C : Cx) (X : XPost) (W : En) (σ : Sto) (o : V) (lo hi : Option Int) (Q : V → Sto → Prop) : Prop :=
  ∀ g A L s ov vl vu, Rel C g σ s → Ar g W.d W.calm A → VR g o ov → IsPart vl lo → IsPart vu hi →
    ItemOn C.M A (X.P L g A.frames) ov (.ref s.heap.objs.size) (Up C g Q) { s with heap := s.heap.push { cls := .type "slice", data := .fields #[vl, vu, .none] } }
theorem SOpt.use {eo : Option Expr} {g : TagMap} {A : Around} {cenv : Env} {L : Addr} {m : Str → Option Value} {s : Shared} {QO : Option Int → Sto → Prop} (p : Pre C W l σ g A cenv L m s) (h : SOpt C X W eo l σ QO) :
    wpAny C.M A (valueOrNone (evalOpt eo cenv)) (fun v s' => ∃ k g' σ', Ext g g' ∧ Rel C g' σ' s' ∧ IsPart v k ∧ QO k σ') (X.P L g A.frames) s := by
  cases eo with
  | none => exact wpAny_pure ⟨none, g, σ, Ext.refl g, p.R, .none, h⟩
  | some e =>
    refine wpAny_mono (h g A cenv L m s p) ?_ fun _ _ h => h
    rintro v s' ⟨d, g', σ', x, R, hv, i, rfl, q⟩
    obtain ⟨t, rfl⟩ := hv
    exact ⟨some i, g', σ', x, R, .int i t, q⟩
theorem SE.slice {v : Expr} {lo hi : Option Expr} {sp pos : Pos} (h : SE C X W v l σ fun o σ₁ => SOpt C X W lo l σ₁ fun a σ₂ => SOpt C X W hi l σ₂ fun b σ₃ => SSl C X W σ₃ o a b Q) : SE C X W (.Subscript v (.Slice lo hi Option.none sp) pos) l σ Q := fun g A cenv L m s p => by
  refine Subscript_ (wpAny_mono (h g A cenv L m s p) ?_ fun _ _ h => h)
  rintro ov s₁ ⟨o, g₁, σ₁, e₁, R₁, ho, q⟩
  have p₁ := p.step e₁ R₁
  show wpAny C.M A (do
    let l ← valueOrNone (evalOpt lo cenv)
    let u ← holding [l] (valueOrNone (evalOpt hi cenv))
    let s ← holding [l, u] (valueOrNone (evalOpt Option.none cenv))
    newFields "slice" [l, u, s]) _ _ _
  refine wpAny_bind (wpAny_mono (SOpt.use p₁ q) ?_ fun _ _ h => X.mono e₁ h)
  rintro vl s₂ ⟨a, g₂, σ₂, e₂, R₂, ha, q₂⟩
  have p₂ := p₁.step e₂ R₂
  refine wpAny_bind (wpAny_holding (wpAny_mono (SOpt.use p₂ q₂) ?_ fun _ _ h => X.mono (e₁.trans e₂) h))
  rintro vu s₃ ⟨b, g₃, σ₃, e₃, R₃, hb, q₃⟩
  have p₃ := p₂.step e₃ R₃
  refine wpAny_bind (wpAny_holding (wpAny_pure ?_))
  have e := (e₁.trans e₂).trans e₃
  obtain ⟨T, id, hl, hT, hg⟩ := q₃ g₃ A L s₃ ov vl vu R₃ p₃.A (ho.ext (e₂.trans e₃).v) ha hb
  obtain ⟨ops, eo⟩ := subscripted_ops (.Slice lo hi Option.none sp) ov (.ref s₃.heap.objs.size)
  refine wpAny_newObj_type ?_ (by first | size_fits | decide | rfl)
  exact wpAny_mono (tail_any hT hl hg eo) (fun _ _ h => Up.back e h) fun _ _ h => X.mono e h
end
end Mine
/- part MIter -/
namespace Mine
open PySem PySem.W PySem.Calls PyProof.Rows PySem.SeqAt

/-! iterators -/
noncomputable def ItrNext (C : Cx) (gb : TagMap) (A : Around) (t : Expr) (I : Addr) (own : List Addr) (src : Sto → Prop) (d : V) (St St' : Heap → Prop) : Prop :=
  ∀ g σ s (Q : Option Value → Shared → Prop) (E : Value → Shared → Prop), ExtV gb g → Rel C g σ s → (∀ b ∈ own, g b = .free) → src σ → St s.heap →
    (∀ v s₁, (∀ (Q' : Unit → Shared → Prop) (E' : Value → Shared → Prop), (∀ g₂ s₂, Ext g g₂ → (∀ b ∈ own, g₂ b = .free) → Rel C g₂ σ s₂ → VR g₂ d v → St' s₂.heap → Q' () s₂) → wpAny C.M A (letOwnedTupleGo t (.ref I) v) Q' E' s₁) → Q (some v) s₁) →
    wpAny C.M A (pyNext (.ref I)) Q E s
noncomputable def ItrDone (C : Cx) (gb : TagMap) (A : Around) (I : Addr) (own : List Addr) (src : Sto → Prop) (St : Heap → Prop) : Prop :=
  ∀ g σ s (Q : Option Value → Shared → Prop) (E : Value → Shared → Prop), ExtV gb g → Rel C g σ s → (∀ b ∈ own, g b = .free) → src σ → St s.heap → (∀ s₁, Rel C g σ s₁ → Q none s₁) → wpAny C.M A (pyNext (.ref I)) Q E s
/-- an iterator gives itself -/
noncomputable def ItrSelf (C : Cx) (A : Around) (I : Addr) (St : Heap → Prop) : Prop := ∀ (s : Shared) (Q : Value → Shared → Prop) (E : Value → Shared → Prop), St s.heap → Q (.ref I) s → wpAny C.M A (pyIter (.ref I)) Q E s
noncomputable def ItrFrame (own : List Addr) (St : Heap → Prop) : Prop := (∀ h h', St h → (∀ b ∈ own, ∀ o, h.get? b = some o → h'.get? b = some o) → St h') ∧ ∀ h, St h → ∀ b ∈ own, ∃ o, h.get? b = some o
noncomputable def Itr (C : Cx) (gb : TagMap) (A : Around) (t : Expr) (I : Addr) (own : List Addr) (src : Sto → Prop) : List V → (Heap → Prop) → Prop
  | [], St => ItrFrame own St ∧ ItrDone C gb A I own src St
  | d :: r, St => ItrFrame own St ∧ ∃ St', ItrNext C gb A t I own src d St St' ∧ Itr C gb A t I own src r St'
theorem Itr.frame {C : Cx} {gb : TagMap} {A : Around} {t : Expr} {I : Addr} {own : List Addr} {src : Sto → Prop} : ∀ {ds : List V} {St : Heap → Prop}, Itr C gb A t I own src ds St → ItrFrame own St
  | [], _, h => h.1
  | _ :: _, _, h => h.1

/-! many tags at once -/
noncomputable def freeAll (g : TagMap) (own : List Addr) : TagMap := fun a => if a ∈ own then .free else g a
noncomputable def holdAll (g : TagMap) (own : List Addr) (h : Heap) : TagMap := fun a => if a ∈ own then (match h.get? a with | some o => .held o | none => .free) else g a
theorem freeAll_in {g : TagMap} {own : List Addr} {a : Addr} (h : a ∈ own) : freeAll g own a = .free := by simp [freeAll, h]
theorem freeAll_out {g : TagMap} {own : List Addr} {a : Addr} (h : a ∉ own) : freeAll g own a = g a := by simp [freeAll, h]
theorem holdAll_in {g : TagMap} {own : List Addr} {h : Heap} {a : Addr} {o : Obj} (m : a ∈ own) (e : h.get? a = some o) : holdAll g own h a = .held o := by simp [holdAll, m, e]
theorem holdAll_out {g : TagMap} {own : List Addr} {h : Heap} {a : Addr} (m : a ∉ own) : holdAll g own h a = g a := by simp [holdAll, m]
theorem freeAll_cons (g : TagMap) (a : Addr) (own : List Addr) : freeAll g (a :: own) = (freeAll g own).put a .free := by
  funext b
  by_cases q : b = a
  · subst q; rw [put_self]; simp [freeAll]
  · rw [put_ne _ _ q]; simp [freeAll, q]
theorem holdAll_cons {g : TagMap} {a : Addr} {own : List Addr} {h : Heap} {o : Obj} (e : h.get? a = some o) : holdAll g (a :: own) h = (holdAll g own h).put a (.held o) := by
  funext b
  by_cases q : b = a
  · subst q; rw [put_self]; simp [holdAll, e]
  · rw [put_ne _ _ q]; simp [holdAll, q]
theorem Rel.freeAll {C : Cx} {σ : Sto} {s : Shared} {g : TagMap} (R : Rel C g σ s) : ∀ {own : List Addr}, (∀ b ∈ own, ¬ (g b).solid) → Rel C (freeAll g own) σ s
  | [], _ => by
    have : Mine.freeAll g [] = g := by funext b; simp [Mine.freeAll]
    rw [this]; exact R
  | a :: own, h => by
    rw [freeAll_cons]
    refine (Rel.freeAll R fun b hb => h b (.tail _ hb)).retag ?_ trivial
    by_cases q : a ∈ own
    · rw [freeAll_in q]; exact fun x => x
    · rw [freeAll_out q]; exact h a (.head _)
theorem Rel.holdAll {C : Cx} {σ : Sto} {s : Shared} {g : TagMap} (R : Rel C g σ s) : ∀ {own : List Addr}, (∀ b ∈ own, ¬ (g b).solid ∧ C.H0.get? b = none ∧ ∃ o, s.heap.get? b = some o) → Rel C (holdAll g own s.heap) σ s
  | [], _ => by
    have : Mine.holdAll g [] s.heap = g := by funext b; simp [Mine.holdAll]
    rw [this]; exact R
  | a :: own, h => by
    obtain ⟨h1, h2, o, e⟩ := h a (.head _)
    rw [holdAll_cons e]
    refine (Rel.holdAll R fun b hb => h b (.tail _ hb)).retag ?_ ⟨e, h2⟩
    by_cases q : a ∈ own
    · rw [holdAll_in q e]; exact fun x => x
    · rw [holdAll_out q]; exact h1

/-- the turns of a for -/
noncomputable def SFor (C : Cx) (X : XPost) (W : En) (src : Sto → Prop) (t : Expr) (body : List Stmt) : List V → Loc → Sto → (Fl → Loc → Sto → Prop) → Prop
  | [], l, σ, Q => src σ ∧ Q .next l σ
  | d :: r, l, σ, Q => src σ ∧ SG C X W t l σ d fun l₁ σ₁ => SS C X W body l₁ σ₁ fun f l₂ σ₂ => match f with
    | .next | .cont => SFor C X W src t body r l₂ σ₂ Q
    | .brk => Q .next l₂ σ₂
    | .ret v => Q (.ret v) l₂ σ₂

/-- an exception passes a loop of its own frame -/
noncomputable def XOwn (C : Cx) (X : XPost) : Prop := ∀ (A : Around) (cenv : Env) (outer : List Env) (L : Addr) (g : TagMap) (m : Str → Option Value) (e : Value) (s : Shared), A.frames = some (cenv :: outer) → g L = .fr m → cenv.frame = some L →
  X.P L g A.frames e s → notedBy C.M A cenv (cameBackBy C.M A cenv (X.P L g A.frames)) e s
theorem XOwn.none {C : Cx} : XOwn C .none := fun _ _ _ _ _ _ _ _ _ _ _ h => h.elim

section
variable {C : Cx} {X : XPost} {W : En} {Q : Fl → Loc → Sto → Prop}

theorem wpAny_true {α : Type} {M : Model} {A : Around} {t : Sem α} {Q : α → Shared → Prop} {E E' : Value → Shared → Prop} {s : Shared} (h : ∀ E : Value → Shared → Prop, wpAny M A t Q E s) : wpAny M A t Q E' s := h E'

theorem forLoop {A : Around} {t : Expr} {body : List Stmt} {I : Addr} {own : List Addr} {src : Sto → Prop} {cenv : Env} {outer : List Env} {L : Addr} {g₀ gb : TagMap} (hfr : A.frames = some (cenv :: outer)) (hcf : cenv.frame = some L) (hX : XOwn C X)
    (hg0 : ∀ b ∈ own, g₀ b = .free ∧ C.H0.get? b = none) (m₀ : Str → Option Value) (hm0 : g₀ L = .fr m₀) :
    ∀ (ds : List V) (St : Heap → Prop) (l : Loc) (σ : Sto) (g : TagMap) (m : Str → Option Value) (s : Shared), Itr C gb A t I own src ds St → SFor C X W src t body ds l σ Q → Pre C W l σ g A cenv L m s → (∀ b ∈ own, g b = .free) → St s.heap → ExtL L g₀ g → ExtV gb g →
      codeAny C.M A (.forLoop t (.ref I) body [] cenv) (fun r s' => match r with | .ok f => UpS C L g₀ Q f s' | .error e => cameBackBy C.M A cenv (X.P L g₀ A.frames) e s') s := by
  have hunder : ∀ c : Code, c = .forLoop t (.ref I) body [] cenv → A.under c = A := fun c e => by subst e; exact Around.under_of_weight rfl
  -- an exception of the turn
  have hE : ∀ e s, X.P L g₀ A.frames e s → notedBy C.M A cenv (cameBackBy C.M A cenv (X.P L g₀ A.frames)) e s := fun e s h => hX A cenv outer L g₀ m₀ e s hfr hm0 hcf h
  intro ds
  induction ds with
  | nil =>
    intro St l σ g m s hI hF p hown hst hx hb
    refine codeAny_of_tree ?_
    rw [hunder _ rfl]
    refine wpAny_noted ?_
    unfold forTurn
    refine wpAny_bind (wpAny_standAt (wpAny_bind (wpAny_onRaise (hI.2 g σ s _ _ hb p.R hown hF.1 hst fun s₁ R₁ => ?_))))
    refine wpAny_pure (a := Fin.again _) ⟨rfl, ?_⟩
    refine codeAny_of_tree ?_
    rw [show A.under (.block [] cenv) = A from Around.under_of_weight rfl]
    have p₁ := p.step (Ext.refl g) R₁
    exact wpAny_bind (wpAny_onRaise (wpAny_execs_nil (wpAny_pure ⟨.next, l, g, σ, m, hx, R₁, p₁.fm, p₁.fl, rfl, hF.2⟩)))
  | cons d r ih =>
    intro St l σ g m s hI hF p hown hst hx hb
    obtain ⟨hfrm, St', hnext, hrest⟩ := hI
    refine codeAny_of_tree ?_
    rw [hunder _ rfl]
    refine wpAny_noted ?_
    unfold forTurn
    refine wpAny_bind (wpAny_standAt (wpAny_bind (wpAny_onRaise (hnext g σ s _ _ hb p.R hown hF.1 hst fun v s₁ hgo => ?_))))
    show wpAny C.M A (do letOwnedTupleGo t (.ref I) v; assign t cenv v; match ← execs body cenv with | .next | .cont => again (.forLoop t (.ref I) body [] cenv) | .brk => pure (.done .next) | .ret v => pure (.done (.ret v))) _ _ s₁
    refine wpAny_bind (hgo _ _ fun g₂ s₂ x₂ hown₂ R₂ hv hst₂ => ?_)
    have p₂ := p.step x₂ R₂
    -- what the iterator owns is held
    have hL : L ∉ own := fun h => by have := hown L h; rw [p.fm] at this; cases this
    have hhold : ∀ b ∈ own, ¬ (g₂ b).solid ∧ C.H0.get? b = none ∧ ∃ o, s₂.heap.get? b = some o := fun b hb => ⟨by rw [hown₂ b hb]; exact fun x => x, (hg0 b hb).2, (hrest.frame.2 _ hst₂ b hb)⟩
    have R₃ := R₂.holdAll hhold
    have x₃ : Ext g₂ (holdAll g₂ own s₂.heap) := fun a ha => holdAll_out fun h => ha (hown₂ a h)
    have p₃ := p₂.step x₃ R₃
    refine wpAny_bind (wpAny_mono (hF.2 _ A cenv L m s₂ v p₃ (hv.ext x₃.v)) ?_ fun e s h => hE e s (X.monoL hx (X.mono (x₂.trans x₃) h)))
    rintro _ s₄ ⟨l₄, g₄, σ₄, m₄, x₄, R₄, hm₄, hl₄, q⟩
    have p₄ := p₃.stepL x₄ R₄ hm₄ hl₄
    have xx₄ : ExtL L g₀ g₄ := (hx.trans ((x₂.trans x₃).l L)).trans x₄
    refine wpAny_bind (wpAny_mono (q g₄ A cenv L m₄ s₄ p₄ ⟨⟨outer, hfr⟩, hcf⟩) ?_ fun e s h => hE e s (X.monoL xx₄ h))
    rintro fl s₅ ⟨f, l₅, g₅, σ₅, m₅, x₅, R₅, hm₅, hl₅, hfl, q₅⟩
    have xx₅ : ExtL L g₀ g₅ := xx₄.trans x₅
    have goOn : SFor C X W src t body r l₅ σ₅ Q → codeAny C.M A (.forLoop t (.ref I) body [] cenv) (fun r s' => match r with | .ok f => UpS C L g₀ Q f s' | .error e => cameBackBy C.M A cenv (X.P L g₀ A.frames) e s') s₅ := by
      intro hF'
      have hheld : ∀ b ∈ own, ∀ o, s₂.heap.get? b = some o → g₅ b = .held o := fun b hb o e => by
        have hbL : b ≠ L := fun h => hL (h ▸ hb)
        have e3 : holdAll g₂ own s₂.heap b = .held o := holdAll_in hb e
        have e4 : g₄ b = .held o := (x₄ b hbL (by rw [e3]; intro h; cases h)).trans e3
        exact (x₅ b hbL (by rw [e4]; intro h; cases h)).trans e4
      have hst₅ : St' s₅.heap := hrest.frame.1 _ _ hst₂ fun b hb o e => R₅.held b o (hheld b hb o e)
      have R₆ := R₅.freeAll (own := own) fun b hb => by
        obtain ⟨o, e⟩ := (hhold b hb).2.2
        rw [hheld b hb o e]; exact fun x => x
      have hL5 : freeAll g₅ own L = .fr m₅ := (freeAll_out hL).trans hm₅
      have x₆ : ExtL L g₀ (freeAll g₅ own) := fun a ha hn => by
        have : a ∉ own := fun h => hn (hg0 a h).1
        rw [freeAll_out this]; exact xx₅ a ha hn
      have p₅ := p₄.stepL x₅ R₅ hm₅ hl₅
      have xv : ExtV g₅ (freeAll g₅ own) := fun a ha => by
        refine freeAll_out fun h => ?_
        obtain ⟨o, e⟩ := (hhold a h).2.2
        rw [hheld a h o e] at ha; exact ha
      refine ih St' l₅ σ₅ (freeAll g₅ own) m₅ s₅ hrest hF' ⟨R₆, ⟨p₅.E.sc, p₅.E.kind, p₅.E.loc, p₅.E.glob, p₅.E.blt, fun y i e => let ⟨a, e1, t⟩ := p₅.E.cells y i e; ⟨a, e1, xv.at t trivial⟩, ?_, p₅.E.fn⟩, ⟨p₅.A.depth, p₅.A.units, p₅.A.calm, ?_, p₅.A.guards⟩, hL5, p₅.fl.ext xv⟩ (fun b hb => freeAll_in hb) hst₅ x₆ ((((hb.trans (x₂.trans x₃).v).trans (p₃.vL x₄)).trans (p₄.vL x₅)).trans xv)
      · exact frameOk p₅.E.frame fun b m hb => by
          refine freeAll_out fun h => ?_
          obtain ⟨o, e⟩ := (hhold b h).2.2
          rw [hheld b h o e] at hb; cases hb
      · obtain ⟨f, e, k⟩ := p₅.A.frames
        exact ⟨f, e, fun env he => frameOk (k env he) fun b m hb => by
          refine freeAll_out fun h => ?_
          obtain ⟨o, e⟩ := (hhold b h).2.2
          rw [hheld b h o e] at hb; cases hb⟩
    cases f with
    | next => obtain rfl : fl = .next := hfl; exact wpAny_pure (a := Fin.again _) ⟨rfl, goOn q₅⟩
    | cont => obtain rfl : fl = .cont := hfl; exact wpAny_pure (a := Fin.again _) ⟨rfl, goOn q₅⟩
    | brk => obtain rfl : fl = .brk := hfl; exact wpAny_pure ⟨.next, l₅, g₅, σ₅, m₅, xx₅, R₅, hm₅, hl₅, rfl, q₅⟩
    | ret d => obtain ⟨v, rfl, hv⟩ := hfl; exact wpAny_pure ⟨.ret d, l₅, g₅, σ₅, m₅, xx₅, R₅, hm₅, hl₅, ⟨v, rfl, hv⟩, q₅⟩
where
  frameOk {g g' : TagMap} {env : Env} (h : FrameOk g env) (k : ∀ b m, g b = .fr m → g' b = g b) : FrameOk g' env :=
    let ⟨a, L, m, e, t⟩ := h; ⟨a, L, m, e, (k L m t).trans t⟩

/-- the iterator that an expression gives for a target -/
noncomputable def SIt (C : Cx) (X : XPost) (W : En) (t iter : Expr) (l : Loc) (σ : Sto) (Q : (Sto → Prop) → List V → Sto → Prop) : Prop :=
  ∀ g A cenv L m s, Pre C W l σ g A cenv L m s → wpAny C.M A (eval iter cenv) (fun x s₁ => wpAny C.M A (pyIter x) (fun it s₂ => ∃ I own src ds St g' σ', it = .ref I ∧ Ext g g' ∧ Rel C g' σ' s₂ ∧ Itr C g' A t I own src ds St ∧ ItrSelf C A I St ∧ St s₂.heap ∧ (∀ b ∈ own, g b = .free ∧ g' b = .free ∧ C.H0.get? b = .none) ∧ Q src ds σ') (X.P L g A.frames) s₁) (X.P L g A.frames) s
noncomputable def notSet : Expr → Bool
  | .Set .. => false
  | _ => true
theorem folded_notSet {e : Expr} {env : Env} {x : Value} (h : notSet e = true) : foldedSetIterable e env x = pure x := by
  cases e <;> first | rfl | exact absurd h Bool.false_ne_true
theorem S1.for {t iter : Expr} {body : List Stmt} {pos : Pos} {l : Loc} {σ : Sto} (hX : XOwn C X) (hn : notSet iter = true) (h : SIt C X W t iter l σ fun src ds σ₁ => SFor C X W src t body ds l σ₁ Q) : S1 C X W (.For t iter body [] pos) l σ Q := fun g A cenv L m s p o => by
  obtain ⟨⟨outer, hfr⟩, hcf⟩ := o
  refine wpAny_For (wpAny_mono (h g A cenv L m s p) ?_ fun _ _ h => h) fun _ => folded_notSet hn
  intro x s₁ h₁
  refine wpAny_mono h₁ ?_ fun _ _ h => h
  rintro it s₂ ⟨I, own, src, ds, St, g', σ', rfl, e, R, hI, _, hst, hown, q⟩
  have p' := p.step e R
  exact forLoop (g₀ := g) (gb := g') hfr hcf hX (fun b hb => ⟨(hown b hb).1, (hown b hb).2.2⟩) m p.fm ds St l σ' g' m s₂ hI q p' (fun b hb => (hown b hb).2.1) hst (e.l L) (ExtV.refl g')
end
end Mine
/- part MIt2 -/
namespace Mine
open PySem PySem.W PySem.Calls PyProof.Rows PySem.SeqAt

noncomputable def handsOwn : List String := ["enumerate", "zip", "dict_itemiterator", "dict_reverseitemiterator", "odict_iterator", "itertools.zip_longest", "itertools.pairwise"]
theorem letOwned_skip {M : Model} {A : Around} {E : Value → Shared → Prop} {s : Shared} {t : Expr} {I : Addr} {v : Value} {o : Obj} {n : String} {Q : Unit → Shared → Prop} (ho : s.heap.get? I = some o) (hc : o.cls = .type n) (hn : handsOwn.contains n = false) (h : Q () s) :
    wpAny M A (letOwnedTupleGo t (.ref I) v) Q E s := by
  obtain ⟨oc, od, oda, osl⟩ := o
  simp only at hc
  subst hc
  have body : ∀ a, wpAny M A (do
      let o ← load I
      match o.cls, o.data with
      | .type n, .fields vs =>
        if ["enumerate", "zip", "dict_itemiterator", "dict_reverseitemiterator", "odict_iterator", "itertools.zip_longest", "itertools.pairwise"].contains n && vs[0]? == some (rawInt a) then
          rule "for.unpacks-the-owned-tuple"
          updateField I 0 .none
      | _, _ => pure ()) Q E s := by
    intro a
    refine wpAny_bind (wpAny_load ho ?_)
    dsimp only
    cases oda with
    | fields vs =>
      show wpAny M A (if (handsOwn.contains n && vs[0]? == some (rawInt a)) = true then _ else _) Q E s
      rw [hn, Bool.false_and, if_neg (by decide)]
      exact wpAny_pure h
    | _ => exact wpAny_pure h
  cases t <;> first | exact wpAny_pure h | (cases v <;> first | exact wpAny_pure h | exact body _)

section
variable {C : Cx} {X : XPost} {W : En} {l : Loc} {σ : Sto} {QI : (Sto → Prop) → List V → Sto → Prop}

theorem keep1 {g : TagMap} {s s' : Shared} {I : Addr} (R : Rel C g σ s) (hI : g I = .free) (h0 : C.H0.get? I = none) (k : ∀ b o, b ≠ I → s.heap.get? b = some o → s'.heap.get? b = some o) (hg : s'.gens = s.gens := by rfl) (ho : s'.os = s.os := by rfl) : Rel C g σ s' :=
  R.keepsT (fun b o hb e => k b o (fun q => by
    subst q; rcases hb with hb | hb
    · exact hb hI
    · exact hb h0) e) hg ho

theorem itrList {gb : TagMap} {A : Around} {t : Expr} {I a : Addr} {d : V} {ds : List V} (hh : A.handled = .none) (hd : VR gb d (.ref a)) (hI : I ≠ a) (h0 : C.H0.get? I = none) (n : Nat) (hn : n = ds.length) :
    ∀ k j, j + k = n → Itr C gb A t I [I] (fun σ => IsL σ d ds) (ds.drop j) (fun h => h.IsListIter I a j) := by
  have fr : ∀ j, ItrFrame [I] (fun h => h.IsListIter I a j) := fun j => ⟨fun h h' st k => st.at fun o e => k I (.head _) o e, fun h ⟨o, e, _⟩ b hb => by
    cases hb with
    | head => exact ⟨o, e⟩
    | tail _ hb => cases hb⟩
  intro k
  induction k with
  | zero =>
    intro j hj
    have : ds.drop j = [] := List.drop_eq_nil_of_le (by lia)
    rw [this]
    refine ⟨fr j, ?_⟩
    intro g σ s Q E hb R hown hsrc hst hQ
    obtain ⟨a', vs, m, e, ho, hvs⟩ := IsL.at hsrc R (hd.ext hb)
    cases e
    refine wpAny_pyNext_list_end hh hst (isList_of ho) (by simp; rw [← hvs.length]; lia) fun h' he => hQ _ (keep1 R (hown I (.head _)) h0 fun b o hbn e => he b o hbn e)
  | succ k ih =>
    intro j hj
    have hlt : j < ds.length := by lia
    rw [List.drop_eq_getElem_cons hlt]
    refine ⟨fr j, _, ?_, ih (j + 1) (by lia)⟩
    intro g σ s Q E hb R hown hsrc hst hQ
    obtain ⟨a', vs, m, e, ho, hvs⟩ := IsL.at hsrc R (hd.ext hb)
    cases e
    obtain ⟨v, hv, rv⟩ := hvs.get (List.getElem?_eq_getElem hlt)
    refine wpAny_pyNext_list_item hst (isList_of ho) (by simpa using hv) fun h' hit hs => hQ v _ fun Q' E' hq => ?_
    obtain ⟨o, e, hc, _⟩ := id hit
    exact letOwned_skip e hc (by decide) (hq g _ (Ext.refl g) hown (keep1 R (hown I (.head _)) h0 fun b o hbn e => (hs.2 b hbn).trans e) rv hit)

theorem itrTup {gb : TagMap} {A : Around} {t : Expr} {I a : Addr} {ds : List V} (hh : A.handled = .none) (hd : VR gb (.tup ds) (.ref a)) (h0 : C.H0.get? I = none) (n : Nat) (hn : n = ds.length) :
    ∀ k j, j + k = n → Itr C gb A t I [I] (fun _ => True) (ds.drop j) (fun h => IsTupIter h I a j) := by
  have fr : ∀ j, ItrFrame [I] (fun h => IsTupIter h I a j) := fun j => ⟨fun h h' ⟨o, e, r⟩ k => ⟨o, k I (.head _) o e, r⟩, fun h ⟨o, e, _⟩ b hb => by
    cases hb with
    | head => exact ⟨o, e⟩
    | tail _ hb => cases hb⟩
  intro k
  induction k with
  | zero =>
    intro j hj
    have : ds.drop j = [] := List.drop_eq_nil_of_le (by lia)
    rw [this]
    refine ⟨fr j, ?_⟩
    intro g σ s Q E hb R hown hsrc hst hQ
    obtain ⟨a', vs, e, ho, hvs⟩ := VR.tupAt R (hd.ext hb)
    cases e
    refine next_tuple_end hh hst (isTup_of ho) (by simp; rw [← hvs.length]; lia) fun h' he => hQ _ (keep1 R (hown I (.head _)) h0 fun b o hbn e => he b o hbn e)
  | succ k ih =>
    intro j hj
    have hlt : j < ds.length := by lia
    rw [List.drop_eq_getElem_cons hlt]
    refine ⟨fr j, _, ?_, ih (j + 1) (by lia)⟩
    intro g σ s Q E hb R hown hsrc hst hQ
    obtain ⟨a', vs, e, ho, hvs⟩ := VR.tupAt R (hd.ext hb)
    cases e
    obtain ⟨v, hv, rv⟩ := hvs.get (List.getElem?_eq_getElem hlt)
    refine next_tuple_item hst (isTup_of ho) (by simpa using hv) fun h' hit hs => hQ v _ fun Q' E' hq => ?_
    obtain ⟨o, e, hc, _⟩ := id hit
    exact letOwned_skip e hc (by decide) (hq g _ (Ext.refl g) hown (keep1 R (hown I (.head _)) h0 fun b o hbn e => (hs.2 b hbn).trans e) rv hit)

theorem itrRange {gb : TagMap} {A : Around} {t : Expr} {I : Addr} (hh : A.handled = .none) (h0 : C.H0.get? I = none) :
    ∀ (k : Nat) (x : Int), Itr C gb A t I [I] (fun _ => True) ((List.range k).map fun j : Nat => V.int (x + (j : Int))) (fun h => IsRangeIter h I x k 1) := by
  have fr : ∀ x y, ItrFrame [I] (fun h => IsRangeIter h I x y 1) := fun x y => ⟨fun h h' e k => k I (.head _) _ e, fun h e b hb => by
    cases hb with
    | head => exact ⟨_, e⟩
    | tail _ hb => cases hb⟩
  intro k
  induction k with
  | zero =>
    intro x
    refine ⟨fr _ _, ?_⟩
    intro g σ s Q E hb R hown hsrc hst hQ
    exact wpAny_pyNext_range_end hh hst (by simp) fun h' he => hQ _ (keep1 R (hown I (.head _)) h0 fun b o hbn e => he b o hbn e)
  | succ k ih =>
    intro x
    have e1 : (List.range (k + 1)).map (fun j : Nat => V.int (x + (j : Int))) = V.int x :: (List.range k).map (fun j : Nat => V.int ((x + 1) + (j : Int))) := by
      rw [List.range_succ_eq_map, List.map_cons, List.map_map]
      congr 1
      · simp
      · refine List.map_congr_left fun j _ => ?_
        show V.int (x + ((j + 1 : Nat) : Int)) = _
        congr 1; lia
    rw [e1]
    refine ⟨fr _ _, _, ?_, ih (x + 1)⟩
    intro g σ s Q E hb R hown hsrc hst hQ
    refine wpAny_pyNext_range_item hst (by lia) fun h' hit hs => hQ _ _ fun Q' E' hq => ?_
    have hit' : IsRangeIter h' I (x + 1) (k : Int) 1 := by
      have : (((k + 1 : Nat) : Int) - 1) = (k : Int) := by lia
      rw [← this]; exact hit
    exact letOwned_skip (n := "range_iterator") hit' rfl (by decide) (hq g _ (Ext.refl g) hown (keep1 R (hown I (.head _)) h0 fun b o hbn e => (hs.2 b hbn).trans e) ⟨_, rfl⟩ hit')

theorem rfits {i : Int} (h : 0 ≤ i) (h' : i < 2 ^ 62) : Builtin.Range.rangeFitsLong i = true := by
  unfold Builtin.Range.rangeFitsLong
  simp only [Bool.and_eq_true, decide_eq_true_eq]
  lia
theorem rsize0 (n : Int) : Builtin.Range.rangeSize 0 n 1 = (n.toNat : Int) := by
  unfold Builtin.Range.rangeSize
  rw [if_pos (by decide)]
  split <;> lia
/-- a plain sequence -/
theorem SIt.list {t e : Expr} (hc : W.calm = true) (h : SE C X W e l σ fun d σ₁ => ∃ ds, IsL σ₁ d ds ∧ QI (fun σ => IsL σ d ds) ds σ₁) : SIt C X W t e l σ QI := fun g A cenv L m s p => by
  refine wpAny_mono (h g A cenv L m s p) ?_ fun _ _ h => h
  rintro x s₁ ⟨d, g₁, σ₁, e₁, R₁, hd, ds, hl, q⟩
  have p₁ := p.step e₁ R₁
  obtain ⟨a, vs, n, rfl, ho, hvs⟩ := hl.at R₁ hd
  have hfree := R₁.free_size (Nat.le_refl s₁.heap.objs.size)
  have hfree0 : g s₁.heap.objs.size = .free := by
    by_cases q : g s₁.heap.objs.size = .free
    · exact q
    · have := e₁ _ q; rw [hfree] at this; exact absurd this.symm q
  have hne : s₁.heap.objs.size ≠ a := Nat.ne_of_gt (Heap.lt_size ho)
  refine wpAny_pyIter_list (isList_of ho) ⟨s₁.heap.objs.size, [s₁.heap.objs.size], _, ds, _, g₁, σ₁, rfl, e₁, R₁.push _, itrList (p₁.A.calm hc) hd hne (R₁.h0_size (Nat.le_refl _)) ds.length rfl ds.length 0 (by lia), fun _ _ _ st h => wpAny_pyIter_listiter st h, ⟨_, Heap.get?_push_size _ rfl, rfl, rfl⟩, ?_, q⟩
  intro b hb
  cases hb with
  | head => exact ⟨hfree0, hfree, R₁.h0_size (Nat.le_refl _)⟩
  | tail _ hb => cases hb
theorem SIt.tup {t e : Expr} (hc : W.calm = true) (h : SE C X W e l σ fun d σ₁ => ∃ ds, d = .tup ds ∧ QI (fun _ => True) ds σ₁) : SIt C X W t e l σ QI := fun g A cenv L m s p => by
  refine wpAny_mono (h g A cenv L m s p) ?_ fun _ _ h => h
  rintro x s₁ ⟨d, g₁, σ₁, e₁, R₁, hd, ds, rfl, q⟩
  have p₁ := p.step e₁ R₁
  have hd' := hd
  obtain ⟨a, vs, rfl, ho, hvs⟩ := VR.tupAt R₁ hd
  have hfree := R₁.free_size (Nat.le_refl s₁.heap.objs.size)
  have hfree0 : g s₁.heap.objs.size = .free := by
    by_cases q : g s₁.heap.objs.size = .free
    · exact q
    · have := e₁ _ q; rw [hfree] at this; exact absurd this.symm q
  refine iter_tuple (isTup_of ho) ⟨s₁.heap.objs.size, [s₁.heap.objs.size], _, ds, _, g₁, σ₁, rfl, e₁, R₁.push _, itrTup (p₁.A.calm hc) hd' (R₁.h0_size (Nat.le_refl _)) ds.length rfl ds.length 0 (by lia), fun _ _ _ st h => wpAny_pyIter_tupleiter (i := _) st h, ⟨_, Heap.get?_push_size _ rfl, rfl, rfl⟩, ?_, q⟩
  intro b hb
  cases hb with
  | head => exact ⟨hfree0, hfree, R₁.h0_size (Nat.le_refl _)⟩
  | tail _ hb => cases hb
theorem SIt.range {t e : Expr} (hc : W.calm = true) (h : SE C X W e l σ fun d σ₁ => ∃ n : Nat, d = .rng 0 n ∧ n < 2 ^ 60 ∧ QI (fun _ => True) ((List.range n).map fun j : Nat => V.int (j : Int)) σ₁) : SIt C X W t e l σ QI := fun g A cenv L m s p => by
  refine wpAny_mono (h g A cenv L m s p) ?_ fun _ _ h => h
  rintro x s₁ ⟨d, g₁, σ₁, e₁, R₁, hd, n, rfl, hn, q⟩
  have p₁ := p.step e₁ R₁
  obtain ⟨a, t₁, u, w, rfl, ht⟩ := hd
  have ho := R₁.froz _ _ ht
  have hfree := R₁.free_size (Nat.le_refl s₁.heap.objs.size)
  have hfree0 : g s₁.heap.objs.size = .free := by
    by_cases q : g s₁.heap.objs.size = .free
    · exact q
    · have := e₁ _ q; rw [hfree] at this; exact absurd this.symm q
  have hsize : Builtin.Range.rangeSize 0 (n : Int) 1 = (n : Int) := by rw [rsize0]; lia
  have hsmall : Builtin.Range.small 0 (n : Int) 1 = true := by
    unfold Builtin.Range.small
    rw [hsize, rfits (by lia) (by lia), rfits (by lia) (by lia), rfits (by lia) (by lia), if_pos (by decide), rfits (by lia) (by lia)]
    simp
  refine wpAny_pyIter_range (t := t₁) (u := u) (v := w) ho hsmall ⟨s₁.heap.objs.size, [s₁.heap.objs.size], _, _, _, g₁, σ₁, rfl, e₁, R₁.push _, itrRange (p₁.A.calm hc) (R₁.h0_size (Nat.le_refl _)) n 0, fun _ _ _ st h => wpAny_pyIter_rangeiter st h, ?_, ?_, ?_⟩
  · rw [hsize]; exact Heap.get?_push_size _ rfl
  · intro b hb
    cases hb with
    | head => exact ⟨hfree0, hfree, R₁.h0_size (Nat.le_refl _)⟩
    | tail _ hb => cases hb
  · have : (fun j : Nat => V.int (0 + (j : Int))) = fun j : Nat => V.int (j : Int) := by funext j; rw [Int.zero_add]
    rw [this]; exact q
end
end Mine
/- part MComp -/
namespace Mine
open PySem PySem.W PySem.Calls PyProof.Rows PySem.SeqAt

noncomputable def relabelS (scope fs : Scope) : Scope :=
  { scope with names := scope.names.map fun (n, k) => if (k == .free && fs.kind == .function && fs.names.lookup n == some .cell) then (n, .cell) else (n, k) }
theorem relabel_eq {scope fs : Scope} {env : Env} (h : env.scope = fs) : relabel scope env = relabelS scope fs := by subst h; rfl

noncomputable def closGo {α : Type} (cells : List (Str × α)) : List (Str × NameKind) → List (Str × α) → List (Str × α)
  | [], acc => acc
  | (n, k) :: r, acc => closGo cells r (if k == .free then (match cells.lookup n with | some a => (n, a) :: acc | none => acc) else acc)

noncomputable def freeOk (cells : List (Str × Nat)) (names : List (Str × NameKind)) : Bool := names.all fun x => x.2 != .free || (cells.lookup x.1).isSome

theorem closureFor_go {scope : Scope} {env : Env} (h : ∀ x ∈ scope.names, x.2 = .free → ∃ a, env.cells.lookup x.1 = some a) : closureFor scope env = pure (closGo env.cells scope.names []) := by
  have key : ∀ (names : List (Str × NameKind)) (acc : List (Str × Addr)), (∀ x ∈ names, x.2 = .free → ∃ a, env.cells.lookup x.1 = some a) →
      (forIn names acc fun (x : Str × NameKind) (cs : List (Str × Addr)) => (if (x.2 == NameKind.free) = true then (do let c ← cellOf env x.1; pure (ForInStep.yield ((x.1, c) :: cs))) else pure (ForInStep.yield cs) : Sem (ForInStep (List (Str × Addr))))) = pure (closGo env.cells names acc) := by
    intro names
    induction names with
    | nil => intro acc _; rfl
    | cons x r ih =>
      intro acc h
      obtain ⟨n, k⟩ := x
      rw [List.forIn_cons]
      by_cases hk : (k == NameKind.free) = true
      · obtain ⟨a, e⟩ := h (n, k) (.head _) (by simpa using hk)
        have e' : env.cells.lookup n = some a := e
        have : cellOf env n = pure a := by unfold cellOf; rw [e']
        simp only [hk, if_true, this, pure_bind, closGo, e']
        exact ih _ fun y hy => h y (.tail _ hy)
      · simp only [hk, if_false, pure_bind, closGo]
        exact ih _ fun y hy => h y (.tail _ hy)
  simp only [closureFor]
  have := key scope.names [] h
  simp only [bind_pure_comp, map_pure] at this ⊢
  rw [this]
  simp

theorem closGo_rel {g : TagMap} {cellsI : List (Str × Nat)} {cellsA : List (Str × Addr)} (h : ∀ x i, cellsI.lookup x = some i → ∃ a, cellsA.lookup x = some a ∧ g a = .main i) :
    ∀ (names : List (Str × NameKind)) (accI : List (Str × Nat)) (accA : List (Str × Addr)), freeOk cellsI names = true → (∀ x i, accI.lookup x = some i → ∃ a, accA.lookup x = some a ∧ g a = .main i) →
      ∀ x i, (closGo cellsI names accI).lookup x = some i → ∃ a, (closGo cellsA names accA).lookup x = some a ∧ g a = .main i
  | [], _, _, _, hacc => hacc
  | (n, k) :: r, accI, accA, hf, hacc => by
    simp only [freeOk, List.all_cons, Bool.and_eq_true] at hf
    unfold closGo
    refine closGo_rel h r _ _ hf.2 ?_
    by_cases hk : (k == NameKind.free) = true
    · simp only [hk, if_true]
      have hk' : k = .free := by simpa using hk
      subst hk'
      have : (cellsI.lookup n).isSome = true := by
        have := hf.1
        simpa using this
      obtain ⟨i₀, e₀⟩ := Option.isSome_iff_exists.mp this
      obtain ⟨a₀, ea, ga⟩ := h n i₀ e₀
      simp only [e₀, ea]
      intro x i hx
      rw [List.lookup_cons] at hx ⊢
      cases q : x == n with
      | true => rw [q] at hx; cases hx; exact ⟨a₀, rfl, ga⟩
      | false => rw [q] at hx; exact hacc x i hx
    · simp only [hk, if_false]
      exact hacc

noncomputable def compEn (scope : Scope) (W : En) : En := ⟨relabelS scope W.sc, closGo W.cells scope.names [], W.d, W.calm, none⟩

/-- the tests of a comprehension -/
noncomputable def STs (C : Cx) (X : XPost) (W : En) : List Expr → Loc → Sto → (Bool → Sto → Prop) → Prop
  | [], _, σ, P => P true σ
  | e :: r, l, σ, P => ST C X W e l σ fun b σ₁ => if b = true then STs C X W r l σ₁ P else P false σ₁

noncomputable def SCompL (C : Cx) (W : En) (src : Sto → Prop) (t : Expr) (ifs : List Expr) (elt : Expr) : List V → List V → Loc → Sto → (List V → Sto → Prop) → Prop
  | [], acc, _, σ, Q => src σ ∧ Q acc σ
  | d :: r, acc, l, σ, Q => src σ ∧ SG C .none W t l σ d fun l₁ σ₁ => STs C .none W ifs l₁ σ₁ fun ok σ₂ =>
      if ok = true then SE C .none W elt l₁ σ₂ fun y σ₃ => acc.length < 1000000 ∧ SCompL C W src t ifs elt r (acc ++ [y]) l₁ σ₃ Q else SCompL C W src t ifs elt r acc l₁ σ₂ Q

section
variable {C : Cx} {X : XPost} {W : En}

theorem tests_false {M : Model} {A : Around} {cenv : Env} {Q : Bool → Shared → Prop} {E : Value → Shared → Prop} : ∀ {ifs : List Expr} {s : Shared}, Q false s →
    wpAny M A (forIn ifs false fun c r => if r = true then do let ok ← isTrue c cenv (eval c cenv); pure (ForInStep.yield ok) else pure (ForInStep.yield r)) Q E s
  | [], _, h => wpAny_pure h
  | e :: r, s, h => by
    rw [List.forIn_cons]
    exact wpAny_bind (wpAny_pure (tests_false (ifs := r) h))
theorem STs.run {A : Around} {cenv : Env} {L : Addr} {m : Str → Option Value} {P : Bool → Sto → Prop} : ∀ {ifs : List Expr} {l : Loc} {σ : Sto} {g : TagMap} {s : Shared}, STs C X W ifs l σ P → Pre C W l σ g A cenv L m s →
    wpAny C.M A (forIn ifs true fun c r => if r = true then do let ok ← isTrue c cenv (eval c cenv); pure (ForInStep.yield ok) else pure (ForInStep.yield r)) (UpB C g P) (X.P L g A.frames) s
  | [], l, σ, g, s, h, p => wpAny_pure (UpB.here p.R h)
  | e :: r, l, σ, g, s, h, p => by
    rw [List.forIn_cons]
    simp only [if_true]
    refine wpAny_bind (wpAny_bind (ST.then p h fun b g₁ σ₁ s₁ e₁ p₁ q => wpAny_pure ?_))
    cases b with
    | true => exact up_back e₁ (STs.run (ifs := r) q p₁) fun _ _ h => h.back e₁
    | false => exact tests_false (UpB.back e₁ (UpB.here p₁.R q))

/-- all but two tags stand -/
noncomputable def Ext2 (a b : Addr) (g g' : TagMap) : Prop := ∀ c, c ≠ a → c ≠ b → g c ≠ .free → g' c = g c
theorem Ext2.trans {a b : Addr} {g g' g'' : TagMap} (x : Ext2 a b g g') (y : Ext2 a b g' g'') : Ext2 a b g g'' := fun c n n' h => by
  have e := x c n n' h
  rw [← e] at h ⊢
  exact y c n n' h
theorem ExtL.two {L D : Addr} {g g' : TagMap} (x : ExtL L g g') : Ext2 L D g g' := fun c n _ h => x c n h
theorem Ext.two {L D : Addr} {g g' : TagMap} (x : Ext g g') : Ext2 L D g g' := fun c _ _ h => x c h

/-- a held object is changed -/
theorem Rel.reheld {g : TagMap} {σ : Sto} {s : Shared} {D : Addr} {o o' : Obj} {h' : Heap} (R : Rel C g σ s) (t : g D = .held o) (e : h'.get? D = some o') (hs : Heap.SameBut D s.heap h') : Rel C (g.put D (.held o')) σ { s with heap := h' } := by
  have h0 : C.H0.get? D = .none := R.h0_none (by rw [t]; intro h; cases h) (by rw [t]; intro o h; cases h)
  have hs0 : ¬ (g D).solid := by rw [t]; exact fun h => h
  have R1 : Rel C (g.put D .free) σ s := R.retag hs0 trivial
  have R2 : Rel C (g.put D .free) σ { s with heap := h' } := R1.keepsT fun b o hb e => by
    by_cases q : b = D
    · subst q; rw [put_self] at hb; rcases hb with hb | hb
      · exact absurd rfl hb
      · exact absurd h0 hb
    · exact (hs.2 b q).trans e
  have R3 := R2.retag (a := D) (t := .held o') (by rw [put_self]; exact fun h => h) ⟨e, h0⟩
  rwa [put_put] at R3

noncomputable def CompPost (C : Cx) (gb : TagMap) (L D : Addr) (Q : List V → Sto → Prop) (s' : Shared) : Prop :=
  ∃ acc ys n g' σ' m', Ext2 L D gb g' ∧ Rel C g' σ' s' ∧ g' L = .fr m' ∧ g' D = .held (lstObj ys n) ∧ VRs g' acc ys ∧ Q acc σ'

theorem compLoop {A : Around} {t elt iter : Expr} {ifs : List Expr} {scope : Scope} {pos : Pos} {I D : Addr} {own : List Addr} {src : Sto → Prop} {cenv : Env} {L : Addr} {g₀ gb : TagMap} {Q : List V → Sto → Prop}
    (hg0 : ∀ b ∈ own, g₀ b = .free ∧ C.H0.get? b = none) (hDL : D ≠ L) (hDo : D ∉ own) :
    ∀ (ds : List V) (St : Heap → Prop) (acc : List V) (ys : List Value) (n : Nat) (l : Loc) (σ : Sto) (g : TagMap) (m : Str → Option Value) (s : Shared), Itr C gb A t I own src ds St → SCompL C W src t ifs elt ds acc l σ Q → Pre C W l σ g A cenv L m s → (∀ b ∈ own, g b = .free) → St s.heap → Ext2 L D g₀ g → ExtV gb g →
      g D = .held (lstObj ys n) → VRs g acc ys →
      codeAny C.M A (.compLoop (.ListComp elt [⟨t, iter, ifs, 0⟩] scope pos) 0 (.ref I) (.ref D) cenv) (fun r s' => match r with | .ok _ => CompPost C g₀ L D Q s' | .error _ => False) s := by
  have hunder : A.under (.compLoop (.ListComp elt [⟨t, iter, ifs, 0⟩] scope pos) 0 (.ref I) (.ref D) cenv) = A := Around.under_of_weight rfl
  intro ds
  induction ds with
  | nil =>
    intro St acc ys n l σ g m s hI hF p hown hst hx hb hD hacc
    refine codeAny_of_tree ?_
    rw [hunder]
    show wpAny _ A ((compTurn (.ListComp elt [⟨t, iter, ifs, 0⟩] scope pos) 0 (.ref I) (.ref D) cenv).onRaise (fun x => do noteFrame x cenv; theTreesLotGoes x)) _ _ s
    refine wpAny_noted ?_
    rw [compTurn_list]
    refine wpAny_bind (wpAny_standAt (wpAny_bind (hI.2 g σ s _ _ hb p.R hown hF.1 hst fun s₁ R₁ => ?_)))
    have p₁ := p.step (Ext.refl g) R₁
    exact wpAny_pure ⟨acc, ys, n, g, σ, m, hx, R₁, p₁.fm, hD, hacc, hF.2⟩
  | cons d r ih =>
    intro St acc ys n l σ g m s hI hF p hown hst hx hb hD hacc
    obtain ⟨hfrm, St', hnext, hrest⟩ := hI
    refine codeAny_of_tree ?_
    rw [hunder]
    show wpAny _ A ((compTurn (.ListComp elt [⟨t, iter, ifs, 0⟩] scope pos) 0 (.ref I) (.ref D) cenv).onRaise (fun x => do noteFrame x cenv; theTreesLotGoes x)) _ _ s
    refine wpAny_noted ?_
    rw [compTurn_list]
    refine wpAny_bind (wpAny_standAt (wpAny_bind (hnext g σ s _ _ hb p.R hown hF.1 hst fun v s₁ hgo => ?_)))
    refine wpAny_bind (hgo _ _ fun g₂ s₂ x₂ hown₂ R₂ hv hst₂ => ?_)
    have p₂ := p.step x₂ R₂
    have hL : L ∉ own := fun h => by have := hown L h; rw [p.fm] at this; cases this
    have hhold : ∀ b ∈ own, ¬ (g₂ b).solid ∧ C.H0.get? b = none ∧ ∃ o, s₂.heap.get? b = some o := fun b hb => ⟨by rw [hown₂ b hb]; exact fun x => x, (hg0 b hb).2, (hrest.frame.2 _ hst₂ b hb)⟩
    have R₃ := R₂.holdAll hhold
    have x₃ : Ext g₂ (holdAll g₂ own s₂.heap) := fun a ha => holdAll_out fun h => ha (hown₂ a h)
    have p₃ := p₂.step x₃ R₃
    have xx₃ : Ext g (holdAll g₂ own s₂.heap) := x₂.trans x₃
    have noX : ∀ (α : Type) (t : Sem α) (Q : α → Shared → Prop) (E : Value → Shared → Prop) (g : TagMap) (s : Shared), wpAny C.M A t Q (XPost.none.P L g A.frames) s → wpAny C.M A t Q E s := fun _ _ _ _ _ _ h => wpAny_mono h (fun _ _ h => h) fun _ _ h => h.elim
    refine wpAny_bind (noX _ _ _ _ _ _ (wpAny_mono (hF.2 _ A cenv L m s₂ v p₃ (hv.ext x₃.v)) ?_ fun _ _ h => h))
    rintro _ s₄ ⟨l₄, g₄, σ₄, m₄, x₄, R₄, hm₄, hl₄, q⟩
    have p₄ := p₃.stepL x₄ R₄ hm₄ hl₄
    refine wpAny_bind (noX _ _ _ _ _ _ (wpAny_mono (STs.run (g := g₄) q p₄) ?_ fun _ _ h => h))
    rintro ok s₅ ⟨g₅, σ₅, x₅, R₅, q₅⟩
    have p₅ := p₄.step x₅ R₅
    have hheld : ∀ b ∈ own, ∀ o, s₂.heap.get? b = some o → g₅ b = .held o := fun b hb o e => by
      have hbL : b ≠ L := fun h => hL (h ▸ hb)
      have e3 : holdAll g₂ own s₂.heap b = .held o := holdAll_in hb e
      exact x₅.at ((x₄ b hbL (by rw [e3]; intro h; cases h)).trans e3) (by intro h; cases h)
    have hD3 : holdAll g₂ own s₂.heap D = .held (lstObj ys n) := xx₃.at hD (by intro h; cases h)
    have hD5 : g₅ D = .held (lstObj ys n) := x₅.at ((x₄ D hDL (by rw [hD3]; intro h; cases h)).trans hD3) (by intro h; cases h)
    have hv5 : ExtV g g₅ := (xx₃.v.trans (p₃.vL x₄)).trans x₅.v
    have xx₅ : Ext2 L D g₀ g₅ := (hx.trans xx₃.two).trans (x₄.two.trans x₅.two)
    -- the next turn
    have goOn : ∀ (acc' : List V) (ys' : List Value) (n' : Nat) (σ' : Sto) (g' : TagMap) (s' : Shared), SCompL C W src t ifs elt r acc' l₄ σ' Q → Pre C W l₄ σ' g' A cenv L m₄ s' → (∀ b ∈ own, ∀ o, s₂.heap.get? b = some o → g' b = .held o) → Ext2 L D g₀ g' → ExtV gb g' → g' D = .held (lstObj ys' n') → VRs g' acc' ys' →
        codeAny C.M A (.compLoop (.ListComp elt [⟨t, iter, ifs, 0⟩] scope pos) 0 (.ref I) (.ref D) cenv) (fun r s' => match r with | .ok _ => CompPost C g₀ L D Q s' | .error _ => False) s' := by
      intro acc' ys' n' σ' g' s' hF' p' hheld' hx' hb' hD' hacc'
      have hst' : St' s'.heap := hrest.frame.1 _ _ hst₂ fun b hb o e => p'.R.held b o (hheld' b hb o e)
      have R₆ := p'.R.freeAll (own := own) fun b hb => by
        obtain ⟨o, e⟩ := (hhold b hb).2.2
        rw [hheld' b hb o e]; exact fun x => x
      have hL5 : freeAll g' own L = .fr m₄ := (freeAll_out hL).trans p'.fm
      have x₆ : Ext2 L D g₀ (freeAll g' own) := fun a ha ha' hn => by
        have : a ∉ own := fun h => hn (hg0 a h).1
        rw [freeAll_out this]; exact hx' a ha ha' hn
      have xv : ExtV g' (freeAll g' own) := fun a ha => by
        refine freeAll_out fun h => ?_
        obtain ⟨o, e⟩ := (hhold a h).2.2
        rw [hheld' a h o e] at ha; exact ha
      refine ih St' acc' ys' n' l₄ σ' (freeAll g' own) m₄ s' hrest hF' ⟨R₆, ⟨p'.E.sc, p'.E.kind, p'.E.loc, p'.E.glob, p'.E.blt, fun y i e => let ⟨a, e1, t⟩ := p'.E.cells y i e; ⟨a, e1, xv.at t trivial⟩, ?_, p'.E.fn⟩, ⟨p'.A.depth, p'.A.units, p'.A.calm, ?_, p'.A.guards⟩, hL5, p'.fl.ext xv⟩ (fun b hb => freeAll_in hb) hst' x₆ (hb'.trans xv) ((freeAll_out hDo).trans hD') (hacc'.ext xv)
      · exact forLoop.frameOk p'.E.frame fun b m hb => by
          refine freeAll_out fun h => ?_
          obtain ⟨o, e⟩ := (hhold b h).2.2
          rw [hheld' b h o e] at hb; cases hb
      · obtain ⟨f, e, k⟩ := p'.A.frames
        exact ⟨f, e, fun env he => forLoop.frameOk (k env he) fun b m hb => by
          refine freeAll_out fun h => ?_
          obtain ⟨o, e⟩ := (hhold b h).2.2
          rw [hheld' b h o e] at hb; cases hb⟩
    cases ok with
    | false => exact wpAny_pure (a := Fin.again _) ⟨rfl, goOn acc ys n σ₅ g₅ s₅ q₅ p₅ hheld xx₅ (hb.trans hv5) hD5 (hacc.ext hv5)⟩
    | true =>
      refine wpAny_bind (wpAny_bind (noX _ _ _ _ _ _ (wpAny_mono (q₅ g₅ A cenv L m₄ s₅ p₅) ?_ fun _ _ h => h)))
      rintro y s₆ ⟨dy, g₆, σ₆, x₆, R₆, hy, hz, q₆⟩
      have p₆ := p₅.step x₆ R₆
      have hD6 : g₆ D = .held (lstObj ys n) := x₆.at hD5 (by intro h; cases h)
      have hacc6 : VRs g₆ acc ys := hacc.ext (hv5.trans x₆.v)
      refine wpAny_bind (wpAny_list_append_plain (items := ys.toArray) (hsz := by rw [List.size_toArray, ← hacc6.length, sizeLine_eq]; lia) ⟨n, R₆.held _ _ hD6⟩ fun h₇ hl₇ hs₇ => ?_)
      obtain ⟨n₇, e₇⟩ := hl₇
      have e₇' : h₇.get? D = some (lstObj (ys ++ [y]) n₇) := by rw [e₇]; simp
      have R₇ := R₆.reheld hD6 e₇' hs₇
      have xL : ExtL D g₆ (g₆.put D (.held (lstObj (ys ++ [y]) n₇))) := ExtL.put g₆ _
      have xv : ExtV g₆ (g₆.put D (.held (lstObj (ys ++ [y]) n₇))) := xL.v (by rw [hD6]; exact fun h => h)
      have hframe : ∀ env, FrameOk g₆ env → FrameOk (g₆.put D (.held (lstObj (ys ++ [y]) n₇))) env := fun env h => forLoop.frameOk h fun b m hb => put_ne _ _ fun e => by rw [e, hD6] at hb; cases hb
      refine wpAny_pure (wpAny_pure (a := Fin.again _) ⟨rfl, goOn (acc ++ [dy]) (ys ++ [y]) n₇ σ₆ _ _ q₆ ⟨R₇, ⟨p₆.E.sc, p₆.E.kind, p₆.E.loc, p₆.E.glob, p₆.E.blt, fun y i e => let ⟨a, e1, t⟩ := p₆.E.cells y i e; ⟨a, e1, xv.at t trivial⟩, hframe _ p₆.E.frame, p₆.E.fn⟩,
        ⟨p₆.A.depth, p₆.A.units, p₆.A.calm, let ⟨f, e, k⟩ := p₆.A.frames; ⟨f, e, fun env he => hframe env (k env he)⟩, p₆.A.guards⟩, (put_ne _ _ (Ne.symm hDL)).trans p₆.fm, p₆.fl.ext xv⟩ ?_ ?_ ?_ (put_self ..) ((hacc6.append (show VRs g₆ [dy] [y] from ⟨y, [], rfl, hy, rfl⟩)).ext xv)⟩)
      · intro b hb o e
        rw [put_ne g₆ _ (fun e : b = D => hDo (e ▸ hb))]
        exact x₆.at (hheld b hb o e) (by intro h; cases h)
      · exact (xx₅.trans x₆.two).trans fun c _ hc _ => put_ne _ _ hc
      · exact ((hb.trans hv5).trans x₆.v).trans xv

/-- the work of a comprehension, its list being made -/
theorem compBlock {A : Around} {t elt iter : Expr} {ifs : List Expr} {scope : Scope} {pos : Pos} {cl : List (Str × Addr)} {I : Addr} {own : List Addr} {src : Sto → Prop} {env : Env} {l : Loc} {L : Addr} {σ : Sto} {g : TagMap} {m : Str → Option Value} {s : Shared} {St : Heap → Prop} {ds : List V} {Q : List V → Sto → Prop} {E : Value → Shared → Prop} {RR : Value → Addr → Result → Shared → Prop}
    (hcell : ∀ y ∈ scope.names, y.2 ≠ .cell) (hkind : scope.kind = .function) (hcl : ∀ x i, (closGo W.cells scope.names []).lookup x = some i → ∃ a, cl.lookup x = some a ∧ g a = .main i)
    (p : Pre C W l σ g A env L m s) (hI : Itr C g A t I own src ds St) (hself : ItrSelf C A I St) (hst : St s.heap) (hown : ∀ b ∈ own, g b = .free ∧ C.H0.get? b = none)
    (hF : SCompL C (compEn scope W) src t ifs elt ds [] (fun _ => none) σ Q)
    (hRR : ∀ D C' f s', g D = .free → g C' = .free → D ≠ C' → C.H0.get? D = none → C.H0.get? C' = none → CompPost C g C' D Q s' → RR (.ref D) C' (.ok f) s') :
    wpAny C.M A (newList []) (fun acc s₃ => wpAny C.M A (newFunctionEnv scope env.globals cl [] env.qual none .none (some env)) (fun cenv s₄ =>
      codeAny C.M A (.compStart (.ListComp elt [⟨t, iter, ifs, 0⟩] scope pos) 0 (.ref I) acc { cenv with scope := relabel scope env }) (RR acc cenv.locals) s₄) E s₃) E s := by
  refine wpAny_newObj_type (wpAny_newFunctionEnv hcell (by intro y hy; simp at hy) (fun h₁ hns₁ hsb₁ => ?_) hkind)
  dsimp only at hns₁ hsb₁ ⊢
  have hDl : (s.heap.push (lstObj [] 0)).get? s.heap.objs.size = some (lstObj [] 0) := Heap.get?_push_size _ rfl
  generalize hH2 : s.heap.push { cls := .type "list", dict := none, data := .seq ([] : List Value).toArray } = H2 at hns₁ hsb₁ ⊢
  have hC : H2.objs.size = s.heap.objs.size + 1 := by rw [← hH2, Heap.size_push]
  have hDC : s.heap.objs.size ≠ H2.objs.size := by lia
  have hDfree : g s.heap.objs.size = .free := p.R.free_size (Nat.le_refl _)
  have hCfree : g H2.objs.size = .free := p.R.free_size (by lia)
  have hD0 : C.H0.get? s.heap.objs.size = none := p.R.h0_size (Nat.le_refl _)
  have hC0 : C.H0.get? H2.objs.size = none := p.R.h0_size (by lia)
  have old : ∀ b o, s.heap.get? b = some o → h₁.get? b = some o := fun b o e => hsb₁.extBut b o (Nat.ne_of_lt (by rw [hC]; exact Nat.lt_succ_of_lt (Heap.lt_size e))) (Heap.get?_push_of_some _ (hH2 ▸ Heap.get?_push_of_some _ e))
  have hD1 : h₁.get? s.heap.objs.size = some (lstObj [] 0) := hsb₁.extBut _ _ hDC (Heap.get?_push_of_some _ (hH2 ▸ hDl))
  have R1 : Rel C g σ { s with heap := h₁, toks := s.toks + ([] : List (Str × Value)).length } := p.R.keeps old
  have R2 := R1.retag (a := H2.objs.size) (t := .fr fun x => ([] : List (Str × Value)).reverse.lookup x) (by rw [hCfree]; exact fun h => h) ⟨hns₁, hC0⟩
  have x2 : Ext g (g.put H2.objs.size (.fr fun x => ([] : List (Str × Value)).reverse.lookup x)) := Ext.put hCfree _
  have hD2 : (g.put H2.objs.size (.fr fun x => ([] : List (Str × Value)).reverse.lookup x)) s.heap.objs.size = .free := (put_ne _ _ hDC).trans hDfree
  have R3 := R2.retag (a := s.heap.objs.size) (t := .held (lstObj [] 0)) (by rw [hD2]; exact fun h => h) ⟨hD1, hD0⟩
  have x3 := x2.trans (Ext.put hD2 (.held (lstObj [] 0)))
  have hfm : ((g.put H2.objs.size (.fr fun x => ([] : List (Str × Value)).reverse.lookup x)).put s.heap.objs.size (.held (lstObj [] 0))) H2.objs.size = .fr fun x => ([] : List (Str × Value)).reverse.lookup x := (put_ne _ _ (Ne.symm hDC)).trans (put_self ..)
  have hlt : ∀ b ∈ own, b < s.heap.objs.size := fun b hb => let ⟨o, e⟩ := hI.frame.2 _ hst b hb; Heap.lt_size e
  have hDo : s.heap.objs.size ∉ own := fun h => Nat.lt_irrefl _ (hlt _ h)
  have hCo : H2.objs.size ∉ own := fun h => Nat.lt_irrefl _ (Nat.lt_trans (hC ▸ Nat.lt_succ_self _) (hlt _ h))
  have hst₁ : St h₁ := hI.frame.1 _ _ hst fun b _ o e => old b o e
  have p3 : Pre C (compEn scope W) (fun _ => none) σ ((g.put H2.objs.size (.fr fun x => ([] : List (Str × Value)).reverse.lookup x)).put s.heap.objs.size (.held (lstObj [] 0))) A (compEnvC scope cl H2.objs.size env) H2.objs.size (fun x => ([] : List (Str × Value)).reverse.lookup x) { s with heap := h₁, toks := s.toks + ([] : List (Str × Value)).length } := by
    have pA := p.A.ext x3
    have pE := p.E.ext x3
    refine ⟨R3, ⟨relabel_eq p.E.sc, hkind, rfl, p.E.glob, p.E.blt, ?_, ?_, fun _ _ h => by cases h⟩, ⟨pA.depth, pA.units, pA.calm, pA.frames, pA.guards⟩, hfm, fun _ => rfl⟩
    · intro x i h
      obtain ⟨a, e, t⟩ := hcl x i h
      exact ⟨a, e, x3.at t (by intro h; cases h)⟩
    · obtain ⟨k, L', m', e, t⟩ := pE.frame
      exact ⟨by show scope.kind ≠ _; rw [hkind]; decide, L', m', e, t⟩
  have loop : codeAny C.M A (.compLoop (.ListComp elt [⟨t, iter, ifs, 0⟩] scope pos) 0 (.ref I) (.ref s.heap.objs.size) (compEnvC scope cl H2.objs.size env)) (RR (.ref s.heap.objs.size) H2.objs.size) { s with heap := h₁, toks := s.toks + ([] : List (Str × Value)).length } := by
    refine codeAny_mono (compLoop (g₀ := (g.put H2.objs.size (.fr fun x => ([] : List (Str × Value)).reverse.lookup x)).put s.heap.objs.size (.held (lstObj [] 0))) (gb := g) (Q := Q) (fun b hb => ⟨?_, (hown b hb).2⟩) hDC hDo ds St [] [] 0 _ σ _ _ _ hI hF p3 (fun b hb => ?_) hst₁ (fun _ _ _ _ => rfl) x3.v (put_self ..) rfl) ?_
    · rw [put_ne _ _ (show b ≠ s.heap.objs.size from fun e => hDo (e ▸ hb)), put_ne _ _ (show b ≠ H2.objs.size from fun e => hCo (e ▸ hb))]; exact (hown b hb).1
    · rw [put_ne _ _ (show b ≠ s.heap.objs.size from fun e => hDo (e ▸ hb)), put_ne _ _ (show b ≠ H2.objs.size from fun e => hCo (e ▸ hb))]; exact (hown b hb).1
    · intro r s' h
      cases r with
      | error _ => exact h.elim
      | ok f =>
        obtain ⟨acc, ys, n, g', σ', m', x, rest⟩ := h
        refine hRR _ _ f s' hDfree hCfree hDC hD0 hC0 ⟨acc, ys, n, g', σ', m', fun c h1 h2 hc => ?_, rest⟩
        have e := x3 c hc
        rw [← e]
        exact x c h1 h2 (by rw [e]; exact hc)
  exact codeAny_compStart_list loop (hself _ _ _ hst₁ loop)

theorem compDone {g : TagMap} {L D : Addr} {s' : Shared} {h' : Heap} {Q : List V → Sto → Prop} (hc : CompPost C g L D Q s') (hL : g L = .free) (hD : g D = .free) (hDL : D ≠ L) (hs : Heap.SameBut L s'.heap h') (hL0 : C.H0.get? L = none) (hD0 : C.H0.get? D = none) :
    ∃ acc σ' g'', Ext g g'' ∧ Rel C g'' (σ'.push (.list acc)) { s' with heap := h' } ∧ g'' D = .main σ'.nx ∧ Q acc σ' := by
  obtain ⟨acc, ys, n, g', σ', m', x, R, hm, hd, hacc, q⟩ := hc
  have R1 := R.retag (a := L) (t := .free) (by rw [hm]; exact fun h => h) trivial
  have R2 : Rel C (g'.put L .free) σ' { s' with heap := h' } := R1.keepsT fun b o hb e => by
    by_cases q : b = L
    · subst q; rw [put_self] at hb; rcases hb with hb | hb
      · exact absurd rfl hb
      · exact absurd hL0 hb
    · exact (hs.2 b q).trans e
  have hd1 : (g'.put L .free) D = .held (lstObj ys n) := (put_ne _ _ hDL).trans hd
  have R3 := R2.retag (a := D) (t := .free) (by rw [hd1]; exact fun h => h) trivial
  have hobj : h'.get? D = some (lstObj ys n) := (hs.2 D hDL).trans (R.held _ _ hd)
  have xv1 : ExtV g' (g'.put L .free) := (ExtL.put (L := L) g' .free).v (by rw [hm]; exact fun h => h)
  have xv2 : ExtV (g'.put L .free) ((g'.put L .free).put D .free) := (ExtL.put (L := D) _ .free).v (by rw [hd1]; exact fun h => h)
  have xv3 : ExtV ((g'.put L .free).put D .free) (((g'.put L .free).put D .free).put D (.main σ'.nx)) := ExtV.put (by rw [put_self]; exact fun h => h) _
  have R4 := R3.newMain (a := D) (o := .list acc) (put_self ..) hD0 ⟨ys, n, hobj, ((hacc.ext xv1).ext xv2).ext xv3⟩ ⟨_, hobj⟩
  refine ⟨acc, σ', _, fun c hc => ?_, R4, put_self .., q⟩
  have h1 : c ≠ L := fun e => hc (e ▸ hL)
  have h2 : c ≠ D := fun e => hc (e ▸ hD)
  rw [put_ne _ _ h2, put_ne _ _ h2, put_ne _ _ h1]
  exact x c h1 h2 hc

noncomputable def cellFree (names : List (Str × NameKind)) : Bool := names.all fun x => x.2 != .cell
noncomputable def localsOk (names : List (Str × NameKind)) : Bool := names.all fun x => x.2 != .local || names.lookup x.1 == some .local
theorem cellFree_of {names : List (Str × NameKind)} (h : cellFree names = true) : ∀ y ∈ names, y.2 ≠ .cell := fun y hy => by
  have := List.all_eq_true.mp h y hy
  simpa using this
theorem localsOk_of {names : List (Str × NameKind)} (h : localsOk names = true) : ∀ y ∈ names, y.2 = .local → names.lookup y.1 = some .local := fun y hy e => by
  have := List.all_eq_true.mp h y hy
  simp only [e, bne_self_eq_false, Bool.false_or, beq_iff_eq] at this
  exact this
theorem freeOk_of {g : TagMap} {L : Addr} {env : Env} {names : List (Str × NameKind)} (h : freeOk W.cells names = true) (E : EnvR W g L env) : ∀ x ∈ names, x.2 = .free → ∃ a, env.cells.lookup x.1 = some a := fun x hx e => by
  have := List.all_eq_true.mp h x hx
  have : (W.cells.lookup x.1).isSome = true := by simpa [e] using this
  obtain ⟨i, hi⟩ := Option.isSome_iff_exists.mp this
  obtain ⟨a, ea, _⟩ := E.cells x.1 i hi
  exact ⟨a, ea⟩

structure CompOk (W : En) (iter : Expr) (scope : Scope) : Prop where
  cell : cellFree scope.names = true
  loc : localsOk scope.names = true
  free : freeOk W.cells scope.names = true
  kind : scope.kind = .function
  set : notSet iter = true

theorem SE.listComp {t elt iter : Expr} {ifs : List Expr} {scope : Scope} {pos : Pos} {l : Loc} {σ : Sto} {Q : V → Sto → Prop} (ok : CompOk W iter scope)
    (h : SIt C X W t iter l σ fun src ds σ₁ => SCompL C (compEn scope W) src t ifs elt ds [] (fun _ => Option.none) σ₁ fun acc σ₂ => Q (.ref σ₂.nx) (σ₂.push (.list acc))) :
    SE C X W (.ListComp elt [⟨t, iter, ifs, 0⟩] scope pos) l σ Q := fun g A cenv L m s p => by
  rw [eval_ListComp]
  refine wpAny_comprehension_free (use := Option.none) rfl (fun _ => folded_notSet (e := iter) ok.set) (closureFor_go (freeOk_of ok.free p.E)) ok.kind (localsOk_of ok.loc) (wpAny_mono (h g A cenv L m s p) (fun xv s₁ h₁ => wpAny_mono h₁ (fun it s₂ h₂ => ?_) fun _ _ e => e) fun _ _ e => e)
  obtain ⟨I, own, src, ds, St, g', σ', rfl, e, R, hI, hself, hst, hown, q⟩ := h₂
  have p' := p.step e R
  refine compBlock (C := C) (W := W) (RR := fun acc C' => compPost C.M A (X.P L g A.frames) Option.none (Up C g Q) acc C') (cellFree_of ok.cell) ok.kind (fun x i h => closGo_rel p'.E.cells _ _ _ ok.free (fun _ _ h => by cases h) x i h) p' hI hself hst (fun b hb => (hown b hb).2) q ?_
  intro D C' f s' hD hC hDC hD0 hC0 hp
  obtain ⟨_, _, _, _, _, m', _, R', hm', _⟩ := id hp
  refine ⟨m', R'.fr _ _ hm', fun h' hs' => ?_⟩
  obtain ⟨acc, σ'', g'', x, R'', hd, q'⟩ := compDone hp hC hD hDC hs' hC0 hD0
  exact Up.back e ⟨.ref σ''.nx, g'', _, x, R'', ⟨_, rfl, hd⟩, q'⟩

/-- a comprehension's list goes to a name, the stores exchanged -/
theorem S1.assignComp {t elt iter : Expr} {y : Str} {py : Pos} {ifs : List Expr} {scope : Scope} {pos spos : Pos} {l : Loc} {σ : Sto} {Q : Fl → Loc → Sto → Prop} (ok : CompOk W iter scope)
    (hy : W.sc.names.lookup y = some .local) (hsw : swapsWith (.ListComp elt [⟨t, iter, ifs, 0⟩] scope pos) (some (.Name y py)) spos.line (envS W.sc) = pure true)
    (h : SIt C X W t iter l σ fun src ds σ₁ => SCompL C (compEn scope W) src t ifs elt ds [] (fun _ => Option.none) σ₁ fun acc σ₂ => Q .next (l.set y (.ref σ₂.nx)) (σ₂.push (.list acc))) :
    S1 C X W (.Assign [.Name y py] (.ListComp elt [⟨t, iter, ifs, 0⟩] scope pos) spos) l σ Q := fun g A cenv L m s p _ => by
  have hsw' : swapsWith (.ListComp elt [⟨t, iter, ifs, 0⟩] scope pos) (some (.Name y py)) spos.line cenv = pure true := by
    rw [← hsw]
    have e1 : cenv.blockKind = (envS W.sc).blockKind := by unfold Env.blockKind; rw [p.E.sc]; rfl
    have e2 : cenv.kindOf y = (envS W.sc).kindOf y := p.E.kindOf y
    unfold swapsWith
    simp only [e1, e2]
  rw [exec_Assign_Name_used _ _ _ _ hsw']
  refine wpAny_bind (wpAny_standAt (wpAny_bind ?_))
  show wpAny _ A (do let _ ← comprehension (.ListComp elt [⟨t, iter, ifs, 0⟩] scope pos) scope cenv _ (newList []) false (eval iter cenv) (some (PySem.assign (.Name y py) cenv))) _ _ s
  refine wpAny_bind (wpAny_mono (wpAny_comprehension_free (use := some (PySem.assign (.Name y py) cenv)) (Q := fun _ s' => UpS C L g Q .next s') rfl (fun _ => folded_notSet (e := iter) ok.set) (closureFor_go (freeOk_of ok.free p.E)) ok.kind (localsOk_of ok.loc)
    (wpAny_mono (h g A cenv L m s p) (fun xv s₁ h₁ => wpAny_mono h₁ (fun it s₂ h₂ => ?_) fun _ _ e => e) fun _ _ e => e)) (fun _ s' hq => wpAny_pure (wpAny_pure hq)) fun _ _ e => e)
  obtain ⟨I, own, src, ds, St, g', σ', rfl, e, R, hI, hself, hst, hown, q⟩ := h₂
  have p' := p.step e R
  refine compBlock (C := C) (W := W) (RR := fun acc C' => compPost C.M A (X.P L g A.frames) (some (PySem.assign (.Name y py) cenv)) (fun _ s' => UpS C L g Q .next s') acc C') (cellFree_of ok.cell) ok.kind (fun x i h => closGo_rel p'.E.cells _ _ _ ok.free (fun _ _ h => by cases h) x i h) p' hI hself hst (fun b hb => (hown b hb).2) q ?_
  intro D C' f s' hD hC hDC hD0 hC0 hp
  obtain ⟨_, _, _, g₁, _, m', x₁, R', hm', hd', _⟩ := id hp
  have hLfr : g' L = .fr m := p'.fm
  have hLC : L ≠ C' := fun e => by rw [e, hC] at hLfr; cases hLfr
  have hLD : L ≠ D := fun e => by rw [e, hD] at hLfr; cases hLfr
  have hL1 : g₁ L = .fr m := (x₁ L hLC hLD (by rw [hLfr]; intro h; cases h)).trans hLfr
  show wpAny _ A (PySem.assign (.Name y py) cenv (.ref D)) _ _ _
  refine wpAny_assign_Name (wpAny_storeName_local ((p.E.kindOf y).trans hy) (by rw [p.E.loc]; exact R'.fr L m hL1) (fun h₂ hn₂ hs₂ => ?_) (notModuleStore p.E))
  rw [p.E.loc] at hn₂ hs₂
  have hmC : h₂.Ns C' m' := (R'.fr _ _ hm').at' fun o e => (hs₂.2 C' (Ne.symm hLC)).trans e
  refine ⟨m', hmC, fun h' hs' => ?_⟩
  obtain ⟨acc₀, ys₀, n₀, g₂, σ₂, m₂, x₂, R₂, hm₂, hd₂, hacc₂, q₂⟩ := hp
  have hL2 : g₂ L = .fr m := (x₂ L hLC hLD (by rw [hLfr]; intro h; cases h)).trans hLfr
  have R3 := R₂.store (tk := s'.toks + 1) hL2 hn₂ hs₂
  have xv2 : ExtV g₂ (g₂.put L (.fr fun z => if z = y then some (.ref D) else m z)) := (ExtL.put (L := L) g₂ _).v (by rw [hL2]; exact fun h => h)
  have xvg : ExtV g' (g'.put L (.fr fun z => if z = y then some (.ref D) else m z)) := (ExtL.put (L := L) g' _).v (by rw [hLfr]; exact fun h => h)
  have hp2 : CompPost C (g'.put L (.fr fun z => if z = y then some (.ref D) else m z)) C' D (fun acc σ₂ => Q .next (l.set y (.ref σ₂.nx)) (σ₂.push (.list acc))) { s' with heap := h₂, toks := s'.toks + 1 } := by
    refine ⟨acc₀, ys₀, n₀, _, σ₂, m₂, fun c h1 h2 hc => ?_, R3, (put_ne _ _ (Ne.symm hLC)).trans hm₂, (put_ne _ _ (Ne.symm hLD)).trans hd₂, hacc₂.ext xv2, q₂⟩
    by_cases e : c = L
    · subst e; rw [put_self, put_self]
    · rw [put_ne _ _ e] at hc ⊢
      rw [put_ne _ _ e]
      exact x₂ c h1 h2 hc
  obtain ⟨acc, σ'', g'', x, R'', hd, q'⟩ := compDone hp2 ((put_ne _ _ (Ne.symm hLC)).trans hC) ((put_ne _ _ (Ne.symm hLD)).trans hD) hDC hs' hC0 hD0
  have hLm : g'' L = .fr fun z => if z = y then some (.ref D) else m z := x.at (put_self ..) (by intro h; cases h)
  exact ⟨.next, _, g'', _, _, (e.l L).trans ((ExtL.put g' _).trans (x.l L)), R'', hLm, LocR.set (d := .ref σ''.nx) (p'.fl.ext (xvg.trans x.v)) ⟨D, rfl, hd⟩, rfl, q'⟩
end
end Mine
/- part MBlt -/
namespace Mine
open PySem PySem.W PySem.Calls PyProof.Rows PySem.SeqAt

inductive UpM (C : Cx) (g : TagMap) (Q : V → List V → Sto → Prop) (fx : Value × List Value) (s' : Shared) : Prop
  | mk (f : V) (fs : List V) (g' : TagMap) (σ' : Sto) (x : Ext g g') (R : Rel C g' σ' s') (hf : VR g' f fx.1) (hfs : VRs g' fs fx.2) (q : Q f fs σ')
/-- what a name of a value gives for a call -/
noncomputable def SM (C : Cx) (X : XPost) (W : En) (σ : Sto) (d : V) (name : Str) (Q : V → List V → Sto → Prop) : Prop :=
  ∀ g A L s ov (pl : Sem Bool), Rel C g σ s → Ar g W.d W.calm A → VR g d ov → wpAny C.M A (getMethod ov name pl) (UpM C g Q) (X.P L g A.frames) s

section
variable {C : Cx} {X : XPost} {W : En} {l : Loc} {σ : Sto} {Q : V → Sto → Prop}

/-- x.name(..) -/
theorem SE.meth {o : Expr} {name : Str} {apos pos : Pos} {args : List Expr} {pl : Env → Sem Bool} (hs : noStars args = true)
    (he : ∀ env, eval (.Call (.Attribute o name apos) args [] pos) env = (do
      let ov ← eval o env
      standAt apos.atName
      let (f, first) ← holding [ov] (getMethod ov name (pl env))
      callWith pos f first (backTo pos (starEach args env)) (backToKw pos (keywordEach [] env))))
    (h : SE C X W o l σ fun d σ₁ => SM C X W σ₁ d name fun f fs σ₂ => Keep C f ∧ SL C X W args l σ₂ fun ds σ₃ => SC C X W σ₃ f (fs ++ ds) Q) : SE C X W (.Call (.Attribute o name apos) args [] pos) l σ Q := fun g A cenv L m s p => by
  rw [he]
  refine wpAny_bind (SE.then p h fun d ov g₁ σ₁ s₁ e₁ p₁ hv q => ?_)
  refine wpAny_bind (wpAny_standAt (wpAny_bind (wpAny_holding (up_back e₁ (q g₁ A L s₁ ov (pl cenv) p₁.R p₁.A hv) ?_))))
  rintro fx s₂ ⟨f, fs, g₂, σ₂, e₂, R₂, hf, hfs, hk, q₂⟩
  exact up_back (e₁.trans e₂) (callWith_V hs hk (p₁.step e₂ R₂) hf hfs q₂) fun _ _ h => h.back (e₁.trans e₂)

theorem IsL.noDict {g : TagMap} {s : Shared} {d : V} {ds : List V} {v : Value} (h : IsL σ d ds) (R : Rel C g σ s) (hv : VR g d v) : s.TypeIs v "list" ∧ ∀ a, v = .ref a → ∃ o, s.heap.get? a = some o ∧ o.dict = none := by
  obtain ⟨a, vs, n, rfl, ho, _⟩ := h.at R hv
  exact ⟨⟨_, ho, rfl⟩, fun b e => by cases e; exact ⟨_, ho, rfl⟩⟩
theorem SM.list {d : V} {ds : List V} {name : Str} {id : String} {QM : V → List V → Sto → Prop} (hl : IsL σ d ds) (slot : Slot "list" name id) (hty : typeOf (.builtin id) = pure (.type "method_descriptor")) (h : QM (.val (.builtin id)) [d] σ) : SM C X W σ d name QM := fun g A L s ov pl R hA hv => by
  obtain ⟨hT, hd⟩ := hl.noDict R hv
  exact getMethod_builtin hT PySem.F.plainAttrs_list slot hty hd ⟨.val (.builtin id), [d], g, σ, Ext.refl g, R, rfl, ⟨ov, [], rfl, hv, rfl⟩, h⟩

/-! builtins -/
theorem SC.lenTup {ds : List V} (hz : ds.length ≤ 1000000) (h : Q (.int ds.length) σ) : SC C X W σ (.val (.builtin "len")) [.tup ds] Q := by
  rintro g A L s _ _ R hA rfl ⟨v, _, rfl, hv, rfl⟩
  obtain ⟨a, vs, rfl, ho, hvs⟩ := VR.tupAt R hv
  refine PyProof.Rows.len_tuple (isTup_of ho) (by rw [List.size_toArray, ← hvs.length]; lia) (Up.here (d := .int _) (R.toks _) ⟨_, rfl⟩ ?_)
  rw [List.size_toArray, ← hvs.length]; exact h
theorem SC.lenList {d : V} {ds : List V} (hl : IsL σ d ds) (hz : ds.length ≤ 1000000) (h : Q (.int ds.length) σ) : SC C X W σ (.val (.builtin "len")) [d] Q := by
  rintro g A L s _ _ R hA rfl ⟨v, _, rfl, hv, rfl⟩
  obtain ⟨a, vs, n, rfl, ho, hvs⟩ := hl.at R hv
  refine call_len_list (isList_of ho) (by rw [List.size_toArray, ← hvs.length]; lia) (Up.here (d := .int _) (R.toks _) ⟨_, rfl⟩ ?_)
  rw [List.size_toArray, ← hvs.length]; exact h
theorem SC.lenSet {b : Bool} {ks : List V} (hz : ks.length ≤ 1000000) (h : Q (.int ks.length) σ) : SC C X W σ (.val (.builtin "len")) [.st b ks] Q := by
  rintro g A L s _ _ R hA rfl ⟨v, _, rfl, hv, rfl⟩
  obtain ⟨a, es, n, t, vs, rfl, ht, hf, hvs, hp⟩ := hv
  have hn : es.size = ks.length := by rw [hvs.length, ← hp.length_eq, List.length_map, Array.length_toList]
  refine call_len_set (R.froz _ _ ht) ⟨rfl, rfl, rfl⟩ rfl hf.1 (by rw [hn]; lia) (Up.here (d := .int _) (R.toks _) ⟨_, rfl⟩ ?_)
  rw [hn]; exact h
theorem SC.intInt {i : Int} (h : Q (.int i) σ) : SC C X W σ (.val (.type "int")) [.int i] Q := by
  rintro g A L s _ _ R hA rfl ⟨_, _, rfl, ⟨t, rfl⟩, rfl⟩
  exact call_int_int (Up.here (d := .int _) R ⟨_, rfl⟩ h)
theorem SC.strInt {i : Int} (hi : i.natAbs.log2 < 1920) (h : Q (.str (Str.ofString (toString i))) σ) : SC C X W σ (.val (.type "str")) [.int i] Q := by
  rintro g A L s _ _ R hA rfl ⟨_, _, rfl, ⟨t, rfl⟩, rfl⟩
  exact PySem.P.str_of_int hi (Up.here (d := .str _) (R.toks _) ⟨_, rfl⟩ h)
theorem SC.range {n : Int} (h : Q (.rng 0 n) σ) : SC C X W σ (.val (.type "range")) [.int n] Q := by
  rintro g A L s _ _ R hA rfl ⟨_, _, rfl, ⟨t, rfl⟩, rfl⟩
  refine call_range_1 ?_
  obtain ⟨R', x⟩ := (R.toks (s.toks + 1 + 1)).newFroz (rngObj 0 n s.toks t (s.toks + 1)) rfl
  exact ⟨.rng 0 n, _, σ, x, R', ⟨_, _, _, _, rfl, put_self ..⟩, h⟩

theorem newList_up {g : TagMap} {s : Shared} {h' : Heap} {c : Nat} {ds : List V} {vs : List Value} {a : Addr} (R : Rel C g σ s) (hvs : VRs g ds vs) (ha : g a = .free) (ha0 : C.H0.get? a = none) (hk : ∀ b o, b ≠ a → s.heap.get? b = some o → h'.get? b = some o) (ho : h'.get? a = some (lstObj vs c))
    (q : Q (.ref σ.nx) (σ.push (.list ds))) {tk : Nat} : Up C g Q (.ref a) { s with heap := h', toks := tk } := by
  have x : Ext g (g.put a (.main σ.nx)) := Ext.put ha _
  have R' : Rel C g σ { s with heap := h', toks := tk } := R.keepsT fun b o hb e => hk b o (fun q => by
    subst q; rcases hb with hb | hb
    · exact hb ha
    · exact hb ha0) e
  exact ⟨.ref σ.nx, _, _, x, R'.newMain (o := .list ds) ha ha0 ⟨vs, c, ho, hvs.ext x.v⟩ ⟨_, ho⟩, ⟨_, rfl, put_self ..⟩, q⟩

theorem SC.listTup {ds : List V} (hz : ds.length ≤ 1000000) (h : Q (.ref σ.nx) (σ.push (.list ds))) : SC C X W σ (.val (.type "list")) [.tup ds] Q := by
  rintro g A L s _ _ R hA rfl ⟨v, _, rfl, hv, rfl⟩
  obtain ⟨a, vs, rfl, ho, hvs⟩ := VR.tupAt R hv
  refine call_list_seq a (.inr rfl) ho rfl rfl (fun h' c' hk hn => ?_) (by rw [List.size_toArray, ← hvs.length, sizeLine_eq]; lia)
  exact newList_up R hvs (R.free_size (Nat.le_refl _)) (R.h0_size (Nat.le_refl _)) (fun b o _ e => hk b o e) hn h (tk := s.toks)
theorem SC.listList {d : V} {ds : List V} (hl : IsL σ d ds) (hz : ds.length ≤ 1000000) (h : Q (.ref σ.nx) (σ.push (.list ds))) : SC C X W σ (.val (.type "list")) [d] Q := by
  rintro g A L s _ _ R hA rfl ⟨v, _, rfl, hv, rfl⟩
  obtain ⟨a, vs, n, rfl, ho, hvs⟩ := hl.at R hv
  refine call_list_seq a (.inl rfl) ho rfl rfl (fun h' c' hk hn => ?_) (by rw [List.size_toArray, ← hvs.length, sizeLine_eq]; lia)
  exact newList_up R hvs (R.free_size (Nat.le_refl _)) (R.h0_size (Nat.le_refl _)) (fun b o _ e => hk b o e) hn h (tk := s.toks)
theorem SC.tupTup {ds : List V} (h : Q (.tup ds) σ) : SC C X W σ (.val (.type "tuple")) [.tup ds] Q := by
  rintro g A L s _ _ R hA rfl ⟨v, _, rfl, hv, rfl⟩
  have hv' := hv
  obtain ⟨a, vs, rfl, ho, hvs⟩ := VR.tupAt R hv
  exact call_tuple_tup (isTup_of ho) (Up.here (d := .tup ds) R hv' h)
theorem SC.tupList {d : V} {ds : List V} (hl : IsL σ d ds) (hz : ds.length ≤ 1000000) (h : Q (.tup ds) σ) : SC C X W σ (.val (.type "tuple")) [d] Q := by
  rintro g A L s _ _ R hA rfl ⟨v, _, rfl, hv, rfl⟩
  obtain ⟨a, vs, n, rfl, ho, hvs⟩ := hl.at R hv
  refine call_tuple_list (isList_of ho) (fun h' hk => ?_) (by rw [List.size_toArray, ← hvs.length, sizeLine_eq]; lia)
  have R1 : Rel C g σ { s with heap := h' } := R.keeps hk
  obtain ⟨R', x⟩ := R1.newFroz (tupObj vs) rfl
  exact ⟨.tup ds, _, σ, x, R', ⟨_, vs, rfl, put_self .., hvs.ext x.v⟩, h⟩

/-- a list of the store gets other items -/
theorem Rel.setList {g : TagMap} {s : Shared} {h' : Heap} {tk : Nat} {i : Nat} {a : Addr} {ds' : List V} {vs' : List Value} {n : Nat} (R : Rel C g σ s) (t : g a = .main i) (hvs : VRs g ds' vs') (hs : ∀ b o, b ≠ a → s.heap.get? b = some o → h'.get? b = some o) (ho : h'.get? a = some (lstObj vs' n)) : Rel C g (σ.set i (.list ds')) { s with heap := h', toks := tk } :=
  R.upd (o := .list ds') t (.inl rfl) hs ⟨_, ho⟩ ⟨vs', n, ho, hvs⟩
theorem Rel.listAt {g : TagMap} {s : Shared} {i : Nat} {ds : List V} {v : Value} (R : Rel C g σ s) (hi : σ.get i = some (.list ds)) (hv : VR g (.ref i) v) : ∃ a vs n, v = .ref a ∧ g a = .main i ∧ s.heap.get? a = some (lstObj vs n) ∧ VRs g ds vs := by
  obtain ⟨a, rfl, t⟩ := hv
  obtain ⟨b, t', vs, n, e, r⟩ := R.objs i _ hi
  obtain rfl := R.uniq a b i t t'
  exact ⟨a, vs, n, rfl, t, e, r⟩
theorem SC.append {i : Nat} {ds : List V} {y : V} (hi : σ.get i = some (.list ds)) (hz : ds.length ≤ 1000000) (h : Q .none (σ.set i (.list (ds ++ [y])))) : SC C X W σ (.val (.builtin "list.append")) [.ref i, y] Q := by
  rintro g A L s _ _ R hA rfl ⟨v, _, rfl, hv, u, _, rfl, hu, rfl⟩
  obtain ⟨a, vs, n, rfl, t, ho, hvs⟩ := R.listAt hi hv
  refine wpAny_list_append_plain (items := vs.toArray) ⟨n, ho⟩ (fun h' hl hs => ?_) (by rw [List.size_toArray, ← hvs.length, sizeLine_eq]; lia)
  obtain ⟨n', ho'⟩ := hl
  have ho'' : h'.get? a = some (lstObj (vs ++ [u]) n') := by rw [ho']; simp
  exact ⟨.none, g, _, Ext.refl g, R.setList (tk := s.toks) t (hvs.append (show VRs g [y] [u] from ⟨u, [], rfl, hu, rfl⟩)) (fun b o hb e => (hs.2 b hb).trans e) ho'', rfl, h⟩
theorem SC.extend {i : Nat} {ds es : List V} {d : V} (hi : σ.get i = some (.list ds)) (hl : IsL σ d es) (hz : ds.length + es.length ≤ 1000000) (h : Q .none (σ.set i (.list (ds ++ es)))) : SC C X W σ (.val (.builtin "list.extend")) [.ref i, d] Q := by
  rintro g A L s _ _ R hA rfl ⟨v, _, rfl, hv, u, _, rfl, hu, rfl⟩
  obtain ⟨a, vs, n, rfl, t, ho, hvs⟩ := R.listAt hi hv
  obtain ⟨b, us, n2, rfl, ho2, hus⟩ := hl.at R hu
  refine call_meets PySem.F.slot_list_extend ⟨_, ho, rfl⟩ PySem.F.entry_list_extend (PySem.F.args_list_extend_2 _ _) (PySem.AutoSeq1.list_extend_list_list_0 a vs.toArray n b us.toArray n2 ?_ ?_ ?_) ⟨ho, ho2, ?_⟩
  · have : Builtin.List.listTooLong (vs.toArray.size + us.toArray.size) = false := by
      unfold Builtin.List.listTooLong
      rw [List.size_toArray, List.size_toArray, ← hvs.length, ← hus.length]
      simp only [gt_iff_lt, decide_eq_false_iff_not, sizeLine_eq]; lia
    rw [this]; simp
  · rw [List.size_toArray, ← hvs.length, sizeLine_eq]; lia
  · rw [List.size_toArray, List.size_toArray, ← hvs.length, ← hus.length, sizeLine_eq]; lia
  · obtain ⟨n', ho''⟩ : ∃ n', (s.heap.update a (Obj.mapSeq fun x => x ++ us.toArray)).get? a = some (lstObj (vs ++ us) n') := by
      refine ⟨if (vs.toArray ++ us.toArray).size == vs.toArray.size then n else n + 1, ?_⟩
      rw [Heap.get?_update_self _ ho rfl]
      simp [Obj.mapSeq]
    exact ⟨.none, g, _, Ext.refl g, R.setList (tk := s.toks) t (hvs.append hus) (fun b o hb e => (Heap.get?_update_other _ _ (Ne.symm hb)).trans e) ho'', rfl, h⟩
end
end Mine
/- part MDict -/
namespace Mine
open PySem PySem.W PySem.Calls PyProof.Rows PySem.SeqAt

section
variable {C : Cx} {X : XPost} {W : En} {l : Loc} {σ : Sto} {Q : V → Sto → Prop}

/-! slices -/
theorem SSl.tupFrom {ds : List V} {a : Nat} (h1 : 1 ≤ a) (ha : a ≤ ds.length) (hz : ds.length ≤ 1000000) (h : Q (.tup (ds.drop a)) σ) : SSl C X W σ (.tup ds) (some a) none Q := by
  rintro g A L s ov vl vu R hA ho hl hu
  cases hl with
  | int _ t =>
    cases hu
    have R1 := R.push { cls := .type "slice", data := .fields #[.int (a : Int) t, .none, .none] }
    obtain ⟨b, vs, rfl, e, r⟩ := VR.tupAt R1 ho
    refine ⟨"tuple", _, slot_tuple_getitem.lookup, ⟨_, e, rfl⟩, PyProof.Rows.getItem_tuple_from (isTup_of e) (Heap.IsSliceOf.new _ _ _ _) h1 (by rw [List.size_toArray, ← r.length]; exact ha) ?_ (by rw [List.size_toArray, ← r.length, sizeLine_eq]; lia)⟩
    obtain ⟨R2, x⟩ := R1.newFroz (tupObj (vs.drop a)) rfl
    exact ⟨.tup (ds.drop a), _, σ, x, R2, ⟨_, vs.drop a, rfl, put_self .., (r.drop a).ext x.v⟩, h⟩
theorem SSl.list {o : V} {ds : List V} {lo hi : Option Int} {es : List V} (ho : IsL σ o ds) (hz : ds.length ≤ 1000000) (he : ∀ vs : List Value, vs.length = ds.length → ∃ a b, slicePick vs.toArray lo hi none = ((vs.drop a).take b).toArray ∧ es = (ds.drop a).take b) (h : Q (.ref σ.nx) (σ.push (.list es))) : SSl C X W σ o lo hi Q := by
  rintro g A L s ov vl vu R hA hv hl hu
  have R1 := R.push { cls := .type "slice", data := .fields #[vl, vu, .none] }
  obtain ⟨b, vs, n, rfl, e, r⟩ := ho.at R1 hv
  refine ⟨"list", _, slot_list_getitem.lookup, ⟨_, e, rfl⟩, wpAny_getItem_list_slice (isList_of e) (Heap.IsSliceOf.new _ _ _ _) hl hu .none (by simp) ?_ (by rw [List.size_toArray, ← r.length, sizeLine_eq]; lia)⟩
  obtain ⟨a, c, e1, e2⟩ := he vs r.length.symm
  rw [e1]
  subst e2
  exact newList_up (tk := s.toks) R1 ((r.drop a).take c) (R1.free_size (Nat.le_refl _)) (R1.h0_size (Nat.le_refl _)) (fun b o _ e => Heap.get?_push_of_some _ e) (Heap.get?_push_size _ rfl) h
theorem SSl.listUpto {o : V} {ds : List V} {b : Nat} (ho : IsL σ o ds) (hz : ds.length ≤ 1000000) (h : Q (.ref σ.nx) (σ.push (.list (ds.take b)))) : SSl C X W σ o none (some b) Q :=
  SSl.list ho hz (fun vs _ => ⟨0, b, by rw [slicePick_upto']; rfl, rfl⟩) h
theorem SSl.listFrom {o : V} {ds : List V} {a : Nat} (ho : IsL σ o ds) (hz : ds.length ≤ 1000000) (h : Q (.ref σ.nx) (σ.push (.list (ds.drop a)))) : SSl C X W σ o (some a) none Q :=
  SSl.list ho hz (fun vs hv => ⟨a, ds.length, by rw [slicePick_from', List.take_of_length_le (by rw [List.length_drop]; lia)], by rw [List.take_of_length_le (by rw [List.length_drop]; lia)]⟩) h
theorem SSl.strUpto {x : Str} {j : Int} (hx : x.length ≤ 1000000) (h : Q (.str (Txt.slice x none (some j))) σ) : SSl C X W σ (.str x) none (some j) Q := by
  rintro g A L s ov vl vu R hA ⟨t, rfl⟩ hl hu
  cases hl
  cases hu with
  | int _ u =>
    refine SBH.sliceItem_ns (P := fun h => ∀ b o, s.heap.get? b = some o → h.get? b = some o) (fun h ob k b o e => Heap.get?_push_of_some _ (k b o e)) (fun _ _ e => e) (fun h' t' k hk => ?_) (by rw [sizeLine_eq]; lia)
    exact ⟨.str _, g, σ, Ext.refl g, R.keeps hk, ⟨_, rfl⟩, h⟩

/-! dicts by strs -/
noncomputable def skv (sk : List (Str × V)) : List (V × V) := sk.map fun p => (.str p.1, p.2)
noncomputable def SR (g : TagMap) : List (Str × V) → List (Str × Value) → Prop
  | [], l => l = []
  | (x, d) :: r, l => ∃ v t, l = (x, v) :: t ∧ VR g d v ∧ SR g r t
noncomputable def storedV (sk : List (Str × V)) (k : Str) (d : V) : List (Str × V) := if sk.any (fun kv => kv.1 = k) then sk.map (fun kv => if kv.1 = k then (kv.1, d) else kv) else sk ++ [(k, d)]
noncomputable def lookS (sk : List (Str × V)) (k : Str) : Option V := (sk.find? fun kv => kv.1 = k).map (·.2)

theorem SR.ext {g g' : TagMap} (x : ExtV g g') : ∀ {sk : List (Str × V)} {kvs : List (Str × Value)}, SR g sk kvs → SR g' sk kvs
  | [], _, h => h
  | (_, _) :: _, _, ⟨v, t, e, a, b⟩ => ⟨v, t, e, a.ext x, SR.ext x b⟩
theorem SR.keys {g : TagMap} : ∀ {sk : List (Str × V)} {kvs : List (Str × Value)}, SR g sk kvs → kvs.map (·.1) = sk.map (·.1)
  | [], _, h => by cases h; rfl
  | (_, _) :: _, _, ⟨_, _, e, _, b⟩ => by subst e; simp [SR.keys b]
theorem SR.look {g : TagMap} (k : Str) : ∀ {sk : List (Str × V)} {kvs : List (Str × Value)}, SR g sk kvs → OVR g (lookS sk k) (valueAt kvs k)
  | [], _, h => by cases h; rfl
  | (x, d) :: r, _, ⟨v, t, e, a, b⟩ => by
    subst e
    have ih := SR.look k b
    unfold lookS valueAt at ih ⊢
    rw [List.find?_cons, List.find?_cons]
    by_cases q : x = k
    · simp only [q, decide_true]; exact ⟨v, rfl, a⟩
    · simp only [q, decide_false]; exact ih
theorem SR.any {g : TagMap} (k : Str) {sk : List (Str × V)} {kvs : List (Str × Value)} (h : SR g sk kvs) : (kvs.any fun kv => kv.1 = k) = sk.any fun kv => kv.1 = k := by
  have e := h.keys
  have h1 : (kvs.any fun kv => decide (kv.1 = k)) = (kvs.map (·.1)).any fun y => decide (y = k) := by rw [List.any_map]; rfl
  have h2 : (sk.any fun kv => decide (kv.1 = k)) = (sk.map (·.1)).any fun y => decide (y = k) := by rw [List.any_map]; rfl
  rw [h1, h2, e]
theorem SR.mapSet {g : TagMap} (k : Str) {d : V} {v : Value} (hv : VR g d v) : ∀ {sk : List (Str × V)} {kvs : List (Str × Value)}, SR g sk kvs → SR g (sk.map fun kv => if kv.1 = k then (kv.1, d) else kv) (kvs.map fun kv => if kv.1 = k then (kv.1, v) else kv)
  | [], _, h => by cases h; rfl
  | (x, d') :: r, _, ⟨v', t, e, a, b⟩ => by
    subst e
    rw [List.map_cons, List.map_cons]
    have ih := SR.mapSet k hv b
    by_cases q : x = k
    · simp only [q, if_true]; exact ⟨v, _, rfl, hv, ih⟩
    · simp only [q, if_false]; exact ⟨v', _, rfl, a, ih⟩
theorem SR.snoc {g : TagMap} {k : Str} {d : V} {v : Value} (hv : VR g d v) : ∀ {sk : List (Str × V)} {kvs : List (Str × Value)}, SR g sk kvs → SR g (sk ++ [(k, d)]) (kvs ++ [(k, v)])
  | [], _, h => by cases h; exact ⟨v, [], rfl, hv, rfl⟩
  | (_, _) :: _, _, ⟨v', t, e, a, b⟩ => by subst e; exact ⟨v', t ++ [(k, v)], rfl, a, SR.snoc hv b⟩
theorem SR.stored {g : TagMap} {k : Str} {d : V} {v : Value} (hv : VR g d v) {sk : List (Str × V)} {kvs : List (Str × Value)} (h : SR g sk kvs) : SR g (storedV sk k d) (PySem.stored kvs k v) := by
  unfold storedV PySem.stored
  rw [h.any k]
  split
  · exact h.mapSet k hv
  · exact h.snoc hv

theorem pairsOf {g : TagMap} {prog : Program} {w : World} : ∀ {sk : List (Str × V)} {es : List DictEntry}, ERs w.params g (hashV w.params) (skv sk) es → ∃ kvs, Pairs (PySem.strKind prog w) es kvs ∧ SR g sk kvs ∧ ∀ e ∈ es, ∃ k, (PySem.strKind prog w).is k e.key = true ∧ e.hash = (PySem.strKind prog w).hash k
  | [], es, h => by
    have h : es = [] := h
    subst h
    exact ⟨[], .nil, rfl, fun e he => by cases he⟩
  | (x, d) :: r, es, h => by
    obtain ⟨e, t, rfl, ⟨h1, ⟨tk, h2⟩, h3⟩, hr⟩ := h
    obtain ⟨kvs, p, q, k⟩ := pairsOf (prog := prog) (w := w) hr
    have his : (PySem.strKind prog w).is x e.key = true := by
      show Value.isStrOf x e.key = true
      rw [h2]; simp [Value.isStrOf]
    refine ⟨(x, e.val) :: kvs, .cons his rfl p, ⟨e.val, kvs, rfl, h3, q⟩, fun e' he' => ?_⟩
    rcases List.mem_cons.mp he' with rfl | he'
    · exact ⟨x, his, h1⟩
    · exact k e' he'
theorem ersOf {g : TagMap} {prog : Program} {w : World} : ∀ {sk : List (Str × V)} {es : List DictEntry} {kvs : List (Str × Value)}, Pairs (PySem.strKind prog w) es kvs → SR g sk kvs → (∀ e ∈ es, ∃ k, (PySem.strKind prog w).is k e.key = true ∧ e.hash = (PySem.strKind prog w).hash k) → ERs w.params g (hashV w.params) (skv sk) es
  | [], es, kvs, p, q, k => by
    have q : kvs = [] := q
    subst q; cases p; rfl
  | (x, d) :: r, es, kvs, p, q, k => by
    obtain ⟨v, t, rfl, hv, hr⟩ := q
    cases p with
    | @cons e _ es' _ h1 h2 p' =>
      have h1' : Value.isStrOf x e.key = true := h1
      obtain ⟨tk, hk⟩ := Value.isStrOf_shape h1'
      obtain ⟨k', hk', hh⟩ := k e (.head _)
      have : k' = x := (PySem.strKind prog w).inj _ _ _ hk' h1
      subst this
      exact ⟨e, es', rfl, ⟨hh, ⟨tk, hk⟩, by rw [h2]; exact hv⟩, ersOf p' hr fun e' he' => k e' (.tail _ he')⟩

theorem isStr_self {prog : Program} {w : World} (x : Str) (t : Tok) : (PySem.strKind prog w).is x (.str x t) = true := by
  have : Value.isStrOf x (.str x t) = true := by simp [Value.isStrOf]
  exact this
theorem Rel.dictAt {g : TagMap} {s : Shared} {i : Nat} {sk : List (Str × V)} {v : Value} (R : Rel C g σ s) (hi : σ.get i = some (.dict (skv sk))) (hn : (sk.map (·.1)).Nodup) (hv : VR g (.ref i) v) :
    ∃ a kvs, v = .ref a ∧ g a = .main i ∧ (a == sysModules) = false ∧ s.heap.DictOf (PySem.strKind C.prog C.w) a kvs ∧ SR g sk kvs := by
  obtain ⟨a, rfl, t⟩ := hv
  obtain ⟨b, t', es, n, ns, e, r⟩ := R.objs i _ hi
  obtain rfl := R.uniq a b i t t'
  obtain ⟨kvs, p, q, k⟩ := pairsOf (prog := C.prog) r
  exact ⟨a, kvs, rfl, t, by simpa using ns, ⟨_, es.toArray, n, e, ⟨rfl, rfl, rfl⟩, rfl, fun e' he' => k e' (by simpa using he'), by simpa using p, by rw [q.keys]; exact hn⟩, q⟩
theorem Rel.setDict {g : TagMap} {s : Shared} {h' : Heap} {tk : Nat} {i : Nat} {a : Addr} {sk : List (Str × V)} {kvs : List (Str × Value)} (R : Rel C g σ s) (t : g a = .main i) (hn : (a == sysModules) = false) (hd : h'.DictOf (PySem.strKind C.prog C.w) a kvs) (hr : SR g sk kvs) (hs : ∀ b o, b ≠ a → s.heap.get? b = some o → h'.get? b = some o) : Rel C g (σ.set i (.dict (skv sk))) { s with heap := h', toks := tk } := by
  obtain ⟨⟨oc, od, oda, osl⟩, es, ep, ho, ⟨h1, h2, h3⟩, hdt, hk, hp, _⟩ := hd
  simp only at h1 h2 h3 hdt
  subst h1; subst h2; subst h3; subst hdt
  have ho' : h'.get? a = some (dctObj es.toList ep) := by rw [ho]
  exact R.upd (o := .dict (skv sk)) t (.inl rfl) hs ⟨_, ho'⟩ ⟨es.toList, ep, by simpa using hn, ho', ersOf hp hr fun e he => hk e (by simpa using he)⟩
theorem newDict_up {g : TagMap} {s : Shared} {h' : Heap} {tk : Nat} {a : Addr} {sk : List (Str × V)} {kvs : List (Str × Value)} (R : Rel C g σ s) (ha : g a = .free) (ha0 : C.H0.get? a = none) (hn : a ≠ sysModules) (hd : h'.DictOf (PySem.strKind C.prog C.w) a kvs) (hr : SR g sk kvs) (hs : ∀ b o, b ≠ a → s.heap.get? b = some o → h'.get? b = some o)
    (q : Q (.ref σ.nx) (σ.push (.dict (skv sk)))) : Up C g Q (.ref a) { s with heap := h', toks := tk } := by
  obtain ⟨⟨oc, od, oda, osl⟩, es, ep, ho, ⟨h1, h2, h3⟩, hdt, hk, hp, _⟩ := hd
  simp only at h1 h2 h3 hdt
  subst h1; subst h2; subst h3; subst hdt
  have ho' : h'.get? a = some (dctObj es.toList ep) := by rw [ho]
  have x : Ext g (g.put a (.main σ.nx)) := Ext.put ha _
  have R' : Rel C g σ { s with heap := h', toks := tk } := R.keepsT fun b o hb e => hs b o (fun q => by
    subst q; rcases hb with hb | hb
    · exact hb ha
    · exact hb ha0) e
  exact ⟨.ref σ.nx, _, _, x, R'.newMain (o := .dict (skv sk)) ha ha0 ⟨es.toList, ep, hn, ho', ersOf hp (hr.ext x.v) fun e he => hk e (by simpa using he)⟩ ⟨_, ho'⟩, ⟨_, rfl, put_self ..⟩, q⟩

/-- d[k] -/
theorem SI.dictStr {i : Nat} {sk : List (Str × V)} {x : Str} {d : V} (hi : σ.get i = some (.dict (skv sk))) (hn : (sk.map (·.1)).Nodup) (hx : lookS sk x = some d) (h : Q d σ) : SI C X W σ (.ref i) (.str x) Q := by
  rintro g A L s ov iv R hA ho ⟨t, rfl⟩
  obtain ⟨a, kvs, rfl, ta, ns, hd, hr⟩ := R.dictAt hi hn ho
  have hl := hr.look x
  rw [hx] at hl
  obtain ⟨v, hv, rv⟩ := hl
  refine ⟨"dict", _, slot_dict_getitem.lookup, hd.typeIs, wpAny_getItem_of (knd := PySem.strKind C.prog C.w) (k := x) (isStr_self x t) hd.mapOf hv (Up.here (R.toks _) rv h)⟩
/-- d.get(k, x) -/
theorem SC.dictGet2 {i : Nat} {sk : List (Str × V)} {x : Str} {d : V} (hi : σ.get i = some (.dict (skv sk))) (hn : (sk.map (·.1)).Nodup) (h : Q ((lookS sk x).getD d) σ) : SC C X W σ (.val (.builtin "dict.get")) [.ref i, .str x, d] Q := by
  rintro g A L s _ _ R hA rfl ⟨v, _, rfl, hv, _, _, rfl, ⟨t, rfl⟩, u, _, rfl, hu, rfl⟩
  obtain ⟨a, kvs, rfl, ta, ns, hd, hr⟩ := R.dictAt hi hn hv
  refine call_meetsIn PySem.F.slot_dict_get hd.typeIs PySem.F.entry_dict_get (PySem.F.args_dict_get_3 _ _ _) (meets_dict_get_default (PySem.strKind C.prog C.w) a (k := x) (isStr_self x t) ns u) ⟨_, hd.mapOf, ?_⟩
  have hl := hr.look x
  refine Up.here (d := (lookS sk x).getD d) (R.toks _) ?_ h
  cases hq : lookS sk x with
  | none => rw [hq] at hl; have hl : valueAt kvs x = none := hl; rw [hl]; exact hu
  | some d' => rw [hq] at hl; obtain ⟨v', e, r⟩ := hl; rw [e]; exact r
theorem SM.dict {i : Nat} {sk : List (Str × V)} {name : Str} {id : String} {QM : V → List V → Sto → Prop} (hi : σ.get i = some (.dict (skv sk))) (slot : Slot "dict" name id) (hty : typeOf (.builtin id) = pure (.type "method_descriptor")) (h : QM (.val (.builtin id)) [.ref i] σ) : SM C X W σ (.ref i) name QM := fun g A L s ov pl R hA hv => by
  have hv' := hv
  obtain ⟨a, rfl, t⟩ := hv
  obtain ⟨b, t', es, n, ns, e, r⟩ := R.objs i _ hi
  obtain rfl := R.uniq a b i t t'
  exact getMethod_builtin ⟨_, e, rfl⟩ PySem.F.plainAttrs_dict slot hty (fun b hb => by cases hb; exact ⟨_, e, rfl⟩) ⟨.val (.builtin id), [.ref i], g, σ, Ext.refl g, R, rfl, ⟨_, [], rfl, hv', rfl⟩, h⟩

variable {QA : Loc → Sto → Prop}
/-- o[i] = d -/
theorem SG.subStr {o sl : Expr} {pos : Pos} {d : V} (h : SE C X W o l σ fun od σ₁ => SE C X W sl l σ₁ fun id σ₂ => ∃ i x sk, od = .ref i ∧ id = .str x ∧ σ₂.get i = some (.dict (skv sk)) ∧ (sk.map (·.1)).Nodup ∧ sk.length ≤ 1000000 ∧ QA l (σ₂.set i (.dict (skv (storedV sk x d))))) :
    SG C X W (.Subscript o sl pos) l σ d QA := fun g A cenv L m s v p hv => by
  rw [assign_Subscript]
  refine wpAny_bind (wpAny_holding (wpAny_mono (h g A cenv L m s p) ?_ fun _ _ h => h))
  rintro ov s₁ ⟨od, g₁, σ₁, e₁, R₁, ho, q⟩
  have p₁ := p.step e₁ R₁
  refine wpAny_bind (wpAny_holding (wpAny_mono (q g₁ A cenv L m s₁ p₁) ?_ fun _ _ h => X.mono e₁ h))
  rintro iv s₂ ⟨id, g₂, σ₂, e₂, R₂, hi, i, x, sk, rfl, rfl, hg, hn, hz, q₂⟩
  have p₂ := p₁.step e₂ R₂
  obtain ⟨t, rfl⟩ := hi
  obtain ⟨a, kvs, rfl, ta, ns, hd, hr⟩ := R₂.dictAt hg hn (ho.ext e₂.v)
  have hv2 := hv.ext (e₁.trans e₂).v
  have hlen : kvs.length ≤ sizeLine := by
    have := congrArg List.length hr.keys
    rw [List.length_map, List.length_map] at this
    rw [this, sizeLine_eq]; lia
  refine wpAny_bind (wpAny_standAt (wpAny_bind (wpAny_holding (wpAny_setItem_pairs (knd := PySem.strKind C.prog C.w) (k := x) (isStr_self x t) hd (fun h' hd' hs' => ?_) hlen))))
  refine wpAny_release ?_
  exact ⟨l, g₂, _, m, (e₁.trans e₂).l L, R₂.setDict ta ns hd' (hr.stored hv2) (fun b o hb e => (hs'.2 b hb).trans e), p₂.fm, p₂.fl, q₂⟩
end
end Mine
/- part MDsp -/
namespace Mine
open PySem PySem.W PySem.Calls PyProof.Rows PySem.SeqAt

/-- the pairs of a display -/
noncomputable def SPs (C : Cx) (X : XPost) (W : En) : List (Option Expr) → List Expr → Loc → Sto → (List (Str × V) → Sto → Prop) → Prop
  | [], [], _, σ, Q => Q [] σ
  | some k :: ks, v :: vs, l, σ, Q => SE C X W k l σ fun dk σ₁ => ∃ x, dk = .str x ∧ SE C X W v l σ₁ fun d σ₂ => SPs C X W ks vs l σ₂ fun r σ₃ => Q ((x, d) :: r) σ₃
  | _, _, _, _, _ => False

section
variable {C : Cx} {X : XPost} {W : En} {l : Loc} {σ : Sto} {Q : V → Sto → Prop}

/-- keys and values of a display, as they came -/
noncomputable def KR (g : TagMap) : List (Str × V) → List (Value × Value) → Prop
  | [], l => l = []
  | (x, d) :: r, l => ∃ t v u, l = (.str x t, v) :: u ∧ VR g d v ∧ KR g r u
theorem KR.ext {g g' : TagMap} (x : ExtV g g') : ∀ {sk : List (Str × V)} {kvs : List (Value × Value)}, KR g sk kvs → KR g' sk kvs
  | [], _, h => h
  | (_, _) :: _, _, ⟨t, v, u, e, a, b⟩ => ⟨t, v, u, e, a.ext x, KR.ext x b⟩
theorem KR.carries {g : TagMap} {prog : Program} {w : World} : ∀ {sk : List (Str × V)} {vs : List (Value × Value)}, KR g sk vs → ∃ kvs, Carries (PySem.strKind prog w) vs kvs ∧ SR g sk kvs
  | [], _, h => by cases h; exact ⟨[], trivial, rfl⟩
  | (x, d) :: r, _, ⟨t, v, u, e, a, b⟩ => by
    subst e
    obtain ⟨kvs, c, s⟩ := KR.carries (prog := prog) (w := w) b
    exact ⟨(x, v) :: kvs, ⟨isStr_self x t, rfl, c⟩, ⟨v, kvs, rfl, a, s⟩⟩

theorem SPs.run {pos : Pos} : ∀ {ks : List (Option Expr)} {vs : List Expr} {σ : Sto} {QP : List (Str × V) → Sto → Prop} {g : TagMap} {A : Around} {cenv : Env} {L : Addr} {m : Str → Option Value} {s : Shared}, SPs C X W ks vs l σ QP → Pre C W l σ g A cenv L m s →
    wpAny C.M A (evalPairs (pairTrees ks vs cenv pos)) (fun r s' => ∃ sk g' σ', Ext g g' ∧ Rel C g' σ' s' ∧ KR g' sk r ∧ QP sk σ') (X.P L g A.frames) s
  | [], [], σ, QP, g, A, cenv, L, m, s, h, p => pairTrees_nil_walk ⟨[], g, σ, Ext.refl g, p.R, rfl, h⟩
  | some k :: ks, v :: vs, σ, QP, g, A, cenv, L, m, s, h, p => by
    refine pairTrees_cons_walk (wpAny_mono (h g A cenv L m s p) ?_ fun _ _ h => h)
    rintro kv s₁ ⟨dk, g₁, σ₁, e₁, R₁, hk, x, rfl, q⟩
    obtain ⟨t, rfl⟩ := hk
    have p₁ := p.step e₁ R₁
    refine wpAny_mono (q g₁ A cenv L m s₁ p₁) ?_ fun _ _ h => X.mono e₁ h
    rintro vv s₂ ⟨d, g₂, σ₂, e₂, R₂, hv, q₂⟩
    have p₂ := p₁.step e₂ R₂
    refine wpAny_mono (SPs.run q₂ p₂) ?_ fun _ _ h => X.mono (e₁.trans e₂) h
    rintro r s₃ ⟨sk, g₃, σ₃, e₃, R₃, hr, q₃⟩
    exact ⟨(x, d) :: sk, g₃, σ₃, (e₁.trans e₂).trans e₃, R₃, ⟨t, vv, r, rfl, hv.ext e₃.v, hr⟩, q₃⟩
  | [], _ :: _, _, _, _, _, _, _, _, _, h, _ => h.elim
  | none :: _, _, _, _, _, _, _, _, _, _, h, _ => by cases ‹List Expr› <;> exact h.elim
  | some _ :: _, [], _, _, _, _, _, _, _, _, h, _ => h.elim

theorem SE.dict {ks : List (Option Expr)} {vs : List Expr} {pos : Pos} (hall : ks.all (·.isSome) = true) (hl : ks.length = vs.length) (h0 : ks ≠ []) (hlen : ks.length ≤ 15)
    (h : SPs C X W ks vs l σ fun sk σ₁ => (sk.map (·.1)).Nodup ∧ Q (.ref σ₁.nx) (σ₁.push (.dict (skv sk)))) : SE C X W (.Dict ks vs pos) l σ Q := fun g A cenv L m s p => by
  refine wpAny_Dict_walk (knd := PySem.strKind C.prog C.w) hall hl h0 hlen ?_
  have hDfree : g s.heap.objs.size = .free := p.R.free_size (Nat.le_refl _)
  have hD0 : C.H0.get? s.heap.objs.size = Option.none := p.R.h0_size (Nat.le_refl _)
  have hobj : (s.heap.push (dctObj [] 0)).get? s.heap.objs.size = some (dctObj [] 0) := Heap.get?_push_size _ rfl
  have R1 := (p.R.push (dctObj [] 0)).retag (a := s.heap.objs.size) (t := .held (dctObj [] 0)) (by rw [hDfree]; exact fun h => h) ⟨hobj, hD0⟩
  have x1 : Ext g (g.put s.heap.objs.size (.held (dctObj [] 0))) := Ext.put hDfree _
  refine wpAny_mono (SPs.run (pos := pos) h (p.step x1 R1)) ?_ fun _ _ h => X.mono x1 h
  rintro r s₁ ⟨sk, g₁, σ₁, e₁, R₁, hr, hn, q⟩
  obtain ⟨kvs, hc, hs⟩ := hr.carries (prog := C.prog) (w := C.w)
  have hD1 : g₁ s.heap.objs.size = .held (dctObj [] 0) := e₁.at (put_self ..) (by intro h; cases h)
  have ho1 := R₁.held _ _ hD1
  refine ⟨kvs, hc, ⟨_, #[], 0, ho1, ⟨rfl, rfl, rfl⟩, rfl, fun e he => by simp at he, .nil, by simp⟩, fun h' hd hs' => ?_⟩
  rw [merged_nil_of_nodup kvs (by rw [hs.keys]; exact hn)] at hd
  have R2 := R₁.retag (a := s.heap.objs.size) (t := .free) (by rw [hD1]; exact fun h => h) trivial
  have xv : ExtV g₁ (g₁.put s.heap.objs.size .free) := (ExtL.put (L := s.heap.objs.size) g₁ .free).v (by rw [hD1]; exact fun h => h)
  obtain ⟨d, g₃, σ₃, e₃, R₃, hv, q₃⟩ := newDict_up (Q := Q) (tk := s₁.toks + r.length) R2 (put_self ..) hD0 (p.R.big (Nat.le_refl _)) hd (hs.ext xv) (fun b o hb e => (hs'.2 b hb).trans e) q
  refine ⟨d, g₃, σ₃, fun c hc => ?_, R₃, hv, q₃⟩
  have h1 : c ≠ s.heap.objs.size := fun e => hc (e ▸ hDfree)
  have h2 : (g₁.put s.heap.objs.size .free) c = g c := (put_ne _ _ h1).trans ((e₁ c (by rw [put_ne _ _ h1]; exact hc)).trans (put_ne _ _ h1))
  exact (e₃ c (by rw [h2]; exact hc)).trans h2
theorem SE.dict0 {pos : Pos} (h : Q (.ref σ.nx) (σ.push (.dict []))) : SE C X W (.Dict [] [] pos) l σ Q := fun g A cenv L m s p => by
  refine wpAny_Dict_empty ?_
  have hobj : (s.heap.push (dctObj [] 0)).get? s.heap.objs.size = some (dctObj [] 0) := Heap.get?_push_size _ rfl
  exact newDict_up (sk := []) (tk := s.toks) p.R (p.R.free_size (Nat.le_refl _)) (p.R.h0_size (Nat.le_refl _)) (p.R.big (Nat.le_refl _)) (Heap.DictOf.new _) rfl (fun b o _ e => Heap.get?_push_of_some _ e) h

/-! f-strings -/
/-- parts, each a str in the end -/
noncomputable def SJ (C : Cx) (X : XPost) (W : En) : List Expr → Str → Loc → Sto → (Str → Sto → Prop) → Prop
  | [], out, _, σ, Q => Q out σ
  | e :: r, out, l, σ, Q => SE C X W e l σ fun d σ₁ => ∃ y, d = .str y ∧ out.length + y.length ≤ 1000000 ∧ SJ C X W r (out ++ y) l σ₁ Q
theorem SJ.run {A : Around} {cenv : Env} {L : Addr} {m : Str → Option Value} : ∀ {es : List Expr} {out : Str} {σ : Sto} {g : TagMap} {s : Shared}, out.length ≤ 1000000 → SJ C X W es out l σ (fun y σ' => Q (.str y) σ') → Pre C W l σ g A cenv L m s →
    wpAny C.M A (joinParts out (evalEach es cenv)) (Up C g Q) (X.P L g A.frames) s
  | [], out, σ, g, s, hz, h, p => joinParts_nil (Up.here (d := .str out) (p.R.toks _) ⟨_, rfl⟩ h) (by rw [sizeLine_eq]; lia)
  | e :: r, out, σ, g, s, hz, h, p => by
    refine joinParts_cons (wpAny_mono (h g A cenv L m s p) ?_ fun _ _ h => h)
    rintro v s₁ ⟨d, g₁, σ₁, e₁, R₁, hv, y, rfl, hz', q⟩
    obtain ⟨t, rfl⟩ := hv
    have hl : (out ++ y).length ≤ 1000000 := by rw [Str.length_append]; exact hz'
    exact ⟨by rw [sizeLine_eq]; lia, up_back e₁ (SJ.run hl q (p.step e₁ R₁)) fun _ _ h => h.back e₁⟩
theorem SE.joined {a b : Expr} {r : List Expr} {pos : Pos} (h : SJ C X W (a :: b :: r) Str.empty l σ fun y σ' => Q (.str y) σ') : SE C X W (.JoinedStr (a :: b :: r) pos) l σ Q := fun g A cenv L m s p =>
  JoinedStr_many (SJ.run (es := a :: b :: r) (by decide) h p)
theorem SE.fmtStr {e : Expr} {pos : Pos} (h : SE C X W e l σ fun d σ₁ => ∃ x, d = .str x ∧ x.length ≤ 1000000 ∧ Q (.str x) σ₁) : SE C X W (.FormattedValue e (-1) Option.none pos) l σ Q := fun g A cenv L m s p => by
  refine FormattedValue_plain (SE.then p h fun d v g₁ σ₁ s₁ e₁ p₁ hv q => ?_)
  obtain ⟨x, rfl, hz, q⟩ := q
  obtain ⟨t, rfl⟩ := hv
  exact PyProof.Rows.formatField_str (fun t' tk => Up.back e₁ (Up.here (d := .str x) (p₁.R.toks _) ⟨_, rfl⟩ q)) (by rw [sizeLine_eq]; lia)

theorem VRs.replicate {g : TagMap} {d : V} {v : Value} (h : VR g d v) : ∀ k : Nat, VRs g (List.replicate k d) (List.replicate k v)
  | 0 => rfl
  | k + 1 => ⟨v, _, rfl, h, VRs.replicate h k⟩
theorem mulRaw {A : Around} {E : Value → Shared → Prop} {s : Shared} {a : Addr} {items : Array Value} {k : Nat} {x : Int} {u : Tok} {Q : Value → Shared → Prop}
    (hl : s.heap.get? a = some { cls := .type "list", dict := none, data := .seq items k, slots := #[] })
    (hlo : -(2 ^ 63 : Int) ≤ x) (hhi : x < 2 ^ 63) (hsz : items.size * x.toNat ≤ 2 ^ 24)
    (h : Q (.ref s.heap.objs.size) { s with heap := s.heap.push { cls := .type "list", data := .seq (List.foldl (fun x1 x2 => x1 ++ x2) #[] (List.replicate (if items.isEmpty = true then 0 else x.toNat) items)) } }) :
    wpAny C.M A (binaryOp .Mult (.ref a) (.int x u)) Q E s :=
  wpAny_binaryOp_repeat_ref (T := "list") (U := "int") (by decide) ⟨_, hl, rfl⟩ (fun s' => typeIs_int s' x u) noFill_list_mul PySem.F.fills_int_mul PySem.F.slot_int_rmul repeat_list PySem.F.slot_int_index.lookup
    (call_meets PySem.F.slot_int_rmul (typeIs_int s x u) PySem.F.entry_int_rmul (PySem.F.args_int_rmul_2 _ _) (int___rmul___int_list x u a items k)
      ⟨hl, rfl, ⟨_, hl, rfl⟩, call_meets PySem.F.slot_list_mul ⟨_, hl, rfl⟩ PySem.F.entry_list_mul (PySem.F.args_list_mul_2 _ _)
        (AutoListH.list___mul___list_int_3 a items k x u (by simp [Builtin.List.listFitsIndex]; lia) (by lia) (by simp [Builtin.List.listTooLong, sizeLine]; lia))
        ⟨hl, h⟩⟩)
theorem flat_rep {α : Type} (w : α) : ∀ k : Nat, (List.replicate k [w]).flatten = List.replicate k w
  | 0 => rfl
  | k + 1 => by rw [List.replicate_succ, List.flatten_cons, flat_rep w k]; rfl
theorem SV.mulList1 {o d : V} {k : Nat} (ho : IsL σ o [d]) (hk : k ≤ 1000000) (h : Q (.ref σ.nx) (σ.push (.list (List.replicate k d)))) : SV C X W σ [o, .int k] (tBin .Mult) Q := by
  rintro g A L s _ R hA ⟨v, _, rfl, hv, _, _, rfl, ⟨u, rfl⟩, rfl⟩
  obtain ⟨a, vs, n, rfl, e, w, r, rfl, hw, hr⟩ := ho.at R hv
  cases hr
  refine mulRaw (items := [w].toArray) e (by lia) (by lia) (by simp; lia) ?_
  rw [listMul_foldl_if]
  have e2 : (List.replicate (k : Int).toNat [w]).flatten = List.replicate k w := by rw [Int.toNat_natCast, flat_rep]
  rw [e2]
  exact newList_up (tk := s.toks) R (VRs.replicate hw k) (R.free_size (Nat.le_refl _)) (R.h0_size (Nat.le_refl _)) (fun b o _ e => Heap.get?_push_of_some _ e) (Heap.get?_push_size _ rfl) h
end
end Mine
/- part MSet -/
namespace Mine
open PySem PySem.W PySem.Calls PyProof.Rows PySem.SeqAt

theorem layNew_plain (t : SetTable) (es : Array (Int × Value)) (h : Int) (x : Value) (hp : t.plain = false) : (layNew t es h x).2.1.plain = false := by
  unfold layNew
  split
  · rename_i slot wd _
    show ((t.put slot).1.orStandIn _).plain = false
    unfold SetTable.orStandIn
    split
    · exact hp
    · rfl
  · rfl
theorem layNew_led (t : SetTable) (es : Array (Int × Value)) (h : Int) (x : Value) : (layNew t es h x).2.1.led = t.led := by
  unfold layNew
  split
  · rename_i slot wd _
    show ((t.put slot).1.orStandIn _).led = t.led
    unfold SetTable.orStandIn
    split <;> rfl
  · rfl
theorem relayAll_led (t : SetTable) (es : Array (Int × Value)) (wanted : Nat) : (relayAll t es wanted).2.1.led = t.led := by
  unfold relayAll
  split
  · rename_i t' order e
    have : t'.led = t.led := by
      unfold SetTable.relaid SetTable.laid at e
      cases q : SetTable.layClean (SetTable.sizeAbove wanted - 1) (Array.map (fun x => x.fst) es) with
      | none => rw [q] at e; cases e
      | some owner => rw [q] at e; cases e; rfl
    dsimp only
    split
    · exact this
    · rfl
  · rfl
theorem relayAll_plain (t : SetTable) (es : Array (Int × Value)) (wanted : Nat) (hp : t.plain = false) : (relayAll t es wanted).2.1.plain = false := by
  unfold relayAll
  split
  · rename_i t' order e
    have : t'.plain = t.plain := by
      unfold SetTable.relaid SetTable.laid at e
      cases q : SetTable.layClean (SetTable.sizeAbove wanted - 1) (Array.map (fun x => x.fst) es) with
      | none => rw [q] at e; cases e
      | some owner => rw [q] at e; cases e; rfl
    dsimp only
    split
    · exact this.trans hp
    · rfl
  · rfl

/-- a set of strs, as it lies -/
structure StrSet (prog : Program) (w : World) (h : Heap) (a : Addr) (vs : List Value) : Prop where
  is : ∃ es n t, h.get? a = some (setObj es n t) ∧ t.fits es.size = true ∧ ((t.plain = false ∨ es.size = 0) ∧ t.led = !w.params.followText "set-order") ∧ ElemsOf (PySem.strKind prog w) es.toList ∧ (es.toList.map (·.2)).Perm vs

noncomputable def addS (vs : List Value) (x : Str) (tk : Tok) : List Value := if vs.any (Value.isStrOf x) then vs else vs ++ [.str x tk]

section
variable {prog : Program} {w : World} {A : Around} {E : Value → Shared → Prop} {s : Shared} {a : Addr} {vs : List Value}

theorem setAddStr {x : Str} {tk : Tok} {Q : Bool → Shared → Prop} (hS : StrSet prog w s.heap a vs) (hb : vs.length + 1 < 1000)
    (h : ∀ b h', Heap.SameBut a s.heap h' → StrSet prog w h' a (addS vs x tk) → Q b { s with heap := h' }) :
    wpAny (model prog w) A (setAddHashed a (.str x tk) ((PySem.strKind prog w).hash x)) Q E s := by
  obtain ⟨es, n, t, ho, hf, ⟨hpl, hled⟩, hel, hperm⟩ := hS.is
  have hsc : (Value.str x tk).scannable = true := rfl
  have hlen : es.size = vs.length := by rw [← hperm.length_eq, List.length_map, Array.length_toList]
  have hsb : scanBound = 4096 := rfl
  have hb0 : es.size < scanBound := by rw [hlen, hsb]; lia
  have hkey : (PySem.strKind prog w).is x (.str x tk) = true := isStr_self x tk
  have hany : vs.any (Value.isStrOf x) = (es.toList.map (·.2)).any (Value.isStrOf x) := by
    rw [Bool.eq_iff_iff, List.any_eq_true, List.any_eq_true]
    exact ⟨fun ⟨y, hy, p⟩ => ⟨y, hperm.mem_iff.mpr hy, p⟩, fun ⟨y, hy, p⟩ => ⟨y, hperm.mem_iff.mp hy, p⟩⟩
  unfold setAddHashed setAddHashedIn
  refine wpAny_holding (wpAny_bind (wpAny_setState_of ho rfl hf ?_))
  dsimp only
  rw [byScan_of hsc hb0 hel]
  simp only [↓reduceIte]
  unfold setAddByScan
  refine wpAny_bind (wpAny_bind (wpAny_rule (wpAny_bind (wpAny_setScan_of hkey ho rfl hf hel ?_))))
  cases hr : List.findIdx? (fun e => (PySem.strKind prog w).is x e.2) es.toList with
  | some j =>
    dsimp only
    obtain ⟨hj, hpj, _⟩ := List.findIdx?_eq_some_iff_getElem.mp hr
    refine wpAny_pure (wpAny_pure ?_)
    have e : s = { s with heap := s.heap } := by cases s; rfl
    rw [e]
    refine h _ s.heap (Heap.SameBut.refl a s.heap) ⟨es, n, t, ho, hf, ⟨hpl, hled⟩, hel, ?_⟩
    have : vs.any (Value.isStrOf x) = true := by
      rw [hany, List.any_map, List.any_eq_true]
      exact ⟨es.toList[j], List.getElem_mem hj, hpj⟩
    unfold addS; rw [this, if_pos rfl]; exact hperm
  | none =>
    dsimp only
    have hno : vs.any (Value.isStrOf x) = false := by
      rw [hany, List.any_map, List.any_eq_false]
      intro e he
      have := List.findIdx?_eq_none_iff.mp hr e he
      intro q; rw [show (PySem.strKind prog w).is x e.2 = true from q] at this; cases this
    have hgw : ∀ (b : Bool) {s₁ : Shared} {Q' : Unit → Shared → Prop}, Q' () s₁ → wpAny (model prog w) A (match b with | true => rule "set.scan.the-table-gave-way" | false => pure ()) Q' E s₁ :=
      fun b s₁ Q' hq => by cases b <;> first | exact wpAny_pure hq | exact wpAny_rule hq
    have hperm1 := layNew_perm t es ((PySem.strKind prog w).hash x) (.str x tk)
    have hfits := layNew_fits t es ((PySem.strKind prog w).hash x) (.str x tk)
    have hplain : t.plain = false → (layNew t es ((PySem.strKind prog w).hash x) (.str x tk)).2.1.plain = false := layNew_plain t es _ _
    have hled1 : (layNew t es ((PySem.strKind prog w).hash x) (.str x tk)).2.1.led = t.led := layNew_led t es _ _
    generalize hL : layNew t es ((PySem.strKind prog w).hash x) (.str x tk) = Ln at hperm1 hfits hplain hled1 ⊢
    obtain ⟨es1, t1, wasDummy, gave⟩ := Ln
    dsimp only at hperm1 hfits hplain hled1 ⊢
    rw [Array.toList_push] at hperm1
    have hel1 : ElemsOf (PySem.strKind prog w) es1.toList := (hel.push hkey hsc).perm hperm1
    have hsz1 : es1.size = es.size + 1 := by rw [← Array.length_toList, hperm1.length_eq, List.length_append, Array.length_toList]; rfl
    have hb1 : es1.size < scanBound := by rw [hsz1, hlen, hsb]; lia
    have hp1 : (es1.toList.map (·.2)).Perm (addS vs x tk) := by
      unfold addS; rw [hno, if_neg (by decide)]
      refine (hperm1.map _).trans ?_
      rw [List.map_append]
      exact hperm.append_right _
    refine wpAny_bind (hgw _ ?_)
    -- the tail
    have tail : ∀ t2 : SetTable, t2.fits es1.size = true → t2.plain = false → t2.led = t.led → wpAny (model prog w) A (do
        storeSet a es1 t2
        if (!wasDummy && t2.tooFull) = true then do
            (match (relayAll t2 es1 (SetTable.grown es1.size)).2.2 with | true => rule "set.scan.the-table-gave-way" | false => pure ())
            storeSet a (relayAll t2 es1 (SetTable.grown es1.size)).1 (relayAll t2 es1 (SetTable.grown es1.size)).2.1
            pure (some true)
          else pure (some true)) (fun r s' => wpAny (model prog w) A (match r with | some added => pure added | none => setAddHashedIn a (.str x tk) ((PySem.strKind prog w).hash x) 99999) Q E s') E s := by
      intro t2 hf2 hpl2 hled2
      refine wpAny_bind (wpAny_storeSet_of ho rfl ?_ (fits_of_scanBound hb1))
      have hg1 : (s.heap.update a (Obj.putSet es1 t2)).get? a = some (setObj es1 (n + 1) t2) := Heap.get?_update_self (Obj.putSet es1 t2) ho rfl
      have hs1 := Heap.SameBut.update s.heap a (Obj.putSet es1 t2)
      split
      · have hp2 := relayAll_perm t2 es1 (SetTable.grown es1.size)
        have hf3 := relayAll_fits t2 es1 (SetTable.grown es1.size)
        have hpl3 := relayAll_plain t2 es1 (SetTable.grown es1.size) hpl2
        have hled3 : (relayAll t2 es1 (SetTable.grown es1.size)).2.1.led = t2.led := relayAll_led t2 es1 _
        generalize hRl : relayAll t2 es1 (SetTable.grown es1.size) = Rl at hp2 hf3 hpl3 hled3 ⊢
        obtain ⟨es2, t3, gave2⟩ := Rl
        dsimp only at hp2 hf3 hpl3 hled3 ⊢
        have hsz2 : es2.size = es1.size := by rw [← Array.length_toList, hp2.length_eq, Array.length_toList]
        refine wpAny_bind (hgw _ ?_)
        refine wpAny_bind (wpAny_storeSet_of hg1 rfl ?_ (fits_of_scanBound (by rw [hsz2]; exact hb1)))
        have hg2 := Heap.get?_update_self (Obj.putSet es2 t3) hg1 rfl
        exact wpAny_pure (wpAny_pure (h _ _ (hs1.trans (Heap.SameBut.update _ a _)) ⟨es2, _, t3, hg2, hf3, ⟨.inl hpl3, hled3.trans (hled2.trans hled)⟩, hel1.perm hp2, (hp2.map _).trans hp1⟩))
      · exact wpAny_pure (wpAny_pure (h _ _ hs1 ⟨es1, _, t2, hg1, hf2, ⟨.inl hpl2, hled2.trans hled⟩, hel1, hp1⟩))
    split
    · rename_i hpt
      refine wpAny_bind ?_
      rw [hashByValue_scannable 8 hsc]
      exact wpAny_pure (tail _ (SetTable.fits_plain_off hfits) rfl hled1)
    · rename_i hpt
      refine wpAny_bind (wpAny_pure ?_)
      simp only [↓reduceIte]
      exact tail t1 hfits (by simpa using hpt) hled1

noncomputable def addV (acc : List Value) : Value → List Value
  | .str x tk => addS acc x tk
  | _ => acc
theorem addV_len (acc : List Value) (v : Value) : (addV acc v).length ≤ acc.length + 1 := by
  cases v <;> simp only [addV] <;> try lia
  unfold addS
  split
  · lia
  · simp
theorem StrSet.keeps {h h' : Heap} (x : StrSet prog w h a vs) (e : ∀ o, h.get? a = some o → h'.get? a = some o) : StrSet prog w h' a vs :=
  let ⟨es, n, t, ho, r⟩ := x.is; ⟨es, n, t, e _ ho, r⟩

theorem strSetLoop {R : Result → Shared → Prop} {S I l : Addr} {items : Array Value} (hh : A.handled = none) (hSI : S ≠ I) (hSl : S ≠ l) (hIl : I ≠ l) (hz : items.size < 900) (hstr : ∀ v ∈ items.toList, ∃ x tk, v = .str x tk) :
    ∀ (k i : Nat) (s : Shared) (acc : List Value), items.size - i = k → i ≤ items.size → s.heap.IsListIter I l i → s.heap.IsList l items → StrSet prog w s.heap S acc → acc.length ≤ i →
      (∀ s', StrSet prog w s'.heap S ((items.toList.drop i).foldl addV acc) → (∀ b o, b ≠ S → b ≠ I → s.heap.get? b = some o → s'.heap.get? b = some o) → s'.gens = s.gens → s'.drawn = s.drawn → s'.os = s.os → R (.ok (.ret .none)) s') →
      codeAny (model prog w) A (.builtin "set.update.loop" ⟨[.ref S, .ref I], []⟩) R s := by
  intro k
  induction k with
  | zero =>
    intro i s acc hk hi hit hl hS hacc hR
    have hin : i = items.size := by lia
    refine codeAny_builtin PyProof.Rows.F.entry_set_update_loop ?_
    rw [Around.under_plainId PyProof.Rows.F.plain_set_update_loop _]
    show wpAny _ A.in1 (pyNext (.ref I) >>= _) _ _ s
    refine wpAny_bind (wpAny_pyNext_list_end (by simpa using hh) hit hl (by rw [hin]; simp) fun h' he => ?_)
    show wpAny _ A.in1 (ret Value.none) _ _ _
    refine wpAny_pure (hR _ ?_ (fun b o _ hb e => he b o hb e) rfl rfl rfl)
    have : items.toList.drop i = [] := List.drop_eq_nil_of_le (by simp; lia)
    rw [this]
    exact hS.keeps fun o e => he S o hSI e
  | succ k ih =>
    intro i s acc hk hi hit hl hS hacc hR
    have hlt : i < items.size := by lia
    refine codeAny_builtin PyProof.Rows.F.entry_set_update_loop ?_
    rw [Around.under_plainId PyProof.Rows.F.plain_set_update_loop _]
    show wpAny _ A.in1 (pyNext (.ref I) >>= _) _ _ s
    obtain ⟨x, tk, hx⟩ := hstr items[i] (by simp)
    refine wpAny_bind (wpAny_pyNext_list_item hit hl (x := .str x tk) (by rw [Array.getElem?_eq_getElem hlt, hx]) fun h' hit' hs' => ?_)
    show wpAny _ A.in1 (holding [Value.str x tk] (setAdd S (.str x tk)) >>= _) _ _ _
    refine wpAny_bind (wpAny_holding ?_)
    unfold setAdd
    refine wpAny_holding ?_
    refine wpAny_bind ((PySem.strKind prog w).pyHash (k := x) (isStr_self x tk) ?_)
    have hS' : StrSet prog w h' S acc := hS.keeps fun o e => (hs'.2 S hSI).trans e
    refine setAddStr hS' (by lia) fun b h2 hs2 hS2 => ?_
    have hl' : h2.IsList l items := (hl.extBut hs'.extBut (Ne.symm hIl)).extBut hs2.extBut (Ne.symm hSl)
    have hit2 : h2.IsListIter I l (i + 1) := hit'.at fun o e => (hs2.2 I (Ne.symm hSI)).trans e
    have hdrop : items.toList.drop i = .str x tk :: items.toList.drop (i + 1) := by
      rw [List.drop_eq_getElem_cons (by simpa using hlt)]
      simp [hx]
    refine wpAny_pure ⟨plainId_quiet PyProof.Rows.F.plain_set_update_loop _, ih (i + 1) _ (addS acc x tk) (by lia) hlt hit2 hl' hS2 ?_ fun s'' hS'' hk'' h1 h2 h3 => ?_⟩
    · have := addV_len acc (.str x tk); simp only [addV] at this; lia
    · refine hR s'' (by rw [hdrop]; exact hS'') (fun b o hb hb' e => hk'' b o hb hb' ((hs2.2 b hb).trans ((hs'.2 b hb').trans e))) h1 h2 h3

theorem codeSetNew (a : Value) {Q₁ : Value → Shared → Prop}
    (h : Q₁ (.ref s.heap.objs.size) { s with heap := s.heap.push { cls := .type "set", dict := none, data := .set #[] 0 (.fresh 0 0 (!w.params.followText "set-order")) } }) :
    codeAny (model prog w) A (.call (.builtin "set.__new__") ⟨[.type "set", a], []⟩) (wants Q₁ E) s := by
  refine codeAny_of_tree ?_
  show wpAny _ A.in1 (do checkBuiltinCall "set.__new__" ⟨[.type "set", a], []⟩; again (.builtin "set.__new__" ⟨[.type "set", a], []⟩)) _ _ s
  refine wpAny_bind (wpAny_of_eq (PySem.F.newCall_set_1 a) (wpAny_pure ⟨plainId_quiet PySem.F.plain_set_new _, codeAny_builtin PySem.F.entry_set_new ?_⟩))
  rw [Around.under_plainId PySem.F.plain_set_new _]
  unfold Builtin.«set.__new__» Builtin.Frozenset.newClass
  have hsub := sub_set_self
  obtain ⟨hp, g, d, tk, os⟩ := s
  dsimp only
  wp_walk
  refine wpAny_askSetting (wpAny_pure ?_)
  dsimp only
  simp only [newObj]
  refine wpAny_bind (wpAny_alloc (wpAny_pure ?_))
  exact wpAny_pure h

set_option maxHeartbeats 3200000 in
theorem callSetStrs {l : Addr} {items : Array Value} {Q : Value → Shared → Prop}
    (hh : A.handled = none) (hl : s.heap.IsList l items) (hz : items.size < 900) (hstr : ∀ v ∈ items.toList, ∃ x tk, v = .str x tk)
    (h : ∀ (h' : Heap) (tk : Nat), StrSet prog w h' s.heap.objs.size (items.toList.foldl addV []) →
      (∀ b o, b < s.heap.objs.size → s.heap.get? b = some o → h'.get? b = some o) → Q (.ref s.heap.objs.size) { s with heap := h', toks := tk }) :
    wpAny (model prog w) A (call (.type "set") [.ref l]) Q E s := by
  obtain ⟨c, tl, hmro⟩ := PySem.F.called_set.mro
  have hmade := PySem.F.called_set.made
  have hsub := PySem.F.called_set.sub
  refine wpAny_call (codeAny_of_tree ?_)
  show wpAny _ _ (callAny (.type "set") _) _ _ _
  refine wpAny_pure ⟨Code.quiet_builtin _ (by decide +kernel), codeAny_builtin PySem.F.entry_type_call ?_⟩
  rw [Around.under_plain (weight_type_call_type "set" [.ref l] []) rfl]
  have h1 := PySem.F.called_set.notType
  have h2 := PySem.F.called_set.canCreate
  have hct := PySem.F.typeCall_set_1 (.ref l)
  repeat (any_goals (first | assumption | wp_step))
  refine codeAny_mono (codeSetNew (.ref l) (E := E) (Q₁ := fun obj s₁ => ∃ led : Bool, led = (!w.params.followText "set-order") ∧ obj = .ref s.heap.objs.size ∧ s₁ = { s with heap := s.heap.push { cls := .type "set", dict := none, data := .set #[] 0 (.fresh 0 0 led) } }) ⟨_, rfl, rfl, rfl⟩) fun r s₁ hr => ?_
  cases r with
  | error e => exact hr
  | ok fl =>
    cases fl with
    | ret obj =>
      obtain ⟨led, hled, rfl, rfl⟩ := hr
      have hS : (s.heap.push { cls := .type "set", dict := none, data := .set #[] 0 (.fresh 0 0 led) }).get? s.heap.objs.size = some { cls := .type "set", dict := none, data := .set #[] 0 (.fresh 0 0 led) } := Heap.get?_push_size _ rfl
      have hT : Shared.TypeIs { s with heap := s.heap.push { cls := .type "set", dict := none, data := .set #[] 0 (.fresh 0 0 led) } } (.ref s.heap.objs.size) "set" := ⟨_, hS, rfl⟩
      have hli := PySem.F.called_set.init.lookup
      have hbi := PySem.F.called_set.init.bind (.ref s.heap.objs.size)
      repeat (any_goals (first | assumption | wp_step))
      refine codeAny_mono (codeAny_call_builtin (R := wants (fun r s₂ => r = .none ∧ ∃ h' tk, s₂ = { s with heap := h', toks := tk } ∧
          StrSet prog w h' s.heap.objs.size (items.toList.foldl addV []) ∧
          (∀ b o, b < s.heap.objs.size → s.heap.get? b = some o → h'.get? b = some o)) E) PySem.F.called_set.init.plain PySem.F.entry_set_init (check_set_init_1 hT ?_)) fun r₂ s₂ hr₂ => ?_
      · obtain ⟨ol, hol, hcl, nl, hdl⟩ := hl
        obtain ⟨ocls, odict, odata, oslots⟩ := ol
        simp only at hcl hdl
        subst hcl; subst hdl
        have hol' : (s.heap.push { cls := .type "set", dict := none, data := .set #[] 0 (.fresh 0 0 led) }).get? l = some { cls := .type "list", dict := odict, data := .seq items nl, slots := oslots } := Heap.get?_push_of_some _ hol
        have hsls := PySem.F.sub_list_set
        have hslf := PySem.F.sub_list_frozenset
        have hne : (Value.type "list" == Value.type "dict") = false := by decide
        have hl1 : (s.heap.push { cls := .type "set", dict := none, data := .set #[] 0 (.fresh 0 0 led) }).IsList l items := ⟨_, hol', rfl, nl, rfl⟩
        unfold Builtin.«set.__init__» noKeywords Builtin.Frozenset.updateFrom
        generalize hPI : pyIter = PI
        wp_walk
        subst hPI
        refine wpAny_pyIter_list hl1 ?_
        refine wpAny_bind (wpAny_runValue ?_)
        have hlS : l < s.heap.objs.size := Heap.lt_size hol
        have hsz : (s.heap.push { cls := .type "set", dict := none, data := .set #[] 0 (.fresh 0 0 led) }).objs.size = s.heap.objs.size + 1 := Heap.size_push ..
        have hh3 : A.in1.in1.handled = none := by simp [hh]
        refine strSetLoop (l := l) hh3 ?_ (Nat.ne_of_gt hlS) ?_ hz hstr (items.size - 0) 0 _ [] (by lia) (Nat.zero_le _) ?_ ?_ ?_ (Nat.le_refl _) ?_
        · rw [hsz]; exact Nat.ne_of_lt (Nat.lt_succ_self _)
        · rw [hsz]; exact Nat.ne_of_gt (Nat.lt_succ_of_lt hlS)
        · exact ⟨_, Heap.get?_push_size _ rfl, rfl, rfl⟩
        · exact hl1.push _
        · exact ⟨#[], 0, _, Heap.get?_push_of_some _ hS, rfl, ⟨.inr rfl, hled⟩, fun e he => by simp at he, .refl _⟩
        · intro s' hS' hk e1 e2 e3
          obtain ⟨h', g', d', tk', os'⟩ := s'
          simp only at e1 e2 e3
          subst e1; subst e2; subst e3
          show wpAny _ _ _ _ _ _
          refine wpAny_pure ?_
          show wpAny _ _ (ret Value.none) _ _ _
          refine wpAny_pure ⟨rfl, h', tk', rfl, by simpa using hS', fun b o hb e => ?_⟩
          refine hk b o (Nat.ne_of_lt hb) ?_ (Heap.get?_push_of_some _ (Heap.get?_push_of_some _ e))
          rw [hsz]; exact Nat.ne_of_lt (Nat.lt_succ_of_lt hb)
      · cases r₂ with
        | error e => exact hr₂
        | ok fl₂ =>
          cases fl₂ with
          | ret r =>
            obtain ⟨rfl, h', tk, rfl, hS', hk'⟩ := hr₂
            repeat (any_goals (first | assumption | wp_step))
            exact h _ _ hS' hk'
          | _ => exact hr₂.elim
    | _ => exact hr.elim
end
end Mine
/- part MSrt -/
namespace Mine
open PySem PySem.W PySem.Calls PyProof.Rows PySem.SeqAt

theorem slot_setiter_next : Slot "set_iterator" "__next__" "set_iterator.__next__" :=
  .of (owner := "set_iterator") (n := "__next__") (by rw [typeLookup_type, builtinLookup_eq_fast]; kernel_rfl) (by decide +kernel) (by decide +kernel) (by decide +kernel)
    (by first | exact .inl (by decide +kernel) | exact .inr (by decide +kernel)) (by rw [isSubtype_type]; kernel_rfl)
theorem entry_setiter_next : entryFor table "set_iterator.__next__" = some Builtin.«set_iterator.__next__» := entryFor_of_tree (by kernel_rfl)
theorem args_setiter_next (a : Value) : argsOk "set_iterator.__next__" ⟨[a], []⟩ := by unfold argsOk; kernel_rfl
theorem entry_set_iter : entryFor table "set.__iter__" = some Builtin.«frozenset.__iter__» :=
  entryFor_alias (id' := "frozenset.__iter__") (by kernel_rfl) rfl (by decide +kernel) (by kernel_rfl)

theorem perm_eraseIdx {α : Type} : ∀ {l : List α} {i : Nat} (h : i < l.length), (l[i] :: l.eraseIdx i).Perm l
  | a :: r, 0, _ => .refl _
  | a :: r, i + 1, h => by
    have h' : i < r.length := by simpa using h
    show ((r[i] : α) :: a :: r.eraseIdx i).Perm (a :: r)
    exact (List.Perm.swap _ _ _).trans ((perm_eraseIdx h').cons _)
theorem pick_go_perm {α : Type} (next : Nat → Nat) : ∀ (fuel k : Nat) (left : List α) (out : Array α), left.length ≤ fuel → (pickOrder.go next fuel k left out).toList.Perm (out.toList ++ left)
  | 0, k, left, out, h => by
    have : left = [] := List.eq_nil_of_length_eq_zero (Nat.le_zero.mp h)
    subst this
    simp [pickOrder.go]
  | fuel + 1, k, left, out, h => by
    unfold pickOrder.go
    cases hx : left[next k % left.length]? with
    | none =>
      dsimp only
      have : left = [] := by
        cases left with
        | nil => rfl
        | cons a r =>
          have := List.getElem?_eq_none_iff.mp hx
          have h2 := Nat.mod_lt (next k) (show 0 < (a :: r).length by simp)
          lia
      subst this; simp
    | some x =>
      dsimp only
      obtain ⟨hlt, hx'⟩ := List.getElem?_eq_some_iff.mp hx
      have ih := pick_go_perm next fuel (k + 1) (left.eraseIdx (next k % left.length)) (out.push x) (by rw [List.length_eraseIdx_of_lt hlt]; lia)
      refine ih.trans ?_
      rw [Array.toList_push, List.append_assoc]
      refine List.Perm.append_left _ ?_
      have hp := (perm_eraseIdx hlt).symm
      rw [hx'] at hp
      exact hp.symm
theorem pickOrder_perm {α : Type} (next : Nat → Nat) (xs : Array α) : (pickOrder next xs).toList.Perm xs.toList := by
  unfold pickOrder
  exact (pick_go_perm next xs.size 0 xs.toList #[] (by simp)).trans (by simp)

section
variable {prog : Program} {w : World} {A : Around} {E : Value → Shared → Prop} {s : Shared}

theorem wpAny_choose {src : Source} {n : Nat} {Q : Nat → Shared → Prop} (hn : n ≠ 0) (h : ∀ i, i < n → Q i { s with drawn := s.drawn.bump src }) : wpAny (model prog w) A (choose src n) Q E s :=
  fun Γ p _ => ⟨hn, h _ (Nat.mod_lt _ (Nat.pos_of_ne_zero hn))⟩

theorem drawOrder_perm {α : Type} : ∀ (n : Nat) (xs : List α) (s : Shared) (Q : List α → Shared → Prop), xs.length ≤ n → (∀ ys d, ys.Perm xs → Q ys { s with drawn := d }) → wpAny (model prog w) A (drawOrder n xs) Q E s
  | 0, xs, s, Q, hn, h => by
    have : xs = [] := List.eq_nil_of_length_eq_zero (Nat.le_zero.mp hn)
    subst this
    exact wpAny_pure (h [] s.drawn (.refl _))
  | n + 1, [], s, Q, hn, h => wpAny_pure (h [] s.drawn (.refl _))
  | n + 1, x :: xs, s, Q, hn, h => by
    unfold drawOrder
    refine wpAny_bind (wpAny_choose (by simp) fun i hi => ?_)
    have hi' : i < (x :: xs).length := hi
    simp only [List.getElem?_eq_getElem hi']
    refine wpAny_bind (drawOrder_perm n _ _ _ (by rw [List.length_eraseIdx_of_lt hi']; simp at hn ⊢; lia) fun ys d hp => ?_)
    exact wpAny_pure (h _ _ ((List.Perm.cons _ hp).trans (perm_eraseIdx hi')))
end

abbrev setItObj (first : Value) (i : Nat) (S : Addr) (size n : Nat) : Obj := { cls := .type "set_iterator", data := .fields #[first, rawInt i, .ref S, rawInt size, rawInt n] }

/-- what an iterator of a set holds of its order -/
inductive SetHow (w : World) (h : Heap) (S I : Addr) (es : Array (Int × Value)) (n : Nat) (t : SetTable) (ord : List Value) (i : Nat) (first : Value) : Prop
  | text (k : Nat) (e : first = rawInt k) (by_ : w.params.followText "set-order" = true) (ho : ord = (pickOrder (w.params.setOrder S n) es).toList.map (·.2))
  | drawn (T : Addr) (ps : List Nat) (e : first = .ref T) (by_ : w.params.followText "set-order" = false) (hTI : T ≠ I) (hT : h.get? T = some (tupObj (ps.map fun p : Nat => rawInt p))) (hps : ∀ p ∈ ps, p < es.size) (ho : ∀ i : Nat, ord[i]? = (ps[i]?).bind fun p : Nat => (es[p]?).map fun e : Int × Value => e.2)
  | led (k : Nat) (e : first = rawInt k) (by_ : w.params.followText "set-order" = false) (hl : t.led = true) (hle : es.size ≤ 1) (ho : ord = es.toList.map (·.2)) (hk : if i = 0 then k = 0 else ∃ j, t.place[0]? = some j ∧ j < k)
/-- an iterator of a set at its place -/
inductive SetIt (w : World) (h : Heap) (S I : Addr) (es : Array (Int × Value)) (n : Nat) (t : SetTable) (ord : List Value) (i : Nat) : Prop
  | mk (first : Value) (hS : h.get? S = some (setObj es n t)) (hf : t.fits es.size = true) (hSI : S ≠ I) (hI : h.get? I = some (setItObj first i S es.size n)) (how : SetHow w h S I es n t ord i first)

section
variable {prog : Program} {w : World} {A : Around} {E : Value → Shared → Prop} {s : Shared} {S I : Addr} {es : Array (Int × Value)} {n : Nat} {t : SetTable} {ord : List Value}

theorem below_zero {xs : Array Nat} : SetTable.below xs 0 = 0 := by
  unfold SetTable.below
  have : ∀ fuel hi, SetTable.below.go xs 0 fuel 0 hi = 0 := by
    intro fuel
    induction fuel with
    | zero => intro hi; rfl
    | succ f ih =>
      intro hi
      unfold SetTable.below.go
      split
      · dsimp only
        rw [if_neg (Nat.not_lt_zero _)]
        exact ih _
      · rfl
  exact this _ _
theorem below_one {xs : Array Nat} {j k : Nat} (hs : xs.size = 1) (hj : xs[0]? = some j) (h : j < k) : SetTable.below xs k = 1 := by
  unfold SetTable.below
  rw [hs]
  unfold SetTable.below.go
  have : xs.getD 0 k = j := by simp [Array.getD_eq_getD_getElem?, hj]
  simp only [Nat.zero_lt_one, if_true, Nat.zero_add, Nat.reduceDiv, this, h, SetTable.below.go]

theorem wpAny_setsByText {Q : Bool → Shared → Prop} (h : Q (w.params.followText "set-order") s) : wpAny (model prog w) A setsByText Q E s := by
  unfold setsByText
  exact wpAny_bind (wpAny_askSetting (wpAny_pure h))
/-- two fields of an iterator are set -/
theorem setIt_store {first x : Value} {i size n : Nat} {y : Value} {Q : Unit → Shared → Prop} (hI : s.heap.get? I = some (setItObj first i S size n))
    (h : ∀ h', h'.get? I = some { cls := .type "set_iterator", data := .fields #[x, y, .ref S, rawInt size, rawInt n] } → Heap.SameBut I s.heap h' → Q () { s with heap := h' }) :
    wpAny (model prog w) A (setField (.ref I) 0 x >>= fun _ => setField (.ref I) 1 y) Q E s := by
  refine wpAny_bind (wpAny_setField hI rfl (by simp) ?_)
  have e1 : (s.heap.update I (Obj.mapFields (·.setIfInBounds 0 x))).get? I = some { cls := .type "set_iterator", data := .fields #[x, rawInt i, .ref S, rawInt size, rawInt n] } := Heap.get?_update_self _ hI rfl
  refine wpAny_setField e1 rfl (by simp) (h _ ?_ ((Heap.SameBut.update ..).trans (Heap.SameBut.update ..)))
  exact Heap.get?_update_self _ e1 rfl
theorem setIt_store1 {first : Value} {i size n : Nat} {y : Value} {Q : Unit → Shared → Prop} (hI : s.heap.get? I = some (setItObj first i S size n))
    (h : ∀ h', h'.get? I = some { cls := .type "set_iterator", data := .fields #[first, y, .ref S, rawInt size, rawInt n] } → Heap.SameBut I s.heap h' → Q () { s with heap := h' }) :
    wpAny (model prog w) A (setField (.ref I) 1 y) Q E s :=
  wpAny_setField hI rfl (by simp) (h _ (Heap.get?_update_self _ hI rfl) (Heap.SameBut.update ..))
theorem setIt_entries {Q' : Array (Int × Value) → Shared → Prop} (hS : s.heap.get? S = some (setObj es n t)) (hf : t.fits es.size = true) (h : Q' es s) : wpAny (model prog w) A (setEntries S) Q' E s := by
  unfold setEntries
  exact wpAny_bind (wpAny_setState_of hS rfl hf (wpAny_pure h))
theorem setIt_size {α : Type} {p q : Sem α} {Q : α → Shared → Prop} {n : Nat} (h : wpAny (model prog w) A q Q E s) : wpAny (model prog w) A (if ((((n : Nat) : Int) != ((n : Nat) : Int)) = true) then p else q) Q E s := by
  rw [if_neg (by simp)]; exact h
/-- what the last step leaves -/
theorem setIt_fin {first' : Value} {i : Nat} {h h' : Heap} (hS : h.get? S = some (setObj es n t)) (hf : t.fits es.size = true) (hSI : S ≠ I) (hg : h'.get? I = some { cls := .type "set_iterator", data := .fields #[first', rawInt (i + 1 : Nat), .ref S, rawInt es.size, rawInt n] }) (hs : Heap.SameBut I h h')
    (hc : SetHow w h S I es n t ord (i + 1) first') : SetIt w h' S I es n t ord (i + 1) := by
  refine ⟨first', (hs.2 S hSI).trans hS, hf, hSI, hg, ?_⟩
  cases hc with
  | text k e b o => exact .text k e b o
  | drawn T ps e b c d f g => exact .drawn T ps e b c ((hs.2 T c).trans d) f g
  | led k e b c d f g => exact .led k e b c d f g
theorem setNext_text {k i : Nat} {Q : Option (Value × Nat) → Shared → Prop} (hS : s.heap.get? S = some (setObj es n t)) (hf : t.fits es.size = true) (hby : w.params.followText "set-order" = true) (h : Q ((pickOrder (w.params.setOrder S n) es)[i]?.map fun e => (e.2, k)) s) : wpAny (model prog w) A (setNext S k i n) Q E s := by
  unfold setNext
  refine wpAny_bind (wpAny_setState_of hS rfl hf (wpAny_bind (wpAny_setsByText ?_)))
  rw [hby, if_pos rfl, if_neg (by simp)]
  unfold setWalk
  refine wpAny_bind (wpAny_bind (wpAny_setState_of hS rfl hf (wpAny_bind (wpAny_setsByText ?_))))
  rw [hby, if_pos rfl]
  exact wpAny_bind (wpAny_askSetting (wpAny_pure (wpAny_pure h)))
theorem setNext_led {k i : Nat} {r : Option (Value × Nat)} {Q : Option (Value × Nat) → Shared → Prop} (hS : s.heap.get? S = some (setObj es n t)) (hf : t.fits es.size = true) (hby : w.params.followText "set-order" = false) (hled : t.led = true) (hle : es.size ≤ 1)
    (hr : (match es[SetTable.below t.place k]?, t.place[SetTable.below t.place k]? with
      | some (_, x), some j => some (x, j + 1)
      | _, _ => none) = r) (h : Q r s) : wpAny (model prog w) A (setNext S k i n) Q E s := by
  unfold setNext
  refine wpAny_bind (wpAny_setState_of hS rfl hf (wpAny_bind (wpAny_setsByText ?_)))
  rw [hby, if_neg (by decide)]
  show wpAny _ _ (if (!t.plain && decide (es.size > 1)) = true then _ else _) _ _ s
  rw [if_neg (by simp; lia)]
  show wpAny _ _ ((if (!t.led && !es.isEmpty) = true then unsupported "set:maker-not-led" else pure PUnit.unit) >>= fun _ => _) _ _ s
  rw [hled, if_neg (by simp)]
  refine wpAny_bind (wpAny_pure (wpAny_pure ?_))
  show Q (match es[SetTable.below t.place k]?, t.place[SetTable.below t.place k]? with
      | some (_, x), some j => some (x, j + 1)
      | _, _ => none) s
  rw [hr]; exact h
theorem setIt_some {i k slot : Nat} {x : Value} {Q : Option Value → Shared → Prop} (hS : s.heap.get? S = some (setObj es n t)) (hf : t.fits es.size = true) (hI : s.heap.get? I = some (setItObj (rawInt k) i S es.size n))
    (hN : ∀ (E : Value → Shared → Prop) (Q' : Option (Value × Nat) → Shared → Prop), Q' (some (x, slot)) s → wpAny (model prog w) A.in1 (setNext S k i n) Q' E s)
    (hQ : ∀ h', h'.get? I = some { cls := .type "set_iterator", data := .fields #[rawInt slot, rawInt (i + 1 : Nat), .ref S, rawInt es.size, rawInt n] } → Heap.SameBut I s.heap h' → Q (some x) { s with heap := h' }) : wpAny (model prog w) A (pyNext (.ref I)) Q E s := by
  unfold pyNext
  refine wpAny_bind (wpAny_attempt (wpAny_callSpecial?_slot (name := Str.ofString "__next__") ⟨_, hI, rfl⟩ slot_setiter_next
    (wpAny_call_entry slot_setiter_next ⟨_, hI, rfl⟩ entry_setiter_next ?_ (args_setiter_next _))))
  show wpAny _ _ (fieldsOf (.ref I) >>= _) _ _ s
  refine wpAny_bind (wpAny_fieldsOf hI rfl ?_)
  show wpAny _ _ (setEntries S >>= _) _ _ s
  refine wpAny_bind (setIt_entries hS hf (setIt_size ?_))
  refine wpAny_bind (hN _ _ ?_)
  show wpAny _ _ (setField (.ref I) 0 (rawInt slot) >>= fun _ => setField (.ref I) 1 (rawInt ((i : Int) + 1)) >>= fun _ => ret x) _ _ s
  rw [← bind_assoc]
  exact wpAny_bind (setIt_store hI fun h' hg hs' => wpAny_pure ⟨_, rfl, wpAny_pure (hQ h' hg hs')⟩)
theorem setIt_next {i : Nat} {v : Value} {Q : Option Value → Shared → Prop} (h : SetIt w s.heap S I es n t ord i) (hv : ord[i]? = some v)
    (hQ : ∀ h', SetIt w h' S I es n t ord (i + 1) → Heap.SameBut I s.heap h' → Q (some v) { s with heap := h' }) : wpAny (model prog w) A (pyNext (.ref I)) Q E s := by
  obtain ⟨first, hS, hf, hSI, hI, how⟩ := h
  cases how with
  | text k e hby hord =>
    subst e
    rw [hord, List.getElem?_map, Array.getElem?_toList] at hv
    obtain ⟨e, he, rfl⟩ := Option.map_eq_some_iff.mp hv
    exact setIt_some (slot := k) hS hf hI (fun _ _ q => setNext_text hS hf hby (by rw [he]; exact q)) fun h' hg hs => hQ h' (setIt_fin hS hf hSI hg hs (.text k rfl hby hord)) hs
  | drawn T ps e hby hTI hT hps hord =>
    subst e
    have hv' := hv
    rw [hord i] at hv'
    obtain ⟨p, hp, hv'⟩ := Option.bind_eq_some_iff.mp hv'
    obtain ⟨e, he, rfl⟩ := Option.map_eq_some_iff.mp hv'
    have hp' : (ps.map fun p : Nat => rawInt p).toArray[(i : Int).toNat]? = some (rawInt p) := by simp [hp]
    unfold pyNext
    refine wpAny_bind (wpAny_attempt (wpAny_callSpecial?_slot (name := Str.ofString "__next__") ⟨_, hI, rfl⟩ slot_setiter_next
      (wpAny_call_entry slot_setiter_next ⟨_, hI, rfl⟩ entry_setiter_next ?_ (args_setiter_next _))))
    show wpAny _ _ (fieldsOf (.ref I) >>= _) _ _ s
    refine wpAny_bind (wpAny_fieldsOf hI rfl ?_)
    show wpAny _ _ (setEntries S >>= _) _ _ s
    refine wpAny_bind (setIt_entries hS hf (setIt_size ?_))
    show wpAny _ _ (seqItems? (.ref T) >>= _) _ _ s
    refine wpAny_bind (wpAny_seqItems hT rfl ?_)
    dsimp only
    rw [hp']
    show wpAny _ _ (setNextDrawn S (p : Int).toNat (n : Int).toNat >>= _) _ _ s
    unfold setNextDrawn
    refine wpAny_bind (wpAny_bind (wpAny_setState_of hS rfl hf ?_))
    dsimp only
    rw [if_neg (by simp)]
    simp only [Int.toNat_natCast]
    rw [he]
    refine wpAny_pure ?_
    exact wpAny_bind (setIt_store1 hI fun h' hg hs' => wpAny_pure ⟨_, rfl, wpAny_pure (hQ _ (setIt_fin hS hf hSI hg hs' (.drawn T ps rfl hby hTI hT hps hord)) hs')⟩)
  | led k e hby hled hle hord hk =>
    subst e
    rw [hord, List.getElem?_map, Array.getElem?_toList] at hv
    obtain ⟨e, he, rfl⟩ := Option.map_eq_some_iff.mp hv
    obtain ⟨rfl, h1⟩ : i = 0 ∧ es.size = 1 := by
      have := (Array.getElem?_eq_some_iff.mp he).1
      lia
    rw [if_pos rfl] at hk
    subst hk
    obtain ⟨j, hj⟩ : ∃ j, t.place[0]? = some j := by
      have hps : t.place.size = 1 := by
        unfold SetTable.fits at hf
        simp only [Bool.and_eq_true, beq_iff_eq] at hf
        rw [hf.1, h1]
      exact ⟨t.place[0], by simp [hps]⟩
    exact setIt_some (slot := j + 1) hS hf hI (fun _ _ q => setNext_led hS hf hby hled hle (by rw [below_zero, he, hj]) q) fun h' hg hs => hQ h' (setIt_fin hS hf hSI hg hs (.led (j + 1) rfl hby hled hle hord (by rw [if_neg (Nat.succ_ne_zero _)]; exact ⟨j, hj, Nat.lt_succ_self _⟩))) hs

/-- the end of it all -/
inductive StopAt (s : Shared) (I : Addr) (e : Value) (s'' : Shared) : Prop
  | mk (a : Addr) (h' : Heap) (he : e = .ref a) (hs : s'' = { s with heap := h' }) (ht : s''.TypeIs (.ref a) "StopIteration") (hx : Heap.ExtBut I s.heap h')
theorem setIt_stop {α : Type} {s' : Shared} {Q' : α → Shared → Prop} (hh : A.handled = none) (h1 : s'.gens = s.gens) (h2 : s'.drawn = s.drawn) (h3 : s'.os = s.os) (h4 : s'.toks = s.toks) (hx : Heap.ExtBut I s.heap s'.heap) :
    wpAny (model prog w) A.in1 (newExc (.type "StopIteration") [] >>= fun x => raiseNew (α := α) x) Q' (StopAt s I) s' := by
  refine wpAny_bind ?_
  simp only [newExc, newTuple]
  refine wpAny_bind (wpAny_newObj_type ?_ (by size_fits))
  refine wpAny_bind (m := firstArgMember _ _) (wpAny_of_eq (a := Value.none) (by first | rfl | (simp only [firstArgMember]; rfl)) ?_)
  refine wpAny_newObj_type ?_ (by size_fits)
  simp only [raiseNew]
  refine wpAny_bind (wpAny_handled ?_)
  rw [show A.in1.handled = none from hh]
  refine wpAny_bind (wpAny_pure (wpAny_throw ?_))
  obtain ⟨hp, g', d', t', o'⟩ := s'
  dsimp only at h1 h2 h3 h4
  subst h1; subst h2; subst h3; subst h4
  exact ⟨_, _, rfl, rfl, ⟨_, Heap.get?_push_size _ rfl, rfl⟩, (hx.push _).push _⟩
theorem setIt_none {i k : Nat} {Q : Option Value → Shared → Prop} (hh : A.handled = none) (hS : s.heap.get? S = some (setObj es n t)) (hf : t.fits es.size = true) (hI : s.heap.get? I = some (setItObj (rawInt k) i S es.size n))
    (hN : ∀ (E : Value → Shared → Prop) (Q' : Option (Value × Nat) → Shared → Prop), Q' none s → wpAny (model prog w) A.in1 (setNext S k i n) Q' E s)
    (hQ : ∀ h', Heap.ExtBut I s.heap h' → Q none { s with heap := h' }) : wpAny (model prog w) A (pyNext (.ref I)) Q E s := by
  unfold pyNext
  refine wpAny_bind (wpAny_attempt (wpAny_callSpecial?_slot (name := Str.ofString "__next__") ⟨_, hI, rfl⟩ slot_setiter_next
    (wpAny_call_entry slot_setiter_next ⟨_, hI, rfl⟩ entry_setiter_next ?_ (args_setiter_next _))))
  show wpAny _ _ (fieldsOf (.ref I) >>= _) _ _ s
  refine wpAny_bind (wpAny_fieldsOf hI rfl ?_)
  show wpAny _ _ (setEntries S >>= _) _ _ s
  refine wpAny_bind (setIt_entries hS hf (setIt_size ?_))
  refine wpAny_bind (hN _ _ ?_)
  show wpAny _ _ (setField (.ref I) 2 .none >>= fun _ => newExc (.type "StopIteration") [] >>= fun x => raiseNew x) _ _ s
  refine wpAny_bind (wpAny_setField hI rfl (by simp) (wpAny_mono (setIt_stop (s := s) (I := I) (Q' := fun _ _ => False) hh rfl rfl rfl rfl (Heap.SameBut.update ..).extBut) (fun _ _ f => f.elim) ?_))
  rintro e s'' ⟨a, h', rfl, rfl, ht, hx⟩
  exact wpAny_bind (wpAny_isInstance (T := "StopIteration") (b := true) ht isSubtype_stop (wpAny_pure (hQ h' hx)))
theorem setIt_end {i : Nat} {Q : Option Value → Shared → Prop} (hh : A.handled = none) (h : SetIt w s.heap S I es n t ord i) (hv : ord.length ≤ i) (hlen : ord.length = es.size)
    (hQ : ∀ h', Heap.ExtBut I s.heap h' → Q none { s with heap := h' }) : wpAny (model prog w) A (pyNext (.ref I)) Q E s := by
  have hv' : ord[i]? = none := List.getElem?_eq_none hv
  obtain ⟨first, hS, hf, hSI, hI, how⟩ := h
  cases how with
  | text k e hby hord =>
    subst e
    have hn : (pickOrder (w.params.setOrder S n) es)[i]? = none := by
      rw [hord, List.getElem?_map, Array.getElem?_toList] at hv'
      simpa using hv'
    exact setIt_none hh hS hf hI (fun _ _ q => setNext_text hS hf hby (by rw [hn]; exact q)) hQ
  | drawn T ps e hby hTI hT hps hord =>
    subst e
    have hp : ps[i]? = none := by
      cases q : ps[i]? with
      | none => rfl
      | some p =>
        have h2 := hord i
        rw [hv', q] at h2
        have hlt := hps p (List.mem_of_getElem? q)
        simp only [Option.bind_some, Array.getElem?_eq_getElem hlt, Option.map_some] at h2
        cases h2
    have hp' : (ps.map fun p : Nat => rawInt p).toArray[(i : Int).toNat]? = none := by simpa using hp
    have e1 : (s.heap.update I (Obj.mapFields (·.setIfInBounds 0 (rawInt 0)))).get? I = some { cls := .type "set_iterator", data := .fields #[rawInt 0, rawInt i, .ref S, rawInt es.size, rawInt n] } := Heap.get?_update_self _ hI rfl
    unfold pyNext
    refine wpAny_bind (wpAny_attempt (wpAny_callSpecial?_slot (name := Str.ofString "__next__") ⟨_, hI, rfl⟩ slot_setiter_next
      (wpAny_call_entry slot_setiter_next ⟨_, hI, rfl⟩ entry_setiter_next ?_ (args_setiter_next _))))
    show wpAny _ _ (fieldsOf (.ref I) >>= _) _ _ s
    refine wpAny_bind (wpAny_fieldsOf hI rfl ?_)
    show wpAny _ _ (setEntries S >>= _) _ _ s
    refine wpAny_bind (setIt_entries hS hf (setIt_size ?_))
    show wpAny _ _ (seqItems? (.ref T) >>= _) _ _ s
    refine wpAny_bind (wpAny_seqItems hT rfl ?_)
    dsimp only
    rw [hp']
    show wpAny _ _ (setField (.ref I) 0 (rawInt 0) >>= fun _ => setField (.ref I) 2 .none >>= fun _ => newExc (.type "StopIteration") [] >>= fun x => raiseNew x) _ _ s
    refine wpAny_bind (wpAny_setField hI rfl (by simp) (wpAny_bind (wpAny_setField e1 rfl (by simp) (wpAny_mono (setIt_stop (s := s) (I := I) (Q' := fun _ _ => False) hh rfl rfl rfl rfl ((Heap.SameBut.update ..).trans (Heap.SameBut.update ..)).extBut) (fun _ _ f => f.elim) ?_))))
    rintro e s'' ⟨a, h', rfl, rfl, ht, hx⟩
    exact wpAny_bind (wpAny_isInstance (T := "StopIteration") (b := true) ht isSubtype_stop (wpAny_pure (hQ h' hx)))
  | led k e hby hled hle hord hk =>
    subst e
    have hb : es[SetTable.below t.place k]? = none := by
      by_cases hi : i = 0
      · subst hi
        have : es.size = 0 := by rw [← hlen]; lia
        exact Array.getElem?_eq_none (by lia)
      · rw [if_neg hi] at hk
        obtain ⟨j, hj, hjk⟩ := hk
        have h1 := (Array.getElem?_eq_some_iff.mp hj).1
        have hps : t.place.size = es.size := by
          unfold SetTable.fits at hf
          simp only [Bool.and_eq_true, beq_iff_eq] at hf
          exact hf.1
        rw [below_one (by lia) hj hjk]
        exact Array.getElem?_eq_none (by lia)
    exact setIt_none hh hS hf hI (fun _ _ q => setNext_led hS hf hby hled hle (by rw [hb]) q) hQ

theorem filterMap_get {es : Array (Int × Value)} : ∀ {ps : List Nat}, (∀ p ∈ ps, p < es.size) → ∀ i : Nat, (ps.filterMap fun p => (es[p]?).map fun e : Int × Value => e.2)[i]? = (ps[i]?).bind fun p : Nat => (es[p]?).map fun e : Int × Value => e.2
  | [], _, _ => rfl
  | p :: r, h, i => by
    have hp := h p (.head _)
    have e1 : (es[p]?).map (fun e : Int × Value => e.2) = some es[p].2 := by rw [Array.getElem?_eq_getElem hp]; rfl
    rw [List.filterMap_cons, e1]
    cases i with
    | zero => simp [e1]
    | succ i => simpa using filterMap_get (fun q hq => h q (.tail _ hq)) i
theorem range_filterMap (es : Array (Int × Value)) : ((List.range es.size).filterMap fun p => (es[p]?).map fun e : Int × Value => e.2) = es.toList.map (·.2) := by
  apply List.ext_getElem?
  intro i
  have e : es.toList[i]? = es[i]? := Array.getElem?_toList
  rw [filterMap_get (fun p hp => List.mem_range.mp hp) i, List.getElem?_map, e]
  by_cases hi : i < es.size
  · rw [List.getElem?_range hi]; rfl
  · rw [List.getElem?_eq_none (l := List.range es.size) (by rw [List.length_range]; lia), Array.getElem?_eq_none (by lia)]; rfl
theorem setIt_iter {Q : Value → Shared → Prop} (hS : s.heap.get? S = some (setObj es n t)) (hf : t.fits es.size = true) (hpl : t.plain = false ∨ es.size ≤ 1) (hled : t.led = !w.params.followText "set-order") (hz : es.size ≤ sizeLine)
    (hQ : ∀ I ord (h' : Heap) d, SetIt w h' S I es n t ord 0 → ord.Perm (es.toList.map (·.2)) → s.heap.objs.size ≤ I → (∀ b o, s.heap.get? b = some o → h'.get? b = some o) → Q (.ref I) { s with heap := h', drawn := d }) :
    wpAny (model prog w) A (pyIter (.ref S)) Q E s := by
  have hT : s.TypeIs (.ref S) "set" := ⟨_, hS, rfl⟩
  have hlt : S < s.heap.objs.size := Heap.lt_size hS
  refine wpAny_pyIter_slot hT PySem.F.slot_set_iter (wpAny_call_entry PySem.F.slot_set_iter hT entry_set_iter ?_ (PySem.F.args_set_iter_1 _))
  have step : ∀ (s₁ : Shared), s₁.heap.get? S = some (setObj es n t) → ∀ (first : Value) (Q' : Fin → Shared → Prop) (E' : Value → Shared → Prop),
      Q' (.done (.ret (.ref s₁.heap.objs.size))) { s₁ with heap := s₁.heap.push (setItObj first 0 S es.size n) } →
      wpAny (model prog w) A.in1 (do let ep ← setEpoch S; let x ← newFields "set_iterator" [first, rawInt 0, .ref S, rawInt es.size, rawInt ep]; ret x) Q' E' s₁ := by
    intro s₁ hS₁ first Q' E' hq
    unfold setEpoch
    refine wpAny_bind (wpAny_bind (wpAny_setState_of hS₁ rfl hf (wpAny_pure ?_)))
    exact wpAny_bind (wpAny_newObj_type (wpAny_pure hq))
  show wpAny _ _ (Builtin.Frozenset.sizeOf S >>= _) _ _ s
  unfold Builtin.Frozenset.sizeOf setEntries
  refine wpAny_bind (wpAny_bind (wpAny_bind (wpAny_setState_of hS rfl hf (wpAny_pure (wpAny_pure ?_)))))
  show wpAny _ _ (setDrawn S >>= _) _ _ s
  unfold setDrawn
  refine wpAny_bind (wpAny_bind (wpAny_setState_of hS rfl hf ?_))
  dsimp only
  refine wpAny_bind (wpAny_setsByText (wpAny_pure ?_))
  show wpAny _ _ (if (!w.params.followText "set-order" && (!t.plain && decide (es.size > 1))) = true then (do
      let l ← drawOrder es.size (List.range es.size)
      let first ← newTuple (l.map fun (i : Nat) => rawInt i)
      let ep ← setEpoch S
      let x ← newFields "set_iterator" [first, rawInt 0, .ref S, rawInt es.size, rawInt ep]
      ret x) else (do
      let first ← pure (rawInt 0)
      let ep ← setEpoch S
      let x ← newFields "set_iterator" [first, rawInt 0, .ref S, rawInt es.size, rawInt ep]
      ret x)) _ _ s
  cases hby : w.params.followText "set-order" with
  | true =>
    rw [if_neg (by simp)]
    refine wpAny_bind (wpAny_pure (step s hS _ _ _ ⟨_, rfl, "set_iterator", _, ⟨_, Heap.get?_push_size _ rfl, rfl⟩, slot_setiter_next.lookup, ?_⟩))
    exact hQ _ _ _ s.drawn ⟨_, Heap.get?_push_of_some _ hS, hf, Nat.ne_of_lt hlt, Heap.get?_push_size _ rfl, .text 0 rfl hby rfl⟩ ((pickOrder_perm _ _).map _) (Nat.le_refl _) fun b o e => Heap.get?_push_of_some _ e
  | false =>
    rw [hby] at hled
    by_cases hd : es.size ≤ 1
    · rw [if_neg (by simp; lia)]
      refine wpAny_bind (wpAny_pure (step s hS _ _ _ ⟨_, rfl, "set_iterator", _, ⟨_, Heap.get?_push_size _ rfl, rfl⟩, slot_setiter_next.lookup, ?_⟩))
      exact hQ _ _ _ s.drawn ⟨_, Heap.get?_push_of_some _ hS, hf, Nat.ne_of_lt hlt, Heap.get?_push_size _ rfl, .led 0 rfl hby hled hd rfl (by rw [if_pos rfl])⟩ (.refl _) (Nat.le_refl _) fun b o e => Heap.get?_push_of_some _ e
    · have hp : t.plain = false := hpl.resolve_right hd
      rw [if_pos (by rw [hp]; simp; lia)]
      refine wpAny_bind (drawOrder_perm es.size (List.range es.size) s _ (by simp) fun ps d hperm => ?_)
      have hps : ∀ p ∈ ps, p < es.size := fun p hp => List.mem_range.mp (hperm.mem_iff.mp hp)
      have hlen : ps.length = es.size := by rw [hperm.length_eq, List.length_range]
      refine wpAny_bind (wpAny_newObj_type ?_ (by show (ps.map fun i : Nat => rawInt i).toArray.size ≤ sizeLine; rw [List.size_toArray, List.length_map, hlen]; exact hz))
      refine step { s with drawn := d, heap := s.heap.push (tupObj (ps.map fun i : Nat => rawInt i)) } (Heap.get?_push_of_some _ hS) _ _ _ ⟨_, rfl, "set_iterator", _, ⟨_, Heap.get?_push_size _ rfl, rfl⟩, slot_setiter_next.lookup, ?_⟩
      have hsz : (s.heap.push (tupObj (ps.map fun i : Nat => rawInt i))).objs.size = s.heap.objs.size + 1 := Heap.size_push ..
      refine hQ _ (ps.filterMap fun p => (es[p]?).map fun e : Int × Value => e.2) _ d ⟨_, Heap.get?_push_of_some _ (Heap.get?_push_of_some _ hS), hf, ?_, Heap.get?_push_size _ rfl, .drawn _ ps rfl hby ?_ (Heap.get?_push_of_some _ (Heap.get?_push_size _ rfl)) hps ?_⟩ ?_ ?_ fun b o e => Heap.get?_push_of_some _ (Heap.get?_push_of_some _ e)
      · rw [hsz]; exact Nat.ne_of_lt (Nat.lt_succ_of_lt hlt)
      · rw [hsz]; exact Nat.ne_of_lt (Nat.lt_succ_self _)
      · exact fun i => filterMap_get hps i
      · rw [← range_filterMap es]
        exact hperm.filterMap _
      · rw [hsz]; exact Nat.le_succ _

theorem SetIt.frame {h h' : Heap} {D : Addr} {xs : List Value} {c i : Nat} (x : SetIt w h S I es n t ord i) (hD : h.get? D = some (lstObj xs c)) (k : ∀ b o, b ≠ D → h.get? b = some o → h'.get? b = some o) : SetIt w h' S I es n t ord i := by
  obtain ⟨first, a, b, c', d, e⟩ := x
  refine ⟨first, k _ _ (fun q => ?_) a, b, c', k _ _ (fun q => ?_) d, ?_⟩
  · rw [q, hD] at a; simp at a
  · rw [q, hD] at d; simp at d
  · cases e with
    | text k e b o => exact .text k e b o
    | drawn T ps e2 e1 e3 e4 e5 e6 => exact .drawn T ps e2 e1 e3 (k _ _ (fun q => by rw [q, hD] at e4; simp at e4) e4) e5 e6
    | led k e b c d f g => exact .led k e b c d f g

theorem extendSet {R : Result → Shared → Prop} {D : Addr} {res : Value} (hh : A.handled = none) (hlen : ord.length = es.size) (hz : es.size ≤ 1000) :
    ∀ (k i : Nat) (s : Shared) (acc : List Value) (c : Nat), ord.length - i = k → i ≤ ord.length → SetIt w s.heap S I es n t ord i → s.heap.get? D = some (lstObj acc c) → acc.length ≤ i →
      (∀ h' c', h'.get? D = some (lstObj (acc ++ ord.drop i) c') → (∀ b o, b ≠ D → b ≠ I → s.heap.get? b = some o → h'.get? b = some o) → R (.ok (.ret res)) { s with heap := h' }) →
      codeAny (model prog w) A (.builtin "list.extend.loop" ⟨[.ref D, .ref I, res], []⟩) R s := by
  intro k
  induction k with
  | zero =>
    intro i s acc c hk hi hst hD hacc hR
    refine codeAny_builtin PySem.F.entry_extend_loop ?_
    rw [Around.under_plainId PySem.F.plain_extend_loop _]
    show wpAny _ A.in1 (pyNext (.ref I) >>= _) _ _ s
    have hDI : D ≠ I := fun q => by obtain ⟨_, _, _, _, e, _⟩ := hst; rw [← q, hD] at e; simp at e
    refine wpAny_bind (setIt_end (by simpa using hh) hst (by lia) hlen fun h' hx => ?_)
    refine wpAny_pure (hR h' c ?_ fun b o _ hb e => hx b o hb e)
    rw [List.drop_eq_nil_of_le (by lia), List.append_nil]
    exact hx D _ hDI hD
  | succ k ih =>
    intro i s acc c hk hi hst hD hacc hR
    have hlt : i < ord.length := by lia
    refine codeAny_builtin PySem.F.entry_extend_loop ?_
    rw [Around.under_plainId PySem.F.plain_extend_loop _]
    show wpAny _ A.in1 (pyNext (.ref I) >>= _) _ _ s
    have hDI : D ≠ I := fun q => by obtain ⟨_, _, _, _, e, _⟩ := hst; rw [← q, hD] at e; simp at e
    refine wpAny_bind (setIt_next hst (List.getElem?_eq_getElem hlt) fun h' hst' hs' => ?_)
    have hD' : h'.get? D = some (lstObj acc c) := (hs'.2 D hDI).trans hD
    show wpAny _ A.in1 (updateSeq D (·.push ord[i]) >>= _) _ _ _
    refine wpAny_bind ?_
    have hz1 : acc.toArray.size ≤ sizeLine := by rw [List.size_toArray, sizeLine_eq]; lia
    refine wpAny_updateSeq hD' rfl (wpAny_pure ⟨plainId_quiet PySem.F.plain_extend_loop _, ih (i + 1) _ (acc ++ [ord[i]]) (if (acc.toArray.push ord[i]).size == acc.toArray.size then c else c + 1) (by lia) hlt (hst'.frame hD' fun b o hb e => ?_) ?_ ?_ fun h'' c'' hD'' hk'' => ?_⟩) hz1 (by rw [Array.size_push, List.size_toArray, sizeLine_eq]; lia)
    · exact (Heap.get?_update_other _ _ (Ne.symm hb)).trans e
    · refine (Heap.get?_update_self _ hD' rfl).trans ?_
      simp [Obj.mapSeq]
    · rw [List.length_append, List.length_singleton]; lia
    · refine hR h'' c'' ?_ fun b o hb hb' e => hk'' b o hb hb' ((Heap.get?_update_other _ _ (Ne.symm hb)).trans ((hs'.2 b hb').trans e))
      rw [hD'', List.append_assoc, List.drop_eq_getElem_cons hlt]; rfl

theorem set_len_lookup : typeLookup (.type "set") "__len__" = pure (some (.builtin "set.__len__")) := PySem.F.slot_set_len.lookup
theorem collectSet {Q : List Value → Shared → Prop} (hh : A.handled = none) (hS : s.heap.get? S = some (setObj es n t)) (hf : t.fits es.size = true) (hpl : t.plain = false ∨ es.size ≤ 1) (hled : t.led = !w.params.followText "set-order") (hz : es.size ≤ 1000)
    (hQ : ∀ ord (h' : Heap) d, ord.Perm (es.toList.map (·.2)) → s.heap.objs.size < h'.objs.size → (∀ b o, s.heap.get? b = some o → h'.get? b = some o) → Q ord { s with heap := h', drawn := d }) :
    wpAny (model prog w) A (collect (.ref S)) Q E s := by
  unfold collect
  refine wpAny_bind (wpAny_runValue (codeAny_builtin PySem.F.entry_proto_collect ?_))
  rw [Around.under_plainId PySem.F.plain_proto_collect _]
  show wpAny _ A.in1 (newList [] >>= fun l => again (.builtin "list.__iadd__" ⟨[l, .ref S], []⟩)) _ _ s
  refine wpAny_bind (wpAny_newObj_type ?_)
  refine wpAny_pure ⟨plainId_quiet PySem.F.plain_list_iadd _, codeAny_builtin PySem.F.entry_list_iadd ?_⟩
  rw [Around.under_plainId PySem.F.plain_list_iadd _]
  show wpAny _ A.in1 (Builtin.List.listExtendWith (.ref s.heap.objs.size) (.ref S) (.ref s.heap.objs.size)) _ _ _
  have hlt : S < s.heap.objs.size := Heap.lt_size hS
  have hD : (s.heap.push (lstObj [] 0)).get? s.heap.objs.size = some (lstObj [] 0) := Heap.get?_push_size _ rfl
  have hS1 : (s.heap.push (lstObj [] 0)).get? S = some (setObj es n t) := Heap.get?_push_of_some _ hS
  have hT1 : Shared.TypeIs { s with heap := s.heap.push (lstObj [] 0) } (.ref S) "set" := ⟨_, hS1, rfl⟩
  unfold Builtin.List.listExtendWith
  refine wpAny_bind (wpAny_typeOf hT1 ?_)
  have h1 : Builtin.List.listSameRef (.ref s.heap.objs.size) (.ref S) = false := by
    show (s.heap.objs.size == S) = false
    exact beq_eq_false_iff_ne.mpr (Nat.ne_of_gt hlt)
  have h2 : (Value.type "set" == Value.type "list") = false := by decide
  have h3 : (Value.type "set" == Value.type "tuple") = false := by decide
  simp only [h1, h2, h3, Bool.or_false, Bool.false_eq_true, if_false]
  refine wpAny_bind (setIt_iter (s := { s with heap := s.heap.push (lstObj [] 0) }) hS1 hf hpl hled (by rw [sizeLine_eq]; lia) fun I ord h2 d hst hperm hI hk => ?_)
  refine wpAny_bind (wpAny_holding ?_)
  have hT2 : Shared.TypeIs { s with heap := h2, drawn := d } (.ref S) "set" := ⟨_, hk _ _ hS1, rfl⟩
  unfold Builtin.List.listLengthHint
  refine wpAny_bind (wpAny_specialOf hT2 set_len_lookup ?_)
  wp_delta
  refine wpAny_bind (wpAny_isInstance (T := "set") (b := true) hT2 (by rw [isSubtype_type]; kernel_rfl) ?_)
  show wpAny _ A.in1 (typeOf (.ref S) >>= _) _ _ _
  refine wpAny_bind (wpAny_typeOf hT2 ?_)
  refine wpAny_pure ?_
  show wpAny _ A.in1 (if (false || true) = true then _ else _) _ _ _
  rw [if_pos (show (false || true) = true from rfl)]
  have hD2 : h2.get? s.heap.objs.size = some (lstObj [] 0) := hk _ _ hD
  show wpAny _ A.in1 (rule _ >>= fun _ => (Builtin.List.listTouch (.ref s.heap.objs.size) >>= fun _ => again _)) _ _ _
  refine wpAny_bind (wpAny_rule ?_)
  show wpAny _ A.in1 ((updateSeq s.heap.objs.size (·.push .none) >>= fun _ => updateSeq s.heap.objs.size (·.pop)) >>= fun _ => again _) _ _ _
  refine wpAny_bind (wpAny_bind (wpAny_updateSeq hD2 rfl ?_ (by simp) (by simp)))
  have hD3 : (h2.update s.heap.objs.size (Obj.mapSeq (·.push .none))).get? s.heap.objs.size = some (lstObj [.none] 1) := Heap.get?_update_self _ hD2 rfl
  refine wpAny_updateSeq hD3 rfl ?_ (by simp [sizeLine_eq]) (by simp)
  have hD4 : ((h2.update s.heap.objs.size (Obj.mapSeq (·.push .none))).update s.heap.objs.size (Obj.mapSeq (·.pop))).get? s.heap.objs.size = some (lstObj [] 2) := Heap.get?_update_self _ hD3 rfl
  generalize hH4 : (h2.update s.heap.objs.size (Obj.mapSeq (·.push .none))).update s.heap.objs.size (Obj.mapSeq (·.pop)) = h4 at hD4 ⊢
  have hk4 : ∀ b o, b ≠ s.heap.objs.size → h2.get? b = some o → h4.get? b = some o := fun b o hb e => by
    rw [← hH4]
    exact (Heap.get?_update_other _ _ (Ne.symm hb)).trans ((Heap.get?_update_other _ _ (Ne.symm hb)).trans e)
  have hlen : ord.length = es.size := by rw [hperm.length_eq, List.length_map, Array.length_toList]
  refine wpAny_pure ⟨plainId_quiet PySem.F.plain_extend_loop _, extendSet (S := S) (es := es) (n := n) (t := t) (ord := ord) (by simpa using hh) hlen hz ord.length 0 _ [] 2 (by lia) (Nat.zero_le _) (hst.frame hD2 hk4) hD4 (Nat.le_refl _) fun h5 c5 hD5 hk5 => ?_⟩
  show wpAny _ A (load s.heap.objs.size >>= _) _ _ _
  refine wpAny_bind (wpAny_load hD5 ?_)
  refine wpAny_pure ?_
  refine hQ _ h5 d ?_ (Heap.lt_size hD5) fun b o e => ?_
  · simpa using hperm
  · have hb := Heap.lt_size e
    have h1' : I ≠ b := fun q => by
      have h2' : s.heap.objs.size + 1 ≤ I := by rw [← Heap.size_push s.heap (lstObj [] 0)]; exact hI
      rw [q] at h2'
      exact Nat.lt_irrefl _ (Nat.lt_of_lt_of_le (Nat.lt_succ_of_lt hb) h2')
    exact hk5 b o (Nat.ne_of_lt hb) (Ne.symm h1') (hk4 b o (Nat.ne_of_lt hb) (hk b o (Heap.get?_push_of_some _ e)))
end
end Mine
/- part MSr2 -/
namespace Mine
open PySem PySem.W PySem.Calls PyProof.Rows PySem.SeqAt

theorem StrsAre.of_perm {vs us : List Value} {ss : List Str} (h : StrsAre vs ss) (p : us.Perm vs) : ∃ ss', StrsAre us ss' ∧ ss'.Perm ss := by
  induction p generalizing ss with
  | nil => exact ⟨ss, h, .refl _⟩
  | cons x _ ih =>
    cases h with
    | cons y t h' =>
      obtain ⟨r, h1, h2⟩ := ih h'
      exact ⟨y :: r, .cons y t h1, h2.cons _⟩
  | swap x y l =>
    cases h with
    | cons a t h' =>
      cases h' with
      | cons b u h'' => exact ⟨_, .cons b u (.cons a t h''), List.Perm.swap _ _ _⟩
  | trans _ _ ih1 ih2 =>
    obtain ⟨r, h1, h2⟩ := ih2 h
    obtain ⟨r', h3, h4⟩ := ih1 h1
    exact ⟨r', h3, h4.trans h2⟩
theorem VRs.strsAre {g : TagMap} : ∀ {ss : List Str} {vs : List Value}, VRs g (ss.map V.str) vs → StrsAre vs ss
  | [], _, h => by cases h; exact .nil
  | x :: r, _, ⟨v, t, e, ⟨tk, hv⟩, b⟩ => by subst e; subst hv; exact .cons x tk (VRs.strsAre b)
theorem StrsAre.vrs {g : TagMap} {vs : List Value} {ss : List Str} (h : StrsAre vs ss) : VRs g (ss.map V.str) vs := by
  induction h with
  | nil => rfl
  | cons y t _ ih => exact ⟨_, _, rfl, ⟨t, rfl⟩, ih⟩

section
variable {prog : Program} {w : World} {A : Around} {E : Value → Shared → Prop} {s : Shared} {S I : Addr} {es : Array (Int × Value)} {n : Nat} {t : SetTable}

theorem sortedSetStrs {ss : List Str} {vs : List Value} {Q : Value → Shared → Prop} (hh : A.handled = none) (hS : s.heap.get? S = some (setObj es n t)) (hf : t.fits es.size = true) (hpl : t.plain = false ∨ es.size ≤ 1) (hled : t.led = !w.params.followText "set-order")
    (hp : (es.toList.map (·.2)).Perm vs) (hs : StrsAre vs ss) (hz : ss.length < 64)
    (h : ∀ (a : Addr) (h' : Heap) (d : Drawn) (out : List Value) (ss' : List Str) (c : Nat), StrsAre out ss' → ss'.Perm ss → sortedS ss' = true → s.heap.objs.size ≤ a → h'.get? a = some (lstObj out c) → (∀ b o, s.heap.get? b = some o → h'.get? b = some o) → Q (.ref a) { s with heap := h', drawn := d }) :
    wpAny (model prog w) A (call (.builtin "sorted") [.ref S]) Q E s := by
  have hsz : es.size = ss.length := by
    have h1 := hp.length_eq
    rw [List.length_map, Array.length_toList] at h1
    rw [h1, hs.length]
  refine Calls.call_function_entry kind_sorted plain_sorted entry_sorted (args_sorted1 _) ?_
  unfold Builtin.«sorted»
  refine wpAny_bind (m := checkCount "sorted" 1 1 _) (wpAny_pure ?_)
  refine wpAny_bind (collectSet (by simpa using hh) hS hf hpl hled (by lia) fun ord h1 d hperm hgt hk => ?_)
  obtain ⟨so, hso, hpo⟩ := StrsAre.of_perm hs (hperm.trans hp)
  have h64 : ord.length < 64 := by rw [hperm.length_eq, List.length_map, Array.length_toList]; lia
  refine wpAny_bind (wpAny_newList ?_ (hsz := by rw [sizeLine_eq]; lia))
  have hoL : (h1.push (seqObj "list" ord.toArray 0)).get? h1.objs.size = some (seqObj "list" ord.toArray 0) := Heap.get?_push_size _ rfl
  show wpAny _ _ _ _ _ { s with heap := h1.push (seqObj "list" ord.toArray 0), drawn := d }
  refine wpAny_bind (wpAny_holding (wpAny_call_entry slot_list_sort ⟨_, hoL, rfl⟩ entry_list_sort (list_sort_treeK strKind_oneLt hoL hso.keysOf (fun v₁ v₂ rest e => keyKind_strs (by rw [← e]; exact hso)) h64 fun st' a1 a2 => ⟨_, rfl, ?_⟩) (args_list_sort _)))
  obtain ⟨ss', b1, b2, b3⟩ := sorted_out_str hso a1 a2
  refine wpAny_pure ⟨_, rfl, ?_⟩
  obtain ⟨c, hc⟩ := sortedHeap_at (n := 0) (vs := ord) (out := (arrOf st').map (·.2)) hoL
  refine h _ _ d ((arrOf st').map (·.2)).toList ss' c b1 (b2.trans hpo) b3 (Nat.le_of_lt hgt) (by rw [hc]) fun b o e => ?_
  have hb : b < h1.objs.size := Heap.lt_size (hk b o e)
  rw [sortedHeap_old (Nat.ne_of_lt hb) (by rw [size_push']; exact Nat.lt_succ_of_lt hb)]
  exact Heap.get?_push_of_some _ (hk b o e)
end

/-- strs without repeats, as they were met -/
noncomputable def firstS : List Str → List Str → List Str
  | acc, [] => acc
  | acc, x :: r => firstS (if acc.any (· == x) then acc else acc ++ [x]) r
theorem addS_strs {acc : List Value} {sa : List Str} (ha : StrsAre acc sa) (y : Str) (t : Tok) : StrsAre (addS acc y t) (if sa.any (· == y) then sa else sa ++ [y]) := by
  have e : acc.any (Value.isStrOf y) = sa.any (· == y) := by
    induction ha with
    | nil => rfl
    | cons z u _ ih => rw [List.any_cons, List.any_cons, ih]; rfl
  have app : ∀ {acc : List Value} {sa : List Str}, StrsAre acc sa → StrsAre (acc ++ [.str y t]) (sa ++ [y]) := by
    intro acc sa ha
    induction ha with
    | nil => exact .cons y t .nil
    | cons z u _ ih => exact .cons z u ih
  unfold addS
  rw [e]
  split
  · exact ha
  · exact app ha
theorem addV_strs {vs : List Value} {ss : List Str} (h : StrsAre vs ss) : ∀ {acc : List Value} {sa : List Str}, StrsAre acc sa → StrsAre (vs.foldl addV acc) (firstS sa ss) := by
  induction h with
  | nil => intro acc sa ha; exact ha
  | cons y t _ ih => intro acc sa ha; exact ih (addS_strs ha y t)
theorem StrsAre.all_str {vs : List Value} {ss : List Str} (h : StrsAre vs ss) : ∀ v ∈ vs, ∃ x tk, v = .str x tk := by
  induction h with
  | nil => intro v hv; cases hv
  | cons y t _ ih =>
    intro v hv
    rcases List.mem_cons.mp hv with rfl | hv
    · exact ⟨y, t, rfl⟩
    · exact ih v hv

section
variable {C : Cx} {X : XPost} {W : En} {l : Loc} {σ : Sto} {Q : V → Sto → Prop}
/-- a list whose place is known to be new -/
theorem newList_up' {g : TagMap} {s s' : Shared} {c : Nat} {ds : List V} {vs : List Value} {a : Addr} (R : Rel C g σ s) (hvs : VRs g ds vs) (ha : s.heap.objs.size ≤ a) (hk : ∀ b o, s.heap.get? b = some o → s'.heap.get? b = some o) (ho : s'.heap.get? a = some (lstObj vs c))
    (q : Q (.ref σ.nx) (σ.push (.list ds))) (hg : s'.gens = s.gens := by rfl) (hos : s'.os = s.os := by rfl) : Up C g Q (.ref a) s' := by
  have hfree := R.free_size ha
  have x : Ext g (g.put a (.main σ.nx)) := Ext.put hfree _
  exact ⟨.ref σ.nx, _, _, x, (R.keeps hk hg hos).newMain (o := .list ds) hfree (R.h0_size ha) ⟨vs, c, ho, hvs.ext x.v⟩ ⟨_, ho⟩, ⟨_, rfl, put_self ..⟩, q⟩

theorem SC.sortedStrs {d : V} {ss : List Str} (hl : IsL σ d (ss.map V.str)) (hz : ss.length < 64) (h : ∀ ss', ss'.Perm ss → sortedS ss' = true → Q (.ref σ.nx) (σ.push (.list (ss'.map V.str)))) : SC C X W σ (.val (.builtin "sorted")) [d] Q := by
  rintro g A L s _ _ R hA rfl ⟨v, _, rfl, hv, rfl⟩
  obtain ⟨a, vs, n, rfl, ho, hvs⟩ := hl.at R hv
  have hs := hvs.strsAre
  refine PyProof.Rows.sorted_strs (isList_of ho) hs (by rw [hs.length]; exact hz) fun out ss' h1 h2 h3 => ?_
  obtain ⟨e, he⟩ := sortedAll_at s.heap vs out
  exact newList_up' (vs := out.toList) (c := e) R (StrsAre.vrs h1) (Nat.le_succ _) (fun b o k => sortedAll_old k) (by rw [he]) (h ss' h2 h3)
theorem SC.sortedSet {ss : List Str} (hc : W.calm = true) (hz : ss.length < 64) (h : ∀ ss', ss'.Perm ss → sortedS ss' = true → Q (.ref σ.nx) (σ.push (.list (ss'.map V.str)))) : SC C X W σ (.val (.builtin "sorted")) [.st (!C.w.params.followText "set-order") (ss.map V.str)] Q := by
  rintro g A L s _ _ R hA rfl ⟨v, _, rfl, hv, rfl⟩
  obtain ⟨a, es, n, t, vs, rfl, ht, ⟨hf, hled, hpl⟩, hvs, hp⟩ := hv
  refine sortedSetStrs (hA.calm hc) (R.froz _ _ ht) hf hpl hled hp hvs.strsAre hz fun a' h' d out ss' c h1 h2 h3 h4 h5 h6 => ?_
  exact newList_up' (vs := out) (c := c) R (StrsAre.vrs h1) h4 h6 h5 (h ss' h2 h3)
theorem SC.setStrs {d : V} {ss : List Str} (hc : W.calm = true) (hl : IsL σ d (ss.map V.str)) (hz : ss.length < 900) (h : Q (.st (!C.w.params.followText "set-order") ((firstS [] ss).map V.str)) σ) : SC C X W σ (.val (.type "set")) [d] Q := by
  rintro g A L s _ _ R hA rfl ⟨v, _, rfl, hv, rfl⟩
  obtain ⟨a, vs, n, rfl, ho, hvs⟩ := hl.at R hv
  have hs := hvs.strsAre
  refine callSetStrs (hA.calm hc) (isList_of ho) (by rw [List.size_toArray, hs.length]; exact hz) (fun v hv => ?_) fun h' tk hS hk => ?_
  · exact StrsAre.all_str hs v hv
  · obtain ⟨es, n2, t, hg, hf, ⟨hpl, hled⟩, _, hperm⟩ := hS.is
    have hfree := R.free_size (Nat.le_refl s.heap.objs.size)
    have R1 : Rel C g σ { s with heap := h', toks := tk } := R.keeps fun b o e => hk b o (Heap.lt_size e) e
    have R2 := R1.retag (a := s.heap.objs.size) (t := .froz (setObj es n2 t)) (by rw [hfree]; exact fun h => h) hg
    have x : Ext g (g.put s.heap.objs.size (.froz (setObj es n2 t))) := Ext.put hfree _
    have hfold : StrsAre (vs.toArray.toList.foldl addV []) (firstS [] ss) := addV_strs hs .nil
    exact ⟨.st _ _, _, σ, x, R2, ⟨_, es, n2, t, _, rfl, put_self .., ⟨hf, hled, hpl.imp_right fun h0 => by lia⟩, StrsAre.vrs hfold, hperm⟩, h⟩
end
end Mine
/- part MEnum -/
namespace Mine
open PySem PySem.W PySem.Calls PyProof.Rows PySem.SeqAt

section
variable {prog : Program} {w : World} {A : Around} {E : Value → Shared → Prop} {s : Shared}

theorem nextOf_tup_item {it t : Addr} {i : Nat} {items : Array Value} {x : Value} {Q : Value → Shared → Prop} (hit : IsTupIter s.heap it t i) (ht : IsTup s.heap t items) (hx : items[i]? = some x)
    (hQ : ∀ h', IsTupIter h' it t (i + 1) → Heap.SameBut it s.heap h' → Q x { s with heap := h' }) : wpAny (model prog w) A (Builtin.SmallTypes.nextOf (.ref it)) Q E s := by
  obtain ⟨o, ho, hc, hd⟩ := id hit
  obtain ⟨ol, hol, _, nl, hdl⟩ := ht
  unfold Builtin.SmallTypes.nextOf
  refine wpAny_bind (wpAny_callSpecial?_slot (name := Str.ofString "__next__") hit.typeIs slot_tupleiter_next (wpAny_call_entry slot_tupleiter_next hit.typeIs entry_tupleiter_next ?_ (args_tupleiter_next _)))
  show wpAny _ _ (field (.ref it) 0 >>= _) _ _ s
  refine wpAny_bind (wpAny_field ho hd (x := .ref t) rfl ?_)
  show wpAny _ _ (if (Value.ref t == Value.none) = true then _ else _) _ _ s
  rw [if_neg (show ¬ ((Value.ref t == Value.none) = true) from Bool.false_ne_true)]
  show wpAny _ _ (field (.ref it) 1 >>= _) _ _ s
  refine wpAny_bind (wpAny_field ho hd (x := .int i 0) rfl ?_)
  show wpAny _ _ (seqItems? (.ref t) >>= _) _ _ s
  refine wpAny_bind (wpAny_seqItems hol hdl ?_)
  simp only [Int.toNat_natCast, hx]
  refine wpAny_bind (wpAny_setField ho hd (by simp) (wpAny_pure ⟨x, rfl, wpAny_pure (hQ _ ?_ (Heap.SameBut.update ..))⟩))
  exact ⟨_, Heap.get?_update_self _ ho (Obj.isFreed_of_fields (Obj.data_mapFields hd _)), (Obj.cls_mapFields ..).trans hc, by
    rw [Obj.data_mapFields hd]; simp [rawInt]⟩
theorem nextOf_tup_end {it t : Addr} {i : Nat} {items : Array Value} {Q : Value → Shared → Prop} (hh : A.handled = none) (hit : IsTupIter s.heap it t i) (ht : IsTup s.heap t items) (hx : items[i]? = none)
    (hE : ∀ h' e, Heap.ExtBut it s.heap h' → (∃ o, h'.get? e = some o ∧ o.cls = .type "StopIteration") → E (.ref e) { s with heap := h' }) : wpAny (model prog w) A (Builtin.SmallTypes.nextOf (.ref it)) Q E s := by
  obtain ⟨o, ho, hc, hd⟩ := id hit
  obtain ⟨ol, hol, _, nl, hdl⟩ := ht
  unfold Builtin.SmallTypes.nextOf
  refine wpAny_bind (wpAny_callSpecial?_slot (name := Str.ofString "__next__") hit.typeIs slot_tupleiter_next (wpAny_call_entry slot_tupleiter_next hit.typeIs entry_tupleiter_next ?_ (args_tupleiter_next _)))
  show wpAny _ _ (field (.ref it) 0 >>= _) _ _ s
  refine wpAny_bind (wpAny_field ho hd (x := .ref t) rfl ?_)
  show wpAny _ _ (if (Value.ref t == Value.none) = true then _ else _) _ _ s
  rw [if_neg (show ¬ ((Value.ref t == Value.none) = true) from Bool.false_ne_true)]
  show wpAny _ _ (field (.ref it) 1 >>= _) _ _ s
  refine wpAny_bind (wpAny_field ho hd (x := .int i 0) rfl ?_)
  show wpAny _ _ (seqItems? (.ref t) >>= _) _ _ s
  refine wpAny_bind (wpAny_seqItems hol hdl ?_)
  simp only [Int.toNat_natCast, hx]
  refine wpAny_bind (wpAny_rule (wpAny_bind (wpAny_setField ho hd (by simp) ?_)))
  show wpAny _ _ (newExc (.type "StopIteration") [] >>= _) _ _ _
  refine wpAny_bind ?_
  simp only [newExc, newTuple]
  refine wpAny_bind (wpAny_newObj_type ?_ (by size_fits))
  refine wpAny_bind (m := firstArgMember _ _) (wpAny_of_eq (a := Value.none) (by first | rfl | (simp only [firstArgMember]; rfl)) ?_)
  refine wpAny_newObj_type ?_ (by size_fits)
  simp only [raiseNew]
  refine wpAny_bind (wpAny_handled ?_)
  first | rw [show A.in1.handled = none from hh] | rw [hh]
  refine wpAny_bind (wpAny_pure (wpAny_throw ?_))
  exact hE _ _ (((Heap.SameBut.update ..).extBut.push _).push _) ⟨_, Heap.get?_push_size _ rfl, rfl⟩

/-- a turn of an enumerate over what gives x -/
theorem enumTurn {e it : Addr} {i : Int} {x old : Value} {St : Heap → Prop} {Q : Option Value → Shared → Prop} (he : IsEnum s.heap e it i old) (hne : e ≠ it)
    (fr : ∀ h h', St h → (∀ o, h.get? it = some o → h'.get? it = some o) → St h')
    (hin : ∀ (A : Around) (E : Value → Shared → Prop) (Q' : Value → Shared → Prop), (∀ h', St h' → Heap.SameBut it s.heap h' → Q' x { s with heap := h' }) → wpAny (model prog w) A (Builtin.SmallTypes.nextOf (.ref it)) Q' E s)
    (hQ : ∀ h', IsEnumOut h' e it (i + 1) x s.heap.objs.size → St h' → h'.get? s.heap.objs.size = some (tupObj [.int i s.toks, x]) →
      (∀ b o, b ≠ e → b ≠ it → s.heap.get? b = some o → h'.get? b = some o) → Q (some (.ref s.heap.objs.size)) { s with heap := h', toks := s.toks + 1 }) : wpAny (model prog w) A (pyNext (.ref e)) Q E s := by
  have hT : s.TypeIs (.ref e) "enumerate" := ⟨_, he, rfl⟩
  unfold pyNext
  refine wpAny_bind (wpAny_attempt (wpAny_callSpecial?_slot (name := Str.ofString "__next__") hT PySem.F.slot_enumerate_next (wpAny_call_entry PySem.F.slot_enumerate_next hT PySem.F.entry_enumerate_next ?_ (PySem.F.args_enumerate_next_1 _))))
  show wpAny _ _ (field (.ref e) 2 >>= _) _ _ _
  refine wpAny_bind (wpAny_field he rfl (x := .ref it) rfl ?_)
  refine wpAny_bind (hin _ _ _ fun h₁ hst₁ hs₁ => ?_)
  have he₁ : IsEnum h₁ e it i old := (hs₁.2 e hne).trans he
  show wpAny _ _ (field (.ref e) 3 >>= _) _ _ _
  refine wpAny_bind (wpAny_field he₁ rfl (x := rawInt i) rfl ?_)
  show wpAny _ _ (field (.ref e) 4 >>= _) _ _ _
  refine wpAny_bind (wpAny_field he₁ rfl (x := .none) rfl ?_)
  show wpAny _ _ (mkInt i >>= _) _ _ _
  refine wpAny_bind (wpAny_mkInt ?_)
  show wpAny _ _ (setField (.ref e) 3 (rawInt (i + 1)) >>= _) _ _ _
  refine wpAny_bind (wpAny_setField he₁ rfl (by simp) ?_)
  have he₂ : IsEnum (h₁.update e (Obj.mapFields (·.setIfInBounds 3 (rawInt (i + 1))))) e it (i + 1) old := Heap.get?_update_self _ he₁ rfl
  have hs₂ := Heap.SameBut.update h₁ e (Obj.mapFields (·.setIfInBounds 3 (rawInt (i + 1))))
  generalize h₁.update e (Obj.mapFields (·.setIfInBounds 3 (rawInt (i + 1)))) = h₂ at he₂ hs₂ ⊢
  show wpAny _ _ (setField (.ref e) 4 .none >>= _) _ _ _
  refine wpAny_bind (wpAny_setField he₂ rfl (by simp) ?_)
  have he₃ : IsEnum (h₂.update e (Obj.mapFields (·.setIfInBounds 4 .none))) e it (i + 1) old := Heap.get?_update_self _ he₂ rfl
  have hs₃ := Heap.SameBut.update h₂ e (Obj.mapFields (·.setIfInBounds 4 .none))
  generalize h₂.update e (Obj.mapFields (·.setIfInBounds 4 .none)) = h₃ at he₃ hs₃ ⊢
  have hsz : h₃.objs.size = s.heap.objs.size := by rw [hs₃.1, hs₂.1, hs₁.1]
  show wpAny _ _ (newTuple [.int i s.toks, x] >>= _) _ _ _
  refine wpAny_bind (wpAny_newTuple ?_)
  have he₄ : IsEnum (h₃.push (tupObj [.int i s.toks, x])) e it (i + 1) old := Heap.get?_push_of_some _ he₃
  have ht₄ : (h₃.push (tupObj [.int i s.toks, x])).get? s.heap.objs.size = some (tupObj [.int i s.toks, x]) := by rw [← hsz]; exact Heap.get?_push_size _ rfl
  have hk₄ : ∀ b o, b ≠ e → h₁.get? b = some o → (h₃.push (tupObj [.int i s.toks, x])).get? b = some o := fun b o hb q => Heap.get?_push_of_some _ ((hs₃.2 b hb).trans ((hs₂.2 b hb).trans q))
  have hel : e ≠ s.heap.objs.size := Nat.ne_of_lt (Heap.lt_size he)
  show wpAny _ _ (Builtin.SmallTypes.ownedTupleIsFree (.ref e) >>= _) _ _ { s with heap := h₃.push (tupObj [.int i s.toks, x]), toks := s.toks + 1 }
  rw [hsz]
  generalize h₃.push (tupObj [.int i s.toks, x]) = h₄ at he₄ ht₄ hk₄ ⊢
  refine wpAny_bind ?_
  unfold Builtin.SmallTypes.ownedTupleIsFree
  refine wpAny_bind (wpAny_field he₄ rfl (x := .none) rfl (wpAny_pure ?_))
  simp only [if_true]
  refine wpAny_bind (wpAny_rule (wpAny_bind (wpAny_field he₄ rfl (x := old) rfl (wpAny_bind (wpAny_setField he₄ rfl (by simp) ?_)))))
  have he₅ : IsEnum (h₄.update e (Obj.mapFields (·.setIfInBounds 5 x))) e it (i + 1) x := Heap.get?_update_self _ he₄ rfl
  have hs₅ := Heap.SameBut.update h₄ e (Obj.mapFields (·.setIfInBounds 5 x))
  generalize h₄.update e (Obj.mapFields (·.setIfInBounds 5 x)) = h₅ at he₅ hs₅ ⊢
  show wpAny _ _ (Builtin.SmallTypes.ownedTupleHandOut (.ref e) (.ref s.heap.objs.size) >>= _) _ _ _
  refine wpAny_bind ?_
  unfold Builtin.SmallTypes.ownedTupleHandOut
  refine wpAny_bind (wpAny_setField he₅ rfl (by simp) ?_)
  have he₆ : IsEnumOut (h₅.update e (Obj.mapFields (·.setIfInBounds 0 (rawInt s.heap.objs.size)))) e it (i + 1) x s.heap.objs.size := Heap.get?_update_self _ he₅ rfl
  have hs₆ := Heap.SameBut.update h₅ e (Obj.mapFields (·.setIfInBounds 0 (rawInt s.heap.objs.size)))
  generalize h₅.update e (Obj.mapFields (·.setIfInBounds 0 (rawInt s.heap.objs.size))) = h₆ at he₆ hs₆ ⊢
  refine wpAny_setField he₆ rfl (by simp) ?_
  have he₇ : IsEnumOut (h₆.update e (Obj.mapFields (·.setIfInBounds 1 (.bool false)))) e it (i + 1) x s.heap.objs.size := Heap.get?_update_self _ he₆ rfl
  have hs₇ := Heap.SameBut.update h₆ e (Obj.mapFields (·.setIfInBounds 1 (.bool false)))
  generalize h₆.update e (Obj.mapFields (·.setIfInBounds 1 (.bool false))) = h₇ at he₇ hs₇ ⊢
  have hk₇ : ∀ b o, b ≠ e → h₄.get? b = some o → h₇.get? b = some o := fun b o hb q => (hs₇.2 b hb).trans ((hs₆.2 b hb).trans ((hs₅.2 b hb).trans q))
  refine wpAny_bind (wpAny_letGo (wpAny_pure ⟨_, rfl, wpAny_pure (hQ h₇ he₇ ?_ ?_ ?_)⟩))
  · exact fr h₁ h₇ hst₁ fun o q => hk₇ it o (Ne.symm hne) (hk₄ it o (Ne.symm hne) q)
  · exact hk₇ _ _ (Ne.symm hel) ht₄
  · exact fun b o hb hb' q => hk₇ b o hb (hk₄ b o hb ((hs₁.2 b hb').trans q))

theorem enumEnd {e it : Addr} {i : Int} {old : Value} {Q : Option Value → Shared → Prop} (he : IsEnum s.heap e it i old)
    (hin : ∀ (E : Value → Shared → Prop) (Q' : Value → Shared → Prop), (∀ h' x, Heap.ExtBut it s.heap h' → (∃ o, h'.get? x = some o ∧ o.cls = .type "StopIteration") → E (.ref x) { s with heap := h' }) → wpAny (model prog w) A.in1 (Builtin.SmallTypes.nextOf (.ref it)) Q' E s)
    (hQ : ∀ h', Heap.ExtBut it s.heap h' → Q none { s with heap := h' }) : wpAny (model prog w) A (pyNext (.ref e)) Q E s := by
  have hT : s.TypeIs (.ref e) "enumerate" := ⟨_, he, rfl⟩
  unfold pyNext
  refine wpAny_bind (wpAny_attempt (wpAny_callSpecial?_slot (name := Str.ofString "__next__") hT PySem.F.slot_enumerate_next (wpAny_call_entry PySem.F.slot_enumerate_next hT PySem.F.entry_enumerate_next ?_ (PySem.F.args_enumerate_next_1 _))))
  show wpAny _ _ (field (.ref e) 2 >>= _) _ _ _
  refine wpAny_bind (wpAny_field he rfl (x := .ref it) rfl ?_)
  refine wpAny_bind (hin _ _ fun h' x he' ⟨o, ho, hc⟩ => ?_)
  exact wpAny_bind (wpAny_isInstance (T := "StopIteration") (b := true) ⟨o, ho, hc⟩ isSubtype_stop (wpAny_pure (hQ _ he')))
end
end Mine
/- part MEnu2 -/
namespace Mine
open PySem PySem.W PySem.Calls PyProof.Rows PySem.SeqAt
open AutoSeq1 (wpAny_loadPart')

theorem meets_enumTup (l : Addr) (vs : List Value) :
    Meets (Builtin.«enumerate.__new__» ⟨[.type "enumerate", .ref l], []⟩) (fun _ R s => s.heap.get? l = some (tupObj vs) ∧
      R (.ok (.ret (.ref (s.heap.push { cls := .type "tuple_iterator", data := .fields #[.ref l, .int 0 0] }).objs.size)))
        { s with heap := (s.heap.push { cls := .type "tuple_iterator", data := .fields #[.ref l, .int 0 0] }).push { cls := .type "enumerate", data := .fields #[.none, .bool false, .ref s.heap.objs.size, rawInt 0, .none, .none] } }) :=
  .of_wp fun prog w A R s h => by
    obtain ⟨hp, g, d, tk, os⟩ := s; obtain ⟨hl, h⟩ := h
    have hsub := sub_enumerate
    have hL : IsTup (Shared.heap ⟨hp, g, d, tk, os⟩) l vs.toArray := isTup_of hl
    wp_walk using wpAny_loadPart' hl
    refine wpAny_stack_any fun st => wpAny_pure ?_
    split
    · rename_i c _ _ _ _ _
      cases (c == Value.type "enumerate")
      · wp_walk using wpAny_loadPart' hl, iter_tuple hL
        exact ⟨_, rfl, h⟩
      · wp_walk using wpAny_loadPart' hl, iter_tuple hL
        exact ⟨_, rfl, h⟩
    · wp_walk using wpAny_loadPart' hl, iter_tuple hL
      exact ⟨_, rfl, h⟩

section
variable {C : Cx} {X : XPost} {W : En} {l : Loc} {σ : Sto} {QI : (Sto → Prop) → List V → Sto → Prop}

theorem callEnumTup {A : Around} {E : Value → Shared → Prop} {s : Shared} {a : Addr} {vs : List Value} {Q : Value → Shared → Prop} (hl : s.heap.get? a = some (tupObj vs))
    (h : ∀ h', IsEnum h' (s.heap.objs.size + 1) s.heap.objs.size 0 .none → IsTupIter h' s.heap.objs.size a 0 → (∀ b o, s.heap.get? b = some o → h'.get? b = some o) → Q (.ref (s.heap.objs.size + 1)) { s with heap := h' }) :
    wpAny C.M A (call (.type "enumerate") [.ref a]) Q E s := by
  refine callType_new PySem.F.called_enumerate (by decide) (PySem.F.typeCall_enumerate_1 _) (PySem.F.newCall_enumerate_1 _) (fun obj => PySem.F.args_object_init_2 obj _) PySem.F.entry_enumerate_new
    (meets_enumTup a vs) ⟨hl, ?_⟩
  have hz : (s.heap.push { cls := .type "tuple_iterator", data := .fields #[.ref a, .int 0 0] }).objs.size = s.heap.objs.size + 1 := Heap.size_push ..
  show _ ∧ _
  rw [hz]
  have he : IsEnum ((s.heap.push { cls := .type "tuple_iterator", data := .fields #[.ref a, .int 0 0] }).push
      { cls := .type "enumerate", data := .fields #[.none, .bool false, .ref s.heap.objs.size, rawInt 0, .none, .none] }) (s.heap.objs.size + 1) s.heap.objs.size 0 .none := by
    have := Heap.get?_push_size (s.heap.push { cls := .type "tuple_iterator", data := .fields #[.ref a, .int 0 0] })
      (o := { cls := .type "enumerate", data := .fields #[.none, .bool false, .ref s.heap.objs.size, rawInt 0, .none, .none] }) rfl
    rw [hz] at this; exact this
  exact ⟨⟨_, he, rfl⟩, h _ he ⟨_, Heap.get?_push_of_some _ (Heap.get?_push_size _ rfl), rfl, rfl⟩ fun b o x => Heap.get?_push_of_some _ (Heap.get?_push_of_some _ x)⟩

noncomputable def enumVs (ds : List V) (j : Nat) : List V := (ds.mapIdx fun i d => V.tup [.int ((j + i : Nat) : Int), d])
theorem enumVs_cons (d : V) (r : List V) (j : Nat) : enumVs (d :: r) j = V.tup [.int (j : Int), d] :: enumVs r (j + 1) := by
  unfold enumVs
  rw [List.mapIdx_cons]
  congr 1
  apply List.ext_getElem?
  intro i
  rw [List.getElem?_mapIdx, List.getElem?_mapIdx]
  have : j + (i + 1) = j + 1 + i := by lia
  rw [this]

theorem itrEnumTup {gb : TagMap} {A : Around} {ts : List Expr} {k : Nat} {pos : Pos} {e it a : Addr} {ds : List V} (hh : A.handled = .none) (hd : VR gb (.tup ds) (.ref a)) (hne : e ≠ it) (he0 : C.H0.get? e = none) (hi0 : C.H0.get? it = none) :
    ∀ m j, j + m = ds.length → Itr C gb A (.Tuple ts k pos) e [e, it] (fun _ => True) (enumVs (ds.drop j) j) (fun h => (∃ old, IsEnum h e it (j : Int) old) ∧ IsTupIter h it a j) := by
  have fr : ∀ j, ItrFrame [e, it] (fun h => (∃ old, IsEnum h e it (j : Nat) old) ∧ IsTupIter h it a j) := fun j =>
    ⟨fun h h' ⟨⟨old, x⟩, o, y, r⟩ q => ⟨⟨old, q e (.head _) _ x⟩, o, q it (.tail _ (.head _)) _ y, r⟩, fun h ⟨⟨old, x⟩, o, y, r⟩ b hb => by
      cases hb with
      | head => exact ⟨_, x⟩
      | tail _ hb => cases hb with
        | head => exact ⟨_, y⟩
        | tail _ hb => cases hb⟩
  have keep2 : ∀ {g : TagMap} {σ : Sto} {s s' : Shared}, Rel C g σ s → (∀ b ∈ [e, it], g b = .free) → (∀ b o, b ≠ e → b ≠ it → s.heap.get? b = some o → s'.heap.get? b = some o) → s'.gens = s.gens → s'.os = s.os → Rel C g σ s' := fun R hown hk hg ho =>
    R.keepsT (fun b o hb q => hk b o (fun z => by
      subst z; rcases hb with hb | hb
      · exact hb (hown _ (.head _))
      · exact hb he0) (fun z => by
      subst z; rcases hb with hb | hb
      · exact hb (hown _ (.tail _ (.head _)))
      · exact hb hi0) q) hg ho
  intro m
  induction m with
  | zero =>
    intro j hj
    have : ds.drop j = [] := List.drop_eq_nil_of_le (by lia)
    rw [this]
    refine ⟨fr j, ?_⟩
    rintro g σ s Q E hb R hown hsrc ⟨⟨old, he⟩, hit⟩ hQ
    obtain ⟨a', vs, q, ho, hvs⟩ := VR.tupAt R (hd.ext hb)
    cases q
    refine enumEnd he (fun E' Q' hE => nextOf_tup_end (by simpa using hh) hit (isTup_of ho) (by simp; rw [← hvs.length]; lia) hE) fun h' hx => hQ _ (keep2 R hown (fun b o _ hb q => hx b o hb q) rfl rfl)
  | succ m ih =>
    intro j hj
    have hlt : j < ds.length := by lia
    rw [List.drop_eq_getElem_cons hlt, enumVs_cons]
    refine ⟨fr j, _, ?_, ih (j + 1) (by lia)⟩
    rintro g σ s Q E hb R hown hsrc ⟨⟨old, he⟩, hit⟩ hQ
    obtain ⟨a', vs, q, ho, hvs⟩ := VR.tupAt R (hd.ext hb)
    cases q
    obtain ⟨v, hv, rv⟩ := hvs.get (List.getElem?_eq_getElem hlt)
    refine enumTurn (St := fun h => IsTupIter h it a (j + 1)) he hne (fun h h' ⟨o, y, r⟩ q => ⟨o, q _ y, r⟩) (fun A' E' Q' hq => nextOf_tup_item hit (isTup_of ho) (by simpa using hv) hq) fun h' heo hit' htp hk => ?_
    refine hQ _ _ fun Q' E' hq => wpAny_letOwnedTupleGo_enum heo fun h₂ he₂ hs₂ => ?_
    have hfree := R.free_size (Nat.le_refl s.heap.objs.size)
    have hes : e ≠ s.heap.objs.size := Nat.ne_of_lt (Heap.lt_size he)
    have R1 : Rel C g σ { s with heap := h₂, toks := s.toks + 1 } := keep2 R hown (fun b o hbe hbi q => (hs₂.2 b hbe).trans (hk b o hbe hbi q)) rfl rfl
    have R2 := R1.retag (a := s.heap.objs.size) (t := .froz (tupObj [.int (j : Int) s.toks, v])) (by rw [hfree]; exact fun h => h) (show h₂.get? _ = _ from (hs₂.2 _ (Ne.symm hes)).trans htp)
    have x : Ext g (g.put s.heap.objs.size (.froz (tupObj [.int (j : Int) s.toks, v]))) := Ext.put hfree _
    refine hq _ _ x (fun b hb => ?_) R2 ⟨_, _, rfl, put_self .., ⟨_, _, rfl, ⟨_, rfl⟩, _, _, rfl, rv.ext x.v, rfl⟩⟩ ⟨⟨v, he₂⟩, ?_⟩
    · rw [put_ne _ _ (show b ≠ s.heap.objs.size from ?_)]
      · exact hown b hb
      · cases hb with
        | head => exact hes
        | tail _ hb => cases hb with
          | head => obtain ⟨o, y, _⟩ := hit; exact Nat.ne_of_lt (Heap.lt_size y)
          | tail _ hb => cases hb
    · obtain ⟨o, y, r⟩ := hit'
      exact ⟨o, (hs₂.2 it (Ne.symm hne)).trans y, r⟩

theorem callWith_G {Pst : Value → Shared → Prop} {args : List Expr} {pos : Pos} {g : TagMap} {A : Around} {cenv : Env} {L : Addr} {m : Str → Option Value} {s : Shared} {f : V} {fv : Value} {fs : List V} {first : List Value} (hs : noStars args = true) (hk : Keep C f) (p : Pre C W l σ g A cenv L m s) (hf : VR g f fv) (hfs : VRs g fs first)
    (h : SL C X W args l σ fun ds σ₂ => ∀ g₁ s₁ vs, Ext g g₁ → Rel C g₁ σ₂ s₁ → VR g₁ f fv → VRs g₁ (fs ++ ds) vs → wpAny C.M A (call fv vs) Pst (X.P L g A.frames) s₁) : wpAny C.M A (callWith pos fv first (backTo pos (starEach args cenv)) []) Pst (X.P L g A.frames) s := by
  have hpl : ((backTo pos (starEach args cenv)).any (·.1) || ([] : List (Option Str × Sem Value)).any (·.1.isNone)) = false := by rw [backTo_plain hs]; rfl
  refine callWith_of (P := fun h => ∃ k, (k = Keeper.frame ∨ k = Keeper.machine ∨ k = Keeper.boundFrame) ∧ Looks C.M h (keeperOf fv) k) hpl (fun h k => k) ?_
  have body : wpAny C.M A (spliced (backTo pos (starEach args cenv))) (fun vs s₁ => (∃ k, (k = Keeper.frame ∨ k = Keeper.machine ∨ k = Keeper.boundFrame) ∧ Looks C.M s₁.heap (keeperOf fv) k) ∧ wpAny C.M A (call fv (first ++ vs) []) Pst (X.P L g A.frames) s₁) (X.P L g A.frames) s := by
    refine wpAny_mono (h pos g A cenv L m s p) ?_ fun _ _ h => h
    rintro vs s₁ ⟨ds, g₁, σ₁, x, R₁, hvs, q⟩
    exact ⟨hk g₁ σ₁ s₁ fv R₁ (hf.ext x.v), q g₁ s₁ (first ++ vs) x R₁ (hf.ext x.v) ((hfs.ext x.v).append hvs)⟩
  cases args with
  | nil =>
    refine evalArgs_nil3 ⟨hk g σ s fv p.R hf, ?_⟩
    have w' : wpAny C.M A (pure [] : Sem (List Value)) (fun vs s₁ => wpAny C.M A (call fv (first ++ vs) []) Pst (X.P L g A.frames) s₁) (X.P L g A.frames) s := by
      refine wpAny_mono (h pos g A cenv L m s p) ?_ fun _ _ h => h
      rintro vs s₁ ⟨ds, g₁, σ₁, x, R₁, hvs, q⟩
      exact q g₁ s₁ (first ++ vs) x R₁ (hf.ext x.v) ((hfs.ext x.v).append hvs)
    exact fun Γ q hΓ => w' Γ q hΓ Γ q hΓ
  | cons e r =>
    simp only [noStars, List.all_cons, Bool.and_eq_true] at hs
    rw [starEach_cons hs.1] at body ⊢
    exact evalArgs_plain body

theorem SIt.enumTup {ts : List Expr} {k : Nat} {tp np pos : Pos} {x : Str} {e : Expr} (hc : W.calm = true) (hs : noStar e = true) (hx : SE C X W (.Name x np) l σ fun f σ₁ => f = .val (.type "enumerate") ∧ SE C X W e l σ₁ fun d σ₂ => ∃ ds, d = .tup ds ∧ QI (fun _ => True) (enumVs ds 0) σ₂) :
    SIt C X W (.Tuple ts k tp) (.Call (.Name x np) [e] [] pos) l σ QI := fun g A cenv L m s p => by
  refine wpAny_Call_ofName (wpAny_mono (hx g A cenv L m s p) ?_ fun _ _ h => h)
  rintro fv s₁ ⟨f, g₁, σ₁, x₁, R₁, hf, rfl, q⟩
  have p₁ := p.step x₁ R₁
  have hf' : fv = .type "enumerate" := hf
  subst hf'
  refine wpAny_mono (callWith_G (fs := []) (first := []) (f := .val (.type "enumerate")) (by simp [noStars, hs]) Keep.type p₁ rfl rfl (SL.cons hs (SE.mono q fun d σ₂ hq => SL.nil ?_)) (Pst := fun x s₁ => wpAny C.M A (pyIter x) (fun it s₂ => ∃ I own src ds St g' σ', it = .ref I ∧ Ext g g' ∧ Rel C g' σ' s₂ ∧ Itr C g' A (.Tuple ts k tp) I own src ds St ∧ ItrSelf C A I St ∧ St s₂.heap ∧ (∀ b ∈ own, g b = .free ∧ g' b = .free ∧ C.H0.get? b = .none) ∧ QI src ds σ') (X.P L g A.frames) s₁)) (fun _ _ h => h) fun _ _ h => X.mono x₁ h
  obtain ⟨ds, rfl, hq⟩ := hq
  rintro g₂ s₂ vs x₂ R₂ - ⟨v, _, rfl, hv, rfl⟩
  have hv' := hv
  obtain ⟨a, us, rfl, ho, hus⟩ := VR.tupAt R₂ hv
  have p₂ := p₁.step x₂ R₂
  refine callEnumTup ho fun h' he hit hk => ?_
  have R₃ : Rel C g₂ σ₂ { s₂ with heap := h' } := R₂.keeps hk
  have f1 := R₂.free_size (Nat.le_refl s₂.heap.objs.size)
  have f2 := R₂.free_size (Nat.le_succ s₂.heap.objs.size)
  have h1 := R₂.h0_size (Nat.le_refl s₂.heap.objs.size)
  have h2 := R₂.h0_size (Nat.le_succ s₂.heap.objs.size)
  have xx := x₁.trans x₂
  have back : ∀ b, g₂ b = .free → g b = .free := fun b hb => by
    by_cases q : g b = .free
    · exact q
    · have := xx b q; rw [hb] at this; exact absurd this.symm q
  refine wpAny_pyIter_enum he ⟨_, [s₂.heap.objs.size + 1, s₂.heap.objs.size], _, enumVs ds 0, _, g₂, σ₂, rfl, xx, R₃, itrEnumTup (p₂.A.calm hc) hv' (Nat.ne_of_gt (Nat.lt_succ_self _)) h2 h1 ds.length 0 (by lia), fun s' Q' E' ⟨⟨old, st⟩, _⟩ hq => wpAny_pyIter_enum st hq, ⟨⟨_, he⟩, hit⟩, ?_, hq⟩
  intro b hb
  cases hb with
  | head => exact ⟨back _ f2, f2, h2⟩
  | tail _ hb => cases hb with
    | head => exact ⟨back _ f1, f1, h1⟩
    | tail _ hb => cases hb
end
end Mine
/- part MGlo -/
namespace Mine
open PySem PySem.W PySem.Calls PyProof.Rows PySem.SeqAt

section
variable {C : Cx} {X : XPost} {W : En} {l : Loc} {σ : Sto} {Q : V → Sto → Prop}
theorem SE.globK {x : Str} {pos : Pos} {v : Value} (hk : W.sc.names.lookup x = some .globalImplicit) (e : nsIn C.K mainGlobals x = some (some v)) (h : Q (.val v) σ) (hd : (x == ("__debug__" : Str)) = false := by decide) : SE C X W (.Name x pos) l σ Q := fun g A cenv L m s p =>
  SE.glob hk (mg_of p.R.kin p.R.top.g e) hd h g A cenv L m s p
theorem SE.bltK {x : Str} {pos : Pos} {v : Value} (hk : W.sc.names.lookup x = some .globalImplicit) (e : nsIn C.K mainGlobals x = some Option.none) (hv : bootBuiltins x = some v) (hn : x ≠ "__name__") (h : Q (.val v) σ) (hd : (x == ("__debug__" : Str)) = false := by decide) : SE C X W (.Name x pos) l σ Q := fun g A cenv L m s p =>
  SE.blt hk (mg_none_of p.R.kin p.R.top.g e) ((p.R.top.builtins x hn).trans hv) hd h g A cenv L m s p

theorem SI.tupN {ds : List V} {j : Nat} {d : V} (hx : ds[j]? = some d) (hj : j ≤ 1000000) (h : Q d σ) : SI C X W σ (.tup ds) (.int (j : Int)) Q := by
  have hlt : j < ds.length := (List.getElem?_eq_some_iff.mp hx).1
  refine SI.tup (j := j) (by lia) (by lia) ?_ hx h
  unfold seqIndex?
  have h0 : ¬ ((j : Int) < 0) := by lia
  simp only [h0, if_false]
  rw [if_pos (by simp; lia)]
  simp
theorem SOpt.no {QO : Option Int → Sto → Prop} (h : QO Option.none σ) : SOpt C X W Option.none l σ QO := h
theorem SOpt.int {i : Int} {k : Nat} {pos : Pos} {QO : Option Int → Sto → Prop} (h : QO (some i) σ) : SOpt C X W (some (.Constant (.int i) k pos)) l σ QO := SE.int ⟨i, rfl, h⟩
end
theorem FnFacts.of {scope : Scope} {ns : List Str} (h1 : scope.isCoroutine = false) (h2 : scope.isGenerator = false) (h3 : scope.kind = .function) (h4 : ((cellsFrom 0 scope.names []).map (·.1)).Nodup)
    (h5 : (ns.all fun x => scope.names.lookup x == some .local || (scope.names.lookup x == some .cell && ((cellsFrom 0 scope.names []).lookup x).isSome)) = true) : FnFacts scope ns :=
  ⟨h1, h2, h3, h4, fun x hx => by
    have := List.all_eq_true.mp h5 x hx
    simpa only [Bool.or_eq_true, Bool.and_eq_true, beq_iff_eq] using this⟩
end Mine
/- part MTerm -/
namespace Mine
open PySem PySem.W PySem.Calls PyProof.Rows PySem.SeqAt

/-- terms as nested tuples -/
inductive T where
  | mk (op : Str) (ks : List T)
mutual
noncomputable def tv : T → V
  | .mk op ks => .tup (.str op :: tvs ks)
noncomputable def tvs : List T → List V
  | [] => []
  | t :: r => tv t :: tvs r
end
theorem tvs_length : ∀ ks : List T, (tvs ks).length = ks.length
  | [] => rfl
  | _ :: r => by rw [tvs, List.length_cons, List.length_cons, tvs_length r]
mutual
theorem low_tv (n : Nat) : ∀ t : T, lowV n (tv t)
  | .mk op ks => by rw [tv, lowV, lowVs]; exact ⟨by simp [lowV], low_tvs n ks⟩
theorem low_tvs (n : Nat) : ∀ ks : List T, lowVs n (tvs ks)
  | [] => by simp [tvs, lowVs]
  | t :: r => by rw [tvs, lowVs]; exact ⟨low_tv n t, low_tvs n r⟩
end
/-- a term of a depth and of small parts -/
noncomputable def TOk : Nat → T → Prop
  | 0, _ => False
  | n + 1, .mk op ks => op.length ≤ 100 ∧ ks.length ≤ 100 ∧ ∀ t ∈ ks, TOk n t
theorem TOk.succ : ∀ {n : Nat} {t : T}, TOk n t → TOk (n + 1) t
  | 0, _, h => h.elim
  | n + 1, .mk _ _, ⟨a, b, c⟩ => ⟨a, b, fun t ht => (c t ht).succ⟩
mutual
noncomputable def partsT : T → List (List Nat × T)
  | .mk op ks => ([], .mk op ks) :: partsK ks 0
noncomputable def partsK : List T → Nat → List (List Nat × T)
  | [], _ => []
  | t :: r, k => (partsT t).map (fun p => (k :: p.1, p.2)) ++ partsK r (k + 1)
end
noncomputable def pathV (p : List Nat) : V := .tup (p.map fun k : Nat => .int (k : Int))
noncomputable def partV (p : List Nat × T) : V := .tup [pathV p.1, tv p.2]

/-- a fresh list, handed on -/
theorem Weak.frozen {P : Params} {σ σ₁ : Sto} {i : Nat} {ds : List V} (hc : σ.Closed) (hle : σ.nx ≤ σ₁.nx) (hsub : ∀ j o, σ.get j = some o → σ₁.get j = some o) (hn : σ.nx ≤ i) (hi : σ₁.get i = some (.list ds)) (hl : lowVs σ.nx ds) : Weak P σ.nx σ₁ (.ref i) σ (.fl ds) :=
  ⟨Nat.le_refl _, hle, hsub, hc, .list hn hi (Convs.keep hl)⟩
theorem SC.weak {C : Cx} {X : XPost} {W : En} {σ : Sto} {f : V} {ds : List V} {Q : V → Sto → Prop} (h : SC C X W σ f ds fun d σ₁ => ∃ σ' d', Weak C.w.params σ.nx σ₁ d σ' d' ∧ Q d' σ') : SC C X W σ f ds Q :=
  fun g A L s fv vs R hA hf hv => wpAny_mono (h g A L s fv vs R hA hf hv) (fun _ _ u => Up.weak R u) fun _ _ h => h

theorem lowVs_append {n : Nat} : ∀ {ds es : List V}, lowVs n ds → lowVs n es → lowVs n (ds ++ es)
  | [], _, _, h => h
  | d :: r, es, h, h' => by rw [List.cons_append, lowVs]; rw [lowVs] at h; exact ⟨h.1, lowVs_append h.2 h'⟩
theorem lowVs_of {n : Nat} : ∀ {ds : List V}, (∀ d ∈ ds, lowV n d) → lowVs n ds
  | [], _ => by simp [lowVs]
  | d :: r, h => by rw [lowVs]; exact ⟨h d (.head _), lowVs_of fun d hd => h d (.tail _ hd)⟩
theorem low_partV (n : Nat) (p : List Nat × T) : lowV n (partV p) := by
  unfold partV pathV
  rw [lowV, lowVs, lowVs, lowVs, lowV]
  refine ⟨lowVs_of fun d hd => ?_, low_tv n _, trivial⟩
  obtain ⟨k, _, rfl⟩ := List.mem_map.mp hd
  simp [lowV]

theorem partsK_mem : ∀ {ks : List T} {j : Nat} {p : List Nat × T}, p ∈ partsK ks j → ∃ t ∈ ks, ∃ k q, q ∈ partsT t ∧ p = (k :: q.1, q.2)
  | [], _, _, h => by cases h
  | t :: r, j, p, h => by
    rw [partsK, List.mem_append] at h
    rcases h with h | h
    · obtain ⟨q, hq, rfl⟩ := List.mem_map.mp h
      exact ⟨t, .head _, j, q, hq, rfl⟩
    · obtain ⟨t', ht, k, q, hq, e⟩ := partsK_mem h
      exact ⟨t', .tail _ ht, k, q, hq, e⟩
theorem parts_len : ∀ {n : Nat} {t : T}, TOk n t → ∀ p ∈ partsT t, p.1.length < n
  | 0, _, h => h.elim
  | n + 1, .mk op ks, ⟨_, _, h3⟩ => by
    intro p hp
    rw [partsT, List.mem_cons] at hp
    rcases hp with rfl | hp
    · simp
    · obtain ⟨t, ht, k, q, hq, rfl⟩ := partsK_mem hp
      have := parts_len (h3 t ht) q hq
      simp; lia
end Mine
/- part MLoop -/
namespace Mine
open PySem PySem.W PySem.Calls PyProof.Rows PySem.SeqAt
section
variable {C : Cx} {X : XPost} {W : En} {l : Loc} {σ : Sto} {src : Sto → Prop} {t : Expr} {body : List Stmt} {ifs : List Expr} {elt : Expr}

theorem lenOk {ds : List V} (h : (ds.length.ble 1000000) = true) : ds.length ≤ 1000000 := Nat.le_of_ble_eq_true h
theorem SE.name0 {x : Str} {pos : Pos} {Q : V → Sto → Prop} (h : SE C X W (.Name x pos) l σ Q) : SE C X W (.Name x pos) l σ Q := h
theorem SG.mono {d : V} {Q Q' : Loc → Sto → Prop} (h : SG C X W t l σ d Q) (k : ∀ l' σ', Q l' σ' → Q' l' σ') : SG C X W t l σ d Q' :=
  fun g A cenv L m s v p hv => wpAny_mono (h g A cenv L m s v p hv) (fun _ _ ⟨l', g', σ', m', x, R, hm, hl, q⟩ => ⟨l', g', σ', m', x, R, hm, hl, k _ _ q⟩) fun _ _ h => h
theorem ST.mono {e : Expr} {P P' : Bool → Sto → Prop} (h : ST C X W e l σ P) (k : ∀ b σ', P b σ' → P' b σ') : ST C X W e l σ P' :=
  fun g A cenv L m s p => wpAny_mono (h g A cenv L m s p) (fun _ _ ⟨g', σ', x, R, q⟩ => ⟨g', σ', x, R, k _ _ q⟩) fun _ _ h => h
theorem STs.mono {P P' : Bool → Sto → Prop} (k : ∀ b σ', P b σ' → P' b σ') : ∀ {ifs : List Expr} {l : Loc} {σ : Sto}, STs C X W ifs l σ P → STs C X W ifs l σ P'
  | [], _, _, h => k _ _ h
  | e :: r, l, σ, h => ST.mono h fun b σ' q => by
    cases b with
    | true => exact STs.mono k (ifs := r) q
    | false => exact k _ _ q
theorem SC.mono {f : V} {ds : List V} {Q Q' : V → Sto → Prop} (h : SC C X W σ f ds Q) (k : ∀ d σ', Q d σ' → Q' d σ') : SC C X W σ f ds Q' :=
  fun g A L s fv vs R hA hf hv => wpAny_mono (h g A L s fv vs R hA hf hv) (fun _ _ ⟨d, g', σ', x, R, v, q⟩ => ⟨d, g', σ', x, R, v, k _ _ q⟩) fun _ _ h => h

theorem SFor.ind {Q : Fl → Loc → Sto → Prop} {Inv : List V → Loc → Sto → Prop}
    (step : ∀ d r l σ, Inv (d :: r) l σ → src σ ∧ SG C X W t l σ d fun l₁ σ₁ => SS C X W body l₁ σ₁ fun f l₂ σ₂ => match f with
      | .next | .cont => Inv r l₂ σ₂
      | .brk => Q .next l₂ σ₂
      | .ret v => Q (.ret v) l₂ σ₂)
    (done : ∀ l σ, Inv [] l σ → src σ ∧ Q .next l σ) : ∀ ds l σ, Inv ds l σ → SFor C X W src t body ds l σ Q
  | [], l, σ, h => done l σ h
  | d :: r, l, σ, h => ⟨(step d r l σ h).1, SG.mono (step d r l σ h).2 fun l₁ σ₁ q => SS.mono q fun f l₂ σ₂ q => by
    cases f with
    | next => exact SFor.ind step done r l₂ σ₂ q
    | cont => exact SFor.ind step done r l₂ σ₂ q
    | brk => exact q
    | ret v => exact q⟩

theorem SCompL.run {Q : List V → Sto → Prop} {p : V → Bool} {f : V → V} (hsrc : src σ) (ds : List V) : ∀ (acc : List V) (l : Loc), acc.length + ds.length ≤ 1000000 →
    (∀ d ∈ ds, ∀ l, SG C .none W t l σ d fun l₁ σ₁ => σ₁ = σ ∧ STs C .none W ifs l₁ σ fun ok σ₂ => σ₂ = σ ∧ ok = p d ∧ (ok = true → SE C .none W elt l₁ σ fun y σ₃ => σ₃ = σ ∧ y = f d)) →
    Q (acc ++ (ds.filter p).map f) σ → SCompL C W src t ifs elt ds acc l σ Q := by
  induction ds with
  | nil => intro acc l _ _ h; exact ⟨hsrc, by simpa using h⟩
  | cons d r ih =>
    intro acc l hz hs h
    rw [List.length_cons] at hz
    refine ⟨hsrc, SG.mono (hs d (.head _) l) ?_⟩
    rintro l₁ σ₁ ⟨e, q⟩
    rw [e]
    refine STs.mono ?_ q
    rintro ok σ₂ ⟨e, e2, q⟩
    rw [e]
    cases hp : p d with
    | true =>
      have hok : ok = true := e2.trans hp
      rw [if_pos hok]
      refine SE.mono (q hok) ?_
      rintro y σ₃ ⟨e, e3⟩
      rw [e, e3]
      refine ⟨by lia, ih _ _ (by rw [List.length_append, List.length_singleton]; lia) (fun d hd => hs d (.tail _ hd)) ?_⟩
      rw [List.filter_cons, if_pos hp, List.map_cons] at h
      rw [List.append_assoc]; exact h
    | false =>
      have hok : ok = false := e2.trans hp
      rw [if_neg (by rw [hok]; decide)]
      refine ih _ _ (by lia) (fun d hd => hs d (.tail _ hd)) ?_
      rw [List.filter_cons, if_neg (by rw [hp]; decide)] at h
      exact h
end
end Mine
/- part MSort -/
namespace Mine
open PySem PySem.W PySem.Calls PyProof.Rows PySem.SeqAt

noncomputable def sle (a b : Str) : Prop := a.cps.toList ≤ b.cps.toList
theorem sle_of_not {a b : Str} (h : (!PySem.Spec.ltCps b.cps.toList a.cps.toList) = true) : sle a b := by
  rw [ltCps_eq] at h
  simp only [Bool.not_eq_true', decide_eq_false_iff_not] at h
  exact h
theorem sle_trans {a b c : Str} (h : sle a b) (h' : sle b c) : sle a c := List.le_trans h h'
theorem sle_antisymm {a b : Str} (h : sle a b) (h' : sle b a) : a = b := by
  have := List.le_antisymm h h'
  exact Str.ext' (Array.toList_inj.mp this)
theorem rising_pairwise : ∀ (r : List Str) (p : Str), risingS p r = true → (p :: r).Pairwise sle
  | [], p, _ => by simp
  | x :: r, p, h => by
    rw [risingS, Bool.and_eq_true] at h
    have ih := rising_pairwise r x h.2
    have hpx := sle_of_not h.1
    rw [List.pairwise_cons] at ih ⊢
    refine ⟨fun y hy => ?_, ?_⟩
    · rcases List.mem_cons.mp hy with rfl | hy
      · exact hpx
      · exact sle_trans hpx (ih.1 y hy)
    · rw [List.pairwise_cons]; exact ih
theorem sorted_pairwise {ss : List Str} (h : sortedS ss = true) : ss.Pairwise sle := by
  cases ss with
  | nil => exact .nil
  | cons x r => exact rising_pairwise r x h
theorem sorted_unique {ss ts : List Str} (p : ss.Perm ts) (hs : ss.Pairwise sle) (ht : ts.Pairwise sle) : ss = ts :=
  List.Perm.eq_of_pairwise (fun _ _ _ _ h h' => sle_antisymm h h') hs ht p
open Classical in
/-- the one sorted list of the same strs -/
noncomputable def srt (ss : List Str) : List Str := if h : ∃ ts : List Str, ts.Perm ss ∧ ts.Pairwise sle then h.choose else ss
theorem srt_eq {ss ts : List Str} (p : ts.Perm ss) (h : sortedS ts = true) : ts = srt ss := by
  have hs := sorted_pairwise h
  have ex : ∃ ts : List Str, ts.Perm ss ∧ ts.Pairwise sle := ⟨ts, p, hs⟩
  unfold srt
  rw [dif_pos ex]
  exact sorted_unique (p.trans ex.choose_spec.1.symm) hs ex.choose_spec.2
theorem srt_congr {ss ts us : List Str} (p : ss.Perm ts) (q : us.Perm ss) (h : sortedS us = true) : srt ss = srt ts := by
  rw [← srt_eq q h, ← srt_eq (q.trans p) h]

/-- what was there is there as it was -/
structure Old (σ σ₁ : Sto) : Prop where
  le : σ.nx ≤ σ₁.nx
  get : ∀ j o, σ.get j = some o → σ₁.get j = some o
theorem Old.refl (σ : Sto) : Old σ σ := ⟨Nat.le_refl _, fun _ _ h => h⟩
theorem Old.push {σ σ₁ : Sto} (h : Old σ σ₁) (hc : σ.Closed) (o : O) : Old σ (σ₁.push o) :=
  ⟨Nat.le_succ_of_le h.le, fun j o' hj => by
    rw [Sto.get_push, if_neg (Nat.ne_of_lt (Nat.lt_of_lt_of_le (hc j o' hj).1 h.le))]; exact h.get j o' hj⟩
theorem Old.set {σ σ₁ : Sto} (h : Old σ σ₁) (hc : σ.Closed) {i : Nat} (hi : σ.nx ≤ i) (o : O) : Old σ (σ₁.set i o) :=
  ⟨h.le, fun j o' hj => by
    rw [Sto.get_set, if_neg (Nat.ne_of_lt (Nat.lt_of_lt_of_le (hc j o' hj).1 hi))]; exact h.get j o' hj⟩
theorem Weak.fro {P : Params} {σ σ₁ : Sto} {i : Nat} {ds : List V} (hc : σ.Closed) (h : Old σ σ₁) (hn : σ.nx ≤ i) (hi : σ₁.get i = some (.list ds)) (hl : lowVs σ.nx ds) : Weak P σ.nx σ₁ (.ref i) σ (.fl ds) :=
  Weak.frozen hc h.le h.get hn hi hl
/-- all that is new is dropped -/
theorem Weak.keep {P : Params} {σ σ₁ : Sto} {d : V} (hc : σ.Closed) (h : Old σ σ₁) (hl : lowV σ.nx d) : Weak P σ.nx σ₁ d σ d := ⟨Nat.le_refl _, h.le, h.get, hc, Conv.keep hl⟩
theorem Sto.get_push_self (σ : Sto) (o : O) : (σ.push o).get σ.nx = some o := by rw [Sto.get_push, if_pos rfl]
end Mine
/- part MInst -/
namespace Mine
open PySem PySem.W PySem.Calls PyProof.Rows PySem.SeqAt

noncomputable def lookF (fs : List (Str × V)) (x : Str) : Option V := (fs.find? fun f => f.1 == x).map (·.2)
noncomputable def putF (x : Str) (d : V) : List (Str × V) → List (Str × V)
  | [] => [(x, d)]
  | (y, e) :: r => if (y == x) = true then (y, d) :: r else (y, e) :: putF x d r

theorem FRs.find {P : Params} {g : TagMap} (x : Str) : ∀ {fs : List (Str × V)} {es : List DictEntry}, FRs P g fs es → OVR g (lookF fs x) ((es.find? (·.key.isStr x)).map (·.val)) ∧ es.any (·.refKey) = false
  | [], _, h => by cases h; exact ⟨rfl, rfl⟩
  | (y, d) :: r, _, ⟨t, v, l, e, a, b⟩ => by
    subst e
    obtain ⟨ih1, ih2⟩ := FRs.find x b
    have hk : (Value.str y t).isStr x = (y == x) := rfl
    refine ⟨?_, ?_⟩
    · unfold lookF at ih1 ⊢
      rw [List.find?_cons, List.find?_cons]
      simp only [hk]
      cases y == x with
      | true => exact ⟨v, rfl, a⟩
      | false => exact ih1
    · rw [List.any_cons, ih2]; rfl
theorem FRs.lookIn {P : Params} {g : TagMap} {x : Str} {fs : List (Str × V)} {es : List DictEntry} {n : Nat} (h : FRs P g fs es) : ∃ vo, PySem.W.lookIn x (dctObj es n) = some vo ∧ OVR g (lookF fs x) vo := by
  obtain ⟨h1, h2⟩ := h.find x
  refine ⟨_, ?_, h1⟩
  unfold PySem.W.lookIn
  dsimp only
  cases he : es.find? (·.key.isStr x) with
  | some e => rfl
  | none => dsimp only; rw [if_neg (by rw [h2]; decide)]; rfl
theorem FRs.put {P : Params} {g : TagMap} {x : Str} {t : Tok} {d : V} {v : Value} (hv : VR g d v) : ∀ {fs : List (Str × V)} {es : List DictEntry}, FRs P g fs es → FRs P g (putF x d fs) (putL x (PyData.keyHash P x) (.str x t) v es)
  | [], _, h => by cases h; exact ⟨t, v, [], rfl, hv, rfl⟩
  | (y, e) :: r, _, ⟨u, w, l, q, a, b⟩ => by
    subst q
    have hk : (Value.str y u).isStr x = (y == x) := rfl
    unfold putF putL
    simp only [hk]
    cases y == x with
    | true => exact ⟨u, v, l, rfl, hv, b⟩
    | false => exact ⟨u, w, _, rfl, a, FRs.put hv b⟩
theorem FRs.length {P : Params} {g : TagMap} : ∀ {fs : List (Str × V)} {es : List DictEntry}, FRs P g fs es → es.length = fs.length
  | [], _, h => by cases h; rfl
  | (_, _) :: _, _, ⟨_, _, _, e, _, b⟩ => by subst e; simp [FRs.length b]

theorem handed_of {g : TagMap} {d : V} {v : Value} (h : VR g d v) (hs : ∀ u, d = .val u → handedIn u = true) : handedIn v = true := by
  cases d with
  | val u => obtain rfl : v = u := h; exact hs _ rfl
  | none => obtain rfl : v = .none := h; rfl
  | bool _ => obtain rfl := h; rfl
  | int _ => obtain ⟨_, rfl⟩ := h; rfl
  | str _ => obtain ⟨_, rfl⟩ := h; rfl
  | tup _ => obtain ⟨_, _, rfl, _⟩ := h; rfl
  | fl _ => obtain ⟨_, _, _, rfl, _⟩ := h; rfl
  | ref _ => obtain ⟨_, rfl, _⟩ := h; rfl
  | rng _ _ => obtain ⟨_, _, _, _, rfl, _⟩ := h; rfl
  | st _ _ => obtain ⟨_, _, _, _, _, rfl, _⟩ := h; rfl
  | pk _ _ => obtain ⟨_, _, _, rfl, _⟩ := h; rfl
noncomputable def handedV : V → Bool
  | .val u => handedIn u
  | _ => true

/-- the static facts of a plain class -/
structure ClsOk (K : Frag) (c : Addr) : Prop where
  ga : findIn K (.ref c) "__getattribute__" = some (some (.builtin "object.__getattribute__"))
  noga : findIn K (.ref c) "__getattr__" = some none
  sa : findIn K (.ref c) "__setattr__" = some (some (.builtin "object.__setattr__"))
  over : plainOver K c = true
  dict : (clsIn K c).any (·.hasDict) = true

section
variable {C : Cx} {X : XPost} {W : En} {l : Loc} {σ : Sto} {Q : V → Sto → Prop}

theorem Rel.instAt {g : TagMap} {s : Shared} {i : Nat} {c : Addr} {fs : List (Str × V)} {v : Value} (R : Rel C g σ s) (hi : σ.get i = some (.inst c fs)) (hv : VR g (.ref i) v) :
    ∃ x dx es n, v = .ref x ∧ g x = .main i ∧ g dx = .dict i ∧ s.heap.get? dx = some (dctObj es n) ∧ InstAt s.heap x (instObj c dx) c (some (dctObj es n)) ∧ FRs C.w.params g fs es := by
  obtain ⟨x, rfl, t⟩ := hv
  obtain ⟨b, t', dx, es, n, e, td, e', r⟩ := R.objs i _ hi
  obtain rfl := R.uniq x b i t t'
  exact ⟨x, dx, es, n, rfl, t, td, e', ⟨e, rfl, rfl, e'⟩, r⟩

/-- o.name, a field of an instance -/
theorem SE.field {o : Expr} {name : Str} {pos : Pos} (hb : ∀ env t, attributeBase o name env t = t) (ht : ∀ x r, letTemporaryGo o x r = pure ())
    (h : SE C X W o l σ fun d σ₁ => ∃ i c fs d', d = .ref i ∧ σ₁.get i = some (.inst c fs) ∧ ClsOk C.K c ∧ findIn C.K (.ref c) name = some Option.none ∧ lookF fs name = some d' ∧ handedV d' = true ∧ Q d' σ₁) :
    SE C X W (.Attribute o name pos) l σ Q := fun g A cenv L m s p => by
  rw [arm_eval_Attribute, hb]
  refine wpAny_bind (SE.then p h fun d ov g₁ σ₁ s₁ e₁ p₁ hv q => ?_)
  obtain ⟨i, c, fs, d', rfl, hi, ok, hn, hl, hh, q⟩ := q
  obtain ⟨x, dx, es, n, rfl, tx, tdx, hdx, I, hfs⟩ := p₁.R.instAt hi hv
  obtain ⟨vo, hvo, r⟩ := hfs.lookIn (x := name) (n := n)
  rw [hl] at r
  obtain ⟨v, rfl, rv⟩ := r
  have hhv : handedIn v = true := handed_of rv fun u e => by rw [e] at hh; exact hh
  obtain ⟨cd, hcd, hd⟩ := any_some ok.dict
  have hf : findObj C.K c (some (dctObj es n)) name = some (.value v) := by
    unfold findObj
    rw [hcd, hn]
    simp only [Option.bind_some, PySem.W.ownOf, hd, if_true, hvo]
  refine wpAny_bind (wpAny_standAt (wpAny_bind (wpAny_holding (get_value p₁.R.kin I ok.ga hf hhv ?_))))
  refine wpAny_bind (wpAny_of_eq (ht _ _) (wpAny_pure ?_))
  exact Up.back e₁ (Up.here (p₁.R.toks _) rv q)

/-- the method of an instance -/
theorem SM.inst {i : Nat} {c f : Addr} {fs : List (Str × V)} {name : Str} {QM : V → List V → Sto → Prop} (hi : σ.get i = some (.inst c fs)) (ok : ClsOk C.K c) (hf : findIn C.K (.ref c) name = some (some (.ref f))) (ht : typeIn C.K (.ref f) = some (.type "function")) (hl : lookF fs name = Option.none)
    (h : QM (.val (.ref f)) [.ref i] σ) : SM C X W σ (.ref i) name QM := fun g A L s ov pl R hA hv => by
  obtain ⟨x, dx, es, n, rfl, tx, tdx, hdx, I, hfs⟩ := R.instAt hi hv
  obtain ⟨vo, hvo, r⟩ := hfs.lookIn (x := name) (n := n)
  rw [hl] at r
  have r : vo = Option.none := r
  subst r
  refine method_fn R.kin I ok.ga ok.noga hf ht (by show (PySem.W.lookIn name (dctObj es n)).map (·.isSome) = some false; rw [hvo]; rfl) ?_
  exact ⟨.val (.ref f), [.ref i], g, σ, Ext.refl g, R, rfl, ⟨_, [], rfl, hv, rfl⟩, h⟩

theorem osaH {prog : Program} {w : World} {A : Around} {K : Frag} {s : Shared} {R : Result → Shared → Prop} {x dx c : Addr} {es : List DictEntry} {n : Nat} {name : Str} {tk : Tok} {v : Value} (X : K.In s.heap) (I : InstAt s.heap x (instObj c dx) c (some (dctObj es n)))
    (hp : plainOver K c = true) (ht : takerIn K c name = some Option.none) (hh : (clsIn K c).any (·.hasDict) = true) (hl : (lookIn name (dctObj es n)).isSome = true) (hr : es.any (·.refKey) = false) (hz : es.length ≤ 1000)
    (h : R (.ok (.ret .none)) { s with heap := s.heap.update dx (Obj.putName name (PyData.keyHash w.params name) (.str name s.toks) v), toks := s.toks + 1 }) :
    codeAny (model prog w) A (.call (.builtin "object.__setattr__") ⟨[.ref x, .str name tk, v], []⟩) R s := by
  refine osa_open X I hp ht fun b => ?_
  obtain ⟨cd, hc, hd'⟩ := any_some hh
  have D : s.heap.get? dx = some (dctObj es n) := I.dict
  have e : Obj.putName name (PyData.keyHash w.params name) (.str name s.toks) v (dctObj es n) = dctObj (putL name (PyData.keyHash w.params name) (.str name s.toks) v es) (putN name es n) := putName_dict ..
  have D' : (s.heap.update dx (Obj.putName name (PyData.keyHash w.params name) (.str name s.toks) v)).get? dx = some (dctObj (putL name (PyData.keyHash w.params name) (.str name s.toks) v es) (putN name es n)) := by
    rw [Heap.get?_update_self _ D (by rw [e]; rfl), e]
  have hlen : (putL name (PyData.keyHash w.params name) (.str name s.toks) v es).length ≤ 1001 := by
    have : ∀ l : List DictEntry, (putL name (PyData.keyHash w.params name) (.str name s.toks) v l).length ≤ l.length + 1 := by
      intro l
      induction l with
      | nil => simp [putL]
      | cons a r ih =>
        unfold putL
        split
        · simp
        · simp; lia
    exact Nat.le_trans (this es) (by lia)
  refine wpAny_bind (wpAny_pure (wpAny_bind (wpAny_bind (wpAny_loadPart I.at_ (wpAny_bind ((looks_clsIn X hc).here ?_))))))
  rw [hd']
  refine wpAny_pure (a := some dx) (wpAny_bind (wpAny_pure (wpAny_bind ?_)))
  unfold nsSet
  refine wpAny_bind (wpAny_bind (wpAny_askSetting (wpAny_pure (wpAny_bind (wpAny_mkText (wpAny_bind (wpAny_loadPart D ?_)))))))
  dsimp only
  have cc : (!es.toArray.any (·.key.isStr name) && es.toArray.any (·.refKey)) = false := by
    rw [← Array.any_toList, ← Array.any_toList]
    show (!es.any _ && es.any _) = false
    rw [hr, Bool.and_false]
  rw [aRefKeyMayBeTheName_at, cc]
  refine wpAny_updatePart D ?_
  refine wpAny_bind (wpAny_lookBehind D' (pastItsLine_dict (by rw [List.size_toArray, sizeLine_eq]; lia)) ?_)
  exact wpAny_pure h

variable {QA : Loc → Sto → Prop}
/-- o.name = d -/
theorem SG.field {o : Expr} {name : Str} {pos : Pos} {d : V} (h : SE C X W o l σ fun od σ₁ => ∃ i c fs, od = .ref i ∧ σ₁.get i = some (.inst c fs) ∧ ClsOk C.K c ∧ takerIn C.K c name = some Option.none ∧ fs.length ≤ 1000 ∧ QA l (σ₁.set i (.inst c (putF name d fs)))) :
    SG C X W (.Attribute o name pos) l σ d QA := fun g A cenv L m s v p hv => by
  rw [arm_assign_Attribute]
  refine wpAny_bind (wpAny_holding (wpAny_mono (h g A cenv L m s p) ?_ fun _ _ h => h))
  rintro ov s₁ ⟨od, g₁, σ₁, e₁, R₁, ho, i, c, fs, rfl, hi, ok, hn, hz, q⟩
  have p₁ := p.step e₁ R₁
  obtain ⟨x, dx, es, n, rfl, tx, tdx, hdx, I, hfs⟩ := R₁.instAt hi ho
  obtain ⟨vo, hvo, r⟩ := hfs.lookIn (x := name) (n := n)
  have hv1 := hv.ext e₁.v
  refine wpAny_bind (wpAny_standAt (wpAny_bind (wpAny_holding (set_plain R₁.kin I ok.sa ?_))))
  have hI' : InstAt ({ s₁ with toks := s₁.toks + 1 } : Shared).heap x (instObj c dx) c (some (dctObj es n)) := I
  refine osaH (K := C.K) (s := { s₁ with toks := s₁.toks + 1 }) R₁.kin hI' ok.over hn ok.dict (by rw [hvo]; rfl) (hfs.find name).2 (by rw [hfs.length]; lia) ?_
  refine wpAny_release ?_
  have e : Obj.putName name (PyData.keyHash C.w.params name) (.str name (s₁.toks + 1)) v (dctObj es n) = dctObj (putL name (PyData.keyHash C.w.params name) (.str name (s₁.toks + 1)) v es) (putN name es n) := putName_dict ..
  have D' : (s₁.heap.update dx (Obj.putName name (PyData.keyHash C.w.params name) (.str name (s₁.toks + 1)) v)).get? dx = some (dctObj (putL name (PyData.keyHash C.w.params name) (.str name (s₁.toks + 1)) v es) (putN name es n)) := by
    rw [Heap.get?_update_self _ hdx (by rw [e]; rfl), e]
  have hxd : x ≠ dx := fun z => by rw [z, tdx] at tx; cases tx
  refine ⟨l, g₁, _, m, e₁.l L, R₁.upd (o := .inst c (putF name d fs)) tx (.inr tdx) (fun b o hb k => (Heap.get?_update_other _ _ (Ne.symm hb)).trans k) ⟨_, D'⟩ ⟨dx, _, _, ?_, tdx, D', hfs.put hv1⟩, p₁.fm, p₁.fl, q⟩
  exact (Heap.get?_update_other _ _ (Ne.symm hxd)).trans I.at_
end
end Mine
/- part MCls -/
namespace Mine
open PySem PySem.W PySem.Calls PyProof.Rows PySem.SeqAt

noncomputable def En.dec (W : En) : En := { W with d := W.d - 1 }
section
variable {C : Cx} {X : XPost} {W : En} {σ : Sto} {Q : V → Sto → Prop}

/-- a plain class, called -/
theorem SCc.cls {c fI : Addr} {ds : List V} (hd : 0 < W.d) (hm : makesIn C.K c = true) (hi : findIn C.K (.ref c) "__init__" = some (some (.ref fI))) (hf : typeIn C.K (.ref fI) = some (.type "function"))
    (h : SCc C X W.dec (σ.push (.inst c [])) (.val (.ref fI)) (.ref σ.nx :: ds) fun d σ' => d = .none ∧ Q (.ref σ.nx) σ') : SCc C X W σ (.val (.ref c)) ds Q := by
  rintro g A L s fv vs R hA hfv hv
  obtain rfl : fv = .ref c := hfv
  obtain ⟨hh, gg, d, t, os⟩ := s
  refine make_core (makes_of R.kin hm) (looks_findIn R.kin hi) (fun self => bind_fn R.kin self hf) (.inl rfl) ?_
  have hsz : (hh.push emptyDict).objs.size = hh.objs.size + 1 := Heap.size_push ..
  have hx : ((hh.push emptyDict).push (instObj c hh.objs.size)).get? (hh.objs.size + 1) = some (instObj c hh.objs.size) := by rw [← hsz]; exact Heap.get?_push_size _ rfl
  have hdx : ((hh.push emptyDict).push (instObj c hh.objs.size)).get? hh.objs.size = some (dctObj [] 0) := Heap.get?_push_of_some _ (Heap.get?_push_size _ rfl)
  have f1 : g hh.objs.size = .free := R.free_size (Nat.le_refl _)
  have f2 : g (hh.objs.size + 1) = .free := R.free_size (Nat.le_succ _)
  have z1 : C.H0.get? hh.objs.size = none := R.h0_size (Nat.le_refl _)
  have z2 : C.H0.get? (hh.objs.size + 1) = none := R.h0_size (Nat.le_succ _)
  have R1 : Rel C g σ ⟨(hh.push emptyDict).push (instObj c hh.objs.size), gg, d, t, os⟩ := R.keeps fun b o e => Heap.get?_push_of_some _ (Heap.get?_push_of_some _ e)
  have R2 : Rel C (g.put hh.objs.size (.dict σ.nx)) σ.bump ⟨(hh.push emptyDict).push (instObj c hh.objs.size), gg, d, t, os⟩ := R1.bump.newDict (Nat.lt_succ_self _) f1 z1 ⟨_, hdx⟩
  have x1 : Ext g (g.put hh.objs.size (.dict σ.nx)) := Ext.put f1 _
  have hne : hh.objs.size + 1 ≠ hh.objs.size := Nat.ne_of_gt (Nat.lt_succ_self _)
  have f2' : (g.put hh.objs.size (.dict σ.nx)) (hh.objs.size + 1) = .free := (put_ne _ _ hne).trans f2
  have x2 := Ext.put f2' (.main σ.nx)
  have td : ((g.put hh.objs.size (.dict σ.nx)).put (hh.objs.size + 1) (.main σ.nx)) hh.objs.size = .dict σ.nx := (put_ne _ _ (Ne.symm hne)).trans (put_self ..)
  have R3 : Rel C ((g.put hh.objs.size (.dict σ.nx)).put (hh.objs.size + 1) (.main σ.nx)) (σ.push (.inst c [])) ⟨(hh.push emptyDict).push (instObj c hh.objs.size), gg, d, t, os⟩ :=
    R2.fill (k := σ.nx) (o := .inst c []) (Nat.lt_succ_self _) (fun b q => by
      by_cases hb : b = hh.objs.size
      · rw [hb, put_self] at q; cases q
      · rw [put_ne _ _ hb] at q; exact Nat.lt_irrefl _ (R.idx b _ q)) f2' z2 ⟨_, [], 0, hx, td, hdx, rfl⟩ ⟨_, hx⟩
  have xx := x1.trans x2
  have hA' : Ar ((g.put hh.objs.size (.dict σ.nx)).put (hh.objs.size + 1) (.main σ.nx)) W.dec.d W.dec.calm (A.under (.builtin "type.__call__" ⟨.ref c :: vs, []⟩)) := by
    have hB := hA.ext xx
    refine ⟨?_, ?_, hB.calm, ?_, ?_⟩
    · have := hB.depth
      show A.depth + 1 + 2 * (W.d - 1) < _
      lia
    · have := hB.units
      show A.units + 1 + 20 * (W.d - 1) + 200 < _
      lia
    · exact hB.frames
    · exact hB.guards
  have hfr : (A.under (.builtin "type.__call__" ⟨.ref c :: vs, []⟩)).frames = A.frames := rfl
  refine codeAny_mono (h _ _ L _ (.ref fI) (.ref (hh.objs.size + 1) :: vs) R3 hA' rfl ⟨_, _, rfl, ⟨_, rfl, put_self ..⟩, hv.ext xx.v⟩) fun r s' z => ?_
  cases r with
  | error e => exact X.mono xx z
  | ok f => cases f with
    | ret v =>
      obtain ⟨d', g', σ', y, R', hv', rfl, q⟩ := z
      exact ⟨hv', .ref σ.nx, g', σ', xx.trans y, R', ⟨_, rfl, y.at (put_self ..) (by intro h; cases h)⟩, q⟩
    | _ => exact z.elim
theorem SC.cls {c fI : Addr} {ds : List V} (hd : 0 < W.d) (hm : makesIn C.K c = true) (hi : findIn C.K (.ref c) "__init__" = some (some (.ref fI))) (hf : typeIn C.K (.ref fI) = some (.type "function"))
    (h : SCc C X W.dec (σ.push (.inst c [])) (.val (.ref fI)) (.ref σ.nx :: ds) fun d σ' => d = .none ∧ Q (.ref σ.nx) σ') : SC C X W σ (.val (.ref c)) ds Q := SC.ofCode (SCc.cls hd hm hi hf h)
end
end Mine
/- part MSwp -/
namespace Mine
open PySem PySem.W PySem.Calls PyProof.Rows PySem.SeqAt

/-- names stored in this order -/
noncomputable def setAll (l : Loc) : List Str → List V → Loc
  | x :: xs, d :: ds => setAll (l.set x d) xs ds
  | _, _ => l
section
variable {C : Cx} {X : XPost} {W : En} {l : Loc} {σ : Sto} {Q : Fl → Loc → Sto → Prop}

theorem SG.name {x : Str} {d : V} {g : TagMap} {A : Around} {cenv : Env} {L : Addr} {m : Str → Option Value} {s : Shared} {v : Value} {QA : Loc → Sto → Prop} (p : Pre C W l σ g A cenv L m s) (hv : VR g d v) (hk : W.sc.names.lookup x = some .local) (h : QA (l.set x d) σ) :
    wpAny C.M A (bindName cenv x v) (UpA C L g QA) (X.P L g A.frames) s := by
  refine wpAny_bindName ?_
  refine wpAny_storeName_local ((p.E.kindOf x).trans hk) (p.E.loc ▸ p.R.fr L m p.fm) (fun h' hn hs => ?_) (notModuleStore p.E)
  rw [p.E.loc] at hn hs
  have xl : ExtL L g (g.put L (.fr fun y => if y = x then some v else m y)) := ExtL.put g _
  have xv := p.vL xl
  exact ⟨_, _, σ, _, xl, p.R.store p.fm hn hs, put_self .., (p.fl.ext xv).set (hv.ext xv), h⟩

theorem bindNames {A : Around} {cenv : Env} {L : Addr} {g : TagMap} : ∀ {ns : List Str} {ds : List V} {vs : List Value} {l : Loc} {σ : Sto} {g' : TagMap} {m : Str → Option Value} {s : Shared} {QA : Loc → Sto → Prop}, (∀ x ∈ ns, W.sc.names.lookup x = some .local) → ns.length = ds.length → QA (setAll l ns ds) σ → Pre C W l σ g' A cenv L m s → VRs g' ds vs → ExtL L g g' →
    wpAny C.M A (assignInOrder (ns.map fun n => bindName cenv n) vs) (UpA C L g QA) (X.P L g A.frames) s
  | [], [], _, l, σ, g', m, s, QA, _, _, h, p, hv, x => by cases hv; exact wpAny_assignInOrder_none ⟨l, g', σ, m, x, p.R, p.fm, p.fl, h⟩
  | n :: ns, d :: ds, _, l, σ, g', m, s, QA, hn, hlen, h, p, ⟨v, r, e, hv, hr⟩, x => by
    subst e
    rw [List.map_cons]
    refine wpAny_assignInOrder_more (wpAny_mono (SG.name (X := X) (QA := fun l' σ' => l' = l.set n d ∧ σ' = σ) p hv (hn n (.head _)) ⟨rfl, rfl⟩) ?_ fun _ _ h => X.monoL x h)
    rintro _ s' ⟨l', g'', σ', m', y, R, hm, hl, rfl, rfl⟩
    exact bindNames (fun y hy => hn y (.tail _ hy)) (by simpa using hlen) h (p.stepL y R hm hl) (hr.ext (p.vL y)) (x.trans y)
  | [], _ :: _, _, _, _, _, _, _, _, _, hlen, _, _, _, _ => by simp at hlen
  | _ :: _, [], _, _, _, _, _, _, _, _, hlen, _, _, _, _ => by simp at hlen

theorem VRs.rev {g : TagMap} {ds : List V} {vs : List Value} (h : VRs g ds vs) : VRs g ds.reverse vs.reverse := h.reverse

/-- a, b = x, y: the stores exchanged -/
theorem S1.assignSwap {ts : List Expr} {k : Nat} {tp pos : Pos} {e : Expr} {ns : List Str} (hc : W.calm = true) (hn : notComp e = true) (hw : swappedStores [.Tuple ts k tp] e (envS W.sc) = pure (some ns)) (hk : (ns.all fun x => W.sc.names.lookup x == some .local) = true)
    (h : SE C X W e l σ fun d σ' => ∃ ds, d = .tup ds ∧ ds.length = ns.length ∧ Q .next (setAll l ns.reverse ds.reverse) σ') : S1 C X W (.Assign [.Tuple ts k tp] e pos) l σ Q := fun g A cenv L m s p _ => by
  refine Assign_Tuple_swapped (names := ns) (wpAny_mono (h g A cenv L m s p) ?_ fun _ _ h => h) (swapsSole_notComp hn) ((swapped_scope p.E.sc).trans hw)
  rintro v s' ⟨d, g', σ', x, R, hv, ds, rfl, hlen, q⟩
  have p' := p.step x R
  obtain ⟨a, vs, rfl, ho, hvs⟩ := VR.tupAt R hv
  have hl : vs.toArray.size = ns.length := by rw [List.size_toArray, ← hvs.length, hlen]
  rw [← hl]
  refine unpackItems_tuple (p'.A.calm hc) (isTup_of ho) fun h' he => ?_
  have hf := R.free_size (Nat.le_refl s'.heap.objs.size)
  have R' : Rel C g' σ' { s' with heap := h' } := R.keepsT fun b o hb e => he b o (fun q => by
    subst q; rcases hb with hb | hb
    · exact hb hf
    · exact hb (R.h0_size (Nat.le_refl _))) e
  have hk' : ∀ x ∈ ns.reverse, W.sc.names.lookup x = some .local := fun y hy => by
    have := List.all_eq_true.mp hk y (List.mem_reverse.mp hy)
    simpa using this
  refine wpAny_mono (bindNames (X := X) (QA := fun l' σ'' => Q .next l' σ'') hk' (by rw [List.length_reverse, List.length_reverse, hlen]) q (p'.step (Ext.refl g') R') hvs.rev (x.l L)) ?_ fun _ _ h => h
  rintro _ s'' ⟨l', g'', σ'', m', y, R'', hm, hl', hq⟩
  exact ⟨.next, l', g'', σ'', m', y, R'', hm, hl', rfl, hq⟩
end
end Mine
/- part MEnt -/
namespace Mine
open PySem PySem.W PySem.Calls PyProof.Rows PySem.SeqAt

theorem Sto.set_set (σ : Sto) (i : Nat) (x y : O) : (σ.set i x).set i y = σ.set i y := by
  unfold Sto.set
  congr 1
  funext j
  by_cases h : j = i <;> simp [h]

/-- a frame without cells of its own -/
theorem entered {C : Cx} {W : En} {g : TagMap} {σ : Sto} {s : Shared} {A : Around} {d' : Nat} {scope : Scope} {ci : List (Str × Nat)} {cl : List (Str × Addr)} {l : Loc} {m : Str → Option Value} {h₁ : Heap} {tk : Nat} {qual : Str} {a : Addr} {cdv : Value}
    (R : Rel C g σ s) (hA : Ar g W.d W.calm A) (hW : W.d = d' + 1) (hk : scope.kind = .function) (hc : ∀ x i, ci.lookup x = some i → ∃ a, cl.lookup x = some a ∧ g a = .main i)
    (hn : h₁.Ns s.heap.objs.size m) (hl : LocR g l m) (k : ∀ b o, s.heap.get? b = some o → h₁.get? b = some o) :
    Ext g (g.put s.heap.objs.size (.fr m)) ∧ Pre C ⟨scope, ci, d', W.calm, some (cdv, qual)⟩ l σ (g.put s.heap.objs.size (.fr m)) (A.deeper (newEnv scope s.heap.objs.size mainGlobals cl qual (some a) cdv none builtinsNs))
      (newEnv scope s.heap.objs.size mainGlobals cl qual (some a) cdv none builtinsNs) s.heap.objs.size m { s with heap := h₁, toks := tk } ∧
      OwnFrame (A.deeper (newEnv scope s.heap.objs.size mainGlobals cl qual (some a) cdv none builtinsNs)) (newEnv scope s.heap.objs.size mainGlobals cl qual (some a) cdv none builtinsNs) s.heap.objs.size := by
  have R1 : Rel C g σ { s with heap := h₁, toks := tk } := R.keeps k
  have hLfree : g s.heap.objs.size = .free := R.free_size (Nat.le_refl _)
  have hL0 : C.H0.get? s.heap.objs.size = none := R.h0_size (Nat.le_refl _)
  have R2 := R1.retag (a := s.heap.objs.size) (t := .fr m) (by rw [hLfree]; exact fun h => h) ⟨hn, hL0⟩
  have x1 : Ext g (g.put s.heap.objs.size (.fr m)) := Ext.put hLfree _
  obtain ⟨outer, hfr, hok⟩ := hA.frames
  have hkm : scope.kind ≠ .module := by rw [hk]; decide
  refine ⟨x1, ⟨R2, ⟨rfl, hk, rfl, rfl, rfl, fun x i h => ?_, ⟨hkm, _, _, rfl, put_self ..⟩, fun c q h => by cases h; exact ⟨rfl, rfl⟩⟩, ⟨?_, ?_, hA.calm, ⟨_, Around.frames_deeper hfr, ?_⟩, hA.guards⟩, put_self .., hl.ext x1.v⟩, ⟨⟨outer, Around.frames_deeper hfr⟩, rfl⟩⟩
  · obtain ⟨b, e, t⟩ := hc x i h
    exact ⟨b, e, x1.at t (by intro h; cases h)⟩
  · have := hA.depth; show A.depth + 1 + 2 * d' < _; lia
  · have := hA.units; show A.units + 3 + 20 * d' + 200 < _; lia
  · intro env he
    rcases List.mem_cons.mp he with rfl | he
    · exact ⟨hkm, _, _, rfl, put_self ..⟩
    · exact (hok env he).ext x1

/-! the code of a made function -/
noncomputable def codeP (qual : Str) : Addr → List Value → Obj → Prop := fun _ _ o => ∃ ws t, o.data = .fields ws ∧ ws[1]? = some (.str qual t)
noncomputable def codeV (qual : Str) : V := .pk (codeP qual) []
theorem codeV.rec {C : Cx} {g : TagMap} {σ : Sto} {s : Shared} {qual : Str} {v : Value} (R : Rel C g σ s) (h : VR g (codeV qual) v) : s.heap.CodeRec v qual := by
  obtain ⟨a, vs, o, e, t, ⟨ws, tk, h1, h2⟩, _⟩ := h
  exact ⟨a, o, ws, tk, e, R.froz _ _ t, h1, h2⟩
/-- the object of a lambda -/
noncomputable def lamP (params : Arguments) (body : Expr) (scope : Scope) (qual : Str) (names : List Str) : Addr → List Value → Obj → Prop := fun _ vs o =>
  ∃ (as : List Addr) (c' : Addr) (pm ctv : Value), vs = .ref c' :: as.map Value.ref ∧ o = kla_obj "<lambda>" qual params body scope (names.zip as) pm c' ctv
noncomputable def lamV (params : Arguments) (body : Expr) (scope : Scope) (qual : Str) (ci : List (Str × Nat)) : V := .pk (lamP params body scope qual (ci.map (·.1))) (codeV qual :: ci.map fun x => .ref x.2)

theorem refs_lookup {g : TagMap} : ∀ {ci : List (Str × Nat)} {as : List Addr}, VRs g (ci.map fun x => V.ref x.2) (as.map Value.ref) → ∀ x i, ci.lookup x = some i → ∃ a, ((ci.map (·.1)).zip as).lookup x = some a ∧ g a = .main i
  | [], _, _, _, _, h => by cases h
  | (y, j) :: r, [], h, _, _, _ => by obtain ⟨_, _, e, _⟩ := h; cases e
  | (y, j) :: r, b :: as, ⟨v, w, e, ⟨a, e2, t⟩, hr⟩, x, i, h => by
    injection e with e1 e3
    subst e3; subst e1
    cases e2
    rw [List.lookup_cons] at h
    rw [List.map_cons, List.zip_cons_cons, List.lookup_cons]
    cases q : x == y with
    | true => rw [q] at h; cases h; exact ⟨b, rfl, t⟩
    | false => rw [q] at h; exact refs_lookup hr x i h
theorem closGo_pt {g : TagMap} {cellsI : List (Str × Nat)} {cellsA : List (Str × Addr)} (h : ∀ x i, cellsI.lookup x = some i → ∃ a, cellsA.lookup x = some a ∧ g a = .main i) :
    ∀ (names : List (Str × NameKind)) (accI : List (Str × Nat)) (accA : List Addr), freeOk cellsI names = true → VRs g (accI.map fun x => V.ref x.2) (accA.map Value.ref) →
      ∃ as, closGo cellsA names ((accI.map (·.1)).zip accA) = ((closGo cellsI names accI).map (·.1)).zip as ∧ VRs g ((closGo cellsI names accI).map fun x => V.ref x.2) (as.map Value.ref)
  | [], _, accA, _, hacc => ⟨accA, rfl, hacc⟩
  | (n, k) :: r, accI, accA, hf, hacc => by
    simp only [freeOk, List.all_cons, Bool.and_eq_true] at hf
    unfold closGo
    by_cases hk : (k == NameKind.free) = true
    · simp only [hk, if_true]
      have hk' : k = .free := by simpa using hk
      subst hk'
      have : (cellsI.lookup n).isSome = true := by
        have := hf.1
        simpa using this
      obtain ⟨i₀, e₀⟩ := Option.isSome_iff_exists.mp this
      obtain ⟨a₀, ea, ga⟩ := h n i₀ e₀
      simp only [e₀, ea]
      exact closGo_pt h r ((n, i₀) :: accI) (a₀ :: accA) hf.2 ⟨_, _, rfl, ⟨a₀, rfl, ga⟩, hacc⟩
    · simp only [hk]
      exact closGo_pt h r accI accA hf.2 hacc

section
variable {C : Cx} {X Xi : XPost} {W : En} {l : Loc} {σ : Sto} {Q : V → Sto → Prop}

/-- a lambda, called -/
theorem SCc.lam {params : Arguments} {body : Expr} {scope : Scope} {qual : Str} {ci : List (Str × Nat)} {d' : Nat} (hW : W.d = d' + 1) (hco : scope.isCoroutine = false) (hgen : scope.isGenerator = false) (hk : scope.kind = .function) (hcell : ∀ x ∈ scope.names, x.2 ≠ .cell)
    (hb : ∀ cl pm cdv ctv, bindArgs (kla_fn "<lambda>" qual params body scope cl pm cdv ctv) ⟨[], []⟩ = pure []) (hx : XLeaves C X Xi)
    (h : ∀ cdv, SE C Xi ⟨scope, ci, d', W.calm, some (cdv, qual ++ ".<locals>.")⟩ body (fun _ => none) σ Q) : SCc C X W σ (lamV params body scope qual ci) [] Q := by
  intro g A L s fv vs R hA hf hv
  cases hv
  obtain ⟨a, us, o, rfl, t, ⟨as, c', pm, ctv, rfl, rfl⟩, hus⟩ := hf
  obtain ⟨v0, r0, e0, hcv, has⟩ := hus
  injection e0 with e1 e2
  subst e2; subst e1
  have hroom : A.depth < recursionLimit := by have := hA.depth; lia
  refine kla_callFunE hroom (R.froz _ _ t) rfl hco hgen rfl (codeV.rec R hcv) ?_
  show wpAny C.M A.in1 (bindArgs (kla_fn "<lambda>" qual params body scope ((ci.map (·.1)).zip as) pm (.ref c') ctv) ⟨[], []⟩) _ _ _
  rw [hb]
  refine wpAny_pure (wpAny_newFunctionEnv hcell (fun x hx => by cases hx) (fun h₁ hns hsb => ?_) hk)
  have hk₁ : ∀ b o, s.heap.get? b = some o → h₁.get? b = some o := fun b o e => hsb.extBut b o (Nat.ne_of_lt (Heap.lt_size e)) (Heap.get?_push_of_some _ e)
  refine ⟨(R.top.nolimit).keeps hk₁, kla_codeExpr ?_⟩
  obtain ⟨x1, p, ow⟩ := entered (tk := s.toks + 0) (a := a) (cdv := .ref c') (qual := qual ++ ".<locals>.") (l := fun _ => none) R hA hW hk (refs_lookup has) hns (fun _ => rfl) hk₁
  obtain ⟨⟨outer, hfr⟩, _⟩ := ow
  obtain ⟨outer', hfr', _⟩ := hA.frames
  have hLfree : g s.heap.objs.size = .free := R.free_size (Nat.le_refl _)
  refine wpAny_mono (h _ _ _ _ _ _ _ p) ?_ ?_
  · rintro v s'' ⟨d, g', σ', x, R', hv', q⟩
    exact ⟨d, g', σ', x1.trans x, R', hv', q⟩
  · intro e s' hxi
    rw [Around.frames_deeper hfr'] at hxi
    exact hx g _ L _ A _ outer' _ e s' hfr' x1 hLfree (put_self ..) rfl hxi

/-! the table of codes that a code holds -/
noncomputable def tabL : List (Nat × Nat) → List Value → List Value
  | k :: ks, v :: vs => rawInt k.1 :: rawInt k.2 :: v :: tabL ks vs
  | _, _ => []
noncomputable def tabP (P : Addr) (ks : List (Nat × Nat)) : Addr → List Value → Obj → Prop := fun a vs o => a = P ∧ vs.length = ks.length ∧ o = tabObj (tabL ks vs).toArray
noncomputable def tabO (P : Addr) (tb : List ((Nat × Nat) × Str)) : O := .pk (tabP P (tb.map (·.1))) (tb.map fun x => codeV x.2)
theorem tabL_triples : ∀ (ks : List (Nat × Nat)) (vs : List Value), TriplesOk (tabL ks vs)
  | [], _ => trivial
  | _ :: _, [] => trivial
  | _ :: ks, _ :: vs => tabL_triples ks vs
theorem tabL_among {g : TagMap} (pos : Pos) : ∀ (tb : List ((Nat × Nat) × Str)) (vs : List Value), VRs g (tb.map fun x => codeV x.2) vs →
    match tb.lookup (pos.line, pos.col) with
    | none => codeAmong pos (tabL (tb.map (·.1)) vs) = none
    | some q => ∃ v, codeAmong pos (tabL (tb.map (·.1)) vs) = some v ∧ VR g (codeV q) v
  | [], _, _ => rfl
  | ((a, b), q) :: r, _, ⟨v, w, e, hv, hr⟩ => by
    subst e
    have ih := tabL_among pos r w hr
    rw [List.lookup_cons]
    show match (match (pos.line, pos.col) == (a, b) with | true => some q | false => r.lookup (pos.line, pos.col)) with
      | none => codeAmong pos (rawInt a :: rawInt b :: v :: tabL (r.map (·.1)) w) = none
      | some q => ∃ u, codeAmong pos (rawInt a :: rawInt b :: v :: tabL (r.map (·.1)) w) = some u ∧ VR g (codeV q) u
    have ec : codeAmong pos (rawInt a :: rawInt b :: v :: tabL (r.map (·.1)) w) = if ((pos.line, pos.col) == (a, b)) = true then some v else codeAmong pos (tabL (r.map (·.1)) w) := by
      show (if (((a : Int) == (pos.line : Int)) && ((b : Int) == (pos.col : Int))) = true then some v else codeAmong pos (tabL (r.map (·.1)) w)) = _
      congr 1
      simp only [Bool.and_eq_true, beq_iff_eq, Prod.mk.injEq, eq_iff_iff]
      lia
    rw [ec]
    cases hq : ((pos.line, pos.col) == (a, b)) with
    | true => exact ⟨v, by simp, hv⟩
    | false => simpa using ih
theorem tabL_snoc : ∀ (ks : List (Nat × Nat)) (vs : List Value) (k : Nat × Nat) (v : Value), vs.length = ks.length → tabL (ks ++ [k]) (vs ++ [v]) = tabL ks vs ++ [rawInt k.1, rawInt k.2, v]
  | [], [], _, _, _ => rfl
  | [], _ :: _, _, _, h => by cases h
  | _ :: _, [], _, _, h => by cases h
  | a :: ks, b :: vs, k, v, h => by
    show rawInt a.1 :: rawInt a.2 :: b :: tabL (ks ++ [k]) (vs ++ [v]) = _
    rw [tabL_snoc ks vs k v (by simpa using h)]; rfl

/-- the module of the built-in names -/
noncomputable def BM (C : Cx) : Prop := ∃ (bm : Addr) (ob : Obj), C.mg "__builtins__" = some (.ref bm) ∧ bm ≠ builtinsNs ∧ C.H0.get? bm = some ob ∧ ob.cls = .type "module" ∧ ob.dict = some builtinsNs ∧ ob.data = .plain

theorem Rel.tabAt {g : TagMap} {s : Shared} {ip : Nat} {P : Addr} {tb : List ((Nat × Nat) × Str)} (R : Rel C g σ s) (h : σ.get ip = some (tabO P tb)) : g P = .main ip ∧ ∃ vs : List Value, s.heap.get? P = some (tabObj (tabL (tb.map (·.1)) vs).toArray) ∧ vs.length = tb.length ∧ VRs g (tb.map fun x => codeV x.2) vs := by
  obtain ⟨a, t, vs, o, e, ⟨rfl, hl, rfl⟩, r⟩ := R.objs ip _ h
  exact ⟨t, vs, e, by simpa using hl, r⟩
theorem builtinsAt {g : TagMap} {s : Shared} {ip : Nat} {P : Addr} {tb : List ((Nat × Nat) × Str)} (R : Rel C g σ s) (h : σ.get ip = some (tabO P tb)) (hb : BM C) : mainGlobals ≠ P ∧ s.heap.BuiltinsAt C.mg P := by
  obtain ⟨t, vs, e, _, _⟩ := R.tabAt h
  have h0 : C.H0.get? P = none := R.h0_none (by rw [t]; intro h; cases h) (by rw [t]; intro o h; cases h)
  obtain ⟨bm, ob, b1, b2, b3, b4, b5, b6⟩ := hb
  have hgP : mainGlobals ≠ P := fun q => by
    obtain ⟨o, es, ep, e2, hd, _⟩ := R.top.g
    rw [q, e] at e2; cases e2; cases hd
  refine ⟨hgP, bm, ob, b1, b2, fun q => ?_, fun q => ?_, R.base _ _ b3, b4, b5, b6⟩
  · obtain ⟨o, es, ep, e2, hd, _⟩ := R.ok.T.g
    rw [← q, b3] at e2; cases e2; rw [hd] at b6; cases b6
  · rw [q, h0] at b3; cases b3

/-- a lambda's object, laid -/
theorem lamLaid {g : TagMap} {s : Shared} {params : Arguments} {body : Expr} {scope : Scope} {qual : Str} {ci : List (Str × Nat)} {as : List Addr} {cv pm ctv : Value} {h' : Heap} {tk : Nat} (R : Rel C g σ { s with heap := h', toks := tk }) (hcv : VR g (codeV qual) cv)
    (has : VRs g (ci.map fun x => V.ref x.2) (as.map Value.ref)) (q : Q (lamV params body scope qual ci) σ) :
    Up C g Q (.ref h'.objs.size) { s with heap := h'.push { cls := .type "function", data := .func (kla_fn "<lambda>" qual params body scope ((ci.map (·.1)).zip as) pm cv ctv) }, toks := tk } := by
  obtain ⟨R', x⟩ := R.newFroz ({ cls := .type "function", data := .func (kla_fn "<lambda>" qual params body scope ((ci.map (·.1)).zip as) pm cv ctv) } : Obj) rfl
  have hcv' := hcv
  obtain ⟨c', us, o, rfl, _⟩ := hcv'
  exact ⟨lamV params body scope qual ci, _, σ, x, R', ⟨_, _, _, rfl, put_self .., ⟨as, c', pm, ctv, rfl, rfl⟩, _, _, rfl, hcv.ext x.v, has.ext x.v⟩, q⟩

theorem SE.lam {params : Arguments} {body : Expr} {scope : Scope} {pos : Pos} {c P : Addr} {q : Str} {ip : Nat} {tb : List ((Nat × Nat) × Str)} (hfn : W.fn = some (.ref c, q)) (hC : CodeHd C.H0 c P) (hb : BM C) (ht : σ.get ip = some (tabO P tb))
    (hf : freeOk W.cells scope.names = true) (hdef : ∀ env, defaultsOf params env = ([], []))
    (h : match tb.lookup (pos.line, pos.col) with
      | Option.none => Q (lamV params body scope (q ++ "<lambda>") (closGo W.cells scope.names [])) (σ.set ip (tabO P (tb ++ [((pos.line, pos.col), q ++ "<lambda>")])))
      | some q' => q' = q ++ "<lambda>" ∧ Q (lamV params body scope (q ++ "<lambda>") (closGo W.cells scope.names [])) σ) : SE C X W (.Lambda params body scope pos) l σ Q := fun g A cenv L m s p => by
  obtain ⟨hcode, hq⟩ := p.E.fn _ _ hfn
  refine kla_eval (hdef cenv) ?_
  rw [hq]
  obtain ⟨t, vs, e, hlen, hvs⟩ := p.R.tabAt ht
  obtain ⟨hgP, hbi⟩ := builtinsAt p.R ht hb
  have hcl : closureFor scope cenv = pure (closGo cenv.cells scope.names []) := closureFor_go (freeOk_of hf p.E)
  obtain ⟨as, eas, has⟩ := closGo_pt p.E.cells scope.names [] [] hf rfl
  have eas : closGo cenv.cells scope.names [] = ((closGo W.cells scope.names []).map (·.1)).zip as := eas
  rw [eas] at hcl
  have am := tabL_among pos tb vs hvs
  cases hlk : tb.lookup (pos.line, pos.col) with
  | none =>
    rw [hlk] at am h
    dsimp only at am h
    refine kla_makeFunction (mg := C.mg) hcl p.E.glob p.R.top.g hcode (hC.keeps p.R.base) e (by simpa using tabL_triples _ _) (by simpa using am) hgP hbi fun c' ctv h' tk hx hge hlt hrec htb => ?_
    obtain ⟨c₂, oc, ws, tq, e2, hoc, hd, hv⟩ := hrec
    cases e2
    have hPlt : P < s.heap.objs.size := Heap.lt_size e
    have hcP : c' ≠ P := fun z => Nat.lt_irrefl _ (Nat.lt_of_lt_of_le (z ▸ hPlt) hge)
    have hcfree : g c' = .free := p.R.free_size hge
    have hc0 : C.H0.get? c' = Option.none := p.R.h0_size hge
    have R1 : Rel C g (σ.set ip (.pk (fun _ _ _ => True) [])) { s with heap := h', toks := tk } := p.R.upd (o := .pk (fun _ _ _ => True) []) t (.inl rfl) (fun b o hb e => hx b o hb e) ⟨_, htb⟩ ⟨[], _, htb, trivial, rfl⟩
    have R2 := R1.retag (a := c') (t := .froz oc) (by rw [hcfree]; exact fun h => h) hoc
    have x1 : Ext g (g.put c' (.froz oc)) := Ext.put hcfree _
    have hcv : VR (g.put c' (.froz oc)) (codeV (q ++ "<lambda>")) (.ref c') := ⟨c', [], oc, rfl, put_self .., ⟨ws, tq, hd, hv⟩, rfl⟩
    have tP : (g.put c' (.froz oc)) P = .main ip := (put_ne _ _ (Ne.symm hcP)).trans t
    have R3 : Rel C (g.put c' (.froz oc)) (σ.set ip (tabO P (tb ++ [((pos.line, pos.col), q ++ "<lambda>")]))) { s with heap := h', toks := tk } := by
      have := R2.upd (s' := { s with heap := h', toks := tk }) (o := tabO P (tb ++ [((pos.line, pos.col), q ++ "<lambda>")])) tP (.inl rfl) (fun _ _ _ e => e) ⟨_, htb⟩ ⟨vs ++ [.ref c'], _, htb, ⟨rfl, by simp [hlen], by rw [List.map_append, List.map_cons, List.map_nil, tabL_snoc _ _ _ _ (by simpa using hlen)]; simp⟩, by
        rw [List.map_append]; exact (hvs.ext x1.v).append ⟨_, [], rfl, hcv, rfl⟩⟩
      rwa [Sto.set_set] at this
    exact Up.back x1 (lamLaid R3 hcv (has.ext x1.v) h)
  | some q' =>
    rw [hlk] at am h
    dsimp only at am h
    obtain ⟨rfl, h⟩ := h
    obtain ⟨cv, ecv, hcv⟩ := am
    refine kla_makeFunctionHit (mg := C.mg) hcl p.E.glob p.R.top.g hcode (hC.keeps p.R.base) e (by simpa using tabL_triples _ _) (by simpa using ecv) hbi fun ctv h' tk hk hsz => ?_
    exact lamLaid (p.R.keeps hk) hcv has h
end
end Mine
/- part MExc -/
set_option maxHeartbeats 4000000
namespace Mine
open PySem PySem.W PySem.Calls PyProof.Rows PySem.SeqAt

section
variable {prog : Program} {w : World} {A : Around} {h : Heap} {g : Array GenState} {d : Drawn} {t : Nat} {os : OsState} {R : Result → Shared → Prop}
variable {nm q : Str} {C N : Addr} {bs bm bmB : List Value} {hdct : Bool} {sn : List Str} {sub : List Value} {ab : Bool} {col : Option Bool} {dd : Option Addr} {k0 k1 k2 k3 k5 : Option Value} {B newId initId : String}

theorem xcheckNew {M : Model} {E : Value → Shared → Prop} (F : ExcBaseFacts B newId initId bmB) (hbB : bm.contains (.type B) = true) {rest : List Value} {Q : Unit → Shared → Prop} (hC : h.get? C = some (excClassObj nm q C N bs bm hdct sn sub ab col dd k0 k1 k2 k3 k5 newId))
    (hq : Q () ⟨h, g, d, t, os⟩) : wpAny M A (checkBuiltinCall newId ⟨.ref C :: rest, []⟩) Q E ⟨h, g, d, t, os⟩ := by
  have hcont : (Value.ref C :: bm).contains (.type B) = true := by rw [List.contains_cons, hbB, Bool.or_true]
  have hstar := F.noStar
  simp only [checkBuiltinCall, F.newKind, F.newSplit, F.newRow]
  repeat (first | refine wpAny_loadPart_at hC ?_ | (refine wpAny_isSubtype_exc hC ?_; rw [hcont]) | refine wpAny_staticBase_exc hC ?_ | refine wpAny_madeBy_exc hC ?_ | simp only [bne_self_eq_false, Bool.false_eq_true, if_false] | wp_step)
  exact hq

theorem xcodeNew (F : ExcBaseFacts B newId initId bmB) (hbB : bm.contains (.type B) = true) (hbA : bm.contains (.type "AttributeError") = false) (hbN : bm.contains (.type "NameError") = false) {rest : List Value} (hC : h.get? C = some (excClassObj nm q C N bs bm hdct sn sub ab col dd k0 k1 k2 k3 k5 newId))
    (hq : R (.ok (.ret (.ref (h.objs.size + 1)))) ⟨(h.push { cls := .type "tuple", data := .seq rest.toArray }).push
      { cls := .ref C, data := .fields #[.ref h.objs.size, .none, .none, .none, .bool false, .none] }, g, d, t, os⟩) (hrest : rest.length ≤ sizeLine := by size_fits) :
    codeAny (model prog w) A (.builtin newId ⟨.ref C :: rest, []⟩) R ⟨h, g, d, t, os⟩ := by
  have hends := F.ends
  have hcB : (Value.ref C :: bm).contains (.type B) = true := by rw [List.contains_cons, hbB, Bool.or_true]
  have hcA : (Value.ref C :: bm).contains (.type "AttributeError") = false := by rw [List.contains_cons, hbA]; rfl
  have hcN : (Value.ref C :: bm).contains (.type "NameError") = false := by rw [List.contains_cons, hbN]; rfl
  refine codeAny_builtinAt F.entry ?_
  unfold Builtin.«BaseException.__new__»
  refine PySem.wpAt_bind ?_
  show PySem.wpAt _ _ _ (stack >>= _) _ _ _
  refine PySem.wpAt_bind (PySem.wpAt_stack fun p below => PySem.wpAt_of_wpAny ?_)
  wp_walk
  refine PySem.wpAt_of_wpAny ?_
  rw [F.owner]
  repeat (first | with_reducible refine wpAny_madeHere_exc F.canon hC ?_ | with_reducible refine wpAny_loadPart_at hC ?_ | (with_reducible refine wpAny_isSubtype_exc hC ?_; first | rw [hcB] | rw [hcA] | rw [hcN]) | wp_step)
  show R _ _
  rw [Heap.size_push]
  exact hq

theorem excMake {rest : List Value} {fI : Addr} (F : ExcBaseFacts B newId initId bmB) (hbB : bm.contains (.type B) = true) (hbA : bm.contains (.type "AttributeError") = false) (hbN : bm.contains (.type "NameError") = false)
    (hC : h.get? C = some (excClassObj nm q C N bs bm hdct sn sub ab col dd k0 k1 k2 k3 k5 newId)) (call : Looks (model prog w) h (specialOf (.ref C) "__call__") (some (.builtin "type.__call__")))
    (typ : Looks (model prog w) h (isInstance (.ref C) (.type "type")) true) (hi : Looks (model prog w) h (typeLookup (.ref C) "__init__") (some (.ref fI))) (hb : ∀ self, Looks (model prog w) h (bindSpecial (.ref fI) self) (.ref fI, [self]))
    (hq : codeAny (model prog w) (A.under (.builtin "type.__call__" ⟨.ref C :: rest, []⟩)) (.call (.ref fI) ⟨.ref (h.objs.size + 1) :: rest, []⟩) (InitBack (h.objs.size + 1) R)
      ⟨(h.push { cls := .type "tuple", data := .seq rest.toArray }).push { cls := .ref C, data := .fields #[.ref h.objs.size, .none, .none, .none, .bool false, .none] }, g, d, t, os⟩) (hrest : rest.length ≤ sizeLine := by size_fits) :
    codeAny (model prog w) A (.call (.ref C) ⟨rest, []⟩) R ⟨h, g, d, t, os⟩ := by
  refine codeAny_of_tree ?_
  show wpAny _ _ (callAny (.ref C) _) _ _ _
  refine nd_load hC ?_
  show wpAny _ _ (callAny.viaDunder (.ref C) _) _ _ _
  unfold callAny.viaDunder
  refine wpAny_bind (call.at ?_)
  dsimp only
  rw [tc_bind]
  refine wpAny_bind (wpAny_pure (wpAny_bind (wpAny_pure ?_)))
  refine wpAny_pure (a := Fin.again (.call (.builtin "type.__call__") ⟨.ref C :: rest, []⟩)) (And.intro rfl ?_)
  refine codeAny_call_builtin_at (Code.quiet_builtin _ (by decide +kernel)) entry_typeCall (check_slot tc_kind tc_split typ (tc_args _ _ _) ?_)
  unfold Builtin.«type.__call__»
  have hm : Looks (model prog w) h (mroOf (.ref C)) (.ref C :: bm) := fun A Q E s k q => wpAny_mroOf_exc (k _ _ hC) q
  have made : Looks (model prog w) h (Bind.madeBy (.ref C)) (some newId) := fun A Q E s k q => wpAny_madeBy_exc (k _ _ hC) q
  repeat (first | simp only [List.isEmpty_cons, Bool.false_eq_true, if_false] | with_reducible refine wpAny_call ?_ | lk)
  refine codeAny_call_builtin_code (Code.quiet_builtin _ F.quiet) (xcheckNew F hbB hC ?_)
  refine xcodeNew F hbB hbA hbN hC ?_ hrest
  show wpAny _ _ _ _ _ _
  have k : ∀ b o, h.get? b = some o → ((h.push { cls := .type "tuple", data := .seq rest.toArray }).push { cls := .ref C, data := .fields #[.ref h.objs.size, .none, .none, .none, .bool false, .none] }).get? b = some o := fun b o e => Heap.get?_push_of_some _ (Heap.get?_push_of_some _ e)
  have hx : ((h.push { cls := .type "tuple", data := .seq rest.toArray }).push { cls := .ref C, data := .fields #[.ref h.objs.size, .none, .none, .none, .bool false, .none] }).get? (h.objs.size + 1) = some { cls := .ref C, data := .fields #[.ref h.objs.size, .none, .none, .none, .bool false, .none] } := by heap_get
  have t1 : Looks (model prog w) ((h.push { cls := .type "tuple", data := .seq rest.toArray }).push { cls := .ref C, data := .fields #[.ref h.objs.size, .none, .none, .none, .bool false, .none] }) (typeOf (.ref (h.objs.size + 1))) (.ref C) := (Looks.ld hx).andThen .now
  have hcC : (Value.ref C :: bm).contains (.ref C) = true := by simp
  have s1 : Looks (model prog w) ((h.push { cls := .type "tuple", data := .seq rest.toArray }).push { cls := .ref C, data := .fields #[.ref h.objs.size, .none, .none, .none, .bool false, .none] }) (isSubtype (.ref C) (.ref C)) true := fun A Q E s k' q => wpAny_isSubtype_exc (k' _ _ (k _ _ hC)) (by rw [hcC]; exact q)
  have i1 := hi.keeps k
  have b1 := (hb (.ref (h.objs.size + 1))).keeps k
  unfold isInstance callSpecial? specialOf
  repeat (first | with_reducible refine wpAny_call ?_ | lk)
  refine codeAny_mono hq fun r s' z => ?_
  rcases r with e | (v | _ | _ | _) <;> first | exact z | exact z.elim | skip
  obtain ⟨rfl, z⟩ := z
  exact wpAny_pure (wpAny_pure z)
end
end Mine
/- part MSup -/
set_option maxHeartbeats 4000000
namespace Mine
open PySem PySem.W PySem.Calls PyProof.Rows PySem.SeqAt

theorem slot_wd_get : Slot "wrapper_descriptor" "__get__" "wrapper_descriptor.__get__" := .of (owner := "wrapper_descriptor") (n := "__get__") (by rw [typeLookup_type, builtinLookup_eq_fast]; kernel_rfl) (by decide +kernel) (by decide +kernel) (by decide +kernel)
  (by first | exact .inl (by decide +kernel) | exact .inr (by decide +kernel)) (by rw [isSubtype_type]; kernel_rfl)
theorem entry_wd_get : entryFor table "wrapper_descriptor.__get__" = some Builtin.«wrapper_descriptor.__get__» := entryFor_of_tree (by kernel_rfl)
theorem args_wd_get (a b c : Value) : argsOk "wrapper_descriptor.__get__" ⟨[a, b, c], []⟩ := by unfold argsOk; kernel_rfl
theorem type_ei : typeOf (.builtin "Exception.__init__") = pure (.type "wrapper_descriptor") := by kernel_rfl
abbrev mwObj (x : Addr) : Obj := { cls := .type "method-wrapper", dict := none, data := .fields #[.builtin "Exception.__init__", .ref x], slots := #[] }

section
variable {prog : Program} {w : World} {M : Model} {A : Around} {E : Value → Shared → Prop} {h : Heap} {g : Array GenState} {d : Drawn} {t : Nat} {os : OsState}
theorem owner_ei : (".".intercalate ("Exception.__init__".cutAt '.').dropLast) = "Exception" := by decide +kernel
theorem wd_get {x C : Addr} {ox : Obj} {Q : Fin → Shared → Prop} (hx : h.get? x = some ox) (hcl : ox.cls = .ref C) (hs : Looks (model prog w) h (isSubtype (.ref C) (.type "Exception")) true)
    (hq : Q (.done (.ret (.ref h.objs.size))) ⟨h.push (mwObj x), g, d, t, os⟩) : wpAny (model prog w) A (Builtin.«wrapper_descriptor.__get__» ⟨[.builtin "Exception.__init__", .ref x, .ref C], []⟩) Q E ⟨h, g, d, t, os⟩ := by
  unfold Builtin.«wrapper_descriptor.__get__»
  repeat (first | (with_reducible refine wpAny_loadPart_at hx ?_; rw [hcl]) | (rw [owner_ei]; with_reducible refine Looks.at hs ?_) | wp_step)
  exact hq

theorem super_ga {so D x C : Addr} {ox : Obj} {l₀ l : List Value} {K : Frag} {tk : Tok} {Q : Fin → Shared → Prop}
    (hso : h.get? so = some { cls := .type "super", dict := none, data := .fields #[.ref D, .ref x, .ref C], slots := #[] }) (hno : Looks (model prog w) h (opaqueClassAbove (.ref C)) none)
    (hC : Looks (model prog w) h (mroOf (.ref C)) l₀) (hl : (l₀.dropWhile (· != .ref D)).drop 1 = l) (X : K.In h)
    (hf : alongIn K "__init__" l = some (some (.builtin "Exception.__init__"))) (hx : h.get? x = some ox) (hcl : ox.cls = .ref C) (hs : Looks (model prog w) h (isSubtype (.ref C) (.type "Exception")) true) (hxC : x ≠ C)
    (hq : Q (.done (.ret (.ref h.objs.size))) ⟨h.push (mwObj x), g, d, t, os⟩) :
    wpAny (model prog w) A (Builtin.«super.__getattribute__» ⟨[.ref so, .str "__init__" tk], []⟩) Q E ⟨h, g, d, t, os⟩ := by
  have hlk := slot_wd_get.lookup
  have hne : (Value.ref x == Value.ref C) = false := by simp [hxC]
  have hT : (⟨h, g, d, t, os⟩ : Shared).TypeIs (.builtin "Exception.__init__") "wrapper_descriptor" := type_ei
  have hdt : ({ cls := .type "super", dict := none, data := .fields #[.ref D, .ref x, .ref C], slots := #[] } : Obj).data = .fields #[.ref D, .ref x, .ref C] := rfl
  have f0 : (#[.ref D, .ref x, .ref C] : Array Value)[0]? = some (.ref D) := rfl
  have f1 : (#[.ref D, .ref x, .ref C] : Array Value)[1]? = some (.ref x) := rfl
  have f2 : (#[.ref D, .ref x, .ref C] : Array Value)[2]? = some (.ref C) := rfl
  have hn : (("__init__" : Str) == ("__class__" : Str)) = false := by decide
  unfold Builtin.«super.__getattribute__»
  repeat (first
    | (with_reducible refine wpAny_field hso hdt f0 ?_) | (with_reducible refine wpAny_field hso hdt f1 ?_) | (with_reducible refine wpAny_field hso hdt f2 ?_)
    | (with_reducible refine ks_wpAny_notOpaque hno ?_)
    | (with_reducible refine Looks.at hC ?_; rw [hl])
    | (refine ks_forIn_along X (fun _ _ => rfl) rfl ?_ hf)
    | (with_reducible refine wpAny_typeOf hT ?_)
    | (with_reducible refine wpAny_call_entry slot_wd_get hT entry_wd_get ?_ (args_wd_get _ _ _))
    | (with_reducible refine wd_get hx hcl hs ?_)
    | (with_reducible refine ⟨_, rfl, ?_⟩)
    | (simp only [hn, hne, Bool.or_false, Bool.false_eq_true, if_false])
    | wp_step
    | dsimp only)
  all_goals exact hq

theorem super_method {so D x C : Addr} {ox : Obj} {l₀ l : List Value} {K : Frag} {pl : Sem Bool} {Q : Value × List Value → Shared → Prop}
    (hso : h.get? so = some { cls := .type "super", dict := none, data := .fields #[.ref D, .ref x, .ref C], slots := #[] }) (hno : Looks (model prog w) h (opaqueClassAbove (.ref C)) none)
    (hC : Looks (model prog w) h (mroOf (.ref C)) l₀) (hl : (l₀.dropWhile (· != .ref D)).drop 1 = l) (X : K.In h)
    (hf : alongIn K "__init__" l = some (some (.builtin "Exception.__init__"))) (hx : h.get? x = some ox) (hcl : ox.cls = .ref C) (hs : Looks (model prog w) h (isSubtype (.ref C) (.type "Exception")) true) (hxC : x ≠ C)
    (hq : Q (.ref h.objs.size, []) ⟨h.push (mwObj x), g, d, t + 1, os⟩) :
    wpAny (model prog w) A (getMethod (.ref so) "__init__" pl) Q E ⟨h, g, d, t, os⟩ := by
  have hlk := F.ks_slot_super_ga.lookup
  have hcan := F.ks_canon_super_ga
  have hT : ∀ t', (⟨h, g, d, t', os⟩ : Shared).TypeIs (.ref so) "super" := fun _ => ⟨_, hso, rfl⟩
  unfold getMethod
  refine wpAny_bind (wpAny_specialOf (hT _) hlk ?_)
  show wpAny _ _ (if (Manifest.canonical "super.__getattribute__" != "object.__getattribute__") = true then _ else _) _ _ _
  rw [if_pos hcan]
  unfold getAttr getAttrBy
  refine wpAny_bind (wpAny_bind (wpAny_mkText (wpAny_holding (wpAny_bind (wpAny_typeOf (hT _) (wpAny_bind (wpAny_of_eq hlk ?_)))))))
  show wpAny _ _ (getAttrByItsOwn (.ref so) (.str "__init__" t) (.type "super") (.builtin "super.__getattribute__") true false) _ _ _
  unfold getAttrByItsOwn hookBefore callGetattribute boundAndCalled
  refine wpAny_bind (wpAny_of_eq (show (if onTheHeap (.type "super") then typeLookup (.type "super") "__getattr__" else pure none) = pure none from rfl) ?_)
  refine wpAny_bind (wpAny_attempt (wpAny_holding ?_))
  show wpAny _ _ (bindSpecial (.builtin "super.__getattribute__") (.ref so) >>= _) _ _ _
  refine wpAny_bind (wpAny_of_eq (F.ks_slot_super_ga.bind _) ?_)
  refine wpAny_mono (Q := fun v s' => v = .ref h.objs.size ∧ s' = ⟨h.push (mwObj x), g, d, t + 1, os⟩) (E := fun _ _ => False)
    (wpAny_call_entry F.ks_slot_super_ga (hT _) F.ks_entry_super_ga (super_ga hso hno hC hl X hf hx hcl hs hxC ⟨_, rfl, rfl, rfl⟩) (F.ks_gaArgs_super _ _)) (fun v s' hv => ?_) fun _ _ z => z.elim
  obtain ⟨rfl, rfl⟩ := hv
  exact wpAny_pure (wpAny_pure hq)
end

theorem entry_ei : entryFor table "Exception.__init__" = some Builtin.«BaseException.__init__» := F.excBase_Exception.initEntry
theorem ei_quiet (a : Args) : (Code.builtin "Exception.__init__" a).quiet = true := Code.quiet_builtin _ (by decide +kernel)
section
variable {M : Model} {A : Around} {E : Value → Shared → Prop} {h : Heap} {g : Array GenState} {d : Drawn} {t : Nat} {os : OsState}
variable {nm q : Str} {C N : Addr} {bs bm : List Value} {hdct : Bool} {sn : List Str} {sub : List Value} {ab : Bool} {col : Option Bool} {dd : Option Addr} {k0 k1 k2 k3 k5 : Option Value} {newId : String}
theorem ei_check {e : Addr} {oe : Obj} {rest : List Value} {Q : Unit → Shared → Prop} (hC : h.get? C = some (excClassObj nm q C N bs bm hdct sn sub ab col dd k0 k1 k2 k3 k5 newId)) (he : h.get? e = some oe) (hcls : oe.cls = .ref C) (hq : Q () ⟨h, g, d, t, os⟩) :
    wpAny M A (checkBoundCall "Exception.__init__" ⟨.ref e :: rest, []⟩) Q E ⟨h, g, d, t, os⟩ := by
  have hk := F.excBase_Exception.initKind
  have hr := F.excBase_Exception.initRow
  unfold checkBoundCall
  simp only [hr, hk]
  rw [if_pos (by decide)]
  unfold Bind.checkArgs
  repeat (first | (with_reducible refine wpAny_loadPart_at he ?_; rw [hcls]) | with_reducible refine wpAny_loadPart_at hC ?_ | wp_step)
  refine wpAny_onRaise ?_
  rw [show ∀ (a b : String) (n : Nat), Bind.check ⟨.positional, "*", "Exception", .self, [⟨"args", .varPos, false⟩]⟩ a b n (List.map (fun x => x.fst) ({ pos := Value.ref e :: rest } : Args).kw) = pure () from
    fun a b n => check_star_args _ _ _ _ _ _]
  exact wpAny_pure hq
end

section
variable {prog : Program} {w : World} {A : Around} {R : Result → Shared → Prop} {s : Shared}
/- Exception.__init__ bound to an exception, called -/
variable {nm q : Str} {C N : Addr} {bs bm : List Value} {hdct : Bool} {sn : List Str} {sub : List Value} {ab : Bool} {col : Option Bool} {dd : Option Addr} {k0 k1 k2 k3 k5 : Option Value} {newId : String}
theorem mwCall {b x : Addr} {ox : Obj} {vs : Array Value} {v : Value} (hC : s.heap.get? C = some (excClassObj nm q C N bs bm hdct sn sub ab col dd k0 k1 k2 k3 k5 newId)) (hb : s.heap.get? b = some (mwObj x)) (hcls : ox.cls = .ref C) (hx : s.heap.get? x = some ox) (hd : ox.data = .fields vs) (hsz : vs.size = 6)
    (hq : ∀ h', h'.get? x = some (ox.mapFields (·.setIfInBounds 0 (.ref s.heap.objs.size))) → (∀ a o, a ≠ x → s.heap.get? a = some o → h'.get? a = some o) → R (.ok (.ret .none)) { s with heap := h' }) :
    codeAny (model prog w) A (.call (.ref b) ⟨[v], []⟩) R s := by
  refine codeAny_of_tree ?_
  show wpAny _ A.in1 (callAny (.ref b) ⟨[v], []⟩) _ _ s
  simp only [callAny]
  refine wpAny_bind (wpAny_load hb ?_)
  simp only [show (Value.type "method-wrapper" == Value.type "method" || Value.type "method-wrapper" == Value.type "builtin_function_or_method" || Value.type "method-wrapper" == Value.type "method-wrapper") = true by decide, if_true]
  show wpAny _ _ (do checkBoundCall "Exception.__init__" ⟨[.ref x, v], []⟩; again (Code.builtin "Exception.__init__" ⟨[.ref x, v], []⟩)) _ _ _
  refine wpAny_bind (ei_check (h := s.heap) (g := s.gens) (d := s.drawn) (t := s.toks) (os := s.os) hC hx hcls ?_)
  refine wpAny_pure ?_
  refine ⟨ei_quiet _, codeAny_builtin entry_ei ?_⟩
  obtain ⟨old, h0⟩ : ∃ old, vs[0]? = some old := ⟨vs[0], Array.getElem?_eq_getElem (by lia)⟩
  unfold Builtin.«BaseException.__init__»
  dsimp only
  refine wpAny_bind ?_
  unfold newTuple
  have hxp := Heap.get?_push_of_some { cls := .type "tuple", dict := none, data := .seq [v].toArray } hx
  refine wpAny_newObj_type ?_ (by show [v].toArray.size ≤ sizeLine; rw [List.size_toArray, sizeLine_eq]; simp)
  have hne : x ≠ s.heap.objs.size := Nat.ne_of_lt (Heap.lt_size hx)
  have fin : ∀ (Q' : Unit → Shared → Prop) (E' : Value → Shared → Prop) (A' : Around), Q' () { s with heap := (s.heap.push { cls := .type "tuple", dict := none, data := .seq [v].toArray }).update x (Obj.mapFields (·.setIfInBounds 0 (.ref s.heap.objs.size))) } →
      wpAny (model prog w) A' (Builtin.BaseException.bexcPut (.ref x) 0 (.ref s.heap.objs.size)) Q' E' { s with heap := s.heap.push { cls := .type "tuple", dict := none, data := .seq [v].toArray } } := by
    intro Q' E' A' hq'
    unfold Builtin.BaseException.bexcPut
    refine wpAny_bind (wpAny_field hxp hd h0 (wpAny_bind (wpAny_setField hxp hd (by lia) ?_)))
    cases old <;> first | exact wpAny_pure hq' | skip
    unfold letGo
    exact wpAny_bind (wpAny_holding (wpAny_point (by unfold letGo; exact wpAny_pure hq')))
  refine wpAny_bind (fin _ _ _ (wpAny_pure ?_))
  refine hq _ ?_ fun a o ha e => ?_
  · exact Heap.get?_update_self _ hxp (Obj.isFreed_of_fields (Obj.data_mapFields hd _))
  · exact (Heap.get?_update_other _ _ (Ne.symm ha)).trans (Heap.get?_push_of_some _ e)
end
end Mine
/- part MHer -/
set_option maxHeartbeats 4000000
namespace Mine
open PySem PySem.W PySem.Calls PyProof.Rows PySem.SeqAt Builtin Builtin.ObjectAttr

/-- the tail of the classes of an own exception -/
noncomputable def excTail : List Value → Bool
  | [.type a, .type b, .type c] => a == "Exception" && b == "BaseException" && c == "object"
  | .ref _ :: r => excTail r
  | _ => false
theorem excTail_ref {c : Addr} {r : List Value} (h : excTail (.ref c :: r) = true) : excTail r = true := by
  cases r with
  | nil => exact h
  | cons a r => cases r with
    | nil => exact h
    | cons b r => cases r with
      | nil => exact h
      | cons c r => exact h
theorem excTail_passes (self : Value) : ∀ {l : List Value}, excTail l = true → refuseLoop self "__setattr__" l = pure ()
  | [.type a, .type b, .type c], h => by
    have h : (a == "Exception" && b == "BaseException" && c == "object") = true := h
    simp only [Bool.and_eq_true, beq_iff_eq] at h
    obtain ⟨⟨rfl, rfl⟩, rfl⟩ := h
    exact F.store_Exception.passes self
  | .ref c :: r, h => by rw [refuseLoop_ref]; exact excTail_passes self (excTail_ref h)
  | [], h => by cases h
theorem excTail_has : ∀ {l : List Value}, excTail l = true → l.contains (.type "object") = true ∧ l.contains (.type "Exception") = true ∧ l.contains (.type "BaseException") = true ∧ l.contains (.type "AttributeError") = false ∧ l.contains (.type "NameError") = false
  | [.type a, .type b, .type c], h => by
    have h : (a == "Exception" && b == "BaseException" && c == "object") = true := h
    simp only [Bool.and_eq_true, beq_iff_eq] at h
    obtain ⟨⟨rfl, rfl⟩, rfl⟩ := h
    decide +kernel
  | .ref c :: r, h => by
    obtain ⟨a, b, c', d, e⟩ := excTail_has (excTail_ref h)
    refine ⟨?_, ?_, ?_, ?_, ?_⟩
    · rw [List.contains_cons, a, Bool.or_true]
    · rw [List.contains_cons, b, Bool.or_true]
    · rw [List.contains_cons, c', Bool.or_true]
    · rw [List.contains_cons, d]; rfl
    · rw [List.contains_cons, e]; rfl
  | [], h => by cases h
/-- the first name that an exception gets -/
theorem osaE {prog : Program} {w : World} {A : Around} {K : Frag} {s : Shared} {R : Result → Shared → Prop} {x C : Addr} {ox : Obj} {vs : Array Value} {cd : ClassData} {name : Str} {tk : Tok} {v : Value} (X : K.In s.heap) (hx : s.heap.get? x = some ox) (hcl : ox.cls = .ref C) (hd : ox.data = .fields vs) (hdn : ox.dict = none)
    (hc : clsIn K C = some cd) (hm : excTail cd.mro = true) (hhd : cd.hasDict = true) (ht : findIn K (.ref C) name = some none)
    (h : ∀ h', h'.get? x = some { ox with dict := some s.heap.objs.size } → h'.get? s.heap.objs.size = some (dctObj [⟨PyData.keyHash w.params name, .str name s.toks, v⟩] (putN name [] 0)) → (∀ b o, b ≠ x → s.heap.get? b = some o → h'.get? b = some o) → R (.ok (.ret .none)) { s with heap := h', toks := s.toks + 1 }) :
    codeAny (model prog w) A (.call (.builtin "object.__setattr__") ⟨[.ref x, .str name tk, v], []⟩) R s := by
  have SF := PySem.F.store_object
  have hT : Looks (model prog w) s.heap (typeOf (.ref x)) (.ref C) := hcl ▸ (Looks.ld hx).andThen .now
  have ne : cd.mro.isEmpty = false := by cases q : cd.mro with | nil => rw [q] at hm; cases hm | cons _ _ => rfl
  have sub : Looks (model prog w) s.heap (isInstance (.ref x) (.type "object")) true := hT.andThen (looks_mroIn X (by unfold mroIn; rw [hc, Option.bind_some, if_neg (by rw [ne]; decide), (excTail_has hm).1]))
  refine codeAny_call_builtin SF.slot.plain SF.entry (@check_slot (model prog w) _ _ s "object.__setattr__" "object" "__setattr__" (.ref x) [.str name tk, v] [] _ SF.kind SF.split sub (SF.args (.ref x) (.str name tk) v) ?_)
  have hmro : Looks (model prog w) s.heap (mroOf (.ref C)) cd.mro := (looks_clsIn X hc).andThen .now
  rw [osa_eq, refuse_eq]
  refine wpAny_bind (wpAny_bind (hT.here (wpAny_bind (hmro.here ?_))))
  rw [excTail_passes _ hm]
  refine wpAny_pure (wpAny_bind (hT.here (wpAny_bind ((looks_findIn X ht).here (wpAny_bind (wpAny_pure ?_))))))
  show wpAny _ _ (storeInOwnDict (.ref x) (.ref C) (.str name tk) name v false) _ _ _
  obtain ⟨oc, odi, oda, osl⟩ := ox
  dsimp only at hcl hdn hd
  subst hcl; subst hdn; subst hd
  have hne : x ≠ s.heap.objs.size := Nat.ne_of_lt (Heap.lt_size hx)
  have hxp := Heap.get?_push_of_some emptyDict hx
  refine wpAny_bind (wpAny_pure (wpAny_bind (wpAny_bind (wpAny_loadPart hx (wpAny_bind ((looks_clsIn X hc).here ?_))))))
  rw [hhd]
  refine wpAny_bind (wpAny_alloc (wpAny_bind (wpAny_update hxp ?_)))
  refine wpAny_pure (a := some s.heap.objs.size) (wpAny_bind (wpAny_pure (wpAny_bind ?_)))
  have hD : ((s.heap.push emptyDict).update x fun o => { o with dict := some s.heap.objs.size }).get? s.heap.objs.size = some (dctObj [] 0) :=
    (Heap.get?_update_other _ _ hne).trans (Heap.get?_push_size _ rfl)
  have hx1 : ((s.heap.push emptyDict).update x fun o => { o with dict := some s.heap.objs.size }).get? x = some ⟨.ref C, some s.heap.objs.size, .fields vs, osl⟩ :=
    Heap.get?_update_self _ hxp rfl
  unfold nsSet
  refine wpAny_bind (wpAny_bind (wpAny_askSetting (wpAny_pure (wpAny_bind (wpAny_mkText (wpAny_bind (wpAny_loadPart hD ?_)))))))
  dsimp only
  have cc : (!([] : List DictEntry).toArray.any (·.key.isStr name) && ([] : List DictEntry).toArray.any (·.refKey)) = false := by simp
  rw [aRefKeyMayBeTheName_at, cc]
  refine wpAny_updatePart hD ?_
  have e : Obj.putName name (PyData.keyHash w.params name) (.str name s.toks) v (dctObj [] 0) = dctObj (putL name (PyData.keyHash w.params name) (.str name s.toks) v []) (putN name [] 0) := putName_dict ..
  have D' : (((s.heap.push emptyDict).update x fun o => { o with dict := some s.heap.objs.size }).update s.heap.objs.size (Obj.putName name (PyData.keyHash w.params name) (.str name s.toks) v)).get? s.heap.objs.size = some (dctObj [⟨PyData.keyHash w.params name, .str name s.toks, v⟩] (putN name [] 0)) := by
    rw [Heap.get?_update_self _ hD (by rw [e]; rfl), e]; rfl
  refine wpAny_bind (wpAny_lookBehind D' (pastItsLine_dict (by rw [List.size_toArray, sizeLine_eq]; simp)) ?_)
  refine wpAny_pure (h _ ?_ D' fun b o hb eb => ?_)
  · exact (Heap.get?_update_other _ _ (Ne.symm hne)).trans hx1
  · have hbs : b ≠ s.heap.objs.size := Nat.ne_of_lt (Heap.lt_size eb)
    rw [Heap.get?_update_other _ _ (Ne.symm hbs), Heap.get?_update_other _ _ (Ne.symm hb)]
    exact Heap.get?_push_of_some _ eb
end Mine
/- part MEx2 -/
set_option maxHeartbeats 4000000
namespace Mine
open PySem PySem.W PySem.Calls PyProof.Rows PySem.SeqAt

theorem LocR.rev {g : TagMap} : ∀ {ns : List Str} {ds : List V} {vs : List Value}, VRs g ds vs → LocR g (fun x => (ns.zip ds).reverse.lookup x) (fun x => (ns.zip vs).reverse.lookup x) := by
  have key : ∀ {bs : List (Str × V)} {cs : List (Str × Value)} {x : Str}, BR g bs cs → OVR g (bs.lookup x) (cs.lookup x) := by
    intro bs
    induction bs with
    | nil => intro cs x h; cases h; rfl
    | cons b r ih =>
      intro cs x h
      obtain ⟨n, d⟩ := b
      obtain ⟨v, t, e, a, b⟩ := h
      subst e
      rw [List.lookup_cons, List.lookup_cons]
      cases q : x == n with
      | true => exact ⟨v, rfl, a⟩
      | false => exact ih b
  have snoc : ∀ {bs : List (Str × V)} {cs : List (Str × Value)} {n : Str} {d : V} {v : Value}, BR g bs cs → VR g d v → BR g (bs ++ [(n, d)]) (cs ++ [(n, v)]) := by
    intro bs
    induction bs with
    | nil => intro cs n d v h hv; cases h; exact ⟨v, [], rfl, hv, rfl⟩
    | cons b r ih =>
      intro cs n d v h hv
      obtain ⟨n', d'⟩ := b
      obtain ⟨v', t, e, a, b⟩ := h
      subst e
      exact ⟨v', t ++ [(n, v)], rfl, a, ih b hv⟩
  have rev : ∀ {bs : List (Str × V)} {cs : List (Str × Value)}, BR g bs cs → BR g bs.reverse cs.reverse := by
    intro bs
    induction bs with
    | nil => intro cs h; cases h; rfl
    | cons b r ih =>
      intro cs h
      obtain ⟨n', d'⟩ := b
      obtain ⟨v', t, e, a, b⟩ := h
      subst e
      rw [List.reverse_cons, List.reverse_cons]
      exact snoc (ih b) a
  intro ns ds vs h x
  exact key (rev (BR.zip h))

section
variable {C : Cx} {X Xi : XPost} {W : En} {l : Loc} {σ : Sto} {Q : V → Sto → Prop}

/-- a function that looks at its own activation and closes over cells of the top -/
theorem SCc.fnAt {ds : List V} {a : Addr} {oc : Value} {od : Option Addr} {osl : Array (Option Value)} {name qual : Str} {params : Arguments} {body : List Stmt} {scope : Scope} {cl : List (Str × Addr)} {dV kV doc pm cdv ct : Value} {an : Option Addr} {d' : Nat}
    (ho : C.K.lookup a = some ⟨oc, od, .func (fnX name qual params body scope cl dV kV doc pm an cdv ct), osl⟩) (hcd : codeIn C.K cdv qual = true) (hW : W.d = d' + 1)
    (hco : scope.isCoroutine = false) (hgen : scope.isGenerator = false) (hk : scope.kind = .function) (hcell : ∀ x ∈ scope.names, x.2 ≠ .cell) (hloc : ∀ x ∈ argNames params, scope.names.lookup x = some .local)
    (hb : ∀ vs : List Value, vs.length = ds.length → bindArgs (fnX name qual params body scope cl dV kV doc pm an cdv ct) ⟨vs, []⟩ = pure ((argNames params).zip vs)) (hx : XLeaves C X Xi)
    (h : σ.Closed → ∀ g A cenv L m s, Pre C ⟨scope, [], d', W.calm, some (cdv, qual ++ ".<locals>.")⟩ (fun x => ((argNames params).zip ds).reverse.lookup x) σ g A cenv L m s → OwnFrame A cenv L →
      cenv = newEnv scope L mainGlobals cl (qual ++ ".<locals>.") (some a) cdv none builtinsNs →
      PySem.wpAt C.M A (.func body cenv) (execs body cenv) (UpS C L g fun f _ σ' => match f with | .ret d => Q d σ' | _ => Q .none σ') (Xi.P L g A.frames) s) : SCc C X W σ (.val (.ref a)) ds Q := by
  intro g A L s fv vs R hA hf hv
  obtain rfl : fv = .ref a := hf
  have hroom : A.depth < recursionLimit := by have := hA.depth; lia
  refine codeAny_call_function hroom (R.kin _ _ ho) rfl hco hgen rfl (codeRec_of R.kin hcd) ?_
  rw [hb vs hv.length.symm]
  refine wpAny_pure (wpAny_newFunctionEnv hcell (fun x hx => hloc _ (List.of_mem_zip hx).1) (fun h₁ hns hsb => ?_) hk)
  have hk₁ : ∀ b o, s.heap.get? b = some o → h₁.get? b = some o := fun b o e => hsb.extBut b o (Nat.ne_of_lt (Heap.lt_size e)) (Heap.get?_push_of_some _ e)
  refine ⟨(R.top.nolimit).keeps hk₁, ks_codeAny_funcAt ?_⟩
  obtain ⟨x1, p, ow⟩ := entered (tk := s.toks + ((argNames params).zip vs).length) (a := a) (cdv := cdv) (qual := qual ++ ".<locals>.") (ci := []) (cl := cl) (l := fun x => ((argNames params).zip ds).reverse.lookup x) R hA hW hk (fun _ _ e => by cases e) hns (LocR.rev hv) hk₁
  have hLfree : g s.heap.objs.size = .free := R.free_size (Nat.le_refl _)
  obtain ⟨outer', hfr', _⟩ := hA.frames
  refine ks_wpAt_mono (h R.closed _ _ _ _ _ _ p ow rfl) ?_ ?_
  · rintro fl s'' ⟨f, l', g', σ', m', x, R', hm, hl, hfl, q⟩
    have xx : Ext g g' := fun b hb => by
      have hne : b ≠ s.heap.objs.size := fun e => hb (e ▸ hLfree)
      have e1 := x1 b hb
      rw [← e1]
      exact x b hne (by rw [e1]; exact hb)
    have fin : ∀ v, (∃ d, VR g' d v ∧ Q d σ') → Up C g Q v s'' := fun v ⟨d, hv, q⟩ => ⟨d, g', σ', xx, R', hv, q⟩
    cases f with
    | ret d => obtain ⟨v, rfl, hv⟩ := hfl; exact fin _ ⟨d, hv, q⟩
    | next => obtain rfl : fl = .next := hfl; exact fin _ ⟨.none, rfl, q⟩
    | brk => obtain rfl : fl = .brk := hfl; exact fin _ ⟨.none, rfl, q⟩
    | cont => obtain rfl : fl = .cont := hfl; exact fin _ ⟨.none, rfl, q⟩
  · intro e s' hxi
    rw [Around.frames_deeper hfr'] at hxi
    exact hx g _ L _ A _ outer' _ e s' hfr' x1 hLfree (put_self ..) rfl hxi

/-! exceptions in the store -/
theorem Rel.excAt {g : TagMap} {s : Shared} {i : Nat} {c : Addr} {fo : Option (List (Str × V))} {v : Value} (R : Rel C g σ s) (hi : σ.get i = some (.exc c fo)) (hv : VR g (.ref i) v) :
    ∃ x o vs, v = .ref x ∧ g x = .main i ∧ s.heap.get? x = some o ∧ o.cls = .ref c ∧ o.data = .fields vs ∧ (vs.size = 6 ∧ vs[1]? = some .none) ∧ DictR C.w.params g s.heap i o.dict fo := by
  obtain ⟨x, rfl, t⟩ := hv
  obtain ⟨b, t', o, vs, e, e1, e2, e3, r⟩ := R.objs i _ hi
  obtain rfl := R.uniq x b i t t'
  exact ⟨x, o, vs, rfl, t, e, e1, e2, e3, r⟩

/-- an own exception class, called -/
theorem SCc.exc {c fI : Addr} {ds : List V} {nm q : Str} {N : Addr} {bs bm : List Value} {hdct : Bool} {sn : List Str} {sub : List Value} {ab : Bool} {col : Option Bool} {dd : Option Addr} {k0 k1 k2 k3 k5 : Option Value}
    (hd : 0 < W.d) (hC : C.K.lookup c = some (excClassObj nm q c N bs bm hdct sn sub ab col dd k0 k1 k2 k3 k5 "Exception.__new__")) (hm : excTail bm = true)
    (hcall : specialIn C.K (.ref c) "__call__" = some (some (.builtin "type.__call__"))) (htyp : instIn C.K (.ref c) (.type "type") = some true) (hi : findIn C.K (.ref c) "__init__" = some (some (.ref fI))) (hf : typeIn C.K (.ref fI) = some (.type "function")) (hz : ds.length ≤ 1000)
    (h : SCc C X W.dec (σ.push (.exc c Option.none)) (.val (.ref fI)) (.ref σ.nx :: ds) fun d σ' => d = .none ∧ Q (.ref σ.nx) σ') : SCc C X W σ (.val (.ref c)) ds Q := by
  rintro g A L s fv vs R hA hfv hv
  obtain rfl : fv = .ref c := hfv
  obtain ⟨hh, gg, d, t, os⟩ := s
  obtain ⟨_, hB, hBB, hA', hN'⟩ := excTail_has hm
  refine excMake F.excBase_Exception hB hA' hN' (R.kin _ _ hC) (looks_specialIn R.kin hcall) (looks_instIn R.kin htyp) (looks_findIn R.kin hi) (fun self => bind_fn R.kin self hf) ?_ (by rw [← hv.length, sizeLine_eq]; lia)
  have hx : ((hh.push { cls := .type "tuple", data := .seq vs.toArray }).push { cls := .ref c, data := .fields #[.ref hh.objs.size, .none, .none, .none, .bool false, .none] }).get? (hh.objs.size + 1) = some { cls := .ref c, data := .fields #[.ref hh.objs.size, .none, .none, .none, .bool false, .none] } := by heap_get
  have f2 : g (hh.objs.size + 1) = .free := R.free_size (Nat.le_succ _)
  have z2 : C.H0.get? (hh.objs.size + 1) = Option.none := R.h0_size (Nat.le_succ _)
  have R1 : Rel C g σ ⟨(hh.push { cls := .type "tuple", data := .seq vs.toArray }).push { cls := .ref c, data := .fields #[.ref hh.objs.size, .none, .none, .none, .bool false, .none] }, gg, d, t, os⟩ := R.keeps fun b o e => Heap.get?_push_of_some _ (Heap.get?_push_of_some _ e)
  have x2 : Ext g (g.put (hh.objs.size + 1) (.main σ.nx)) := Ext.put f2 _
  have R3 : Rel C (g.put (hh.objs.size + 1) (.main σ.nx)) (σ.push (.exc c Option.none)) ⟨(hh.push { cls := .type "tuple", data := .seq vs.toArray }).push { cls := .ref c, data := .fields #[.ref hh.objs.size, .none, .none, .none, .bool false, .none] }, gg, d, t, os⟩ :=
    R1.newMain (o := .exc c Option.none) f2 z2 ⟨_, _, hx, rfl, rfl, ⟨rfl, rfl⟩, rfl⟩ ⟨_, hx⟩
  have hA2 : Ar (g.put (hh.objs.size + 1) (.main σ.nx)) W.dec.d W.dec.calm (A.under (.builtin "type.__call__" ⟨.ref c :: vs, []⟩)) := by
    have hB := hA.ext x2
    refine ⟨?_, ?_, hB.calm, ?_, ?_⟩
    · have := hB.depth
      show A.depth + 1 + 2 * (W.d - 1) < _
      lia
    · have := hB.units
      show A.units + 1 + 20 * (W.d - 1) + 200 < _
      lia
    · exact hB.frames
    · exact hB.guards
  refine codeAny_mono (h _ _ L _ (.ref fI) (.ref (hh.objs.size + 1) :: vs) R3 hA2 rfl ⟨_, _, rfl, ⟨_, rfl, put_self ..⟩, hv.ext x2.v⟩) fun r s' z => ?_
  cases r with
  | error e => exact X.mono x2 z
  | ok f => cases f with
    | ret v =>
      obtain ⟨d', g', σ', y, R', hv', rfl, q⟩ := z
      exact ⟨hv', .ref σ.nx, g', σ', x2.trans y, R', ⟨_, rfl, y.at (put_self ..) (by intro h; cases h)⟩, q⟩
    | _ => exact z.elim

/-! super().__init__(d) -/
noncomputable def supV (D : Addr) (c : Addr) (i : Nat) : V := .pk (fun _ us o => ∃ x, us = [.ref x] ∧ o = ks_superObj D x c) [.ref i]
noncomputable def mwV (i : Nat) : V := .pk (fun _ us o => ∃ x, us = [.ref x] ∧ o = mwObj x) [.ref i]
theorem VR.pk1 {g : TagMap} {p : Addr → List Value → Obj → Prop} {d : V} {v : Value} (h : VR g (.pk p [d]) v) : ∃ a u o, v = .ref a ∧ g a = .froz o ∧ p a [u] o ∧ VR g d u := by
  obtain ⟨a, us, o, e, t, hp, u, r, e2, hu, hr⟩ := h
  cases hr
  subst e2
  exact ⟨a, u, o, e, t, hp, hu⟩
theorem supV.at {g : TagMap} {s : Shared} {D c : Addr} {i : Nat} {v : Value} (R : Rel C g σ s) (h : VR g (supV D c i) v) : ∃ so x, v = .ref so ∧ g x = .main i ∧ s.heap.get? so = some (ks_superObj D x c) := by
  obtain ⟨a, u, o, rfl, t, ⟨x, e, rfl⟩, y, e2, tx⟩ := h.pk1
  injection e with e
  rw [e] at e2
  cases e2
  exact ⟨a, x, rfl, tx, R.froz _ _ t⟩
theorem mwV.at {g : TagMap} {s : Shared} {i : Nat} {v : Value} (R : Rel C g σ s) (h : VR g (mwV i) v) : ∃ b x, v = .ref b ∧ g x = .main i ∧ s.heap.get? b = some (mwObj x) := by
  obtain ⟨a, u, o, rfl, t, ⟨x, e, rfl⟩, y, e2, tx⟩ := h.pk1
  injection e with e
  rw [e] at e2
  cases e2
  exact ⟨a, x, rfl, tx, R.froz _ _ t⟩

theorem SM.sup {D c : Addr} {i : Nat} {fo : Option (List (Str × V))} {cd : ClassData} {QM : V → List V → Sto → Prop} (hi : σ.get i = some (.exc c fo)) (hc : clsIn C.K c = some cd) (hm : excTail cd.mro = true) (hno : nsIn C.K cStatics "thirdparty.any" = some Option.none)
    (hf : alongIn C.K "__init__" ((cd.mro.dropWhile (· != .ref D)).drop 1) = some (some (.builtin "Exception.__init__"))) (h : QM (mwV i) [] σ) : SM C X W σ (supV D c i) "__init__" QM := fun g A L s ov pl R hA hv => by
  obtain ⟨so, x, rfl, tx, hso⟩ := supV.at R hv
  obtain ⟨x', o, vs, e, t', hx, hcl, hd, hsz, hdr⟩ := R.excAt hi ⟨x, rfl, tx⟩
  cases e
  have ne : cd.mro.isEmpty = false := by cases q : cd.mro with | nil => rw [q] at hm; cases hm | cons _ _ => rfl
  have hxc : x ≠ c := fun e => by
    have hck : ∃ o', C.K.lookup c = some o' ∧ ∃ d, o'.data = .cls d := by
      unfold clsIn at hc
      split at hc
      · rename_i q; exact ⟨_, q, _, rfl⟩
      · cases hc
    obtain ⟨o', e1, d, e2⟩ := hck
    have := R.kin _ _ e1
    rw [← e, hx] at this
    cases this
    rw [hd] at e2; cases e2
  obtain ⟨hh, gg, dd, tk, os⟩ := s
  refine super_method hso (looks_opaque R.kin hno) (l₀ := cd.mro) ((looks_clsIn R.kin hc).andThen .now) rfl R.kin hf hx hcl (looks_mroIn R.kin (by unfold mroIn; rw [hc, Option.bind_some, if_neg (by rw [ne]; decide), (excTail_has hm).2.1])) hxc ?_
  have R0 : Rel C g σ ⟨hh, gg, dd, tk + 1, os⟩ := R.toks _
  obtain ⟨R', xg⟩ := R0.newFroz (mwObj x) rfl
  exact ⟨mwV i, [], _, σ, xg, R', ⟨_, [.ref x], _, rfl, put_self .., ⟨x, rfl, rfl⟩, _, [], rfl, ⟨x, rfl, xg.at tx (by intro h; cases h)⟩, rfl⟩, rfl, h⟩
theorem Keep.mw {i : Nat} : Keep C (mwV i) := fun g σ s fv R hv => by
  obtain ⟨b, x, rfl, tx, hb⟩ := mwV.at R hv
  exact ⟨.machine, .inr (.inl rfl), fun A Q E s k q => wpAny_bind (wpAny_load (k _ _ hb) (wpAny_pure q))⟩
theorem SC.mw {i : Nat} {c : Addr} {fo : Option (List (Str × V))} {d : V} {nm q : Str} {N : Addr} {bs bm : List Value} {hdct : Bool} {sn : List Str} {sub : List Value} {ab : Bool} {col : Option Bool} {dd : Option Addr} {k0 k1 k2 k3 k5 : Option Value} {newId : String}
    (hi : σ.get i = some (.exc c fo)) (hC : C.K.lookup c = some (excClassObj nm q c N bs bm hdct sn sub ab col dd k0 k1 k2 k3 k5 newId)) (h : Q .none (σ.set i (.exc c fo))) : SC C X W σ (mwV i) [d] Q := by
  rintro g A L s fv vs R hA hf ⟨v, _, rfl, hv, rfl⟩
  obtain ⟨b, x, rfl, tx, hb⟩ := mwV.at R hf
  obtain ⟨x', o, vs, e, t', hx, hcl, hd, hsz, hdr⟩ := R.excAt hi ⟨x, rfl, tx⟩
  cases e
  refine wpAny_call (mwCall (R.kin _ _ hC) hb hcl hx hd hsz.1 fun h' hx' hk => ?_)
  have hd' := Obj.data_mapFields hd (·.setIfInBounds 0 (Value.ref s.heap.objs.size))
  refine ⟨.none, g, _, Ext.refl g, R.upd (o := .exc c fo) tx (.inl rfl) (fun b o hb e => hk b o hb e) ⟨_, hx'⟩ ⟨_, _, hx', (Obj.cls_mapFields _ _).trans hcl, hd', ⟨by simp [hsz.1], by rw [Array.getElem?_setIfInBounds_ne (by decide)]; exact hsz.2⟩, ?_⟩, rfl, h⟩
  have hdict : (o.mapFields (·.setIfInBounds 0 (Value.ref s.heap.objs.size))).dict = o.dict := by
    unfold Obj.mapFields; split <;> rfl
  rw [hdict]
  exact hdr.same fun b hb o e => hk b o (fun z => by rw [z, tx] at hb; cases hb) e

variable {QA : Loc → Sto → Prop}
/-- o.name = d: the first name of an exception -/
theorem SG.excField {o : Expr} {name : Str} {pos : Pos} {d : V} (h : SE C X W o l σ fun od σ₁ => ∃ i c cd, od = .ref i ∧ σ₁.get i = some (.exc c Option.none) ∧ clsIn C.K c = some cd ∧ excTail cd.mro = true ∧ cd.hasDict = true ∧ findIn C.K (.ref c) name = some Option.none ∧
      findIn C.K (.ref c) "__setattr__" = some (some (.builtin "object.__setattr__")) ∧ QA l (σ₁.set i (.exc c (some [(name, d)])))) :
    SG C X W (.Attribute o name pos) l σ d QA := fun g A cenv L m s v p hv => by
  rw [arm_assign_Attribute]
  refine wpAny_bind (wpAny_holding (wpAny_mono (h g A cenv L m s p) ?_ fun _ _ h => h))
  rintro ov s₁ ⟨od, g₁, σ₁, e₁, R₁, ho, i, c, cd, rfl, hi, hc, hm, hhd, hn, hsa, q⟩
  have p₁ := p.step e₁ R₁
  obtain ⟨x, ox, vs, rfl, tx, hx, hcl, hd, hsz, hdn⟩ := R₁.excAt hi ho
  have hdn : ox.dict = Option.none := hdn
  have hv1 := hv.ext e₁.v
  have I : InstAt s₁.heap x ox c Option.none := ⟨hx, hcl, by unfold notCls; rw [hd], by rw [hdn]; trivial⟩
  refine wpAny_bind (wpAny_standAt (wpAny_bind (wpAny_holding (set_plain R₁.kin I hsa ?_))))
  refine osaE (K := C.K) (s := { s₁ with toks := s₁.toks + 1 }) R₁.kin hx hcl hd hdn hc hm hhd hn fun h' hx' hD hk => ?_
  refine wpAny_release ?_
  have hdf : g₁ s₁.heap.objs.size = .free := R₁.free_size (Nat.le_refl _)
  have hd0 : C.H0.get? s₁.heap.objs.size = Option.none := R₁.h0_size (Nat.le_refl _)
  have hxs : x ≠ s₁.heap.objs.size := Nat.ne_of_lt (Heap.lt_size hx)
  have R2 : Rel C g₁ (σ₁.set i (.pk (fun _ _ _ => True) [])) { s₁ with heap := h', toks := s₁.toks + 1 + 1 } :=
    R₁.upd (s' := { s₁ with heap := h', toks := s₁.toks + 1 + 1 }) (o := .pk (fun _ _ _ => True) []) tx (.inl rfl) (fun b o hb e => hk b o hb e) ⟨_, hx'⟩ ⟨[], _, hx', trivial, rfl⟩
  have x1 : Ext g₁ (g₁.put s₁.heap.objs.size (.dict i)) := Ext.put hdf _
  have R3 := R2.newDict (d := s₁.heap.objs.size) (i := i) (R₁.idx x i tx) hdf hd0 ⟨_, hD⟩
  have tx' : (g₁.put s₁.heap.objs.size (.dict i)) x = .main i := (put_ne _ _ hxs).trans tx
  have R4 := R3.upd (s' := { s₁ with heap := h', toks := s₁.toks + 1 + 1 }) (o := .exc c (some [(name, d)])) tx' (.inl rfl) (fun _ _ _ e => e) ⟨_, hx'⟩
    ⟨_, vs, hx', hcl, hd, hsz, s₁.heap.objs.size, _, _, rfl, put_self .., hD, _, _, [], rfl, hv1.ext x1.v, rfl⟩
  rw [Sto.set_set] at R4
  have p2 := p₁.step x1 R4
  exact ⟨l, _, _, m, (e₁.trans x1).l L, R4, p2.fm, p2.fl, q⟩
end
end Mine
/- part MFly -/
set_option maxHeartbeats 4000000
namespace Mine
open PySem PySem.W PySem.Calls PyProof.Rows PySem.SeqAt

/-- frames got other slots -/
theorem Rel.slots {C : Cx} {g : TagMap} {σ : Sto} {s : Shared} {h' : Heap} {S : List Addr} (R : Rel C g σ s) (x : Heap.SlotsOnly S s.heap h') (hS : ∀ b ∈ S, ∃ m, g b = .fr m) : Rel C g σ { s with heap := h' } := by
  have out : ∀ {b : Addr}, (∀ m, g b ≠ .fr m) → h'.get? b = s.heap.get? b := fun {b} hb => x.2.1 b fun hm => let ⟨m, e⟩ := hS b hm; hb m e
  have h0 : ∀ b ∈ S, C.H0.get? b = none := fun b hb => by
    obtain ⟨m, e⟩ := hS b hb
    exact R.h0_none (by rw [e]; intro h; cases h) (by rw [e]; intro o h; cases h)
  refine ⟨R.ok, ?_, ?_, R.old, ?_, ?_, ?_, R.uniq, R.idx, R.idxd, ?_, R.gens, R.os⟩
  · intro b o e
    have hb : b ∉ S := fun hm => by rw [h0 b hm] at e; cases e
    exact (x.2.1 b hb).trans (R.base b o e)
  · intro a ha
    obtain ⟨o, e⟩ := R.has a ha
    obtain ⟨sl, e'⟩ := x.2.2 a o e
    exact ⟨_, e'⟩
  · intro a o h
    exact (out (by rw [h]; intro m h; cases h)).trans (R.froz a o h)
  · intro a o h
    exact (out (by rw [h]; intro m h; cases h)).trans (R.held a o h)
  · intro a m h
    obtain ⟨o, es, ep, e, hd, r⟩ := R.fr a m h
    obtain ⟨sl, e'⟩ := x.2.2 a o e
    exact ⟨_, es, ep, e', hd, r⟩
  · intro i o h
    obtain ⟨a, t, r⟩ := R.objs i o h
    refine ⟨a, t, r.same (fun b hb o e => (out ?_).trans e) t⟩
    rcases hb with ⟨hb, _⟩ | hb <;> (rw [hb]; intro m h; cases h)

theorem funFrames {C : Cx} {g : TagMap} {σ : Sto} {s : Shared} (R : Rel C g σ s) : ∀ {l : List Env}, (∀ env ∈ l, FrameOk g env) → s.heap.FunFrames C.H0 l
  | [], _ => trivial
  | env :: r, h => by
    obtain ⟨hk, L, m, hf, t⟩ := h env (.head _)
    obtain ⟨o, es, ep, e, hd, _⟩ := R.fr L m t
    exact ⟨hk, ⟨L, o, hf, R.h0_none (by rw [t]; intro h; cases h) (by rw [t]; intro o h; cases h), e, fun vs q => by rw [hd] at q; cases q⟩, funFrames R fun env' he => h env' (.tail _ he)⟩
theorem frames_tags {g : TagMap} {l : List Env} (h : ∀ env ∈ l, FrameOk g env) : ∀ b ∈ l.filterMap (·.frame), ∃ m, g b = .fr m := by
  intro b hb
  obtain ⟨env, he, e⟩ := List.mem_filterMap.mp hb
  obtain ⟨_, L, m, hf, t⟩ := h env he
  rw [hf] at e; cases e
  exact ⟨m, t⟩

/-- an exception under way -/
structure Fly0 (C : Cx) (g : TagMap) (σ : Sto) (s : Shared) (c : Addr) (fs : List (Str × V)) (ea dx : Addr) (oe : Obj) (vs : Array Value) : Prop where
  R : Rel C g σ s
  t : g ea = .held oe
  cls : oe.cls = .ref c
  data : oe.data = .fields vs
  size : vs.size = 6
  dict : oe.dict = some dx ∧ ∃ es n, g dx = .held (dctObj es n) ∧ FRs C.w.params g fs es
structure Fly (C : Cx) (g : TagMap) (σ : Sto) (s : Shared) (c : Addr) (fs : List (Str × V)) (ea dx : Addr) (tr : Option (Addr × Value)) : Prop where
  ex : ∃ oe vs, Fly0 C g σ s c fs ea dx oe vs ∧ (match tr with
    | none => vs[1]? = some .none
    | some (T, fl) => vs[1]? = some (.ref T) ∧ T ≠ ea ∧ ∃ oT ts, g T = .held oT ∧ oT.data = .fields ts ∧ ts[3]? = some fl)

section
variable {C : Cx} {A : Around} {E : Value → Shared → Prop} {g : TagMap} {σ : Sto} {s : Shared} {c : Addr} {fs : List (Str × V)} {ea dx : Addr} {oe : Obj} {vs : Array Value}

/-- a traceback's entry is made -/
theorem entryFly {env : Env} {outer : List Env} {L : Addr} {head : Value} {hadNext : Bool} {Q : Unit → Shared → Prop} (F : Fly0 C g σ s c fs ea dx oe vs) (hfr : A.frames = some (env :: outer)) (hok : ∀ e ∈ env :: outer, FrameOk g e) (hf : env.frame = some L)
    (h : ∀ g' T' h', Fly C g' σ { s with heap := h' } c fs ea dx (some (T', rawInt L)) → (∀ a, a ≠ ea → g a ≠ .free → g' a = g a) → g T' = .free → T' ≠ ea → Q () { s with heap := h' }) :
    wpAny C.M A (do let a ← frameOf env; let pl ← entryPlaceOf L hadNext; let b ← EntryCells.newEntry head a .none (rawInt L) .none pl; setField (.ref ea) 1 b) Q E s := by
  refine wpAny_bind (wpAny_frameOf_fun hfr (funFrames F.R hok) hf fun h₁ hs₁ => ?_)
  have R1 := F.R.slots hs₁ (frames_tags hok)
  have he₁ : h₁.get? ea = some oe := R1.held _ _ F.t
  refine wpAny_bind (wpAny_entryPlaceOf fun pl hpl => ?_)
  unfold EntryCells.newEntry newFields
  refine wpAny_bind (wpAny_newObj_type ?_ (hpl.sizeOk5 _ _ _ _ _))
  obtain ⟨ts, ets⟩ : ∃ ts : Array Value, ts = ([head, .ref L, .none, rawInt L, .none] ++ (if pl.isEmpty then List.replicate 6 Value.none else pl)).toArray := ⟨_, rfl⟩
  obtain ⟨oT, eT⟩ : ∃ oT : Obj, oT = { cls := .type "traceback", dict := none, data := .fields ts } := ⟨_, rfl⟩
  have he₂ : (h₁.push oT).get? ea = some oe := Heap.get?_push_of_some _ he₁
  rw [← ets, ← eT]
  refine wpAny_setField he₂ F.data (by rw [F.size]; decide) ?_
  have hTe : h₁.objs.size ≠ ea := Nat.ne_of_gt (Heap.lt_size he₁)
  have hT0 : g h₁.objs.size = .free := R1.free_size (Nat.le_refl _)
  have hT0' : C.H0.get? h₁.objs.size = none := R1.h0_size (Nat.le_refl _)
  have hTh : (h₁.push oT).get? h₁.objs.size = some oT := Heap.get?_push_size _ (by rw [eT]; rfl)
  have R2 : Rel C g σ { s with heap := h₁.push oT } := R1.push oT
  have R3 : Rel C (g.put h₁.objs.size (.held oT)) σ { s with heap := h₁.push oT } := R2.retag (by rw [hT0]; exact fun h => h) ⟨hTh, hT0'⟩
  have x1 : Ext g (g.put h₁.objs.size (.held oT)) := Ext.put hT0 _
  have hea : (g.put h₁.objs.size (.held oT)) ea = .held oe := x1.at F.t (by intro h; cases h)
  have hd₃ := Obj.data_mapFields F.data (·.setIfInBounds 1 (Value.ref h₁.objs.size))
  have he₃ : ((h₁.push oT).update ea (Obj.mapFields (·.setIfInBounds 1 (Value.ref h₁.objs.size)))).get? ea = some (oe.mapFields (·.setIfInBounds 1 (Value.ref h₁.objs.size))) := Heap.get?_update_self _ he₂ (Obj.isFreed_of_fields hd₃)
  have R4 := R3.reheld (s := { s with heap := h₁.push oT }) hea he₃ (.update ..)
  have xv : ExtV g ((g.put h₁.objs.size (.held oT)).put ea (.held (oe.mapFields (·.setIfInBounds 1 (Value.ref h₁.objs.size))))) := x1.v.trans (ExtV.put (by rw [hea]; exact fun h => h) _)
  refine h _ h₁.objs.size _ ⟨_, _, ⟨R4, put_self .., (Obj.cls_mapFields _ _).trans F.cls, hd₃, by simp [F.size], ?_⟩, by simp [F.size], hTe, oT, ts, (put_ne _ _ hTe).trans (put_self ..), by rw [eT], ?_⟩ (fun a ha hn => ?_) hT0 hTe
  · obtain ⟨e1, es, n, e2, e3⟩ := F.dict
    have hdx : dx ≠ ea := fun z => by
      rw [z, F.t] at e2
      injection e2 with e2
      have := F.data
      rw [e2] at this
      cases this
    refine ⟨?_, es, n, (put_ne _ _ hdx).trans (x1.at e2 (by intro h; cases h)), e3.ext xv⟩
    have : (oe.mapFields (·.setIfInBounds 1 (Value.ref h₁.objs.size))).dict = oe.dict := by unfold Obj.mapFields; split <;> rfl
    rw [this]; exact e1
  · rw [ets]
    first | (simp; done) | (rcases hpl with rfl | ⟨_, _, _, _, _, _, _, rfl⟩ <;> simp)
  · rw [put_ne _ _ ha]; exact x1 a hn

theorem Fly0.dictNe (_F : Fly0 C g σ s c fs ea dx oe vs) {T : Addr} {oT : Obj} {ts : Array Value} (t : g T = .held oT) (d : oT.data = .fields ts) : ∀ {dx es n}, g dx = .held (dctObj es n) → dx ≠ T := fun e z => by
  rw [z, t] at e
  injection e with e
  rw [e] at d
  cases d

theorem noteFly {env : Env} {outer : List Env} {L : Addr} {tr : Option (Addr × Value)} {Q : Unit → Shared → Prop} (F : Fly C g σ s c fs ea dx tr) (hfr : A.frames = some (env :: outer)) (hok : ∀ e ∈ env :: outer, FrameOk g e) (hf : env.frame = some L)
    (h : ∀ g' T' h', Fly C g' σ { s with heap := h' } c fs ea dx (some (T', rawInt L)) → (∀ a, a ≠ ea → (∀ fl, tr ≠ some (a, fl)) → g a ≠ .free → g' a = g a) → (g T' = .free ∨ ∃ fl, tr = some (T', fl)) → Q () { s with heap := h' }) :
    wpAny C.M A (noteFrame (.ref ea) env) Q E s := by
  obtain ⟨oe, vs, F0, ht⟩ := F.ex
  have he := F0.R.held _ _ F0.t
  unfold noteFrame
  simp only [hf]
  cases tr with
  | none =>
    refine wpAny_bind (wpAny_field he F0.data ht ?_)
    rw [if_neg (by decide)]
    exact entryFly F0 hfr hok hf fun g' T' h' F' k e _ => h g' T' h' F' (fun a ha _ hn => k a ha hn) (.inl e)
  | some p =>
    obtain ⟨T, fl⟩ := p
    obtain ⟨h1, hTe, oT, ts, tT, hdT, h3⟩ := ht
    have heT := F0.R.held _ _ tT
    refine wpAny_bind (wpAny_field he F0.data h1 ?_)
    rw [if_pos (show (Value.ref T != Value.none) = true from by simp)]
    refine wpAny_bind (wpAny_field heT hdT h3 ?_)
    by_cases hfl : (fl == rawInt L) = true
    · rw [if_pos hfl]
      have e : fl = rawInt L := by simpa using hfl
      exact wpAny_pure (h g T s.heap ⟨oe, vs, F0, h1, hTe, oT, ts, tT, hdT, e ▸ h3⟩ (fun _ _ _ _ => rfl) (.inr ⟨fl, rfl⟩))
    · rw [if_neg hfl]
      refine wpAny_bind (wpAny_setField heT hdT (Array.getElem?_eq_some_iff.mp h3).1 ?_)
      have hd₃ := Obj.data_mapFields hdT (·.setIfInBounds 3 Value.none)
      have heT' : (s.heap.update T (Obj.mapFields (·.setIfInBounds 3 Value.none))).get? T = some (oT.mapFields (·.setIfInBounds 3 Value.none)) := Heap.get?_update_self _ heT (Obj.isFreed_of_fields hd₃)
      have R1 := F0.R.reheld tT heT' (.update ..)
      have hoff : ∀ a, a ≠ T → (g.put T (.held (oT.mapFields (·.setIfInBounds 3 Value.none)))) a = g a := fun a ha => put_ne _ _ ha
      have xv : ExtV g (g.put T (.held (oT.mapFields (·.setIfInBounds 3 Value.none)))) := ExtV.put (by rw [tT]; exact fun h => h) _
      have F1 : Fly0 C (g.put T (.held (oT.mapFields (·.setIfInBounds 3 Value.none)))) σ { s with heap := s.heap.update T (Obj.mapFields (·.setIfInBounds 3 Value.none)) } c fs ea dx oe vs := by
        refine ⟨R1, (hoff ea (Ne.symm hTe)).trans F0.t, F0.cls, F0.data, F0.size, ?_⟩
        obtain ⟨e1, es, n, e2, e3⟩ := F0.dict
        exact ⟨e1, es, n, (hoff dx (F0.dictNe tT hdT e2)).trans e2, e3.ext xv⟩
      have hok' : ∀ e ∈ env :: outer, FrameOk (g.put T (.held (oT.mapFields (·.setIfInBounds 3 Value.none)))) e := fun e he => by
        obtain ⟨k, L', m, e1, t⟩ := hok e he
        exact ⟨k, L', m, e1, (hoff L' (fun z => by rw [z, tT] at t; cases t)).trans t⟩
      refine entryFly F1 hfr hok' hf fun g' T' h' F' k e _ => h g' T' h' F' (fun a ha ha' hn => ?_) (.inl ?_)
      · have haT : a ≠ T := fun z => ha' fl (by rw [z])
        exact (k a ha (by rw [hoff a haT]; exact hn)).trans (hoff a haT)
      · by_cases z : T' = T
        · rw [z, put_self] at e; cases e
        · rwa [hoff T' z] at e

theorem setFly {tr : Addr × Value} {fr : Option Addr} {Q : Unit → Shared → Prop} (F : Fly C g σ s c fs ea dx (some tr))
    (h : ∀ g' h', Fly C g' σ { s with heap := h' } c fs ea dx (some (tr.1, fr.elim .none fun f => rawInt f)) → (∀ a, a ≠ tr.1 → g' a = g a) → (∀ a m, g a = .fr m → g' a = .fr m) → Q () { s with heap := h' }) :
    wpAny C.M A (setFlight (.ref ea) fr) Q E s := by
  obtain ⟨oe, vs, F0, ht⟩ := F.ex
  obtain ⟨T, fl⟩ := tr
  obtain ⟨h1, hTe, oT, ts, tT, hdT, h3⟩ := ht
  have he := F0.R.held _ _ F0.t
  have heT := F0.R.held _ _ tT
  have hsz3 : 3 < ts.size := (Array.getElem?_eq_some_iff.mp h3).1
  unfold setFlight
  refine wpAny_bind (wpAny_field he F0.data h1 ?_)
  rw [if_pos (show (Value.ref T != Value.none) = true from by simp)]
  refine wpAny_setField heT hdT hsz3 ?_
  have hd₃ := Obj.data_mapFields hdT (·.setIfInBounds 3 (fr.elim .none fun f => rawInt f))
  have heT' : (s.heap.update T (Obj.mapFields (·.setIfInBounds 3 (fr.elim .none fun f => rawInt f)))).get? T = some (oT.mapFields (·.setIfInBounds 3 (fr.elim .none fun f => rawInt f))) := Heap.get?_update_self _ heT (Obj.isFreed_of_fields hd₃)
  have R1 := F0.R.reheld tT heT' (.update ..)
  have hoff : ∀ a, a ≠ T → (g.put T (.held (oT.mapFields (·.setIfInBounds 3 (fr.elim .none fun f => rawInt f))))) a = g a := fun a ha => put_ne _ _ ha
  have xv : ExtV g (g.put T (.held (oT.mapFields (·.setIfInBounds 3 (fr.elim .none fun f => rawInt f))))) := ExtV.put (by rw [tT]; exact fun h => h) _
  refine h _ _ ⟨oe, vs, ⟨R1, (hoff ea (Ne.symm hTe)).trans F0.t, F0.cls, F0.data, F0.size, ?_⟩, h1, hTe, _, _, put_self .., hd₃, by simp [hsz3]⟩ hoff fun a m ha => (hoff a fun z => by rw [z, tT] at ha; cases ha).trans ha
  obtain ⟨e1, es, n, e2, e3⟩ := F0.dict
  exact ⟨e1, es, n, (hoff dx (F0.dictNe tT hdT e2)).trans e2, e3.ext xv⟩
end
end Mine
/- part MFl2 -/
set_option maxHeartbeats 4000000
namespace Mine
open PySem PySem.W PySem.Calls PyProof.Rows PySem.SeqAt

/-- what is known when an exception of the class c flies -/
noncomputable def XD (C : Cx) (c : Addr) (QX : List (Str × V) → Sto → Prop) (b : Bool) (L : Addr) (g : TagMap) (f : Option (List Env)) (e : Value) (s : Shared) : Prop :=
  ∃ g' σ' ea dx fs tr, e = .ref ea ∧ ExtL L g g' ∧ (∀ l, f = some l → ∀ env ∈ l, FrameOk g' env) ∧ Fly C g' σ' s c fs ea dx tr ∧ (b = true → tr.isSome = true) ∧ (ea = L ∨ g ea = .free) ∧ (dx = L ∨ g dx = .free) ∧ (∀ T fl, tr = some (T, fl) → T = L ∨ g T = .free) ∧ QX fs σ'
theorem XD.monoL {C : Cx} {c : Addr} {QX : List (Str × V) → Sto → Prop} {b : Bool} {L : Addr} {g g' : TagMap} {f : Option (List Env)} {e : Value} {s : Shared} (x : ExtL L g g') (h : XD C c QX b L g' f e s) : XD C c QX b L g f e s := by
  obtain ⟨g'', σ', ea, dx, fs, tr, he, y, hf, F, hb, o1, o3, o2, q⟩ := h
  have back : ∀ a, (a = L ∨ g' a = .free) → (a = L ∨ g a = .free) := fun a h => by
    by_cases z : a = L
    · exact .inl z
    · refine .inr ?_
      by_cases z2 : g a = .free
      · exact z2
      · have := x a z z2
        rcases h with h | h
        · exact absurd h z
        · rw [h] at this; exact absurd this.symm z2
  exact ⟨g'', σ', ea, dx, fs, tr, he, x.trans y, hf, F, hb, back ea o1, back dx o3, fun T fl e => back T (o2 T fl e), q⟩
noncomputable def XF (C : Cx) (c : Addr) (QX : List (Str × V) → Sto → Prop) : XPost := ⟨XD C c QX false, fun x h => XD.monoL x h⟩

section
variable {C : Cx} {A : Around} {E : Value → Shared → Prop} {g : TagMap} {s : Shared} {c : Addr} {L : Addr} {QX QX' : List (Str × V) → Sto → Prop} {e : Value} {b : Bool} {env : Env} {outer : List Env}

theorem XD.mono {f : Option (List Env)} (k : ∀ fs σ, QX' fs σ → QX fs σ) (h : XD C c QX' b L g f e s) : XD C c QX false L g f e s := by
  obtain ⟨g', σ', ea, dx, fs, tr, he, y, hf, F, hb, o1, o3, o2, q⟩ := h
  exact ⟨g', σ', ea, dx, fs, tr, he, y, hf, F, (fun h => by cases h), o1, o3, o2, k _ _ q⟩
theorem FrameOk.eqFr {g g' : TagMap} {env : Env} (k : ∀ a m, g a = .fr m → g' a = .fr m) (h : FrameOk g env) : FrameOk g' env := by
  obtain ⟨k1, L, m, e, t⟩ := h
  exact ⟨k1, L, m, e, k L m t⟩
theorem XD.note {Q : Unit → Shared → Prop} (h : XD C c QX b L g (some (env :: outer)) e s) (hfr : A.frames = some (env :: outer)) (hf : env.frame = some L)
    (k : ∀ h', XD C c QX true L g (some (env :: outer)) e { s with heap := h' } → Q () { s with heap := h' }) : wpAny C.M A (noteFrame e env) Q E s := by
  obtain ⟨g₁, σ', ea, dx, fs, tr, rfl, y, hfo, F, hb, o1, o3, o2, q⟩ := h
  refine noteFly F hfr (hfo _ rfl) hf fun g₂ T' h' F2 k2 ht => k h' ⟨g₂, σ', ea, dx, fs, _, rfl, fun a ha hn => ?_, fun l hl env' he => ?_, F2, fun _ => rfl, o1, o3, fun T fl e => ?_, q⟩
  · have h1 := y a ha hn
    have hea : a ≠ ea := fun z => by
      rcases o1 with o | o
      · exact ha (z.trans o)
      · rw [z] at hn; exact hn o
    have htr : ∀ fl, tr ≠ some (a, fl) := fun fl z => by
      rcases o2 a fl z with o | o
      · exact ha o
      · exact hn o
    exact (k2 a hea htr (by rw [h1]; exact hn)).trans h1
  · refine (hfo l hl env' he).eqFr fun a m t => ?_
    have hea : a ≠ ea := fun z => by
      obtain ⟨oe, vs, F0, _⟩ := F.ex
      rw [z, F0.t] at t; cases t
    have htr : ∀ fl, tr ≠ some (a, fl) := fun fl z => by
      obtain ⟨oe, vs, F0, ht⟩ := F.ex
      subst z
      obtain ⟨_, _, oT, ts, tT, _⟩ := ht
      rw [tT] at t; cases t
    exact (k2 a hea htr (by rw [t]; intro h; cases h)).trans t
  · injection e with e
    injection e with e1 e2
    subst e1
    rcases ht with ht | ⟨fl', ht⟩
    · by_cases z : T' = L
      · exact .inl z
      · refine .inr ?_
        by_cases z2 : g T' = .free
        · exact z2
        · have := y T' z z2; rw [ht] at this; exact absurd this.symm z2
    · exact o2 T' fl' ht
theorem XD.set {fr : Option Addr} {f : Option (List Env)} {Q : Unit → Shared → Prop} (h : XD C c QX true L g f e s) (k : ∀ h', XD C c QX true L g f e { s with heap := h' } → Q () { s with heap := h' }) : wpAny C.M A (setFlight e fr) Q E s := by
  obtain ⟨g₁, σ', ea, dx, fs, tr, rfl, y, hfo, F, hb, o1, o3, o2, q⟩ := h
  obtain ⟨⟨T, fl⟩, rfl⟩ := Option.isSome_iff_exists.mp (hb rfl)
  refine setFly F fun g₂ h' F2 k2 kf => k h' ⟨g₂, σ', ea, dx, fs, _, rfl, fun a ha hn => ?_, fun l hl env' he => (hfo l hl env' he).eqFr kf, F2, fun _ => rfl, o1, o3, fun T' fl' e => ?_, q⟩
  · have haT : a ≠ T := fun z => by
      rcases o2 T fl rfl with o | o
      · exact ha (z.trans o)
      · rw [z] at hn; exact hn o
    exact (k2 a haT).trans (y a ha hn)
  · injection e with e
    injection e with e1 e2
    subst e1
    exact o2 T fl rfl
theorem XD.field1 {f : Option (List Env)} {Q : Value → Shared → Prop} (h : XD C c QX true L g f e s) (k : ∀ T, Q (.ref T) s) : wpAny C.M A (field e 1) Q E s := by
  obtain ⟨g₁, σ', ea, dx, fs, tr, rfl, y, hfo, F, hb, o1, o3, o2, q⟩ := h
  obtain ⟨⟨T, fl⟩, rfl⟩ := Option.isSome_iff_exists.mp (hb rfl)
  obtain ⟨oe, vs, F0, ht⟩ := F.ex
  exact wpAny_field (F0.R.held _ _ F0.t) F0.data ht.1 (k T)
theorem XD.out {g' : TagMap} {L' : Addr} {f : Option (List Env)} (h : XD C c QX b L' g' (some (env :: outer)) e s) (x : Ext g g') (hL : g L' = .free) (hf : f = some outer) : XD C c QX b L g f e s := by
  subst hf
  obtain ⟨g₁, σ', ea, dx, fs, tr, rfl, y, hfo, F, hb, o1, o3, o2, q⟩ := h
  have back : ∀ a, (a = L' ∨ g' a = .free) → g a = .free := fun a h => by
    rcases h with rfl | h
    · exact hL
    · by_cases z2 : g a = .free
      · exact z2
      · have := x a z2; rw [h] at this; exact absurd this.symm z2
  refine ⟨g₁, σ', ea, dx, fs, tr, rfl, fun a _ hn => ?_, fun l hl env' he => ?_, F, hb, .inr (back _ o1), .inr (back _ o3), fun T fl e => .inr (back _ (o2 T fl e)), q⟩
  · have ha : a ≠ L' := fun z => by rw [z] at hn; exact hn hL
    have e1 := x a hn
    exact (y a ha (by rw [e1]; exact hn)).trans e1
  · cases hl
    exact hfo _ rfl env' (.tail _ he)

theorem XLeaves.fly (k : ∀ fs σ, QX' fs σ → QX fs σ) : XLeaves C (XF C c QX) (XF C c QX') := by
  intro g g' L L' A cenv outer m e s hfr x hL hL' hcf h
  have h : XD C c QX' false L' g' (some (cenv :: outer)) e s := h
  unfold leaving
  refine wpAny_bind (h.note (Around.frames_deeper hfr) hcf fun h₁ d1 => d1.set fun h₂ d2 => ?_)
  exact (d2.out x hL hfr).mono k
theorem XOwn.fly : XOwn C (XF C c QX) := by
  intro A cenv outer L g m e s hfr hL hcf h
  have h : XD C c QX false L g A.frames e s := h
  show wpAny C.M A (noteFrame e cenv) (fun _ s'' => cameBackBy C.M A cenv ((XF C c QX).P L g A.frames) e s'') _ s
  rw [hfr] at h
  refine h.note hfr hcf fun h₁ d1 => ?_
  show wpAny C.M A (do
    if (← field e 1) == .none then unsupported "frame.own-activation:exception-without-traceback"
    setFlight e cenv.frame) (fun _ s'' => (XF C c QX).P L g A.frames e s'') ((XF C c QX).P L g A.frames) _
  refine wpAny_bind (d1.field1 fun T => ?_)
  rw [if_neg (show ¬ ((Value.ref T == Value.none) = true) by simp)]
  refine d1.set fun h₂ d2 => ?_
  rw [hfr]
  exact d2.mono fun _ _ h => h

/-- less is told of what stands when it flies -/
structure WeakX (n₀ : Nat) (σ : Sto) (fs : List (Str × V)) (σ' : Sto) : Prop where
  le : n₀ ≤ σ'.nx
  sub : ∀ i o, σ'.get i = some o → σ.get i = some o
  closed : σ'.Closed
  low : ∀ f ∈ fs, lowV σ'.nx f.2
theorem XD.weak {σ₀ : Sto} {s₀ : Shared} {f : Option (List Env)} (R₀ : Rel C g σ₀ s₀) (h : XD C c (fun fs σ => ∃ σ', WeakX σ₀.nx σ fs σ' ∧ QX fs σ') b L g f e s) : XD C c QX b L g f e s := by
  obtain ⟨g₁, σ₁, ea, dx, fs, tr, rfl, y, hfo, F, hb, o1, o3, o2, σ', W, q⟩ := h
  obtain ⟨oe, vs, F0, ht⟩ := F.ex
  have held : ∀ a o, g₁ a = .held o → dropTag σ'.nx σ₁ s.heap g₁ a = .held o := fun a o e => by simp only [dropTag, e]
  refine ⟨dropTag σ'.nx σ₁ s.heap g₁, σ', ea, dx, fs, tr, rfl, fun a ha hn => ?_, fun l hl env' he => (hfo l hl env' he).eqFr fun a m t => by simp only [dropTag, t], ⟨oe, vs, ⟨F0.R.dropped W.sub W.closed, held _ _ F0.t, F0.cls, F0.data, F0.size, ?_⟩, ?_⟩, hb, o1, o3, o2, q⟩
  · have e := y a ha hn
    unfold dropTag
    rw [e]
    split
    · rename_i i q; rw [q, if_pos (Nat.lt_of_lt_of_le (R₀.idx a i q) W.le)]
    · rename_i i q
      by_cases hi : i < σ'.nx
      · rw [q, if_pos hi]
      · exact absurd (Nat.lt_of_lt_of_le (R₀.idxd a i q) W.le) hi
    · rfl
  · obtain ⟨e1, es, n, e2, e3⟩ := F0.dict
    exact ⟨e1, es, n, held _ _ e2, e3.dropd W.low⟩
  · cases tr with
    | none => exact ht
    | some p =>
      obtain ⟨T, fl⟩ := p
      obtain ⟨h1, h2, oT, ts, h3, h4⟩ := ht
      exact ⟨h1, h2, oT, ts, held _ _ h3, h4⟩
theorem SC.weakX {W : En} {σ : Sto} {f : V} {ds : List V} {Q : V → Sto → Prop}
    (h : SC C (XF C c fun fs σ₁ => ∃ σ', WeakX σ.nx σ₁ fs σ' ∧ QX fs σ') W σ f ds fun d σ₁ => ∃ σ' d', Weak C.w.params σ.nx σ₁ d σ' d' ∧ Q d' σ') : SC C (XF C c QX) W σ f ds Q :=
  fun g A L s fv vs R hA hf hv => wpAny_mono (h g A L s fv vs R hA hf hv) (fun _ _ u => Up.weak R u) fun _ _ h => XD.weak R h
theorem SCc.weakX {W : En} {σ : Sto} {f : V} {ds : List V} {Q : V → Sto → Prop}
    (h : SCc C (XF C c fun fs σ₁ => ∃ σ', WeakX σ.nx σ₁ fs σ' ∧ QX fs σ') W σ f ds fun d σ₁ => ∃ σ' d', Weak C.w.params σ.nx σ₁ d σ' d' ∧ Q d' σ') : SCc C (XF C c QX) W σ f ds Q :=
  fun g A L s fv vs R hA hf hv => codeAny_mono (h g A L s fv vs R hA hf hv) fun r s' z => by
    cases r with
    | error e => exact XD.weak R z
    | ok fl => cases fl with
      | ret v => exact Up.weak R z
      | _ => exact z
end
end Mine
/- part MTry -/
set_option maxHeartbeats 4000000
namespace Mine
open PySem PySem.W PySem.Calls PyProof.Rows PySem.SeqAt Builtin.ObjectAttr

section
variable {prog : Program} {w : World} {A : Around} {E : Value → Shared → Prop} {s : Shared} {K : Frag} {x C : Addr} {ox : Obj} {od : Option Obj} {name : Str} {expr : Bool} {Q : Value → Shared → Prop}
theorem excGet {v : Value} (X : K.In s.heap) (I : InstAt s.heap x ox C od) (hga : findIn K (.ref C) "__getattribute__" = some (some (.builtin "BaseException.__getattribute__"))) (hno : findIn K (.ref C) "__getattr__" = some none)
    (hm : mroIn K C (.type "BaseException") = some true) (hf : findObj K C od name = some (.value v)) (hh : handedIn v = true) (h : Q v { s with toks := s.toks + 1 }) : wpAny (model prog w) A (getAttr (.ref x) name expr) Q E s := by
  obtain ⟨hp, g, d, t, os⟩ := s
  have L0 := I.type (M := model prog w)
  have L1 := looks_findIn (M := model prog w) X hga
  have L2 := looks_findIn (M := model prog w) X hno
  have L3 := looks_find (M := model prog w) X I hf
  have L4 : Looks (model prog w) hp (isInstance (.ref x) (.type "BaseException")) true := L0.andThen (looks_mroIn X hm)
  unfold getAttr getAttrBy
  refine wpAny_bind (wpAny_mkText (wpAny_holding (wpAny_bind (L0.at (wpAny_bind (L1.at ?_))))))
  show wpAny _ _ (getAttrByItsOwn (.ref x) (.str name t) (.ref C) (.builtin "BaseException.__getattribute__") true expr) _ _ _
  unfold getAttrByItsOwn hookBefore callGetattribute
  refine wpAny_bind ?_
  show wpAny _ _ (typeLookup (.ref C) "__getattr__") _ _ _
  refine L2.at ?_
  refine wpAny_bind (wpAny_attempt (wpAny_holding ?_))
  have hx0 : (expr && onTheHeap (Value.builtin "BaseException.__getattribute__")) = false := by cases expr <;> rfl
  rw [if_neg (by rw [hx0]; decide)]
  unfold boundAndCalled
  refine wpAny_bind (wpAny_of_eq (F.attrBase_Exception.ga.bind _) ?_)
  refine wpAny_call (codeAny_call_builtin F.attrBase_Exception.ga.plain F.entry_bexc_ga (@check_slot (model prog w) _ _ _ "BaseException.__getattribute__" "BaseException" "__getattribute__" (.ref x) [.str name t] [] _ (by decide +kernel) (by decide +kernel) L4 (F.args_bexc_ga _ _) ?_))
  unfold Builtin.«object.__getattribute__»
  refine wpAny_bind (wpAny_of_eq (a := ((.ref x : Value), [(.str name t : Value)])) rfl ?_)
  refine wpAny_bind (wpAny_of_eq (a := name) rfl ?_)
  refine wpAny_bind (L0.at (wpAny_bind (L3.at ?_)))
  refine wpAny_pure ?_
  show wpAny _ _ (handedOut v) _ _ _
  rw [handedOut_of hh]; exact wpAny_pure h
theorem canon_bexc_ga : Manifest.canonical "BaseException.__getattribute__" = "object.__getattribute__" := by decide +kernel
theorem excMethod {f : Addr} {pl : Sem Bool} {Q : Value × List Value → Shared → Prop} (X : K.In s.heap) (I : InstAt s.heap x ox C od) (hga : findIn K (.ref C) "__getattribute__" = some (some (.builtin "BaseException.__getattribute__"))) (hk : findIn K (.ref C) "__getattr__" = some none)
    (hf : findIn K (.ref C) name = some (some (.ref f))) (ht : typeIn K (.ref f) = some (.type "function")) (hs : shadowIn od name = some false) (h : Q (.ref f, [.ref x]) s) :
    wpAny (model prog w) A (getMethod (.ref x) name pl) Q E s := by
  unfold getMethod specialOf
  refine wpAny_bind (wpAny_bind (I.type.here ((looks_findIn X hga).here ?_)))
  dsimp only
  rw [canon_bexc_ga, if_neg (by decide)]
  refine wpAny_bind (wpAny_bind (I.type.here ((looks_findIn X hk).here ?_)))
  refine wpAny_bind (wpAny_bind (I.type.here ((looks_findIn X hf).here (wpAny_bind ((looks_typeIn X ht).here ?_)))))
  rw [if_neg (by decide +kernel)]
  refine wpAny_bind (wpAny_loadPart I.at_ ?_)
  have hd := I.dict
  cases e : ox.dict with
  | none => exact wpAny_bind (wpAny_rule (wpAny_pure h))
  | some dx =>
    cases od with
    | none => rw [e] at hd; exact hd.elim
    | some o =>
      rw [e] at hd
      obtain ⟨r, a, b⟩ := Option.map_eq_some_iff.mp hs
      refine wpAny_bind (wpAny_bind (wpAny_loadPart hd ?_))
      rw [nsLook_of a]
      refine wpAny_pure ?_
      rw [b]
      exact wpAny_bind (wpAny_rule (wpAny_pure h))
end

/-! an exception as a value -/
noncomputable def FEnts (P : Params) : List (Str × V) → List Value → List DictEntry → Prop
  | [], us, es => us = [] ∧ es = []
  | f :: r, us, es => ∃ t v w l, us = v :: w ∧ es = ⟨PyData.keyHash P f.1, .str f.1 t, v⟩ :: l ∧ FEnts P r w l
theorem FRs.flat {P : Params} {g : TagMap} : ∀ {fs : List (Str × V)} {es : List DictEntry}, FRs P g fs es → ∃ us, VRs g (fs.map (·.2)) us ∧ FEnts P fs us es
  | [], _, h => by cases h; exact ⟨[], rfl, rfl, rfl⟩
  | (x, d) :: r, _, ⟨t, v, l, q, a, b⟩ => by
    subst q
    obtain ⟨us, h1, h2⟩ := FRs.flat b
    exact ⟨v :: us, ⟨v, us, rfl, a, h1⟩, t, v, us, l, rfl, rfl, h2⟩
theorem FRs.of_flat {P : Params} {g : TagMap} : ∀ {fs : List (Str × V)} {es : List DictEntry} {us : List Value}, VRs g (fs.map (·.2)) us → FEnts P fs us es → FRs P g fs es
  | [], _, _, _, ⟨_, h⟩ => h
  | (x, d) :: r, _, _, ⟨v, w, e, a, b⟩, ⟨t, v', w', l, e1, e2, h⟩ => by
    subst e; subst e2
    injection e1 with e3 e4
    subst e3; subst e4
    exact ⟨t, v, l, rfl, a, FRs.of_flat b h⟩
noncomputable def nsV (P : Params) (fs : List (Str × V)) : V := .pk (fun _ us o => ∃ es n, o = dctObj es n ∧ FEnts P fs us es) (fs.map (·.2))
noncomputable def excV (P : Params) (c : Addr) (fs : List (Str × V)) : V := .pk (fun _ us o => ∃ dx, us = [.ref dx] ∧ o.cls = .ref c ∧ o.dict = some dx ∧ ∃ vs, o.data = .fields vs) [nsV P fs]
theorem excV.at {C : Cx} {g : TagMap} {σ : Sto} {s : Shared} {c : Addr} {fs : List (Str × V)} {v : Value} (R : Rel C g σ s) (h : VR g (excV C.w.params c fs) v) : ∃ x o es n, v = .ref x ∧ InstAt s.heap x o c (some (dctObj es n)) ∧ FRs C.w.params g fs es := by
  obtain ⟨a, u, o, rfl, t, ⟨dx, e, h1, h2, vs, h3⟩, hu⟩ := h.pk1
  injection e with e
  subst e
  obtain ⟨d, us, od, e2, td, ⟨es, n, rfl, hf⟩, hus⟩ := hu
  cases e2
  exact ⟨a, o, es, n, rfl, ⟨R.froz _ _ t, h1, by unfold notCls; rw [h3], by rw [h2]; exact R.froz _ _ td⟩, FRs.of_flat hus hf⟩

/-- the static facts of an own exception class -/
structure ExcOk (K : Frag) (c : Addr) : Prop where
  ga : findIn K (.ref c) "__getattribute__" = some (some (.builtin "BaseException.__getattribute__"))
  noga : findIn K (.ref c) "__getattr__" = some none
  base : mroIn K c (.type "BaseException") = some true
  dict : (clsIn K c).any (·.hasDict) = true

section
variable {C : Cx} {X : XPost} {W : En} {l : Loc} {σ : Sto} {Q : V → Sto → Prop}
theorem SE.excField {o : Expr} {name : Str} {pos : Pos} (hb : ∀ env t, attributeBase o name env t = t) (ht : ∀ x r, letTemporaryGo o x r = pure ())
    (h : SE C X W o l σ fun d σ₁ => ∃ c fs d', d = excV C.w.params c fs ∧ ExcOk C.K c ∧ findIn C.K (.ref c) name = some Option.none ∧ lookF fs name = some d' ∧ handedV d' = true ∧ Q d' σ₁) :
    SE C X W (.Attribute o name pos) l σ Q := fun g A cenv L m s p => by
  rw [arm_eval_Attribute, hb]
  refine wpAny_bind (SE.then p h fun d ov g₁ σ₁ s₁ e₁ p₁ hv q => ?_)
  obtain ⟨c, fs, d', rfl, ok, hn, hl, hh, q⟩ := q
  obtain ⟨x, ox, es, n, rfl, I, hfs⟩ := excV.at p₁.R hv
  obtain ⟨vo, hvo, r⟩ := hfs.lookIn (x := name) (n := n)
  rw [hl] at r
  obtain ⟨v, rfl, rv⟩ := r
  have hhv : handedIn v = true := handed_of rv fun u e => by rw [e] at hh; exact hh
  obtain ⟨cd, hcd, hd⟩ := any_some ok.dict
  have hf : findObj C.K c (some (dctObj es n)) name = some (.value v) := by
    unfold findObj
    rw [hcd, hn]
    simp only [Option.bind_some, PySem.W.ownOf, hd, if_true, hvo]
  refine wpAny_bind (wpAny_standAt (wpAny_bind (wpAny_holding (excGet p₁.R.kin I ok.ga ok.noga ok.base hf hhv ?_))))
  refine wpAny_bind (wpAny_of_eq (ht _ _) (wpAny_pure ?_))
  exact Up.back e₁ (Up.here (p₁.R.toks _) rv q)
theorem SM.exc {c f : Addr} {fs : List (Str × V)} {name : Str} {QM : V → List V → Sto → Prop} (ok : ExcOk C.K c) (hf : findIn C.K (.ref c) name = some (some (.ref f))) (ht : typeIn C.K (.ref f) = some (.type "function")) (hl : lookF fs name = Option.none)
    (h : QM (.val (.ref f)) [excV C.w.params c fs] σ) : SM C X W σ (excV C.w.params c fs) name QM := fun g A L s ov pl R hA hv => by
  have hv' := hv
  obtain ⟨x, ox, es, n, rfl, I, hfs⟩ := excV.at R hv
  obtain ⟨vo, hvo, r⟩ := hfs.lookIn (x := name) (n := n)
  rw [hl] at r
  have r : vo = Option.none := r
  subst r
  refine excMethod R.kin I ok.ga ok.noga hf ht (by show (PySem.W.lookIn name (dctObj es n)).map (·.isSome) = some false; rw [hvo]; rfl) ?_
  exact ⟨.val (.ref f), [excV C.w.params c fs], g, σ, Ext.refl g, R, rfl, ⟨_, [], rfl, hv', rfl⟩, h⟩

/-! raise -/
theorem S1.raise {c : Addr} {QX : List (Str × V) → Sto → Prop} {e : Expr} {pos : Pos} {QS : Fl → Loc → Sto → Prop} {nm q : Str} {N : Addr} {bs bm : List Value} {hdct : Bool} {sn : List Str} {sub : List Value} {ab : Bool} {col : Option Bool} {dd : Option Addr} {k0 k1 k2 k3 k5 : Option Value} {newId : String}
    (hC : C.K.lookup c = some (excClassObj nm q c N bs bm hdct sn sub ab col dd k0 k1 k2 k3 k5 newId)) (hm : excTail bm = true) (hc : W.calm = true)
    (h : SE C (XF C c QX) W e l σ fun d σ₁ => ∃ i fs σ', d = .ref i ∧ σ₁.get i = some (.exc c (some fs)) ∧ WeakX σ.nx σ₁ fs σ' ∧ σ'.nx ≤ i ∧ QX fs σ') : S1 C (XF C c QX) W (.Raise (some e) Option.none pos) l σ QS := fun g A cenv L m s p o => by
  have hcB : (Value.ref c :: bm).contains (.type "BaseException") = true := by rw [List.contains_cons, (excTail_has hm).2.2.1, Bool.or_true]
  rw [arm_exec_Raise]
  show wpAny _ _ (do standAt pos; raiseStmt cenv (some (do let v ← eval e cenv; standAt pos; pure v)) Option.none) _ _ _
  refine wpAny_bind (wpAny_standAt ?_)
  unfold raiseStmt
  refine wpAny_bind (wpAny_bind (SE.then p h fun d v g₁ σ₁ s₁ e₁ p₁ hv q => ?_))
  obtain ⟨i, fs, σ', rfl, hi, WX, hge, q⟩ := q
  obtain ⟨x, ox, vs, rfl, tx, hx, hcl, hd, ⟨hsz, h1⟩, dx, es, n, hdx, tdx, hD, hfs⟩ := p₁.R.excAt hi hv
  obtain ⟨hp, gg, dr, tk, os⟩ := s₁
  have hC1 := p₁.R.kin _ _ hC
  have fin : (XF C c QX).P L g A.frames (.ref x) ⟨hp, gg, dr, tk, os⟩ := by
    have R1 := p₁.R.dropped WX.sub WX.closed
    have nge : ¬ i < σ'.nx := Nat.not_lt.mpr hge
    have fx : dropTag σ'.nx σ₁ hp g₁ x = .free := by simp only [dropTag, tx, nge, if_false, hi]
    have fdx : dropTag σ'.nx σ₁ hp g₁ dx = .free := by simp only [dropTag, tdx, nge, if_false]
    have x0 : C.H0.get? x = Option.none := p₁.R.h0_none (by rw [tx]; intro h; cases h) (by rw [tx]; intro o h; cases h)
    have dx0 : C.H0.get? dx = Option.none := p₁.R.h0_none (by rw [tdx]; intro h; cases h) (by rw [tdx]; intro o h; cases h)
    have hne : dx ≠ x := fun z => by rw [z, tx] at tdx; cases tdx
    have R2 := R1.retag (a := x) (t := .held ox) (by rw [fx]; exact fun h => h) ⟨hx, x0⟩
    have fdx2 : ((dropTag σ'.nx σ₁ hp g₁).put x (.held ox)) dx = .free := (put_ne _ _ hne).trans fdx
    have R3 := R2.retag (a := dx) (t := .held (dctObj es n)) (by rw [fdx2]; exact fun h => h) ⟨hD, dx0⟩
    have xx : Ext (dropTag σ'.nx σ₁ hp g₁) (((dropTag σ'.nx σ₁ hp g₁).put x (.held ox)).put dx (.held (dctObj es n))) := (Ext.put fx _).trans (Ext.put fdx2 _)
    have gfree : ∀ a, dropTag σ'.nx σ₁ hp g₁ a = .free → g a = .free := fun a ha => by
      by_cases z : g a = .free
      · exact z
      · have e := e₁ a z
        exfalso
        unfold dropTag at ha
        rw [e] at ha
        split at ha
        · rename_i j qj
          rw [if_pos (Nat.lt_of_lt_of_le (p.R.idx a j qj) WX.le)] at ha
          cases ha
        · rename_i j qj
          rw [if_pos (Nat.lt_of_lt_of_le (p.R.idxd a j qj) WX.le)] at ha
          cases ha
        · exact z ha
    have gext : Ext g (dropTag σ'.nx σ₁ hp g₁) := fun a ha => by
      have e := e₁ a ha
      unfold dropTag
      rw [e]
      split
      · rename_i j qj; rw [qj, if_pos (Nat.lt_of_lt_of_le (p.R.idx a j qj) WX.le)]
      · rename_i j qj; rw [qj, if_pos (Nat.lt_of_lt_of_le (p.R.idxd a j qj) WX.le)]
      · rfl
    refine ⟨_, σ', x, dx, fs, Option.none, rfl, (gext.trans xx).l L, fun f hf env he => ?_, ⟨ox, vs, ⟨R3, (put_ne _ _ (Ne.symm hne)).trans (put_self ..), hcl, hd, hsz, hdx, es, n, put_self .., (hfs.dropd WX.low).ext xx.v⟩, h1⟩, (fun h => by cases h), .inr (gfree x fx), .inr (gfree dx fdx), (fun T fl h => by cases h), q⟩
    obtain ⟨f', hf', hok⟩ := p.A.frames
    rw [hf] at hf'
    cases hf'
    exact (hok env he).ext (gext.trans xx)
  have hh := p₁.A.calm hc
  repeat (first | (with_reducible refine wpAny_field hx hd h1 ?_) | (with_reducible refine wpAny_loadPart_at hx ?_; rw [hcl]) | with_reducible refine wpAny_loadPart_at hC1 ?_ | (with_reducible refine wpAny_isSubtype_exc hC1 ?_; rw [hcB]) | wp_step)
  exact wpAny_raiseNew_none hh fin

/-! try: .. except X as n: .. -/
theorem FrameOk.eqFr' {g g' : TagMap} {env : Env} (k : ∀ a m, g a = .fr m → ∃ m', g' a = .fr m') (h : FrameOk g env) : FrameOk g' env := by
  obtain ⟨k1, L, m, e, t⟩ := h
  obtain ⟨m', t'⟩ := k L m t
  exact ⟨k1, L, m', e, t'⟩
theorem locVal (g : TagMap) (m : Str → Option Value) : LocR g (fun z => (m z).map V.val) m := fun x => by
  show OVR g ((m x).map V.val) (m x)
  cases m x with
  | none => exact rfl
  | some v => exact ⟨v, rfl, rfl⟩
/-- an exception that is caught stands for good -/
inductive Caught (C : Cx) (c : Addr) (QX : List (Str × V) → Sto → Prop) (L : Addr) (g : TagMap) (fr : List Env) (ea : Addr) (s : Shared) : Prop
  | mk (g₂ : TagMap) (σ' : Sto) (fs : List (Str × V)) (m₁ : Str → Option Value) (R : Rel C g₂ σ' s) (y : ExtL L g g₂) (hm : g₂ L = .fr m₁) (hv : VR g₂ (excV C.w.params c fs) (.ref ea)) (hf : ∀ env ∈ fr, FrameOk g₂ env) (q : QX fs σ')
theorem XD.caught {c L ea : Addr} {QX : List (Str × V) → Sto → Prop} {g : TagMap} {cenv : Env} {outer : List Env} {s : Shared} (d3 : XD C c QX true L g (some (cenv :: outer)) (.ref ea) s) (hcf : cenv.frame = some L) : Caught C c QX L g (cenv :: outer) ea s := by
  obtain ⟨g₁, σ', ea', dx, fs, tr, e, y, hfo, F, hb, o1, o3, o2, q⟩ := d3
  cases e
  obtain ⟨ox, vs, F0, ht⟩ := F.ex
  obtain ⟨hdict, es, nn, tdx, hfs⟩ := F0.dict
  have hfm : ∃ m₁, g₁ L = .fr m₁ := by
    obtain ⟨_, L', m₁, e, t⟩ := hfo _ rfl cenv (.head _)
    rw [hcf] at e; cases e; exact ⟨m₁, t⟩
  obtain ⟨m₁, hLm⟩ := hfm
  have hLea : L ≠ ea := fun z => by rw [z, F0.t] at hLm; cases hLm
  have hLdx : L ≠ dx := fun z => by rw [z, tdx] at hLm; cases hLm
  have hne : ea ≠ dx := fun z => by
    rw [← z, F0.t] at tdx
    injection tdx with e
    have := F0.data
    rw [e] at this; cases this
  have R2 := F0.R.retag (a := ea) (t := .froz ox) (by rw [F0.t]; exact fun h => h) (F0.R.held _ _ F0.t)
  have x1 : ExtV g₁ (g₁.put ea (.froz ox)) := ExtV.put (by rw [F0.t]; exact fun h => h) _
  have tdx1 : (g₁.put ea (.froz ox)) dx = .held (dctObj es nn) := (put_ne _ _ (Ne.symm hne)).trans tdx
  have R3 := R2.retag (a := dx) (t := .froz (dctObj es nn)) (by rw [tdx1]; exact fun h => h) (F0.R.held _ _ tdx)
  have x2 : ExtV (g₁.put ea (.froz ox)) ((g₁.put ea (.froz ox)).put dx (.froz (dctObj es nn))) := ExtV.put (by rw [tdx1]; exact fun h => h) _
  generalize eg₂ : (g₁.put ea (.froz ox)).put dx (.froz (dctObj es nn)) = g₂ at R3 x2
  have off : ∀ a, a ≠ ea → a ≠ dx → g₂ a = g₁ a := fun a h1 h2 => by rw [← eg₂, put_ne _ _ h2, put_ne _ _ h1]
  refine ⟨g₂, σ', fs, m₁, R3, fun a ha hn => ?_, (off L hLea hLdx).trans hLm, ?_, fun env he => (hfo _ rfl env he).eqFr' fun a m' ha => ⟨m', ?_⟩, q⟩
  · refine (off a (fun z => ?_) fun z => ?_).trans (y a ha hn)
    · rcases o1 with o | o
      · exact ha (z.trans o)
      · rw [z] at hn; exact hn o
    · rcases o3 with o | o
      · exact ha (z.trans o)
      · rw [z] at hn; exact hn o
  · obtain ⟨us, hus, hfe⟩ := (hfs.ext (x1.trans x2)).flat
    have t1 : g₂ ea = .froz ox := by rw [← eg₂, put_ne _ _ hne, put_self]
    have t2 : g₂ dx = .froz (dctObj es nn) := by rw [← eg₂, put_self]
    exact ⟨ea, [.ref dx], ox, rfl, t1, ⟨dx, rfl, F0.cls, hdict, vs, F0.data⟩, _, [], rfl, ⟨dx, us, _, rfl, t2, ⟨es, nn, rfl, hfe⟩, hus⟩, rfl⟩
  · rw [off a (fun z => by rw [z, F0.t] at ha; cases ha) (fun z => by rw [z, tdx] at ha; cases ha)]
    exact ha
theorem XD.look {c L : Addr} {QX : List (Str × V) → Sto → Prop} {g : TagMap} {f : Option (List Env)} {e : Value} {s : Shared} {b : Bool} (d2 : XD C c QX b L g f e s) : ∃ ea g₁ σ₁ oe, e = .ref ea ∧ Rel C g₁ σ₁ s ∧ s.heap.get? ea = some oe ∧ oe.cls = .ref c := by
  obtain ⟨g₁, σ', ea, _, _, _, e, _, _, F, _⟩ := d2
  obtain ⟨oe, _, F0, _⟩ := F.ex
  exact ⟨ea, g₁, σ', oe, e, F0.R, F0.R.held _ _ F0.t, F0.cls⟩
theorem S1.tryAs {c : Addr} {QX : List (Str × V) → Sto → Prop} {body suite : List Stmt} {b₀ : Stmt} {x n : Str} {np hpos pos : Pos} {QS : Fl → Loc → Sto → Prop} {nm q : Str} {N : Addr} {bs bm : List Value} {hdct : Bool} {sn : List Str} {sub : List Value} {ab : Bool} {col : Option Bool} {dd : Option Addr} {k0 k1 k2 k3 k5 : Option Value} {newId : String}
    (hC : C.K.lookup c = some (excClassObj nm q c N bs bm hdct sn sub ab col dd k0 k1 k2 k3 k5 newId)) (hm : excTail bm = true) (hkx : W.sc.names.lookup x = some .globalImplicit) (hgx : nsIn C.K mainGlobals x = some (some (.ref c))) (hdx : (x == ("__debug__" : Str)) = false) (hkn : W.sc.names.lookup n = some .local)
    (h : SS C (XF C c QX) W body l σ QS)
    (k : ∀ l' fs σ', QX fs σ' → SS C .none { W with calm := false } (b₀ :: suite) (Loc.set l' n (excV C.w.params c fs)) σ' fun f _ σ'' => ∃ d, f = .ret d ∧ ∀ l'', QS (.ret d) l'' σ'') :
    S1 C X W (.Try body [.ExceptHandler (some (.Name x np)) (some n) (b₀ :: suite) hpos] [] [] pos) l σ QS := fun g A cenv L m s p o => by
  obtain ⟨⟨outer, hfr⟩, hcf⟩ := id o
  refine wpAny_Try_except (wpAny_mono (h g A cenv L m s p o) ?_ ?_)
  · rintro fl s' ⟨f, l', g', σ', m', y, R, hm', hl, hf, q⟩
    cases f with
    | next =>
      obtain rfl : fl = .next := hf
      exact wpAny_execs_nil ⟨.next, l', g', σ', m', y, R, hm', hl, rfl, q⟩
    | brk => obtain rfl : fl = .brk := hf; exact ⟨.brk, l', g', σ', m', y, R, hm', hl, rfl, q⟩
    | cont => obtain rfl : fl = .cont := hf; exact ⟨.cont, l', g', σ', m', y, R, hm', hl, rfl, q⟩
    | ret d => obtain ⟨v, rfl, hv⟩ := hf; exact ⟨.ret d, l', g', σ', m', y, R, hm', hl, ⟨v, rfl, hv⟩, q⟩
  · intro e s₁ hx
    have hx : XD C c QX false L g A.frames e s₁ := hx
    rw [hfr] at hx
    refine hx.note hfr hcf fun h₁ d1 => d1.set fun h₂ d2 => ?_
    obtain ⟨ea, g₁, σ₁, oe, rfl, R₁, hoe, hcls⟩ := d2.look
    refine wpAny_handleBy_cons (codeAny_handlers_test ?_) (by intro q; cases q)
    refine Name_function_global p.E.ckind ((p.E.kindOf x).trans hkx) (loadGlobal_global (by rw [p.E.glob]; exact R₁.top.g) (mg_of R₁.kin R₁.top.g hgx) ?_) hdx
    refine wpAny_excMatches_sub_self (R₁.kin _ _ hC) hoe hcls (excTail_has hm).2.2.1 (codeAny_handlers_suite_as ?_)
    clear R₁
    refine d2.set fun h₃ d3 => ?_
    obtain ⟨g₂, σ', fs, m₁, R3, y2, hLm2, hexc, hfo, q⟩ := d3.caught hcf
    have ns₁ : h₃.Ns L m₁ := R3.fr L m₁ hLm2
    have hloc : cenv.locals = L := p.E.loc
    refine wpAny_storeName_local ((p.E.kindOf n).trans hkn) (by rw [hloc]; exact ns₁) (fun h₄ hn₄ hs₄ => ?_) (notModuleStore p.E)
    rw [hloc] at hn₄ hs₄
    have R4 := R3.store (tk := s₁.toks + 1) hLm2 hn₄ hs₄
    obtain ⟨m₂, em₂⟩ : ∃ m₂ : Str → Option Value, m₂ = fun z => if z = n then some (.ref ea) else m₁ z := ⟨_, rfl⟩
    rw [← em₂] at R4
    have y3 : ExtL L g₂ (g₂.put L (.fr m₂)) := ExtL.put g₂ _
    have xv3 : ExtV g₂ (g₂.put L (.fr m₂)) := y3.v (by rw [hLm2]; exact fun h => h)
    have hl4 : LocR (g₂.put L (.fr m₂)) (Loc.set (fun z => (m₁ z).map V.val) n (excV C.w.params c fs)) m₂ := by
      have h5 : LocR (g₂.put L (.fr m₂)) (Loc.set (fun z => (m₁ z).map V.val) n (excV C.w.params c fs)) (fun y => if y = n then some (.ref ea) else m₁ y) := LocR.set (locVal _ _) (hexc.ext xv3)
      rwa [← em₂] at h5
    have xg : ExtV g (g₂.put L (.fr m₂)) := (p.vL y2).trans xv3
    have hframes : ∀ env ∈ cenv :: outer, FrameOk (g₂.put L (.fr m₂)) env := fun env he => (hfo env he).eqFr' fun a m' ha => by
      by_cases z : a = L
      · exact ⟨m₂, by rw [z, put_self]⟩
      · exact ⟨m', by rw [put_ne _ _ z]; exact ha⟩
    have p4 : Pre C { W with calm := false } (Loc.set (fun z => (m₁ z).map V.val) n (excV C.w.params c fs)) σ' (g₂.put L (.fr m₂)) (A.mark (some (.ref ea))) cenv L m₂ { s₁ with heap := h₄, toks := s₁.toks + 1 } :=
      ⟨R4, ⟨p.E.sc, p.E.kind, p.E.loc, p.E.glob, p.E.blt, fun z i e => let ⟨a, e1, t⟩ := p.E.cells z i e; ⟨a, e1, xg.at t trivial⟩, hframes cenv (.head _), p.E.fn⟩,
        ⟨p.A.depth, p.A.units, (fun h => by cases h), ⟨_, hfr, hframes⟩, p.A.guards⟩, put_self .., hl4⟩
    refine wpAny_mono (k _ fs σ' q _ _ _ _ _ _ p4 ⟨⟨outer, hfr⟩, hcf⟩) ?_ fun _ _ h => h.elim
    rintro fl s₅ ⟨f, l₅, g₅, σ₅, m₅, y5, R5, hm5, hl5, hf5, d, rfl, hQ⟩
    obtain ⟨v, rfl, hv⟩ := hf5
    refine wpAny_nameGoes ((p.E.kindOf n).trans hkn) (by rw [hloc]; exact R5.fr L m₅ hm5) (notModuleStore p.E) fun h₆ m₆ hn₆ hs₆ => ?_
    rw [hloc] at hn₆ hs₆
    have R6 := R5.store (tk := s₅.toks + 1) hm5 hn₆ hs₆
    have y6 : ExtL L g₅ (g₅.put L (.fr m₆)) := ExtL.put g₅ _
    have xv6 : ExtV g₅ (g₅.put L (.fr m₆)) := y6.v (by rw [hm5]; exact fun h => h)
    refine ⟨.ret d, fun z => (m₆ z).map V.val, _, σ₅, m₆, ((y2.trans y3).trans y5).trans y6, R6, put_self .., locVal _ _, ⟨v, rfl, hv.ext xv6⟩, hQ _⟩
end
end Mine
/- part MBnd -/
set_option maxHeartbeats 4000000
namespace Mine
open PySem PySem.W PySem.Calls PyProof.Rows PySem.SeqAt

abbrev metObj (f x : Addr) : Obj := { cls := .type "method", dict := none, data := .fields #[.ref f, .ref x], slots := #[] }
noncomputable def methV (f : Addr) (i : Nat) : V := .pk (fun _ us o => ∃ x, us = [.ref x] ∧ o = metObj f x) [.ref i]
section
variable {C : Cx} {X : XPost} {W : En} {l : Loc} {σ : Sto} {Q : V → Sto → Prop}
theorem methV.at {g : TagMap} {s : Shared} {f : Addr} {i : Nat} {v : Value} (R : Rel C g σ s) (h : VR g (methV f i) v) : ∃ b x, v = .ref b ∧ g x = .main i ∧ s.heap.get? b = some (metObj f x) := by
  obtain ⟨a, u, o, rfl, t, ⟨x, e, rfl⟩, y, e2, tx⟩ := h.pk1
  injection e with e
  rw [e] at e2
  cases e2
  exact ⟨a, x, rfl, tx, R.froz _ _ t⟩
/-- a method, taken as a value -/
theorem SE.bound {o : Expr} {name : Str} {pos : Pos} (hb : ∀ env t, attributeBase o name env t = t) (ht : ∀ x r, letTemporaryGo o x r = pure ()) (hcp : copiedNames.contains name = false)
    (h : SE C X W o l σ fun d σ₁ => ∃ i c fs f of, d = .ref i ∧ σ₁.get i = some (.inst c fs) ∧ ClsOk C.K c ∧ findIn C.K (.ref c) name = some (some (.ref f)) ∧ C.K.lookup f = some of ∧ of.cls = .type "function" ∧ specialIn C.K (.ref f) "__get__" = some (some (.builtin "function.__get__")) ∧ takesIn C.K (.ref f) = some false ∧
      lookF fs name = Option.none ∧ Q (methV f i) σ₁) :
    SE C X W (.Attribute o name pos) l σ Q := fun g A cenv L m s p => by
  rw [arm_eval_Attribute, hb]
  refine wpAny_bind (SE.then p h fun d ov g₁ σ₁ s₁ e₁ p₁ hv q => ?_)
  obtain ⟨i, c, fs, f, of, rfl, hi, ok, hn, hof, hofc, hget, htk, hl, q⟩ := q
  obtain ⟨x, dx, es, n, rfl, tx, tdx, hdx, I, hfs⟩ := p₁.R.instAt hi hv
  obtain ⟨vo, hvo, r⟩ := hfs.lookIn (x := name) (n := n)
  rw [hl] at r
  have r : vo = Option.none := r
  subst r
  obtain ⟨cd, hcd, hd⟩ := any_some ok.dict
  have hf : findObj C.K c (some (dctObj es n)) name = some (.bind (.builtin "function.__get__") (.ref f)) := by
    unfold findObj
    rw [hcd, hn]
    simp only [Option.bind_some, hget, htk, PySem.W.ownOf, hd, if_true, hvo, hcp, Bool.false_and, if_false]
    rfl
  refine wpAny_bind (wpAny_standAt (wpAny_bind (wpAny_holding (get_bind p₁.R.kin I ok.ga hf ok.noga ?_))))
  have hTf : ({ s₁ with toks := s₁.toks + 1 } : Shared).TypeIs (.ref f) "function" := ⟨_, p₁.R.kin _ _ hof, hofc⟩
  have step : ∀ (Q' : PySem.Fin → Shared → Prop) (E' : Value → Shared → Prop) (A' : Around), Q' (.done (.ret (.ref s₁.heap.objs.size))) { s₁ with heap := s₁.heap.push (metObj f x), toks := s₁.toks + 1 } →
      wpAny C.M A' (Builtin.«function.__get__» ⟨[.ref f, .ref x, .ref c], []⟩) Q' E' { s₁ with toks := s₁.toks + 1 } := by
    intro Q' E' A' hq
    unfold Builtin.«function.__get__»
    repeat wp_step
    exact hq
  refine wpAny_call_entry F.ks_slot_function_get hTf F.ks_entry_function_get (step _ _ _ ⟨_, rfl, ?_⟩) (F.ks_getArgs_function _ _ _)
  show wpAny _ _ (handedOut (.ref s₁.heap.objs.size)) _ _ _
  refine wpAny_pure ?_
  refine wpAny_bind (wpAny_of_eq (ht _ _) (wpAny_pure ?_))
  have R0 : Rel C g₁ σ₁ { s₁ with toks := s₁.toks + 1 } := p₁.R.toks _
  obtain ⟨R', xg⟩ := R0.newFroz (metObj f x) rfl
  exact ⟨methV f i, _, σ₁, e₁.trans xg, R', ⟨_, [.ref x], _, rfl, put_self .., ⟨x, rfl, rfl⟩, _, [], rfl, ⟨x, rfl, xg.at tx (by intro h; cases h)⟩, rfl⟩, q⟩
theorem Keep.meth {f : Addr} {i : Nat} {of : Obj} {fd : FuncData} (hof : C.K.lookup f = some of) (hd : of.data = .func fd) : Keep C (methV f i) := fun g σ s fv R hv => by
  obtain ⟨b, x, rfl, tx, hb⟩ := methV.at R hv
  refine ⟨.boundFrame, .inr (.inr rfl), fun A Q E s' k q => wpAny_bind (wpAny_load (k _ _ hb) ?_)⟩
  refine wpAny_bind (wpAny_load (k _ _ (R.kin _ _ hof)) ?_)
  rw [hd]
  exact wpAny_pure q
theorem SCc.meth {f : Addr} {i : Nat} {ds : List V} (h : SCc C X W σ (.val (.ref f)) (.ref i :: ds) Q) : SCc C X W σ (methV f i) ds Q := by
  rintro g A L s fv vs R hA hf hv
  obtain ⟨b, x, rfl, tx, hb⟩ := methV.at R hf
  exact ks_codeAny_call_bound hb (h g A L s (.ref f) (.ref x :: vs) R hA rfl ⟨_, _, rfl, ⟨x, rfl, tx⟩, hv⟩)
theorem Keep.lam {params : Arguments} {body : Expr} {scope : Scope} {qual : Str} {ci : List (Str × Nat)} : Keep C (lamV params body scope qual ci) := fun g σ s fv R hv => by
  obtain ⟨a, us, o, rfl, t, ⟨as, c', pm, ctv, rfl, rfl⟩, hus⟩ := hv
  exact ⟨.frame, .inl rfl, fun A Q E s' k q => wpAny_bind (wpAny_load (k _ _ (R.froz _ _ t)) (wpAny_pure q))⟩
end
end Mine
/- part MK -/
namespace Mine.D
open PySem PySem.W PySem.Calls PyProof.Rows PySem.SeqAt
/-! what comes behind a step, by names: keeps terms small -/
@[reducible] def PB (b₀ : Bool) (σ₀ : Sto) : Bool → Sto → Prop := fun b σ => b = b₀ ∧ σ = σ₀
section
variable {α : Type} {vs : List α}
theorem len1 (h : vs.length = 1) : ∃ a, vs = [a] := by
  match vs, h with
  | [a], _ => exact ⟨a, rfl⟩
theorem lenS {n : Nat} (h : vs.length = n + 1) : ∃ a r, vs = a :: r ∧ r.length = n := by
  match vs, h with
  | a :: r, h => exact ⟨a, r, rfl, Nat.succ.inj h⟩
theorem len2 (h : vs.length = 2) : ∃ a b, vs = [a, b] := let ⟨a, _, e, k⟩ := lenS h; let ⟨b, e'⟩ := len1 k; ⟨a, b, e.trans (e' ▸ rfl)⟩
theorem len3 (h : vs.length = 3) : ∃ a b c, vs = [a, b, c] := let ⟨a, _, e, k⟩ := lenS h; let ⟨b, c, e'⟩ := len2 k; ⟨a, b, c, e.trans (e' ▸ rfl)⟩
theorem len4 (h : vs.length = 4) : ∃ a b c d, vs = [a, b, c, d] := let ⟨a, _, e, k⟩ := lenS h; let ⟨b, c, d, e'⟩ := len3 k; ⟨a, b, c, d, e.trans (e' ▸ rfl)⟩
theorem len5 (h : vs.length = 5) : ∃ a b c d f, vs = [a, b, c, d, f] := let ⟨a, _, e, k⟩ := lenS h; let ⟨b, c, d, f, e'⟩ := len4 k; ⟨a, b, c, d, f, e.trans (e' ▸ rfl)⟩
end
theorem kif_pos {c p q : Prop} {d : Decidable c} (hc : c) (h : p) : @ite Prop c d p q := by rw [if_pos hc]; exact h
theorem kif_neg {c p q : Prop} {d : Decidable c} (hc : ¬ c) (h : q) : @ite Prop c d p q := by rw [if_neg hc]; exact h
section
variable (C : Cx) (X : XPost) (W : En)
@[reducible] def K2b (t : List Value → Sem Value) (Q : V → Sto → Prop) (x : V) : V → Sto → Prop := fun y σ => SV C X W σ [x, y] t Q
@[reducible] def K2a (b : Expr) (l : Loc) (t : List Value → Sem Value) (Q : V → Sto → Prop) : V → Sto → Prop := fun x σ => SE C X W b l σ (K2b C X W t Q x)
@[reducible] def K1 (t : List Value → Sem Value) (Q : V → Sto → Prop) : V → Sto → Prop := fun x σ => SV C X W σ [x] t Q
@[reducible] def KIfE (a b : Expr) (l : Loc) (Q : V → Sto → Prop) : Bool → Sto → Prop := fun c σ => if c = true then SE C X W a l σ Q else SE C X W b l σ Q
@[reducible] def KIfT (a b : Expr) (l : Loc) (P : Bool → Sto → Prop) : Bool → Sto → Prop := fun c σ => if c = true then ST C X W a l σ P else ST C X W b l σ P
@[reducible] def KIfS (a b : List Stmt) (l : Loc) (Q : Fl → Loc → Sto → Prop) : Bool → Sto → Prop := fun c σ => if c = true then SS C X W a l σ Q else SS C X W b l σ Q
@[reducible] def KBool (P : Bool → Sto → Prop) : V → Sto → Prop := fun d σ => ∃ c, d = .bool c ∧ P c σ
@[reducible] def KNot (P : Bool → Sto → Prop) : Bool → Sto → Prop := fun b σ => P (!b) σ
@[reducible] def KAnd (r : List Expr) (l : Loc) (P : Bool → Sto → Prop) : Bool → Sto → Prop := fun b σ => if b = true then SA C X W .And r l σ P else P false σ
@[reducible] def KOr (r : List Expr) (l : Loc) (P : Bool → Sto → Prop) : Bool → Sto → Prop := fun b σ => if b = true then P true σ else SA C X W .Or r l σ P
@[reducible] def KLd (Q : List V → Sto → Prop) (d : V) : List V → Sto → Prop := fun ds σ => Q (d :: ds) σ
@[reducible] def KLc (r : List Expr) (l : Loc) (Q : List V → Sto → Prop) : V → Sto → Prop := fun d σ => SL C X W r l σ (KLd Q d)
@[reducible] def KTup (Q : V → Sto → Prop) : List V → Sto → Prop := fun ds σ => ds.length ≤ 1000000 ∧ Q (.tup ds) σ
@[reducible] def KLst (Q : V → Sto → Prop) : List V → Sto → Prop := fun ds σ => ds.length ≤ 1000000 ∧ Q (.ref σ.nx) (σ.push (.list ds))
@[reducible] def KNx (r : List Stmt) (Q : Fl → Loc → Sto → Prop) : Fl → Loc → Sto → Prop := fun f l σ => match f with | .next => SS C X W r l σ Q | f => Q f l σ
@[reducible] def KRt (l : Loc) (Q : Fl → Loc → Sto → Prop) : V → Sto → Prop := fun d σ => Q (.ret d) l σ
@[reducible] def KEx (l : Loc) (Q : Fl → Loc → Sto → Prop) : V → Sto → Prop := fun _ σ => Q .next l σ
@[reducible] def KAn (Q : Fl → Loc → Sto → Prop) : Loc → Sto → Prop := fun l σ => Q .next l σ
@[reducible] def KAs (t : Expr) (l : Loc) (Q : Fl → Loc → Sto → Prop) : V → Sto → Prop := fun d σ => SG C X W t l σ d (KAn Q)
@[reducible] def KCa (f : V) (Q : V → Sto → Prop) : List V → Sto → Prop := fun ds σ => SC C X W σ f ds Q
@[reducible] def KCn (args : List Expr) (l : Loc) (Q : V → Sto → Prop) : V → Sto → Prop := fun f σ => Keep C f ∧ SL C X W args l σ (KCa C X W f Q)
@[reducible] def KSi (o : V) (Q : V → Sto → Prop) : V → Sto → Prop := fun i σ => SI C X W σ o i Q
@[reducible] def KSo (sl : Expr) (l : Loc) (Q : V → Sto → Prop) : V → Sto → Prop := fun o σ => SE C X W sl l σ (KSi C X W o Q)
@[reducible] def KSh (o : V) (a : Option Int) (Q : V → Sto → Prop) : Option Int → Sto → Prop := fun b σ => SSl C X W σ o a b Q
@[reducible] def KSl (hi : Option Expr) (l : Loc) (o : V) (Q : V → Sto → Prop) : Option Int → Sto → Prop := fun a σ => SOpt C X W hi l σ (KSh C X W o a Q)
@[reducible] def KSc (lo hi : Option Expr) (l : Loc) (Q : V → Sto → Prop) : V → Sto → Prop := fun o σ => SOpt C X W lo l σ (KSl C X W hi l o Q)
@[reducible] def KFo (t : Expr) (body : List Stmt) (l : Loc) (Q : Fl → Loc → Sto → Prop) : (Sto → Prop) → List V → Sto → Prop := fun src ds σ => SFor C X W src t body ds l σ Q
@[reducible] def KIl (QI : (Sto → Prop) → List V → Sto → Prop) : V → Sto → Prop := fun d σ => ∃ ds, IsL σ d ds ∧ QI (fun σ => IsL σ d ds) ds σ
@[reducible] def KIt (QI : (Sto → Prop) → List V → Sto → Prop) : V → Sto → Prop := fun d σ => ∃ ds, d = .tup ds ∧ QI (fun _ => True) ds σ
@[reducible] def KIr (QI : (Sto → Prop) → List V → Sto → Prop) : V → Sto → Prop := fun d σ => ∃ n : Nat, d = .rng 0 n ∧ n < 2 ^ 60 ∧ QI (fun _ => True) ((List.range n).map fun j : Nat => V.int (j : Int)) σ
@[reducible] def KIe2 (QI : (Sto → Prop) → List V → Sto → Prop) : V → Sto → Prop := fun d σ => ∃ ds, d = .tup ds ∧ QI (fun _ => True) (enumVs ds 0) σ
@[reducible] def KIe (e : Expr) (l : Loc) (QI : (Sto → Prop) → List V → Sto → Prop) : V → Sto → Prop := fun f σ => f = .val (.type "enumerate") ∧ SE C X W e l σ (KIe2 QI)
@[reducible] def KCl (Q : V → Sto → Prop) : List V → Sto → Prop := fun acc σ => Q (.ref σ.nx) (σ.push (.list acc))
@[reducible] def KCx (t : Expr) (ifs : List Expr) (elt : Expr) (sc : Scope) (Q : List V → Sto → Prop) : (Sto → Prop) → List V → Sto → Prop := fun src ds σ => SCompL C (compEn sc W) src t ifs elt ds [] (fun _ => Option.none) σ Q
@[reducible] def KCy (y : Str) (l : Loc) (Q : Fl → Loc → Sto → Prop) : List V → Sto → Prop := fun acc σ => Q .next (l.set y (.ref σ.nx)) (σ.push (.list acc))
@[reducible] def KMa (f : V) (fs : List V) (Q : V → Sto → Prop) : List V → Sto → Prop := fun ds σ => SC C X W σ f (fs ++ ds) Q
@[reducible] def KMf (args : List Expr) (l : Loc) (Q : V → Sto → Prop) : V → List V → Sto → Prop := fun f fs σ => Keep C f ∧ SL C X W args l σ (KMa C X W f fs Q)
@[reducible] def KMo (name : Str) (args : List Expr) (l : Loc) (Q : V → Sto → Prop) : V → Sto → Prop := fun d σ => SM C X W σ d name (KMf C X W args l Q)
@[reducible] def KGs2 (od d : V) (l : Loc) (Q : Loc → Sto → Prop) : V → Sto → Prop := fun id σ => ∃ i x sk, od = .ref i ∧ id = .str x ∧ σ.get i = some (.dict (skv sk)) ∧ (sk.map (·.1)).Nodup ∧ sk.length ≤ 1000000 ∧ Q l (σ.set i (.dict (skv (storedV sk x d))))
@[reducible] def KGs (sl : Expr) (l : Loc) (d : V) (Q : Loc → Sto → Prop) : V → Sto → Prop := fun od σ => SE C X W sl l σ (KGs2 od d l Q)
@[reducible] def KDi (Q : V → Sto → Prop) : List (Str × V) → Sto → Prop := fun sk σ => (sk.map (·.1)).Nodup ∧ Q (.ref σ.nx) (σ.push (.dict (skv sk)))
@[reducible] def KJs (Q : V → Sto → Prop) : Str → Sto → Prop := fun y σ => Q (.str y) σ
@[reducible] def KFm (Q : V → Sto → Prop) : V → Sto → Prop := fun d σ => ∃ x, d = .str x ∧ x.length ≤ 1000000 ∧ Q (.str x) σ
@[reducible] def KWk (σ₀ : Sto) (Q : V → Sto → Prop) : V → Sto → Prop := fun d σ => ∃ σ' d', Weak C.w.params σ₀.nx σ d σ' d' ∧ Q d' σ'
@[reducible] def KWx (σ₀ : Sto) (Q : List (Str × V) → Sto → Prop) : List (Str × V) → Sto → Prop := fun fs σ => ∃ σ', WeakX σ₀.nx σ fs σ' ∧ Q fs σ'
@[reducible] def KFi (name : Str) (Q : V → Sto → Prop) : V → Sto → Prop := fun d σ => ∃ i c fs d', d = .ref i ∧ σ.get i = some (.inst c fs) ∧ ClsOk C.K c ∧ findIn C.K (.ref c) name = some Option.none ∧ lookF fs name = some d' ∧ handedV d' = true ∧ Q d' σ
@[reducible] def KGf (name : Str) (d : V) (l : Loc) (Q : Loc → Sto → Prop) : V → Sto → Prop := fun od σ => ∃ i c fs, od = .ref i ∧ σ.get i = some (.inst c fs) ∧ ClsOk C.K c ∧ takerIn C.K c name = some Option.none ∧ fs.length ≤ 1000 ∧ Q l (σ.set i (.inst c (putF name d fs)))
@[reducible] def KNi (σ₀ : Sto) (Q : V → Sto → Prop) : V → Sto → Prop := fun d σ => d = .none ∧ Q (.ref σ₀.nx) σ
@[reducible] def KSw (ns : List Str) (l : Loc) (Q : Fl → Loc → Sto → Prop) : V → Sto → Prop := fun d σ => ∃ ds, d = .tup ds ∧ ds.length = ns.length ∧ Q .next (setAll l ns.reverse ds.reverse) σ
@[reducible] def KRv (Q : V → Sto → Prop) : Fl → Loc → Sto → Prop := fun f _ σ => match f with | .ret d => Q d σ | _ => Q .none σ
@[reducible] def KRa (c : Addr) (σ₀ : Sto) (QX : List (Str × V) → Sto → Prop) : V → Sto → Prop := fun d σ => ∃ i fs σ', d = .ref i ∧ σ.get i = some (.exc c (some fs)) ∧ WeakX σ₀.nx σ fs σ' ∧ σ'.nx ≤ i ∧ QX fs σ'
@[reducible] def KTb (Inv : List V → Loc → Sto → Prop) (r : List V) (Q : Fl → Loc → Sto → Prop) : Fl → Loc → Sto → Prop := fun f l σ => match f with
  | .next | .cont => Inv r l σ
  | .brk => Q .next l σ
  | .ret v => Q (.ret v) l σ
@[reducible] def KTa (body : List Stmt) (Inv : List V → Loc → Sto → Prop) (r : List V) (Q : Fl → Loc → Sto → Prop) : Loc → Sto → Prop := fun l σ => SS C X W body l σ (KTb Inv r Q)
@[reducible] def KC3 (σ₀ : Sto) (y₀ : V) : V → Sto → Prop := fun y σ => σ = σ₀ ∧ y = y₀
@[reducible] def KC2 (elt : Expr) (l : Loc) (σ₀ : Sto) (b : Bool) (y₀ : V) : Bool → Sto → Prop := fun ok σ => σ = σ₀ ∧ ok = b ∧ (ok = true → SE C X W elt l σ₀ (KC3 σ₀ y₀))
@[reducible] def KC1 (ifs : List Expr) (elt : Expr) (σ₀ : Sto) (b : Bool) (y₀ : V) : Loc → Sto → Prop := fun l σ => σ = σ₀ ∧ STs C X W ifs l σ₀ (KC2 C X W elt l σ₀ b y₀)
end
section
variable {C : Cx} {X : XPost} {W : En} {l : Loc} {σ : Sto} {Q : V → Sto → Prop} {P : Bool → Sto → Prop}
theorem SE.bin {a b : Expr} {op : Operator} {pos : Pos} (h : SE C X W a l σ (K2a C X W b l (tBin op) Q)) : SE C X W (.BinOp a op b pos) l σ Q := Mine.SE.bin h
theorem SE.cmp {a b : Expr} {op : CmpOp} {pos : Pos} (hm : behindInMarks op b = false) (h : SE C X W a l σ (K2a C X W b l (tCmp op) Q)) : SE C X W (.Compare a [op] [b] pos) l σ Q := Mine.SE.cmp hm h
theorem SE.un {a : Expr} {op : UnaryOp} {pos : Pos} (h : SE C X W a l σ (K1 C X W (tUn op) Q)) : SE C X W (.UnaryOp op a pos) l σ Q := Mine.SE.un h
theorem SE.ifExp {t a b : Expr} {pos : Pos} (h : ST C X W t l σ (KIfE C X W a b l Q)) : SE C X W (.IfExp t a b pos) l σ Q := Mine.SE.ifExp h
theorem ST.cmp {a b : Expr} {op : CmpOp} {pos : Pos} (hm : behindInMarks op b = false) (h : SE C X W a l σ (K2a C X W b l (tCmp op) (KBool P))) : ST C X W (.Compare a [op] [b] pos) l σ P := Mine.ST.cmp hm h
theorem ST.val {e : Expr} (hp : plainTest e = true) (h : SE C X W e l σ (KBool P)) : ST C X W e l σ P := Mine.ST.val hp h
theorem ST.not {e : Expr} {pos : Pos} (h : ST C X W e l σ (KNot P)) : ST C X W (.UnaryOp .Not e pos) l σ P := Mine.ST.not h
theorem ST.ifExp {t a b : Expr} {pos : Pos} (h : ST C X W t l σ (KIfT C X W a b l P)) : ST C X W (.IfExp t a b pos) l σ P := Mine.ST.ifExp h
theorem SA.consAnd {e : Expr} {r : List Expr} (h : ST C X W e l σ (KAnd C X W r l P)) : SA C X W .And (e :: r) l σ P := Mine.SA.consAnd h
theorem SA.consOr {e : Expr} {r : List Expr} (h : ST C X W e l σ (KOr C X W r l P)) : SA C X W .Or (e :: r) l σ P := Mine.SA.consOr h
theorem SL.cons {QL : List V → Sto → Prop} {e : Expr} {r : List Expr} (hs : noStar e = true) (h : SE C X W e l σ (KLc C X W r l QL)) : SL C X W (e :: r) l σ QL := Mine.SL.cons hs h
theorem SE.tuple {es : List Expr} {k : Nat} {pos : Pos} (h : SL C X W es l σ (KTup Q)) : SE C X W (.Tuple es k pos) l σ Q := Mine.SE.tuple h
theorem SE.list {es : List Expr} {pos : Pos} (h : SL C X W es l σ (KLst Q)) : SE C X W (.List es pos) l σ Q := Mine.SE.list h
theorem SE.callName {x : Str} {np pos : Pos} {args : List Expr} (hs : noStars args = true) (h : SE C X W (.Name x np) l σ (KCn C X W args l Q)) : SE C X W (.Call (.Name x np) args [] pos) l σ Q := Mine.SE.callName hs h
theorem SE.sub {v sl : Expr} {pos : Pos} (h : SE C X W v l σ (KSo C X W sl l Q)) : SE C X W (.Subscript v sl pos) l σ Q := Mine.SE.sub h
theorem SE.slice {v : Expr} {lo hi : Option Expr} {sp pos : Pos} (h : SE C X W v l σ (KSc C X W lo hi l Q)) : SE C X W (.Subscript v (.Slice lo hi Option.none sp) pos) l σ Q := Mine.SE.slice h
theorem SIt.list {t e : Expr} {QI : (Sto → Prop) → List V → Sto → Prop} (hc : W.calm = true) (h : SE C X W e l σ (KIl QI)) : SIt C X W t e l σ QI := Mine.SIt.list hc h
theorem SIt.tup {t e : Expr} {QI : (Sto → Prop) → List V → Sto → Prop} (hc : W.calm = true) (h : SE C X W e l σ (KIt QI)) : SIt C X W t e l σ QI := Mine.SIt.tup hc h
theorem SIt.range {t e : Expr} {QI : (Sto → Prop) → List V → Sto → Prop} (hc : W.calm = true) (h : SE C X W e l σ (KIr QI)) : SIt C X W t e l σ QI := Mine.SIt.range hc h
theorem SIt.enumTup {QI : (Sto → Prop) → List V → Sto → Prop} {ts : List Expr} {k : Nat} {tp np pos : Pos} {x : Str} {e : Expr} (hc : W.calm = true) (hs : noStar e = true) (hx : SE C X W (.Name x np) l σ (KIe C X W e l QI)) : SIt C X W (.Tuple ts k tp) (.Call (.Name x np) [e] [] pos) l σ QI := Mine.SIt.enumTup hc hs hx
theorem SE.listComp {t elt iter : Expr} {ifs : List Expr} {scope : Scope} {pos : Pos} (ok : CompOk W iter scope) (h : SIt C X W t iter l σ (KCx C W t ifs elt scope (KCl Q))) : SE C X W (.ListComp elt [⟨t, iter, ifs, 0⟩] scope pos) l σ Q := Mine.SE.listComp ok h
theorem SE.dict {ks : List (Option Expr)} {vs : List Expr} {pos : Pos} (hall : ks.all (·.isSome) = true) (hl : ks.length = vs.length) (h0 : ks ≠ []) (hlen : ks.length ≤ 15) (h : SPs C X W ks vs l σ (KDi Q)) : SE C X W (.Dict ks vs pos) l σ Q := Mine.SE.dict hall hl h0 hlen h
theorem SE.joined {a b : Expr} {r : List Expr} {pos : Pos} (h : SJ C X W (a :: b :: r) Str.empty l σ (KJs Q)) : SE C X W (.JoinedStr (a :: b :: r) pos) l σ Q := Mine.SE.joined h
theorem SE.fmtStr {e : Expr} {pos : Pos} (h : SE C X W e l σ (KFm Q)) : SE C X W (.FormattedValue e (-1) Option.none pos) l σ Q := Mine.SE.fmtStr h
theorem SE.field {o : Expr} {name : Str} {pos : Pos} (hb : ∀ env t, attributeBase o name env t = t) (ht : ∀ x r, letTemporaryGo o x r = pure ()) (h : SE C X W o l σ (KFi C name Q)) : SE C X W (.Attribute o name pos) l σ Q := Mine.SE.field hb ht h
theorem SC.weak {f : V} {ds : List V} (h : SC C X W σ f ds (KWk C σ Q)) : SC C X W σ f ds Q := Mine.SC.weak h
theorem SCc.cls {c fI : Addr} {ds : List V} (hd : 0 < W.d) (hm : makesIn C.K c = true) (hi : findIn C.K (.ref c) "__init__" = some (some (.ref fI))) (hf : typeIn C.K (.ref fI) = some (.type "function")) (h : SCc C X W.dec (σ.push (.inst c [])) (.val (.ref fI)) (.ref σ.nx :: ds) (KNi σ Q)) : SCc C X W σ (.val (.ref c)) ds Q := Mine.SCc.cls hd hm hi hf h
theorem SC.cls {c fI : Addr} {ds : List V} (hd : 0 < W.d) (hm : makesIn C.K c = true) (hi : findIn C.K (.ref c) "__init__" = some (some (.ref fI))) (hf : typeIn C.K (.ref fI) = some (.type "function")) (h : SCc C X W.dec (σ.push (.inst c [])) (.val (.ref fI)) (.ref σ.nx :: ds) (KNi σ Q)) : SC C X W σ (.val (.ref c)) ds Q := Mine.SC.cls hd hm hi hf h
theorem SC.weakX {c : Addr} {QX : List (Str × V) → Sto → Prop} {f : V} {ds : List V} (h : SC C (XF C c (KWx σ QX)) W σ f ds (KWk C σ Q)) : SC C (XF C c QX) W σ f ds Q := Mine.SC.weakX h
theorem SCc.weakX {c : Addr} {QX : List (Str × V) → Sto → Prop} {f : V} {ds : List V} (h : SCc C (XF C c (KWx σ QX)) W σ f ds (KWk C σ Q)) : SCc C (XF C c QX) W σ f ds Q := Mine.SCc.weakX h
theorem SE.meth {o : Expr} {name : Str} {apos pos : Pos} {args : List Expr} {pl : Env → Sem Bool} (hs : noStars args = true)
    (he : ∀ env, eval (.Call (.Attribute o name apos) args [] pos) env = (do
      let ov ← eval o env
      standAt apos.atName
      let (f, first) ← holding [ov] (getMethod ov name (pl env))
      callWith pos f first (backTo pos (starEach args env)) (backToKw pos (keywordEach [] env))))
    (h : SE C X W o l σ (KMo C X W name args l Q)) : SE C X W (.Call (.Attribute o name apos) args [] pos) l σ Q := Mine.SE.meth hs he h
end
section
variable {C : Cx} {X : XPost} {W : En} {l : Loc} {σ : Sto} {Q : Fl → Loc → Sto → Prop} {QA : Loc → Sto → Prop}
theorem SS.cons {st : Stmt} {r : List Stmt} (h : S1 C X W st l σ (KNx C X W r Q)) : SS C X W (st :: r) l σ Q := Mine.SS.cons h
theorem S1.ret {e : Expr} {pos : Pos} (h : SE C X W e l σ (KRt l Q)) : S1 C X W (.Return (some e) pos) l σ Q := Mine.S1.ret h
theorem S1.ifS {t : Expr} {a b : List Stmt} {pos : Pos} (h : ST C X W t l σ (KIfS C X W a b l Q)) : S1 C X W (.If t a b pos) l σ Q := Mine.S1.ifS h
theorem S1.expr {e : Expr} {pos : Pos} (hn : notComp e = true) (h : SE C X W e l σ (KEx l Q)) : S1 C X W (.Expr e pos) l σ Q := Mine.S1.expr hn h
theorem S1.assign {t e : Expr} {pos : Pos} (hn : notComp e = true) (hw : swappedStores [t] e (envS W.sc) = pure .none) (ht : noStar t = true) (h : SE C X W e l σ (KAs C X W t l Q)) : S1 C X W (.Assign [t] e pos) l σ Q := Mine.S1.assign hn hw ht h
theorem S1.for {t iter : Expr} {body : List Stmt} {pos : Pos} (hX : XOwn C X) (hn : notSet iter = true) (h : SIt C X W t iter l σ (KFo C X W t body l Q)) : S1 C X W (.For t iter body [] pos) l σ Q := Mine.S1.for hX hn h
theorem S1.assignComp {t elt iter : Expr} {y : Str} {py : Pos} {ifs : List Expr} {scope : Scope} {pos spos : Pos} (ok : CompOk W iter scope) (hy : W.sc.names.lookup y = some .local) (hsw : swapsWith (.ListComp elt [⟨t, iter, ifs, 0⟩] scope pos) (some (.Name y py)) spos.line (envS W.sc) = pure true)
    (h : SIt C X W t iter l σ (KCx C W t ifs elt scope (KCy y l Q))) : S1 C X W (.Assign [.Name y py] (.ListComp elt [⟨t, iter, ifs, 0⟩] scope pos) spos) l σ Q := Mine.S1.assignComp ok hy hsw h
theorem S1.assignSwap {ts : List Expr} {k : Nat} {tp pos : Pos} {e : Expr} {ns : List Str} (hc : W.calm = true) (hn : notComp e = true) (hw : swappedStores [.Tuple ts k tp] e (envS W.sc) = pure (some ns)) (hk : (ns.all fun x => W.sc.names.lookup x == some .local) = true) (h : SE C X W e l σ (KSw ns l Q)) : S1 C X W (.Assign [.Tuple ts k tp] e pos) l σ Q := Mine.S1.assignSwap hc hn hw hk h
theorem SG.subStr {o sl : Expr} {pos : Pos} {d : V} (h : SE C X W o l σ (KGs C X W sl l d QA)) : SG C X W (.Subscript o sl pos) l σ d QA := Mine.SG.subStr h
theorem SG.field {o : Expr} {name : Str} {pos : Pos} {d : V} (h : SE C X W o l σ (KGf C name d l QA)) : SG C X W (.Attribute o name pos) l σ d QA := Mine.SG.field h
theorem S1.raise {c : Addr} {QX : List (Str × V) → Sto → Prop} {e : Expr} {pos : Pos} {nm q : Str} {N : Addr} {bs bm : List Value} {hdct : Bool} {sn : List Str} {sub : List Value} {ab : Bool} {col : Option Bool} {dd : Option Addr} {k0 k1 k2 k3 k5 : Option Value} {newId : String} (hC : C.K.lookup c = some (excClassObj nm q c N bs bm hdct sn sub ab col dd k0 k1 k2 k3 k5 newId)) (hm : excTail bm = true) (hc : W.calm = true) (h : SE C (XF C c QX) W e l σ (KRa c σ QX)) : S1 C (XF C c QX) W (.Raise (some e) Option.none pos) l σ Q := Mine.S1.raise hC hm hc h
theorem SFor.ind {src : Sto → Prop} {t : Expr} {body : List Stmt} {Inv : List V → Loc → Sto → Prop} (step : ∀ d r l σ, Inv (d :: r) l σ → src σ ∧ SG C X W t l σ d (KTa C X W body Inv r Q)) (done : ∀ l σ, Inv [] l σ → src σ ∧ Q .next l σ) : ∀ ds l σ, Inv ds l σ → SFor C X W src t body ds l σ Q := Mine.SFor.ind step done
theorem SCompL.run {src : Sto → Prop} {t : Expr} {ifs : List Expr} {elt : Expr} {Q : List V → Sto → Prop} {p : V → Bool} {f : V → V} (hsrc : src σ) (ds : List V) (acc : List V) (l : Loc) (hz : acc.length + ds.length ≤ 1000000)
    (h : ∀ d ∈ ds, ∀ l, SG C .none W t l σ d (KC1 C .none W ifs elt σ (p d) (f d))) (k : Q (acc ++ (ds.filter p).map f) σ) : SCompL C W src t ifs elt ds acc l σ Q := Mine.SCompL.run hsrc ds acc l hz h k
end
section
variable {C : Cx} {X Xi : XPost} {W : En} {σ : Sto} {ds : List V} {Q : V → Sto → Prop} {a : Addr} {oc : Value} {od : Option Addr} {osl : Array (Option Value)} {name qual : Str} {params : Arguments} {body : List Stmt} {scope : Scope} {dV kV doc pm cdv ct : Value} {an : Option Addr} {d' : Nat}
theorem SCc.fn (ho : C.K.lookup a = some ⟨oc, od, .func (fnOf name qual params body scope dV kV doc pm an cdv ct), osl⟩) (hcd : codeIn C.K cdv qual = true) (hW : W.d = d' + 1) (ff : FnFacts scope (argNames params))
    (hb : ∀ vs : List Value, vs.length = ds.length → bindArgs (fnOf name qual params body scope dV kV doc pm an cdv ct) ⟨vs, []⟩ = pure ((argNames params).zip vs)) (hx : XLeaves C X Xi)
    (h : σ.Closed → SS C Xi (enIn scope σ d' W.calm (some (cdv, qual ++ ".<locals>."))) body (locIn scope (argNames params) ds) (stoIn scope (argNames params) ds σ) (KRv Q)) : SCc C X W σ (.val (.ref a)) ds Q := Mine.SCc.fn ho hcd hW ff hb hx h
theorem SC.fn (ho : C.K.lookup a = some ⟨oc, od, .func (fnOf name qual params body scope dV kV doc pm an cdv ct), osl⟩) (hcd : codeIn C.K cdv qual = true) (hW : W.d = d' + 1) (ff : FnFacts scope (argNames params))
    (hb : ∀ vs : List Value, vs.length = ds.length → bindArgs (fnOf name qual params body scope dV kV doc pm an cdv ct) ⟨vs, []⟩ = pure ((argNames params).zip vs)) (hx : XLeaves C X Xi)
    (h : σ.Closed → SS C Xi (enIn scope σ d' W.calm (some (cdv, qual ++ ".<locals>."))) body (locIn scope (argNames params) ds) (stoIn scope (argNames params) ds σ) (KRv Q)) : SC C X W σ (.val (.ref a)) ds Q := Mine.SC.fn ho hcd hW ff hb hx h
end
end Mine.D
namespace Mine.D
open PySem PySem.W PySem.Calls PyProof.Rows PySem.SeqAt
/- part CT1 -/
open PySem PySem.W PySem.Calls PyProof.Rows PySem.SeqAt
section
variable {C : Cx} {X : XPost} {W : En} {l : Loc} {σ : Sto} {Q : V → Sto → Prop}
theorem SE.globT {x : Str} {pos : Pos} {v : Value} (hK : C.K = KF C.w.params) (hk : W.sc.names.lookup x = some .globalImplicit) (e : nsIn (KF C.w.params) mainGlobals x = some (some v)) (h : Q (.val v) σ) (hd : (x == ("__debug__" : Str)) = false := by decide) : SE C X W (.Name x pos) l σ Q :=
  SE.globK hk (by rw [hK]; exact e) h hd
theorem SE.bltT {x : Str} {pos : Pos} {v : Value} (hK : C.K = KF C.w.params) (hk : W.sc.names.lookup x = some .globalImplicit) (e : nsIn (KF C.w.params) mainGlobals x = some Option.none) (hv : bootBuiltins x = some v) (hn : x ≠ "__name__") (h : Q (.val v) σ) (hd : (x == ("__debug__" : Str)) = false := by decide) : SE C X W (.Name x pos) l σ Q :=
  SE.bltK hk (by rw [hK]; exact e) hv hn h hd
theorem _root_.Mine.Keep.kT {u : Value} (hK : C.K = KF C.w.params) (h : keepIn (KF C.w.params) u = true) : Keep C (.val u) := Keep.k (by rw [hK]; exact h)
end
section
variable {C : Cx} {X : XPost} {W : En} {l : Loc} {σ : Sto} {Q : V → Sto → Prop} (hK : C.K = KF C.w.params)
include hK
theorem c_is_variable {op : Str} {ks : List V} (hz : ks.length ≤ 1000) (ho : op.length ≤ 1000) (hW : 0 < W.d) (h : Q (.bool (decide (ks.length = 0) && Txt.slice op none (some 1) == "?")) σ) : SC C X W σ (.val (.ref 69)) [.tup (.str op :: ks)] Q := by
  obtain ⟨d', hd'⟩ : ∃ d', W.d = d' + 1 := ⟨W.d - 1, by lia⟩
  refine SC.fn (Xi := .none) (d' := d') (a := 69) (by rw [hK]; rfl) (by rw [hK]; rfl) hd' (.of rfl rfl rfl (by decide) (by decide)) ?_ XLeaves.none ?_
  · intro vs hv
    obtain ⟨v, rfl⟩ := List.length_eq_one_iff.mp hv
    rfl
  · intro _
    refine SS.cons (S1.ret (SE.and2 ?_))
    refine SE.cmp rfl (SE.callName rfl (SE.bltK (v := .builtin "len") rfl (by rw [hK]; rfl) rfl (by decide) ⟨Keep.builtin, SL.cons rfl (SE.local rfl rfl rfl (SL.nil (SC.lenTup (by simp; lia) (SE.int (SV.eqInt ?_)))))⟩))
    refine ⟨_, rfl, ?_⟩
    have e : ((((V.str op :: ks).length : Nat) : Int) == 1) = decide (ks.length = 0) := by
      rw [List.length_cons]
      by_cases q : ks.length = 0
      · simp [q]
      · simp [q]; lia
    rw [e]
    by_cases q : ks.length = 0
    · simp only [q, decide_true, if_true]
      simp only [q, decide_true, Bool.true_and] at h
      refine SE.cmp rfl (SE.slice (SE.sub (SE.local rfl rfl rfl (SE.int (SI.tupN (j := 0) rfl (by decide) (SOpt.no (SOpt.int (SSl.strUpto (by lia) (SE.str (SV.eqStr h))))))))))
    · simp only [q, decide_false]
      simp only [q, decide_false, Bool.false_and] at h
      exact h
end
/- part CT2 -/
open PySem PySem.W PySem.Calls PyProof.Rows PySem.SeqAt
local macro_rules
  | `(tactic| wtm_at "s") => `(tactic| first
    | with_reducible first
      | refine SS.nil ?_
      | refine SS.cons ?_
      | refine S1.ret ?_
      | refine S1.ifS ?_
      | refine S1.cont ?_
      | refine SE.none ?_
      | refine SE.bool ?_
      | refine SE.int ?_
      | refine SE.str ?_
      | refine SE.bin ?_
      | refine SE.tuple ?_
      | refine SE.list ?_
      | refine SE.slice ?_
      | refine SE.sub ?_
      | refine SE.ifExp ?_
      | refine SE.joined ?_
      | refine SE.fmtStr ?_
      | refine SL.nil ?_
      | refine SOpt.no ?_
      | refine SOpt.int ?_
      | refine ST.not ?_
      | refine ST.boolOp ?_
      | refine SA.nilAnd ?_
      | refine SA.nilOr ?_
      | refine SA.consAnd ?_
      | refine SA.consOr ?_
    | ((with_reducible refine S1.assign ?_ ?_ ?_ ?_); exact rfl; exact rfl; exact rfl)
    | ((with_reducible refine SE.name0 ?_); (first | refine SE.local rfl rfl rfl ?_ | refine SE.cell (.inl rfl) rfl rfl rfl rfl ?_ | refine SE.cell (.inr rfl) rfl rfl rfl rfl ?_ | refine SE.cell (.inl rfl) rfl (by assumption) rfl rfl ?_ | refine SE.cell (.inr rfl) rfl (by assumption) rfl rfl ?_ | refine SE.bltT (by assumption) rfl rfl rfl (by decide) ?_ | refine SE.globT (by assumption) rfl rfl ?_))
    | ((with_reducible first | refine S1.expr ?_ ?_ | refine SE.cmp ?_ ?_ | refine SE.callName ?_ ?_ | refine SL.cons ?_ ?_ | refine ST.cmp ?_ ?_ | refine SG.local ?_ ?_); exact rfl)
    | ((with_reducible refine ST.val ?_ ?_); exact rfl)
    | ((with_reducible refine And.intro ?_ ?_); (first | exact lenOk rfl | exact Keep.builtin | exact Keep.type | exact Keep.kT (by assumption) rfl)))
noncomputable def consPath (j : Nat) : V → V
  | .tup [.tup path, part] => .tup [.tup (.int (j : Int) :: path), part]
  | d => d
theorem consPath_partV (j : Nat) (p : List Nat × T) : consPath j (partV p) = partV (j :: p.1, p.2) := rfl
mutual
noncomputable def partsLe : T → Nat
  | .mk _ ks => 1 + partsLeK ks
noncomputable def partsLeK : List T → Nat
  | [] => 0
  | t :: r => partsLe t + partsLeK r
end
section
variable {C : Cx} (hK : C.K = KF C.w.params)
inductive InvPa (σ : Sto) (n : Nat) (t : T) (ds : List V) (l : Loc) (σ' : Sto) : Prop
  | mk (ks' : List T) (j : Nat) (acc : List V) (o : Option V) (hds : ds = enumVs (tvs ks') j) (hl : l "found" = some (.ref (σ.nx + 1))) (hnx : σ.nx + 2 ≤ σ'.nx) (hcell : σ'.get σ.nx = some (.cell o)) (hlist : σ'.get (σ.nx + 1) = some (.list acc))
    (hold : ∀ i o, σ.get i = some o → σ'.get i = some o) (hparts : acc ++ (partsK ks' j).map partV = (partsT t).map partV) (hok : ∀ t ∈ ks', TOk n t)
include hK
theorem c_parts : ∀ (n : Nat) (t : T), TOk n t → n ≤ 1000 → (partsT t).length ≤ 100000 → ∀ (X : XPost) (W : En) (σ : Sto) (Q : V → Sto → Prop), W.calm = true → n + 1 ≤ W.d → Q (.fl ((partsT t).map partV)) σ → SC C X W σ (.val (.ref 79)) [tv t] Q
  | 0, _, h => h.elim
  | n + 1, .mk op ks, ⟨h1, h2, h3⟩ => by
    intro hn hlen X W σ Q hc hd hq
    obtain ⟨d', hd'⟩ : ∃ d', W.d = d' + 1 := ⟨W.d - 1, by lia⟩
    refine SC.weak ?_
    refine SC.fn (Xi := .none) (d' := d') (a := 79) (by rw [hK]; rfl) (by rw [hK]; rfl) hd' (.of rfl rfl rfl (by decide) (by decide)) ?_ XLeaves.none ?_
    · intro vs hv
      obtain ⟨v, rfl⟩ := List.length_eq_one_iff.mp hv
      rfl
    · intro hcl
      repeat wtm_at "s"
      refine S1.for XOwn.none rfl (SIt.enumTup hc rfl (SE.bltK (v := .type "enumerate") rfl (by rw [hK]; rfl) rfl (by decide) ⟨rfl, ?_⟩))
      wtm_at "s"
      wtm_at "s"
      wtm_at "s"
      wtm_at "s"
      refine SSl.tupFrom (a := 1) (by decide) (by simp) (by rw [List.length_cons, tvs_length]; lia) ⟨_, rfl, ?_⟩
      have hdrop : (V.str op :: tvs ks).drop 1 = tvs ks := rfl
      rw [hdrop]
      refine SFor.ind (Inv := InvPa σ n (.mk op ks)) ?_ ?_ _ _ _ ?_
      · rintro d r l' σ' ⟨ks', j, acc, o, hds, hl, hnx, hcell, hlist, hold, hparts, hok⟩
        cases ks' with
        | nil => cases hds
        | cons kid ks' =>
          rw [tvs, enumVs_cons] at hds
          injection hds with e1 e2
          subst e1; subst e2
          refine ⟨trivial, ?_⟩
          refine SG.tuple hc rfl (by decide) ⟨rfl, SG.cell (i := σ.nx) rfl rfl hcell ⟨rfl, SG.local rfl ?_⟩⟩
          have hne : ¬ (σ.nx + 1 = σ.nx) := by lia
          have hne' : ¬ (σ.nx = σ.nx + 1) := by lia
          refine SS.cons (S1.expr rfl (SE.meth rfl (fun _ => rfl) (SE.local (d := .ref (σ.nx + 1)) rfl hl rfl (SM.list (ds := acc) (IsL.ref (by rw [Sto.get_set, if_neg hne]; exact hlist)) PySem.F.slot_list_extend PySem.F.type_list_extend ⟨Keep.builtin, SL.cons rfl ?_⟩))))
          have hkid : (partsT kid).length ≤ 100000 := by
            have e := congrArg List.length hparts
            rw [partsK, List.length_append, List.length_map, List.length_map, List.length_append, List.length_map] at e
            lia
          have hf : ((partsT kid).map partV).filter (fun _ => true) = (partsT kid).map partV := List.filter_eq_self.mpr fun _ _ => rfl
          refine SE.listComp ⟨rfl, rfl, rfl, rfl, rfl⟩ (SIt.list hc (SE.callName rfl (SE.globK (v := .ref 79) rfl (by rw [hK]; rfl) ⟨Keep.k (by rw [hK]; rfl), SL.cons rfl (SE.local rfl rfl rfl (SL.nil ?_))⟩)))
          refine c_parts n kid (hok kid (.head _)) (by lia) hkid _ _ _ _ hc (by show n + 1 ≤ d'; lia) ⟨_, IsL.fl, ?_⟩
          refine SCompL.run (p := fun _ => true) (f := consPath j) IsL.fl _ _ _ (by rw [List.length_map]; simp; lia) ?_ ?_
          · intro d hd l
            obtain ⟨p, hp, rfl⟩ := List.mem_map.mp hd
            refine SG.tuple hc rfl (by decide) ⟨rfl, SG.local rfl ⟨rfl, SG.local rfl ⟨rfl, ⟨rfl, rfl, fun _ => ?_⟩⟩⟩⟩
            refine SE.tuple (SL.cons rfl (SE.bin (SE.tuple (SL.cons rfl (SE.cell (d := .int (j : Int)) (i := σ.nx) (.inl rfl) rfl ?_ rfl rfl (SL.nil ⟨lenOk rfl, ?_⟩))))))
            · rw [Sto.get_set, if_pos rfl]
            · refine SE.local (d := pathV p.1) rfl rfl rfl ?_
              refine SV.addTup ?_ ?_
              · have := parts_len (hok kid (.head _)) p hp
                rw [List.length_map, List.length_singleton]; lia
              · exact SL.cons rfl (SE.local rfl rfl rfl (SL.nil ⟨lenOk rfl, rfl, rfl⟩))
          · refine SL.nil (SC.extend (ds := acc) (es := ((partsT kid).map partV).map (consPath j)) ?_ (IsL.ref ?_) ?_ ?_)
            · rw [Sto.get_push, if_neg (by show ¬ (σ.nx + 1 = (σ'.set σ.nx _).nx); rw [Sto.nx_set]; lia), Sto.get_set, if_neg hne]; exact hlist
            · rw [Sto.get_push, if_pos rfl, List.nil_append, hf]
            · have e := congrArg List.length hparts
              rw [partsK, List.length_append, List.length_map, List.length_map, List.length_append, List.length_map] at e
              rw [List.length_map, List.length_map]; lia
            · refine SS.nil ⟨ks', j + 1, acc ++ ((partsT kid).map partV).map (consPath j), some (.int (j : Int)), rfl, hl, ?_, ?_, ?_, ?_, ?_, fun t ht => hok t (.tail _ ht)⟩
              · rw [Sto.nx_set, Sto.nx_push, Sto.nx_set]; lia
              · rw [Sto.get_set, if_neg hne', Sto.get_push, if_neg (by rw [Sto.nx_set]; lia), Sto.get_set, if_pos rfl]
              · rw [Sto.get_set, if_pos rfl]
              · intro i oi hi
                have hlt := (hcl i oi hi).1
                rw [Sto.get_set, if_neg (by lia), Sto.get_push, if_neg (by rw [Sto.nx_set]; lia), Sto.get_set, if_neg (by lia)]
                exact hold i oi hi
              · rw [List.append_assoc, ← hparts, partsK, List.map_append]
                congr 2
                rw [List.map_map, List.map_map]
                rfl
      · rintro l' σ' ⟨ks', j, acc, o, hds, hl, hnx, hcell, hlist, hold, hparts, hok⟩
        cases ks' with
        | cons kid ks' => rw [tvs, enumVs_cons] at hds; cases hds
        | nil =>
          refine ⟨trivial, SS.cons (S1.ret (SE.local (d := .ref (σ.nx + 1)) rfl hl rfl ⟨σ, .fl acc, Weak.frozen hcl (by lia) hold (by lia) hlist ?_, ?_⟩))⟩
          · rw [partsK, List.map_nil, List.append_nil] at hparts
            rw [hparts]
            exact lowVs_of fun d hd => by
              obtain ⟨p, _, rfl⟩ := List.mem_map.mp hd
              exact low_partV _ p
          · rw [partsK, List.map_nil, List.append_nil] at hparts
            rw [hparts]; exact hq
      · refine ⟨ks, 0, [partV ([], .mk op ks)], none, rfl, rfl, Nat.le_refl _, ?_, ?_, ?_, rfl, h3⟩
        · show ((σ.push (.cell none)).push (.list [partV ([], .mk op ks)])).get σ.nx = _
          rw [Sto.get_push, if_neg (by rw [Sto.nx_push]; lia), Sto.get_push, if_pos rfl]
        · show ((σ.push (.cell none)).push (.list [partV ([], .mk op ks)])).get (σ.nx + 1) = _
          rw [Sto.get_push, if_pos (by rw [Sto.nx_push])]
        · intro i oi hi
          have hlt := (hcl i oi hi).1
          show ((σ.push (.cell none)).push (.list [partV ([], .mk op ks)])).get i = _
          rw [Sto.get_push, if_neg (by rw [Sto.nx_push]; lia), Sto.get_push, if_neg (by lia)]
          exact hi
end
/- part CT3 -/
open PySem PySem.W PySem.Calls PyProof.Rows PySem.SeqAt

noncomputable def _root_.Mine.T.op : T → Str | .mk op _ => op
noncomputable def isVarT : T → Bool | .mk op ks => decide (ks.length = 0) && Txt.slice op none (some 1) == "?"
noncomputable def varNames (t : T) : List Str := ((partsT t).filter fun p => isVarT p.2).map fun p => p.2.op
noncomputable def varsT (t : T) : List Str := srt (firstS [] (varNames t))
theorem low_strs (n : Nat) (ss : List Str) : lowVs n (ss.map V.str) := lowVs_of fun d hd => by
  obtain ⟨x, _, rfl⟩ := List.mem_map.mp hd
  simp [lowV]
theorem parts_ok : ∀ {n : Nat} {t : T}, TOk n t → ∀ p ∈ partsT t, ∃ m, TOk m p.2
  | 0, _, h => h.elim
  | n + 1, .mk op ks, h => by
    intro p hp
    rw [partsT, List.mem_cons] at hp
    rcases hp with rfl | hp
    · exact ⟨n + 1, h⟩
    · obtain ⟨t, ht, k, q, hq, rfl⟩ := partsK_mem hp
      exact parts_ok (h.2.2 t ht) q hq
section
variable {C : Cx} (hK : C.K = KF C.w.params)
include hK
noncomputable def partOp : V → V
  | .tup [_, .tup (d :: _)] => d
  | d => d
noncomputable def partIs : V → Bool
  | .tup [_, .tup (.str op :: ks)] => decide (ks.length = 0) && Txt.slice op none (some 1) == "?"
  | _ => false
theorem c_variables {n : Nat} {t : T} (ht : TOk n t) (hn : n ≤ 1000) (hlen : (partsT t).length ≤ 100000) (hfew : (firstS [] (varNames t)).length < 64) (hfew2 : (varNames t).length < 900) (X : XPost) (W : En) (σ : Sto) (Q : V → Sto → Prop) (hc : W.calm = true) (hd : n + 2 ≤ W.d) (hq : Q (.fl ((varsT t).map V.str)) σ) : SC C X W σ (.val (.ref 74)) [tv t] Q := by
  obtain ⟨d', hd'⟩ : ∃ d', W.d = d' + 1 := ⟨W.d - 1, by lia⟩
  refine SC.weak ?_
  refine SC.fn (Xi := .none) (d' := d') (a := 74) (by rw [hK]; rfl) (by rw [hK]; rfl) hd' (.of rfl rfl rfl (by decide) (by decide)) ?_ XLeaves.none ?_
  · intro vs hv
    obtain ⟨v, rfl⟩ := List.length_eq_one_iff.mp hv
    rfl
  · intro hcl
    refine SS.cons (S1.ret (SE.callName rfl (SE.bltK (v := .builtin "sorted") rfl (by rw [hK]; rfl) rfl (by decide) ⟨Keep.builtin, SL.cons rfl (SE.callName rfl (SE.bltK (v := .type "set") rfl (by rw [hK]; rfl) rfl (by decide) ⟨Keep.type, SL.cons rfl ?_⟩))⟩)))
    refine SE.listComp ⟨rfl, rfl, rfl, rfl, rfl⟩ (SIt.list hc (SE.callName rfl (SE.globK (v := .ref 79) rfl (by rw [hK]; rfl) ⟨Keep.k (by rw [hK]; rfl), SL.cons rfl (SE.local rfl rfl rfl (SL.nil ?_))⟩)))
    refine c_parts hK n t ht hn hlen _ _ _ _ hc (by show n + 1 ≤ d'; lia) ⟨_, IsL.fl, ?_⟩
    refine SCompL.run (p := partIs) (f := partOp) IsL.fl _ _ _ (by rw [List.length_map]; simp; lia) ?_ ?_
    · intro d hd l
      obtain ⟨p, hp, rfl⟩ := List.mem_map.mp hd
      obtain ⟨path, ⟨op, ks⟩⟩ := p
      refine SG.tuple hc rfl (by decide) ⟨rfl, SG.local rfl ⟨rfl, SG.local rfl ⟨rfl, ?_⟩⟩⟩
      obtain ⟨m, hm⟩ := parts_ok ht _ hp
      have hok : op.length ≤ 100 ∧ ks.length ≤ 100 := by
        cases m with
        | zero => exact hm.elim
        | succ m => exact ⟨hm.1, hm.2.1⟩
      refine ST.val rfl (SE.callName rfl (SE.globK (v := .ref 69) rfl (by rw [hK]; rfl) ⟨Keep.k (by rw [hK]; rfl), SL.cons rfl (SE.local rfl rfl rfl (SL.nil ?_))⟩))
      refine c_is_variable hK (by rw [tvs_length]; lia) (by lia) (by show 0 < d'; lia) ⟨_, rfl, ?_⟩
      have e : (decide ((tvs ks).length = 0) && Txt.slice op none (some 1) == Str.ofString "?") = partIs (partV (path, .mk op ks)) := rfl
      rw [e]
      cases hp2 : partIs (partV (path, .mk op ks)) with
      | true => exact ⟨rfl, rfl, fun _ => SE.sub (SE.local rfl rfl rfl (SE.int (SI.tupN (j := 0) rfl (by decide) ⟨rfl, rfl⟩)))⟩
      | false => exact ⟨rfl, rfl, fun h => by cases h⟩
    · have hmap : ((((partsT t).map partV).filter partIs).map partOp) = (varNames t).map V.str := by
        unfold varNames
        rw [List.filter_map, List.map_map, List.map_map]
        have e1 : (partIs ∘ partV) = fun p : List Nat × T => isVarT p.2 := by
          funext ⟨path, ⟨op, ks⟩⟩
          show (decide ((tvs ks).length = 0) && Txt.slice op none (some 1) == Str.ofString "?") = _
          rw [tvs_length]; rfl
        rw [e1]
        refine List.map_congr_left fun p _ => ?_
        obtain ⟨path, ⟨op, ks⟩⟩ := p
        rfl
      rw [List.nil_append, hmap]
      refine SL.nil (SC.setStrs (ss := varNames t) hc (IsL.ref ?_) hfew2 ?_)
      · rw [Sto.get_push, if_pos rfl]
      · refine SL.nil (SC.sortedSet hc hfew fun ss' hp hs => ?_)
        rw [srt_eq hp hs]
        exact ⟨σ, _, Weak.fro (i := (σ.push (.list ((varNames t).map V.str))).nx) (ds := (srt (firstS [] (varNames t))).map V.str) hcl (((Old.refl σ).push hcl _).push hcl _) (Nat.le_succ _) (Sto.get_push_self _ _) (low_strs _ _), hq⟩
end
/- part CT4 -/
open PySem PySem.W PySem.Calls PyProof.Rows PySem.SeqAt
/-- a feed at a place -/
noncomputable def feedD (j k : Nat) : List (Str × V) := [("cells", .ref j), ("drawn", .int (k : Int))]
structure FeedAt (σ : Sto) (i j : Nat) (cs : List Int) (k : Nat) : Prop where
  d : σ.get i = some (.dict (skv (feedD j k)))
  c : σ.get j = some (.list (cs.map V.int))
  ne : i ≠ j
noncomputable def takeV (cs : List Int) (k m : Nat) : Int := (if h : k < cs.length then cs[k] else 5 * (k : Int) * k + 9 * k + cs.length).fmod m
section
variable {C : Cx} (hK : C.K = KF C.w.params)
include hK
omit hK in
theorem mulOk {a b : Int} (h : a.natAbs < 1000000) : IntMulOk a b := by
  refine IntMulOk.of_left ?_
  unfold Builtin.Int.intBits
  split
  · decide
  · rename_i h0
    have hne : a.natAbs ≠ 0 := by simpa using h0
    have : a.natAbs.log2 < 20 := (Nat.log2_lt hne).mpr (by lia)
    lia
omit hK in
theorem feed_nodup (j k : Nat) : ((feedD j k).map (·.1)).Nodup := by
  show (["cells", "drawn"] : List Str).Nodup
  decide
theorem c_take {i j k m : Nat} {cs : List Int} (X : XPost) (W : En) (σ : Sto) (Q : V → Sto → Prop) (hf : FeedAt σ i j cs k) (hl : cs.length ≤ 40) (hk : k ≤ 10000) (hm : 0 < m) (hm2 : m ≤ 100) (hc : W.calm = true) (hd : 0 < W.d)
    (hq : Q (.int (takeV cs k m)) (σ.set i (.dict (skv (feedD j (k + 1)))))) : SC C X W σ (.val (.ref 585)) [.ref i, .int (m : Int)] Q := by
  obtain ⟨d', hd'⟩ : ∃ d', W.d = d' + 1 := ⟨W.d - 1, by lia⟩
  refine SC.fn (Xi := .none) (d' := d') (a := 585) (by rw [hK]; rfl) (by rw [hK]; rfl) hd' (.of rfl rfl rfl (by decide) (by decide)) ?_ XLeaves.none ?_
  · intro vs hv
    obtain ⟨a, b, rfl⟩ := len2 hv
    rfl
  · intro hcl
    show SS _ _ _ _ _ σ _
    refine SS.cons (S1.assignSwap (ns := ["k", "cells"]) hc rfl rfl rfl ?_)
    repeat wtm_at "s"
    refine SI.dictStr (sk := feedD j k) hf.d (feed_nodup j k) rfl ?_
    repeat wtm_at "s"
    refine SI.dictStr (sk := feedD j k) hf.d (feed_nodup j k) rfl ?_
    repeat wtm_at "s"
    refine ⟨_, rfl, rfl, ?_⟩
    repeat wtm_at "s"
    refine SV.addInt ?_
    refine SG.subStr ?_
    repeat wtm_at "s"
    refine ⟨i, _, feedD j k, rfl, rfl, hf.d, feed_nodup j k, by simp [feedD], ?_⟩
    repeat wtm_at "s"
    have hcj : (σ.set i (.dict (skv (storedV (feedD j k) "drawn" (.int ((k : Int) + 1)))))).get j = some (.list (cs.map V.int)) := by
      rw [Sto.get_set, if_neg (Ne.symm hf.ne)]; exact hf.c
    have hst : σ.set i (.dict (skv (storedV (feedD j k) "drawn" (.int ((k : Int) + 1))))) = σ.set i (.dict (skv (feedD j (k + 1)))) := rfl
    have hlen : ((cs.map V.int).length : Int) = cs.length := by rw [List.length_map]
    refine SC.lenList (IsL.ref hcj) (by rw [List.length_map]; lia) (SV.ltInt ⟨_, rfl, ?_⟩)
    rw [hlen]
    by_cases h : k < cs.length
    · (first | refine kif_pos ((by simpa using h)) ?_ | rw [if_pos (by simpa using h)])
      repeat wtm_at "s"
      refine SI.list (IsL.ref hcj) (by lia) (by lia) (d := .int cs[k]) ?_ ?_
      · rw [Int.toNat_natCast, List.getElem?_map, List.getElem?_eq_getElem h]; rfl
      · repeat wtm_at "s"
        refine SV.modInt (by lia) ?_
        have e : takeV cs k m = cs[k].fmod m := by unfold takeV; rw [dif_pos h]
        rw [e] at hq; exact hq
    · (first | refine kif_neg ((by simpa using h)) ?_ | rw [if_neg (by simpa using h)])
      repeat wtm_at "s"
      refine SV.mulInt (mulOk (by lia)) ?_
      repeat wtm_at "s"
      refine SV.mulInt (mulOk (by lia)) ?_
      repeat wtm_at "s"
      refine SV.mulInt (mulOk (by lia)) ?_
      refine SV.addInt ?_
      repeat wtm_at "s"
      refine SC.lenList (IsL.ref hcj) (by rw [List.length_map]; lia) ?_
      refine SV.addInt ?_
      repeat wtm_at "s"
      refine SV.modInt (by lia) ?_
      have e : takeV cs k m = (5 * (k : Int) * k + 9 * k + cs.length).fmod m := by unfold takeV; rw [dif_neg h]
      rw [hlen, ← e]; exact hq
end
/- part CT5 -/
open PySem PySem.W PySem.Calls PyProof.Rows PySem.SeqAt

theorem _root_.Mine.Old.reset {σ σ₁ : Sto} {i : Nat} {a b : O} (h : Old (σ.set i a) σ₁) : Old (σ.set i b) (σ₁.set i b) :=
  ⟨h.le, fun j o hj => by
    rw [Sto.get_set] at hj ⊢
    by_cases q : j = i
    · rw [if_pos q] at hj ⊢; exact hj
    · rw [if_neg q] at hj ⊢; exact h.get j o (by rw [Sto.get_set, if_neg q]; exact hj)⟩
theorem Closed.set {σ : Sto} (hc : σ.Closed) {i : Nat} {o : O} (hi : i < σ.nx) (hl : lowO σ.nx o) : (σ.set i o).Closed := fun j o' hj => by
  rw [Sto.get_set] at hj
  by_cases q : j = i
  · rw [if_pos q] at hj; cases hj; subst q; exact ⟨hi, hl⟩
  · rw [if_neg q] at hj; exact hc j o' hj
theorem _root_.Mine.Old.feed {σ σ₁ : Sto} {i j k : Nat} {cs : List Int} (hf : FeedAt σ i j cs k) (k' : Nat) (h : Old (σ.set i (.dict (skv (feedD j k')))) σ₁) : FeedAt σ₁ i j cs k' :=
  ⟨h.get i _ (by rw [Sto.get_set, if_pos rfl]), h.get j _ (by rw [Sto.get_set, if_neg (Ne.symm hf.ne)]; exact hf.c), hf.ne⟩
theorem low_feed {σ : Sto} (hc : σ.Closed) {i j k : Nat} {cs : List Int} (hf : FeedAt σ i j cs k) (k' : Nat) : (σ.set i (.dict (skv (feedD j k')))).Closed := by
  refine Closed.set hc (hc i _ hf.d).1 ?_
  intro kv hkv
  have hj := (hc j _ hf.c).1
  unfold skv feedD at hkv
  simp only [List.map_cons, List.map_nil, List.mem_cons, List.not_mem_nil, or_false] at hkv
  rcases hkv with rfl | rfl
  · exact ⟨by simp [lowV], by rw [lowV]; exact hj⟩
  · exact ⟨by simp [lowV], by simp [lowV]⟩

theorem feedDone {P : Params} {σ σ₁ : Sto} {i j k k' : Nat} {cs : List Int} {Q : V → Sto → Prop} (hc : σ.Closed) (hf : FeedAt σ i j cs k) (h : Old (σ.set i (.dict (skv (feedD j k')))) σ₁) {t : T} (q : Q (tv t) (σ.set i (.dict (skv (feedD j k'))))) :
    ∃ σ' d', Weak P σ.nx σ₁ (tv t) σ' d' ∧ Q d' σ' :=
  ⟨σ.set i (.dict (skv (feedD j k'))), tv t, ⟨Nat.le_refl _, h.le, h.get, low_feed hc hf k', Conv.keep (low_tv _ t)⟩, q⟩
section
variable {C : Cx} (hK : C.K = KF C.w.params)
include hK
theorem c_feed {cs : List Int} (X : XPost) (W : En) (σ : Sto) (Q : V → Sto → Prop) (hz : cs.length ≤ 1000) (hc : W.calm = true) (hd : 0 < W.d)
    (hq : ∀ i j σ', FeedAt σ' i j (cs.take 40) 0 → Old σ σ' → Q (.ref i) σ') : SC C X W σ (.val (.ref 578)) [.fl (cs.map V.int)] Q := by
  obtain ⟨d', hd'⟩ : ∃ d', W.d = d' + 1 := ⟨W.d - 1, by lia⟩
  refine SC.fn (Xi := .none) (d' := d') (a := 578) (by rw [hK]; rfl) (by rw [hK]; rfl) hd' (.of rfl rfl rfl (by decide) (by decide)) ?_ XLeaves.none ?_
  · intro vs hv
    obtain ⟨a, rfl⟩ := len1 hv
    rfl
  · intro hcl
    show SS _ _ _ _ _ σ _
    refine SS.cons (S1.ret (SE.dict rfl rfl (by simp) (by decide) ?_))
    refine SE.str ⟨_, rfl, SE.listComp ⟨rfl, rfl, rfl, rfl, rfl⟩ (SIt.list hc ?_)⟩
    repeat wtm_at "s"
    refine SSl.listUpto (b := 40) IsL.fl (by rw [List.length_map]; lia) ⟨_, IsL.ref (Sto.get_push_self _ _), ?_⟩
    refine SCompL.run (p := fun _ => true) (f := id) (IsL.ref (Sto.get_push_self _ _)) _ _ _ (by simp; lia) ?_ ?_
    · intro d hd l
      have hd2 := List.mem_of_mem_take hd
      obtain ⟨x, _, rfl⟩ := List.mem_map.mp hd2
      refine SG.local rfl ⟨rfl, ⟨rfl, rfl, fun _ => ?_⟩⟩
      repeat wtm_at "s"
      exact SC.intInt ⟨rfl, rfl⟩
    · have hf : ((cs.map V.int).take 40).filter (fun _ => true) = (cs.map V.int).take 40 := List.filter_eq_self.mpr fun _ _ => rfl
      rw [List.nil_append, hf, List.map_id, ← List.map_take]
      refine SE.str ⟨_, rfl, SE.int ⟨?_, ?_⟩⟩
      · show (["cells", "drawn"] : List Str).Nodup
        decide
      · refine hq _ (σ.push (.list ((cs.take 40).map V.int))).nx _ ⟨Sto.get_push_self _ _, ?_, ?_⟩ ((((Old.refl σ).push hcl _).push hcl _).push hcl _)
        · rw [Sto.get_push, if_neg (by show ¬ (σ.nx + 1 = σ.nx + 1 + 1); lia)]
          exact Sto.get_push_self _ _
        · exact Nat.ne_of_gt (Nat.lt_succ_self _)

noncomputable def patF (cs : List Int) : Nat → Nat → T × Nat
  | 0, k => let w := (takeV cs k 4).toNat; if w < 3 then (.mk (["?x", "?y", "?z"].getD w "a") [], k + 1) else (.mk "a" [], k + 1)
  | d + 1, k =>
    let w := (takeV cs k 6).toNat
    if w < 3 then (.mk (["?x", "?y", "?z"].getD w "a") [], k + 1) else if w = 3 then (.mk "a" [], k + 1)
    else if w = 4 then let a := patF cs d (k + 1); (.mk "f" [a.1], a.2)
    else let a := patF cs d (k + 1); let b := patF cs d a.2; (.mk "g" [a.1, b.1], b.2)
omit hK in
theorem take_range (cs : List Int) (k m : Nat) (hm : 0 < m) : ∃ w : Nat, takeV cs k m = (w : Int) ∧ w < m := by
  unfold takeV
  generalize (if h : k < cs.length then cs[k] else 5 * (k : Int) * k + 9 * k + cs.length) = x
  have h1 : 0 ≤ x.fmod m := Int.fmod_nonneg_of_pos x (by lia)
  have h2 : x.fmod m < m := Int.fmod_lt_of_pos x (by lia)
  exact ⟨(x.fmod m).toNat, by lia, by lia⟩
omit hK in
theorem patF_le (cs : List Int) : ∀ (d k : Nat), (patF cs d k).2 + 1 ≤ k + 2 ^ (d + 1)
  | 0, k => by unfold patF; dsimp only; split <;> simp
  | d + 1, k => by
    have h1 := patF_le cs d (k + 1)
    have h2 := patF_le cs d (patF cs d (k + 1)).2
    have e : 2 ^ (d + 1 + 1) = 2 ^ (d + 1) + 2 ^ (d + 1) := by rw [Nat.pow_succ]; lia
    have p : 2 ≤ 2 ^ (d + 1) := by
      have : 1 ≤ 2 ^ d := Nat.one_le_two_pow
      rw [Nat.pow_succ]; lia
    unfold patF
    dsimp only
    split
    · simp; lia
    · split
      · simp; lia
      · split
        · simp; lia
        · simp; lia
theorem c_pattern {i j : Nat} {cs : List Int} (hl : cs.length ≤ 40) : ∀ (deep k : Nat) (X : XPost) (W : En) (σ : Sto) (Q : V → Sto → Prop), k + 2 ^ (deep + 1) ≤ 9000 → FeedAt σ i j cs k → W.calm = true → deep + 2 ≤ W.d →
    Q (tv (patF cs deep k).1) (σ.set i (.dict (skv (feedD j (patF cs deep k).2)))) → SC C X W σ (.val (.ref 590)) [.ref i, .int (deep : Int)] Q := by
  intro deep
  induction deep with
  | zero =>
    intro k X W σ Q hk hf hc hd hq
    have hkk : k ≤ 9000 := Nat.le_trans (Nat.le_add_right _ _) hk
    obtain ⟨d', hd'⟩ : ∃ d', W.d = d' + 1 := ⟨W.d - 1, by lia⟩
    refine SC.weak ?_
    refine SC.fn (Xi := .none) (d' := d') (a := 590) (by rw [hK]; rfl) (by rw [hK]; rfl) hd' (.of rfl rfl rfl (by decide) (by decide)) ?_ XLeaves.none ?_
    · intro vs hv
      obtain ⟨a, b, rfl⟩ := len2 hv
      rfl
    · intro hcl
      obtain ⟨σ₀, e0⟩ : ∃ σ₀, σ₀ = (σ.push (.cell (some (.ref i)))).push (.cell (some (.int ((0 : Nat) : Int)))) := ⟨_, rfl⟩
      show SS _ _ _ _ _ ((σ.push (.cell (some (.ref i)))).push (.cell (some (.int ((0 : Nat) : Int))))) _
      rw [← e0]
      have hold : Old σ σ₀ := by rw [e0]; exact ((Old.refl σ).push hcl _).push hcl _
      have hc1 : σ₀.get σ.nx = some (.cell (some (.ref i))) := by
        rw [e0, Sto.get_push, if_neg (by show ¬ (σ.nx = σ.nx + 1); lia), Sto.get_push, if_pos rfl]
      have hc2 : σ₀.get (σ.nx + 1) = some (.cell (some (.int ((0 : Nat) : Int)))) := by
        rw [e0]; exact Sto.get_push_self _ _
      have hf0 : FeedAt σ₀ i j cs k := ⟨hold.get _ _ hf.d, hold.get _ _ hf.c, hf.ne⟩
      wtm_at "s"
      wtm_at "s"
      wtm_at "s"
      refine ST.cmp rfl (SE.cell (d := .int ((0 : Nat) : Int)) (.inl rfl) rfl hc2 rfl rfl (SE.int (SV.gtInt ⟨_, rfl, ?_⟩)))
      (first | refine kif_neg ((by decide)) ?_ | rw [if_neg (by decide)])
      repeat wtm_at "s"
      obtain ⟨w, hw, hw4⟩ := take_range cs k 4 (by decide)
      refine c_take hK (m := 4) _ _ _ _ hf0 hl (by lia) (by decide) (by decide) hc (by show 0 < d'; lia) ?_
      rw [hw]
      refine SG.local rfl ?_
      have hres : Old (σ.set i (.dict (skv (feedD j (k + 1))))) (σ₀.set i (.dict (skv (feedD j (k + 1))))) := ⟨hold.le, fun n o hn => by
        rw [Sto.get_set] at hn ⊢
        by_cases q : n = i
        · rw [if_pos q] at hn ⊢; exact hn
        · rw [if_neg q] at hn ⊢; exact hold.get n o hn⟩
      have hpat : patF cs 0 k = if w < 3 then (.mk (["?x", "?y", "?z"].getD w "a") [], k + 1) else (.mk "a" [], k + 1) := by
        unfold patF
        rw [hw]; rfl
      rw [hpat] at hq
      wtm_at "s"
      wtm_at "s"
      wtm_at "s"
      wtm_at "s"
      wtm_at "s"
      refine SV.ltInt ⟨_, rfl, ?_⟩
      by_cases hw3 : w < 3
      · (first | refine kif_pos ((decide_eq_true (by lia))) ?_ | rw [if_pos (decide_eq_true (by lia))])
        rw [if_pos hw3] at hq
        repeat wtm_at "s"
        refine SI.list (d := .str (["?x", "?y", "?z"].getD w "a")) (IsL.ref (Sto.get_push_self _ _)) (by lia) (by lia) ?_ ?_
        · have : w = 0 ∨ w = 1 ∨ w = 2 := by lia
          rcases this with rfl | rfl | rfl <;> rfl
        · repeat wtm_at "s"
          exact feedDone hcl hf (hres.push (low_feed hcl hf _) _) hq
      · (first | refine kif_neg ((by simp only [decide_eq_true_eq]; lia)) ?_ | rw [if_neg (by simp only [decide_eq_true_eq]; lia)])
        rw [if_neg hw3] at hq
        have hw33 : w = 3 := by lia
        subst hw33
        wtm_at "s"
        wtm_at "s"
        wtm_at "s"
        wtm_at "s"
        wtm_at "s"
        wtm_at "s"
        refine SV.eqInt ⟨_, rfl, ?_⟩
        (first | refine kif_pos ((by rfl)) ?_ | rw [if_pos (by rfl)])
        repeat wtm_at "s"
        exact feedDone hcl hf hres hq
  | succ deep ih =>
    intro k X W σ Q hk hf hc hd hq
    have hkk : k ≤ 9000 := Nat.le_trans (Nat.le_add_right _ _) hk
    obtain ⟨d', hd'⟩ : ∃ d', W.d = d' + 1 := ⟨W.d - 1, by lia⟩
    refine SC.weak ?_
    refine SC.fn (Xi := .none) (d' := d') (a := 590) (by rw [hK]; rfl) (by rw [hK]; rfl) hd' (.of rfl rfl rfl (by decide) (by decide)) ?_ XLeaves.none ?_
    · intro vs hv
      obtain ⟨a, b, rfl⟩ := len2 hv
      rfl
    · intro hcl
      obtain ⟨σ₀, e0⟩ : ∃ σ₀, σ₀ = (σ.push (.cell (some (.ref i)))).push (.cell (some (.int ((deep + 1 : Nat) : Int)))) := ⟨_, rfl⟩
      show SS _ _ _ _ _ ((σ.push (.cell (some (.ref i)))).push (.cell (some (.int ((deep + 1 : Nat) : Int))))) _
      rw [← e0]
      have hold : Old σ σ₀ := by rw [e0]; exact ((Old.refl σ).push hcl _).push hcl _
      have hc1 : σ₀.get σ.nx = some (.cell (some (.ref i))) := by
        rw [e0, Sto.get_push, if_neg (by show ¬ (σ.nx = σ.nx + 1); lia), Sto.get_push, if_pos rfl]
      have hc2 : σ₀.get (σ.nx + 1) = some (.cell (some (.int ((deep + 1 : Nat) : Int)))) := by
        rw [e0]; exact Sto.get_push_self _ _
      have hf0 : FeedAt σ₀ i j cs k := ⟨hold.get _ _ hf.d, hold.get _ _ hf.c, hf.ne⟩
      wtm_at "s"
      wtm_at "s"
      wtm_at "s"
      refine ST.cmp rfl (SE.cell (d := .int ((deep + 1 : Nat) : Int)) (.inl rfl) rfl hc2 rfl rfl (SE.int (SV.gtInt ⟨_, rfl, ?_⟩)))
      (first | refine kif_pos ((decide_eq_true (by lia))) ?_ | rw [if_pos (decide_eq_true (by lia))])
      repeat wtm_at "s"
      obtain ⟨w, hw, hw6⟩ := take_range cs k 6 (by decide)
      refine c_take hK (m := 6) _ _ _ _ hf0 hl (by lia) (by decide) (by decide) hc (by show 0 < d'; lia) ?_
      rw [hw]
      refine SG.local rfl ?_
      have hres : Old (σ.set i (.dict (skv (feedD j (k + 1))))) (σ₀.set i (.dict (skv (feedD j (k + 1))))) := ⟨hold.le, fun n o hn => by
        rw [Sto.get_set] at hn ⊢
        by_cases q : n = i
        · rw [if_pos q] at hn ⊢; exact hn
        · rw [if_neg q] at hn ⊢; exact hold.get n o hn⟩
      have hpat : patF cs (deep + 1) k = if w < 3 then (.mk (["?x", "?y", "?z"].getD w "a") [], k + 1) else if w = 3 then (.mk "a" [], k + 1)
          else if w = 4 then (.mk "f" [(patF cs deep (k + 1)).1], (patF cs deep (k + 1)).2)
          else (.mk "g" [(patF cs deep (k + 1)).1, (patF cs deep (patF cs deep (k + 1)).2).1], (patF cs deep (patF cs deep (k + 1)).2).2) := by
        rw [patF]
        dsimp only
        rw [hw, Int.toNat_natCast]
      rw [hpat] at hq
      wtm_at "s"
      wtm_at "s"
      wtm_at "s"
      wtm_at "s"
      wtm_at "s"
      refine SV.ltInt ⟨_, rfl, ?_⟩
      by_cases hw3 : w < 3
      · (first | refine kif_pos ((decide_eq_true (by lia))) ?_ | rw [if_pos (decide_eq_true (by lia))])
        rw [if_pos hw3] at hq
        repeat wtm_at "s"
        refine SI.list (d := .str (["?x", "?y", "?z"].getD w "a")) (IsL.ref (Sto.get_push_self _ _)) (by lia) (by lia) ?_ ?_
        · have : w = 0 ∨ w = 1 ∨ w = 2 := by lia
          rcases this with rfl | rfl | rfl <;> rfl
        · repeat wtm_at "s"
          exact feedDone hcl hf (hres.push (low_feed hcl hf _) _) hq
      · (first | refine kif_neg ((by simp only [decide_eq_true_eq]; lia)) ?_ | rw [if_neg (by simp only [decide_eq_true_eq]; lia)])
        rw [if_neg hw3] at hq
        wtm_at "s"
        wtm_at "s"
        wtm_at "s"
        wtm_at "s"
        wtm_at "s"
        wtm_at "s"
        refine SV.eqInt ⟨_, rfl, ?_⟩
        by_cases hw33 : w = 3
        · subst hw33
          rw [if_pos rfl] at hq
          (first | refine kif_pos ((by rfl)) ?_ | rw [if_pos (by rfl)])
          repeat wtm_at "s"
          exact feedDone hcl hf hres hq
        · rw [if_neg hw33] at hq
          (first | refine kif_neg ((by simp only [beq_iff_eq]; lia)) ?_ | rw [if_neg (by simp only [beq_iff_eq]; lia)])
          have hd1 : (((deep + 1 : Nat) : Int) - 1) = (deep : Int) := by lia
          have hii : i < σ.nx := (hcl i _ hf.d).1
          have hcf : ∀ o, (σ₀.set i o).get σ.nx = some (.cell (some (.ref i))) := fun o => by rw [Sto.get_set, if_neg (by lia)]; exact hc1
          have hcd : ∀ o, (σ₀.set i o).get (σ.nx + 1) = some (.cell (some (.int ((deep + 1 : Nat) : Int)))) := fun o => by rw [Sto.get_set, if_neg (by lia)]; exact hc2
          have hff : ∀ k', FeedAt (σ₀.set i (.dict (skv (feedD j k')))) i j cs k' := fun k' => ⟨by rw [Sto.get_set, if_pos rfl], by rw [Sto.get_set, if_neg (Ne.symm hf.ne)]; exact hf0.c, hf.ne⟩
          have hres' : ∀ k', Old (σ.set i (.dict (skv (feedD j k')))) (σ₀.set i (.dict (skv (feedD j k')))) := fun k' => ⟨hold.le, fun n o hn => by
            rw [Sto.get_set] at hn ⊢
            by_cases q : n = i
            · rw [if_pos q] at hn ⊢; exact hn
            · rw [if_neg q] at hn ⊢; exact hold.get n o hn⟩
          have hpl1 := patF_le cs deep (k + 1)
          have hpl2 := patF_le cs deep (patF cs deep (k + 1)).2
          have hpow : 2 ^ (deep + 1 + 1) = 2 ^ (deep + 1) + 2 ^ (deep + 1) := by rw [Nat.pow_succ]; lia
          have hpos : 1 ≤ 2 ^ (deep + 1) := Nat.one_le_two_pow
          have h45 : w = 4 ∨ w = 5 := by lia
          rcases h45 with rfl | rfl
          · rw [if_pos rfl] at hq
            repeat wtm_at "s"
            refine SV.subInt ?_
            refine SI.list (k := ((4 : Nat) : Int) - 4) (d := .str "f") (IsL.ref (Sto.get_push_self _ _)) (by decide) (by decide) rfl ?_
            repeat wtm_at "s"
            obtain ⟨σ₂, e2⟩ : ∃ σ₂, σ₂ = (σ₀.set i (.dict (skv (feedD j (k + 1))))).push (.list [.str "f", .str "g"]) := ⟨_, rfl⟩
            have hold2 : Old (σ.set i (.dict (skv (feedD j (k + 1))))) σ₂ := by rw [e2]; exact hres.push (low_feed hcl hf _) _
            have hnx0 : σ₀.nx = σ.nx + 2 := by rw [e0]; rfl
            have g1 : σ₂.get σ.nx = some (.cell (some (.ref i))) := by rw [e2, Sto.get_push, if_neg (by show ¬ (σ.nx = σ₀.nx); lia)]; exact hcf _
            have g2 : σ₂.get (σ.nx + 1) = some (.cell (some (.int ((deep + 1 : Nat) : Int)))) := by rw [e2, Sto.get_push, if_neg (by show ¬ (σ.nx + 1 = σ₀.nx); lia)]; exact hcd _
            show SE _ _ _ _ _ ((σ₀.set i (.dict (skv (feedD j (k + 1))))).push (.list [.str "f", .str "g"])) _
            rw [← e2]
            refine SE.listComp ⟨rfl, rfl, rfl, rfl, rfl⟩ (SIt.range hc ?_)
            repeat wtm_at "s"
            refine SV.subInt ?_
            repeat wtm_at "s"
            refine SC.range ⟨1, rfl, by decide, ?_⟩
            show SCompL _ _ _ _ _ _ [V.int ((0 : Nat) : Int)] [] _ _ _
            refine ⟨trivial, SG.local rfl ?_⟩
            show SE _ _ _ _ _ _ _
            repeat wtm_at "s"
            refine SV.subInt ?_
            rw [hd1]
            repeat wtm_at "s"
            refine ih (k + 1) _ _ _ _ (by lia) (Old.feed hf (k + 1) hold2) hc (by show deep + 2 ≤ d'; lia) ⟨by decide, trivial, ?_⟩
            show SL _ _ _ _ _ _ _
            refine SL.nil (SC.tupList (ds := [tv (patF cs deep (k + 1)).1]) (IsL.ref (Sto.get_push_self _ _)) (lenOk rfl) ?_)
            refine SV.addTup (by simp) ?_
            exact feedDone (t := .mk "f" [(patF cs deep (k + 1)).1]) hcl hf ((Old.reset hold2).push (low_feed hcl hf _) _) hq
          · rw [if_neg (by decide)] at hq
            repeat wtm_at "s"
            refine SV.subInt ?_
            refine SI.list (k := ((5 : Nat) : Int) - 4) (d := .str "g") (IsL.ref (Sto.get_push_self _ _)) (by decide) (by decide) rfl ?_
            repeat wtm_at "s"
            obtain ⟨σ₂, e2⟩ : ∃ σ₂, σ₂ = (σ₀.set i (.dict (skv (feedD j (k + 1))))).push (.list [.str "f", .str "g"]) := ⟨_, rfl⟩
            have hold2 : Old (σ.set i (.dict (skv (feedD j (k + 1))))) σ₂ := by rw [e2]; exact hres.push (low_feed hcl hf _) _
            have hnx0 : σ₀.nx = σ.nx + 2 := by rw [e0]; rfl
            have g1 : σ₂.get σ.nx = some (.cell (some (.ref i))) := by rw [e2, Sto.get_push, if_neg (by show ¬ (σ.nx = σ₀.nx); lia)]; exact hcf _
            have g2 : σ₂.get (σ.nx + 1) = some (.cell (some (.int ((deep + 1 : Nat) : Int)))) := by rw [e2, Sto.get_push, if_neg (by show ¬ (σ.nx + 1 = σ₀.nx); lia)]; exact hcd _
            show SE _ _ _ _ _ ((σ₀.set i (.dict (skv (feedD j (k + 1))))).push (.list [.str "f", .str "g"])) _
            rw [← e2]
            refine SE.listComp ⟨rfl, rfl, rfl, rfl, rfl⟩ (SIt.range hc ?_)
            repeat wtm_at "s"
            refine SV.subInt ?_
            repeat wtm_at "s"
            refine SC.range ⟨2, rfl, by decide, ?_⟩
            show SCompL _ _ _ _ _ _ [V.int ((0 : Nat) : Int), V.int ((1 : Nat) : Int)] [] _ _ _
            refine ⟨trivial, SG.local rfl ?_⟩
            show SE _ _ _ _ _ _ _
            repeat wtm_at "s"
            refine SV.subInt ?_
            rw [hd1]
            repeat wtm_at "s"
            refine ih (k + 1) _ _ _ _ (by lia) (Old.feed hf (k + 1) hold2) hc (by show deep + 2 ≤ d'; lia) ⟨by decide, trivial, ?_⟩
            obtain ⟨σ₃, e3⟩ : ∃ σ₃, σ₃ = σ₂.set i (.dict (skv (feedD j (patF cs deep (k + 1)).2))) := ⟨_, rfl⟩
            have hold3 : Old (σ.set i (.dict (skv (feedD j (patF cs deep (k + 1)).2)))) σ₃ := by rw [e3]; exact Old.reset hold2
            have g3 : σ₃.get σ.nx = some (.cell (some (.ref i))) := by rw [e3, Sto.get_set, if_neg (by lia)]; exact g1
            have g4 : σ₃.get (σ.nx + 1) = some (.cell (some (.int ((deep + 1 : Nat) : Int)))) := by rw [e3, Sto.get_set, if_neg (by lia)]; exact g2
            show SG _ _ _ _ _ (σ₂.set i (.dict (skv (feedD j (patF cs deep (k + 1)).2)))) _ _
            rw [← e3]
            refine SG.local rfl ?_
            show SE _ _ _ _ _ _ _
            repeat wtm_at "s"
            refine SV.subInt ?_
            rw [hd1]
            repeat wtm_at "s"
            refine ih (patF cs deep (k + 1)).2 _ _ _ _ (by lia) (Old.feed hf _ hold3) hc (by show deep + 2 ≤ d'; lia) ⟨by simp, trivial, ?_⟩
            show SL _ _ _ _ _ _ _
            refine SL.nil (SC.tupList (ds := [tv (patF cs deep (k + 1)).1, tv (patF cs deep (patF cs deep (k + 1)).2).1]) (IsL.ref (Sto.get_push_self _ _)) (lenOk rfl) ?_)
            refine SV.addTup (by simp) ?_
            exact feedDone (t := .mk "g" [(patF cs deep (k + 1)).1, (patF cs deep (patF cs deep (k + 1)).2).1]) hcl hf ((Old.reset hold3).push (low_feed hcl hf _) _) hq
end
/- part CT6 -/
open PySem PySem.W PySem.Calls PyProof.Rows PySem.SeqAt

section
variable {C : Cx} {X : XPost} {W : En} {σ : Sto} {Q : V → Sto → Prop}
theorem SI.str {x : Str} {j c : Nat} (hc : x.cps[j]? = some c) (hj : j ≤ 1000000) (h : Q (.str ⟨#[c]⟩) σ) : SI C X W σ (.str x) (.int (j : Int)) Q := by
  rintro g A L s ov iv R hA ⟨t, rfl⟩ ⟨u, rfl⟩
  have hlt : j < x.length := (Array.getElem?_eq_some_iff.mp hc).1
  have hs : seqIndex? (j : Int) x.length = some j := by
    unfold seqIndex?
    have h0 : ¬ ((j : Int) < 0) := by lia
    simp only [h0, if_false]
    (first | refine kif_pos ((by simp; lia)) ?_ | rw [if_pos (by simp; lia)])
    simp
  refine ⟨"str", _, PySem.F.slot_str_getitem.lookup, typeIs_str _ _ _, PyProof.Rows.getItem_str (c := c) ?_ (by rw [hs]; exact hc) ?_⟩
  · simp; lia
  · exact Up.here (d := .str _) (R.toks _) ⟨_, rfl⟩ h
end


noncomputable def alpha : List Str := ["?x", "?y", "?z", "a", "f", "g"]
/-- terms over the law's own letters -/
noncomputable def TAl : Nat → T → Prop
  | 0, _ => False
  | n + 1, .mk op ks => op ∈ alpha ∧ ks.length ≤ 2 ∧ ∀ t ∈ ks, TAl n t
noncomputable def isQ (op : Str) : Bool := (⟨#[op.cps.getD 0 0]⟩ : Str) == "?"
noncomputable def seenF : Nat → T → List Str
  | 0, _ => []
  | n + 1, .mk op ks => if ks.length = 0 then (if isQ op then [op] else []) else srt (ks.foldl (fun acc t => acc ++ (seenF n t).filter fun x => !acc.contains x) [])
theorem strOk_alpha : ∀ x ∈ alpha, PyData.strOk x = true := by
  intro x hx
  unfold alpha at hx
  simp only [List.mem_cons, List.not_mem_nil, or_false] at hx
  rcases hx with rfl | rfl | rfl | rfl | rfl | rfl <;> decide +kernel
theorem data_strs : ∀ {ss : List Str}, (∀ x ∈ ss, PyData.strOk x = true) → areData (ss.map V.str) = true ∧ PyData.canLayAll0 (pds (ss.map V.str)) = true
  | [], _ => ⟨rfl, rfl⟩
  | x :: r, h => by
    obtain ⟨a, b⟩ := data_strs (ss := r) fun y hy => h y (.tail _ hy)
    have hx := h x (.head _)
    refine ⟨?_, ?_⟩
    · show (PyData.strOk x && areData (r.map V.str)) = true
      rw [hx, a]; rfl
    · show (PyData.canLay0 (.str x) && PyData.canLayAll0 (pds (r.map V.str))) = true
      rw [b, Bool.and_true]
      show PyData.strOk x = true
      exact hx
theorem any_strs (x : Str) : ∀ (ss : List Str), ((pds (ss.map V.str)).any fun y => PyData.eqv y (.str x)) = ss.contains x
  | [] => rfl
  | a :: r => by
    show (PyData.eqv (.str a) (.str x) || (pds (r.map V.str)).any fun y => PyData.eqv y (.str x)) = _
    rw [any_strs x r, List.contains_cons]
    show ((a == x) || _) = _
    congr 1
    exact BEq.comm
theorem shaped_str {x : Str} (h : PyData.strOk x = true) : shaped (.str x) = true := by
  unfold shaped
  rw [show PyData.canLay0 (.str x) = PyData.strOk x from rfl, h]
  rfl
theorem srt_perm (ss : List Str) : (srt ss).Perm ss := by
  unfold srt
  split
  · rename_i h; exact h.choose_spec.1
  · exact .refl _
theorem seen_step {acc ss : List Str} (h1 : acc.Nodup ∧ ∀ x ∈ acc, x ∈ alpha) (h2 : ss.Nodup ∧ ∀ x ∈ ss, x ∈ alpha) : (acc ++ ss.filter fun x => !acc.contains x).Nodup ∧ ∀ x ∈ acc ++ ss.filter fun x => !acc.contains x, x ∈ alpha := by
  refine ⟨List.nodup_append.mpr ⟨h1.1, h2.1.filter _, fun a ha b hb e => ?_⟩, fun x hx => ?_⟩
  · subst e
    have := (List.mem_filter.mp hb).2
    simp at this
    exact this ha
  · rcases List.mem_append.mp hx with hx | hx
    · exact h1.2 x hx
    · exact h2.2 x (List.mem_filter.mp hx).1
theorem seenF_ok : ∀ (n : Nat) (t : T), TAl n t → (seenF n t).Nodup ∧ ∀ x ∈ seenF n t, x ∈ alpha
  | 0, _, h => h.elim
  | n + 1, .mk op ks, ⟨h1, _, h3⟩ => by
    rw [seenF]
    split
    · split
      · exact ⟨by simp, fun x hx => by rw [List.mem_singleton.mp hx]; exact h1⟩
      · exact ⟨by simp, fun x hx => by cases hx⟩
    · have : ∀ (ks : List T) (acc : List Str), (∀ t ∈ ks, TAl n t) → (acc.Nodup ∧ ∀ x ∈ acc, x ∈ alpha) → ((ks.foldl (fun acc t => acc ++ (seenF n t).filter fun x => !acc.contains x) acc).Nodup ∧ ∀ x ∈ ks.foldl (fun acc t => acc ++ (seenF n t).filter fun x => !acc.contains x) acc, x ∈ alpha) := by
        intro ks
        induction ks with
        | nil => intro acc _ h; exact h
        | cons t r ih => intro acc ht h; exact ih _ (fun t' h' => ht t' (.tail _ h')) (seen_step h (seenF_ok n t (ht t (.head _))))
      obtain ⟨a, b⟩ := this ks [] h3 ⟨by simp, fun x hx => by cases hx⟩
      have p := srt_perm (ks.foldl (fun acc t => acc ++ (seenF n t).filter fun x => !acc.contains x) [])
      exact ⟨p.nodup_iff.mpr a, fun x hx => b x (p.mem_iff.mp hx)⟩
theorem nodup_len : ∀ (L ss : List Str), ss.Nodup → (∀ x ∈ ss, x ∈ L) → ss.length ≤ L.length
  | [], ss, _, h => by
    cases ss with
    | nil => simp
    | cons a r => cases h a (.head _)
  | a :: L, ss, hn, h => by
    have ih := nodup_len L (ss.erase a) (hn.erase a) fun x hx => by
      have hx2 := (List.Nodup.mem_erase_iff hn).mp hx
      rcases List.mem_cons.mp (h x hx2.2) with e | e
      · exact absurd e hx2.1
      · exact e
    have := List.length_erase (a := a) (l := ss)
    rw [List.length_cons]
    split at this <;> lia
theorem alpha_len {ss : List Str} (h : ss.Nodup ∧ ∀ x ∈ ss, x ∈ alpha) : ss.length ≤ 6 := by
  exact nodup_len alpha ss h.1 h.2
section
variable {C : Cx} (hK : C.K = KF C.w.params)
include hK
inductive InvSe (σ : Sto) (n : Nat) (ks : List T) (ds : List V) (l : Loc) (σ' : Sto) : Prop
  | mk (ks' : List T) (acc : List Str) (j : Nat) (hds : ds = tvs ks') (hcell : σ'.get σ.nx = some (.cell (some (.ref j)))) (hlist : σ'.get j = some (.list (acc.map V.str))) (hj : σ.nx < j ∧ j < σ'.nx) (hold : Old σ σ') (hnx : σ.nx + 1 ≤ σ'.nx)
    (hfold : ks'.foldl (fun acc t => acc ++ (seenF n t).filter fun x => !acc.contains x) acc = ks.foldl (fun acc t => acc ++ (seenF n t).filter fun x => !acc.contains x) []) (hal : ∀ t ∈ ks', TAl n t) (hacc : acc.Nodup ∧ ∀ x ∈ acc, x ∈ alpha)
theorem c_seen : ∀ (n : Nat) (t : T), TAl n t → n ≤ 100 → ∀ (X : XPost) (W : En) (σ : Sto) (Q : V → Sto → Prop), W.calm = true → n + 1 ≤ W.d → Q (.fl ((seenF n t).map V.str)) σ → SC C X W σ (.val (.ref 595)) [tv t] Q
  | 0, _, h => h.elim
  | n + 1, .mk op ks, ⟨h1, h2, h3⟩ => by
    intro hn X W σ Q hc hd hq
    obtain ⟨d', hd'⟩ : ∃ d', W.d = d' + 1 := ⟨W.d - 1, by lia⟩
    refine SC.weak ?_
    refine SC.fn (Xi := .none) (d' := d') (a := 595) (by rw [hK]; rfl) (by rw [hK]; rfl) hd' (.of rfl rfl rfl (by decide) (by decide)) ?_ XLeaves.none ?_
    · intro vs hv
      obtain ⟨a, rfl⟩ := len1 hv
      rfl
    · intro hcl
      obtain ⟨σ₀, e0⟩ : ∃ σ₀, σ₀ = σ.push (.cell none) := ⟨_, rfl⟩
      show SS _ _ _ _ _ (σ.push (.cell none)) _
      rw [← e0]
      have hold : Old σ σ₀ := by rw [e0]; exact (Old.refl σ).push hcl _
      have hnx0 : σ₀.nx = σ.nx + 1 := by rw [e0]; rfl
      have hc1 : σ₀.get σ.nx = some (.cell none) := by rw [e0]; exact Sto.get_push_self _ _
      obtain ⟨c, hcp⟩ : ∃ c, op.cps[0]? = some c := by
        unfold alpha at h1
        simp only [List.mem_cons, List.not_mem_nil, or_false] at h1
        rcases h1 with rfl | rfl | rfl | rfl | rfl | rfl <;> exact ⟨_, rfl⟩
      have hisq : isQ op = ((⟨#[c]⟩ : Str) == "?") := by
        unfold isQ
        have : op.cps.getD 0 0 = c := by simp [Array.getD_eq_getD_getElem?, hcp]
        rw [this]
      repeat wtm_at "s"
      refine SC.lenTup (by rw [List.length_cons, tvs_length]; lia) (?_)
      repeat wtm_at "s"
      refine SV.eqInt ⟨_, rfl, ?_⟩
      have elen : (((V.str op :: tvs ks).length : Nat) : Int) = ks.length + 1 := by rw [List.length_cons, tvs_length]; rfl
      rw [elen]
      by_cases h0 : ks.length = 0
      · (first | refine kif_pos ((by simp [h0])) ?_ | rw [if_pos (by simp [h0])])
        have hseen : seenF (n + 1) (.mk op ks) = if isQ op then [op] else [] := by rw [seenF, if_pos h0]
        rw [hseen, hisq] at hq
        wtm_at "s"
        wtm_at "s"
        wtm_at "s"
        wtm_at "s"
        repeat wtm_at "s"
        refine SI.tupN (j := 0) rfl (by decide) ?_
        repeat wtm_at "s"
        refine SI.str (j := 0) hcp (by decide) ?_
        repeat wtm_at "s"
        refine SV.eqStr ⟨_, rfl, ?_⟩
        by_cases hqm : ((⟨#[c]⟩ : Str) == "?") = true
        · (first | refine kif_pos (hqm) ?_ | rw [if_pos hqm])
          rw [hqm, if_pos rfl] at hq
          repeat wtm_at "s"
          refine SI.tupN (j := 0) rfl (by decide) ?_
          repeat wtm_at "s"
          exact ⟨σ, _, Weak.fro (ds := [.str op]) hcl (hold.push hcl _) hold.le (Sto.get_push_self _ _) (low_strs _ [op]), hq⟩
        · (first | refine kif_neg (hqm) ?_ | rw [if_neg hqm])
          rw [if_neg hqm] at hq
          repeat wtm_at "s"
          exact ⟨σ, _, Weak.fro (ds := []) hcl (hold.push hcl _) hold.le (Sto.get_push_self _ _) (low_strs _ []), hq⟩
      · (first | refine kif_neg ((by simp; lia)) ?_ | rw [if_neg (by simp; lia)])
        have hseen : seenF (n + 1) (.mk op ks) = srt (ks.foldl (fun acc t => acc ++ (seenF n t).filter fun x => !acc.contains x) []) := by rw [seenF, if_neg h0]
        rw [hseen] at hq
        repeat wtm_at "s"
        have hf0 : ∀ o, (σ₀.push o).get σ.nx = some (.cell none) := fun o => by rw [Sto.get_push, if_neg (by lia)]; exact hc1
        refine SG.cell (i := σ.nx) rfl rfl (hf0 _) ?_
        repeat wtm_at "s"
        refine S1.for XOwn.none rfl (SIt.tup hc ?_)
        repeat wtm_at "s"
        refine SSl.tupFrom (a := 1) (by decide) (by simp) (by rw [List.length_cons, tvs_length]; lia) ⟨_, rfl, ?_⟩
        have hdrop : (V.str op :: tvs ks).drop 1 = tvs ks := rfl
        rw [hdrop]
        refine SFor.ind (Inv := InvSe σ n ks) ?_ ?_ _ _ _ ?_
        · rintro d r l' σ' ⟨ks', acc, j, hds, hcell, hlist, hj, hold', hnx, hfold, hal, hacc⟩
          cases ks' with
          | nil => cases hds
          | cons kid ks' =>
            rw [tvs] at hds
            injection hds with e1 e2
            subst e1; subst e2
            refine ⟨trivial, SG.local rfl ?_⟩
            wtm_at "s"
            wtm_at "s"
            wtm_at "s"
            wtm_at "s"
            refine SE.listComp ⟨rfl, rfl, rfl, rfl, rfl⟩ (SIt.list hc ?_)
            repeat wtm_at "s"
            have hkid := seenF_ok n kid (hal kid (.head _))
            have hkl := alpha_len hkid
            have hal6 := alpha_len hacc
            refine c_seen n kid (hal kid (.head _)) (by lia) _ _ _ _ hc (by show n + 1 ≤ d'; lia) ⟨_, IsL.fl, ?_⟩
            refine SCompL.run (p := fun d => match d with | .str x => !acc.contains x | _ => false) (f := id) IsL.fl _ _ _ (by simp; lia) ?_ ?_
            · intro d hd l
              obtain ⟨x, hx, rfl⟩ := List.mem_map.mp hd
              refine SG.local rfl ⟨rfl, ?_⟩
              show ST _ _ _ _ _ _ _
              repeat wtm_at "s"
              refine SV.notInList (p := .str x) (es := acc.map V.str) ?_ (IsL.ref hlist) ?_ ?_ ?_ ?_
              · exact .inl ⟨strOk_alpha x (hkid.2 x hx), rfl⟩
              · exact (data_strs fun y hy => strOk_alpha y (hacc.2 y hy)).1
              · exact (data_strs fun y hy => strOk_alpha y (hacc.2 y hy)).2
              · exact shaped_str (strOk_alpha x (hkid.2 x hx))
              · refine ⟨_, rfl, ?_⟩
                rw [any_strs]
                cases hb : (!acc.contains x) with
                | true =>
                  (first | refine kif_pos (rfl) ?_ | rw [if_pos rfl])
                  refine ⟨rfl, hb.symm, fun _ => SE.local rfl rfl rfl ⟨rfl, rfl⟩⟩
                | false =>
                  (first | refine kif_neg ((by decide)) ?_ | rw [if_neg (by decide)])
                  exact ⟨rfl, hb.symm, fun h => by cases h⟩
            · have hfil : (([] : List V) ++ (((seenF n kid).map V.str).filter fun d => match d with | .str x => !acc.contains x | _ => false).map id) = ((seenF n kid).filter fun x => !acc.contains x).map V.str := by
                rw [List.nil_append, List.map_id, List.filter_map]; rfl
              rw [hfil]
              refine SV.addList (ds := acc.map V.str) (es := ((seenF n kid).filter fun x => !acc.contains x).map V.str) (IsL.ref ?_) (IsL.ref (Sto.get_push_self _ _)) ?_ ?_
              · rw [Sto.get_push, if_neg (by lia)]; exact hlist
              · rw [List.length_map, List.length_map]
                have := List.length_filter_le (fun x => !acc.contains x) (seenF n kid)
                lia
              · rw [← List.map_append]
                have hcell2 : ∀ o o', ((σ'.push o).push o').get σ.nx = some (.cell (some (.ref j))) := fun o o' => by
                  rw [Sto.get_push, if_neg (by rw [Sto.nx_push]; lia), Sto.get_push, if_neg (by lia)]; exact hcell
                refine SG.cell (i := σ.nx) rfl rfl (hcell2 _ _) ?_
                refine SS.nil ⟨ks', _, σ'.nx + 1, rfl, ?_, ?_, ?_, ?_, ?_, hfold, fun t ht => hal t (.tail _ ht), seen_step hacc hkid⟩
                · rw [Sto.get_set, if_pos rfl]; rfl
                · rw [Sto.get_set, if_neg (by lia)]; exact Sto.get_push_self _ _
                · exact ⟨by lia, by rw [Sto.nx_set, Sto.nx_push, Sto.nx_push]; lia⟩
                · exact ((hold'.push hcl _).push hcl _).set hcl (Nat.le_refl _) _
                · rw [Sto.nx_set, Sto.nx_push, Sto.nx_push]; lia
        · rintro l' σ' ⟨ks', acc, j, hds, hcell, hlist, hj, hold', hnx, hfold, hal, hacc⟩
          cases ks' with
          | cons kid ks' => rw [tvs] at hds; cases hds
          | nil =>
            refine ⟨trivial, ?_⟩
            repeat wtm_at "s"
            have hfold2 : acc = ks.foldl (fun acc t => acc ++ (seenF n t).filter fun x => !acc.contains x) [] := hfold
            refine SC.sortedStrs (ss := acc) (IsL.ref hlist) (by have := alpha_len hacc; lia) fun ss' hp hs => ?_
            rw [srt_eq hp hs, hfold2]
            refine ⟨σ, _, Weak.fro (ds := (srt (ks.foldl (fun acc t => acc ++ (seenF n t).filter fun x => !acc.contains x) [])).map V.str) hcl (hold'.push hcl _) hold'.le (Sto.get_push_self _ _) (low_strs _ _), hq⟩
        · refine ⟨ks, [], σ₀.nx, rfl, ?_, ?_, ?_, ?_, ?_, rfl, h3, by simp, fun x hx => by cases hx⟩
          · rw [Sto.get_set, if_pos rfl]
          · rw [Sto.get_set, if_neg (by lia)]; exact Sto.get_push_self _ _
          · exact ⟨by lia, by rw [Sto.nx_set, Sto.nx_push]; lia⟩
          · exact (hold.push hcl _).set hcl (Nat.le_refl _) _
          · rw [Sto.nx_set, Sto.nx_push]; lia
end
/- part CT7 -/
open PySem PySem.W PySem.Calls PyProof.Rows PySem.SeqAt

/-- plain data of a depth -/
noncomputable def DataN (n : Nat) (v : V) : Prop := isData v = true ∧ (pd v).canLay0 = true ∧ (pd v).depth ≤ n
noncomputable def DataNs (n : Nat) (vs : List V) : Prop := areData vs = true ∧ PyData.canLayAll0 (pds vs) = true ∧ PyData.depthAll (pds vs) ≤ n
theorem DataNs.nil {n : Nat} : DataNs n [] := ⟨rfl, rfl, Nat.zero_le _⟩
theorem DataNs.cons {n : Nat} {v : V} {vs : List V} (h : DataN n v) (hs : DataNs n vs) : DataNs n (v :: vs) :=
  ⟨by show (isData v && areData vs) = true; rw [h.1, hs.1]; rfl, by show (PyData.canLay0 (pd v) && PyData.canLayAll0 (pds vs)) = true; rw [h.2.1, hs.2.1]; rfl, by show max (pd v).depth (PyData.depthAll (pds vs)) ≤ n; exact Nat.max_le.mpr ⟨h.2.2, hs.2.2⟩⟩
theorem DataN.tup {n : Nat} {vs : List V} (h : DataNs n vs) : DataN (n + 1) (.tup vs) := ⟨h.1, h.2.1, Nat.succ_le_succ h.2.2⟩
theorem DataN.str {n : Nat} {x : Str} (h : PyData.strOk x = true) : DataN n (.str x) := ⟨h, h, Nat.zero_le _⟩
theorem DataN.mono {n m : Nat} {v : V} (h : DataN n v) (hm : n ≤ m) : DataN m v := ⟨h.1, h.2.1, Nat.le_trans h.2.2 hm⟩
theorem data_tv : ∀ (n : Nat) (t : T), TAl n t → DataN n (tv t)
  | 0, _, h => h.elim
  | n + 1, .mk op ks, ⟨h1, _, h3⟩ => by
    have : ∀ ks : List T, (∀ t ∈ ks, TAl n t) → DataNs n (tvs ks) := by
      intro ks
      induction ks with
      | nil => intro _; exact .nil
      | cons t r ih => intro h; exact .cons (data_tv n t (h t (.head _))) (ih fun t' h' => h t' (.tail _ h'))
    exact DataN.tup (.cons (.str (strOk_alpha op h1)) (this ks h3))
abbrev Need := Str × T × T
noncomputable def needV (q : Need) : V := .tup [.str q.1, tv q.2.1, tv q.2.2]
structure RD where
  name : Str
  left : T
  right : T
  needs : List Need
noncomputable def needsV (ns : List Need) : List V := ns.map needV
noncomputable def ruleF (r : RD) : List (Str × V) := [("name", .str r.name), ("left", tv r.left), ("right", tv r.right), ("needs", .tup (needsV r.needs))]
structure RDOk (r : RD) : Prop where
  name : PyData.strOk r.name = true
  len : r.name.length ≤ 100
  left : TAl 5 r.left
  right : TAl 5 r.right
  needs : ∀ q ∈ r.needs, PyData.strOk q.1 = true ∧ TAl 5 q.2.1 ∧ TAl 5 q.2.2
  few : r.needs.length ≤ 10
theorem data_needs {ns : List Need} (h : ∀ q ∈ ns, PyData.strOk q.1 = true ∧ TAl 5 q.2.1 ∧ TAl 5 q.2.2) : DataNs 6 (needsV ns) := by
  induction ns with
  | nil => exact .nil
  | cons q r ih =>
    obtain ⟨a, b, c⟩ := h q (.head _)
    exact .cons (DataN.tup (.cons (.str a) (.cons (data_tv 5 _ b) (.cons (data_tv 5 _ c) .nil)))) (ih fun q' h' => h q' (.tail _ h'))
theorem data_rule {r : RD} (h : RDOk r) : DataN 8 (.tup [.str r.name, tv r.left, tv r.right, .tup (needsV r.needs)]) :=
  DataN.tup (.cons (.str h.name) (.cons ((data_tv 5 _ h.left).mono (by decide)) (.cons ((data_tv 5 _ h.right).mono (by decide)) (.cons (DataN.tup (data_needs h.needs)) .nil))))
theorem DataN.shaped {n : Nat} {v : V} (h : DataN n v) (hn : n ≤ 64) : shaped (pd v) = true := by
  show ((pd v).canLay0 && decide ((pd v).depth ≤ 64)) = true
  rw [h.2.1, decide_eq_true (Nat.le_trans h.2.2 hn)]; rfl
theorem handed_tv : ∀ t : T, handedV (tv t) = true
  | .mk _ _ => rfl
section
variable {C : Cx} (hK : C.K = KF C.w.params)
include hK
theorem c_is {i : Nat} {d : V} {r : RD} (X : XPost) (W : En) (σ : Sto) (Q : V → Sto → Prop) (hi : σ.get i = some (.inst 250 (ruleF r))) (ok : RDOk r) (hl : IsL σ d (needsV r.needs)) (hc : W.calm = true) (hd : 0 < W.d) (hq : Q (.bool true) σ) :
    SC C X W σ (.val (.ref 614)) [.ref i, .str r.name, tv r.left, tv r.right, d] Q := by
  obtain ⟨d', hd'⟩ : ∃ d', W.d = d' + 1 := ⟨W.d - 1, by lia⟩
  refine SC.fn (Xi := .none) (d' := d') (a := 614) (by rw [hK]; rfl) (by rw [hK]; rfl) hd' (.of rfl rfl rfl (by decide) (by decide)) ?_ XLeaves.none ?_
  · intro vs hv
    obtain ⟨a, b, c, d, f, rfl⟩ := len5 hv
    rfl
  · intro hcl
    show SS _ _ _ _ _ σ _
    have cls : ClsOk C.K 250 := ⟨by rw [hK]; rfl, by rw [hK]; rfl, by rw [hK]; rfl, by rw [hK]; rfl, by rw [hK]; rfl⟩
    repeat wtm_at "s"
    refine SE.field (fun _ _ => rfl) (fun _ _ => rfl) ?_
    repeat wtm_at "s"
    refine ⟨i, 250, ruleF r, .str r.name, rfl, hi, cls, by rw [hK]; rfl, rfl, rfl, ?_⟩
    repeat wtm_at "s"
    refine SE.field (fun _ _ => rfl) (fun _ _ => rfl) ?_
    repeat wtm_at "s"
    refine ⟨i, 250, ruleF r, tv r.left, rfl, hi, cls, by rw [hK]; rfl, rfl, handed_tv _, ?_⟩
    repeat wtm_at "s"
    refine SE.field (fun _ _ => rfl) (fun _ _ => rfl) ?_
    repeat wtm_at "s"
    refine ⟨i, 250, ruleF r, tv r.right, rfl, hi, cls, by rw [hK]; rfl, rfl, handed_tv _, ?_⟩
    repeat wtm_at "s"
    refine SE.field (fun _ _ => rfl) (fun _ _ => rfl) ?_
    repeat wtm_at "s"
    refine ⟨i, 250, ruleF r, .tup (needsV r.needs), rfl, hi, cls, by rw [hK]; rfl, rfl, rfl, ?_⟩
    repeat wtm_at "s"
    refine SC.tupList hl (by unfold needsV; rw [List.length_map]; have := ok.few; lia) ?_
    repeat wtm_at "s"
    have D := data_rule ok
    refine SV.eqData (.inl ⟨D.1, rfl⟩) (.inl ⟨D.1, rfl⟩) (D.shaped (by decide)) (D.shaped (by decide)) ?_
    rw [eqv_refl _ D.2.1]
    exact hq
end
/- part CT8 -/
open PySem PySem.W PySem.Calls PyProof.Rows PySem.SeqAt

noncomputable def lostF (known names : List Str) : List Str := names.filter fun x => !known.contains x
noncomputable def aloneF (name : Str) : Str := name ++ ": a variable alone matches everything"
noncomputable def lostMsg (name x : Str) : Str := name ++ ": " ++ x ++ " is not on the left"
noncomputable def wrongN (name : Str) (known : List Str) : List Need → Str
  | [] => ""
  | q :: r => if q.1 == "near" then name ++ ": there is no need near" else match lostF known (seenF 5 q.2.1 ++ seenF 5 q.2.2) with
    | x :: _ => lostMsg name x
    | [] => wrongN name known r
noncomputable def aloneT : T → Bool | .mk op ks => decide (ks.length = 0) && (["?x", "?y", "?z"] : List Str).contains op
noncomputable def wrongF (r : RD) : Str := if aloneT r.left then aloneF r.name else match lostF (seenF 5 r.left) (seenF 5 r.right) with
  | x :: _ => lostMsg r.name x
  | [] => wrongN r.name (seenF 5 r.left) r.needs
theorem _root_.Mine.IsL.old {σ σ₁ : Sto} {d : V} {ds : List V} (h : IsL σ d ds) (o : Old σ σ₁) : IsL σ₁ d ds := by
  rcases h with h | ⟨i, e, h⟩
  · exact .inl h
  · exact .inr ⟨i, e, o.get i _ h⟩
theorem shaped_strs {ss : List Str} (h : ∀ x ∈ ss, PyData.strOk x = true) : shaped (.list (pds (ss.map V.str))) = true := by
  have hd : ∀ ss : List Str, PyData.depthAll (pds (ss.map V.str)) = 0 := by
    intro ss
    induction ss with
    | nil => rfl
    | cons a r ih => show max 0 (PyData.depthAll (pds (r.map V.str))) = 0; rw [ih]; rfl
  show (PyData.canLayAll0 (pds (ss.map V.str)) && decide (PyData.depthAll (pds (ss.map V.str)) + 1 ≤ 64)) = true
  rw [(data_strs h).2, hd]; rfl
section
variable {C : Cx} (hK : C.K = KF C.w.params)
include hK
inductive InvWr (σ : Sto) (name : Str) (seen : List Str) (needs : List Need) (ds : List V) (l' : Loc) (σ' : Sto) : Prop
  | mk (ns' : List Need) (hds : ds = needsV ns') (ho : Old σ σ') (hnx : σ.nx + 1 ≤ σ'.nx) (hk : σ'.get σ.nx = some (.cell (some (.fl (seen.map V.str))))) (hname : l' "name" = some (.str name)) (hwr : wrongN name seen ns' = wrongN name seen needs)
    (hok : ∀ q ∈ ns', PyData.strOk q.1 = true ∧ TAl 5 q.2.1 ∧ TAl 5 q.2.2)
theorem c_wrong {d : V} {r : RD} (X : XPost) (W : En) (σ : Sto) (Q : V → Sto → Prop) (ok : RDOk r) (hl : IsL σ d (needsV r.needs)) (hc : W.calm = true) (hd : 8 ≤ W.d) (hq : Q (.str (wrongF r)) σ) :
    SC C X W σ (.val (.ref 600)) [.str r.name, tv r.left, tv r.right, d] Q := by
  obtain ⟨d', hd'⟩ : ∃ d', W.d = d' + 1 := ⟨W.d - 1, by lia⟩
  refine SC.weak ?_
  refine SC.fn (Xi := .none) (d' := d') (a := 600) (by rw [hK]; rfl) (by rw [hK]; rfl) hd' (.of rfl rfl rfl (by decide) (by decide)) ?_ XLeaves.none ?_
  · intro vs hv
    obtain ⟨a, b, c, d, rfl⟩ := len4 hv
    rfl
  · intro hcl
    obtain ⟨name, ⟨op, ks⟩, right, needs⟩ := r
    obtain ⟨okn, okl, okleft, okright, okneeds, okfew⟩ := ok
    dsimp only at okn okl okleft okright okneeds okfew hl
    obtain ⟨σ₀, e0⟩ : ∃ σ₀, σ₀ = σ.push (.cell none) := ⟨_, rfl⟩
    show SS _ _ _ _ _ (σ.push (.cell none)) _
    rw [← e0]
    have hold : Old σ σ₀ := by rw [e0]; exact (Old.refl σ).push hcl _
    have hnx0 : σ₀.nx = σ.nx + 1 := by rw [e0]; rfl
    have hc1 : σ₀.get σ.nx = some (.cell none) := by rw [e0]; exact Sto.get_push_self _ _
    have hop := okleft.1
    have hks := okleft.2.1
    wtm_at "s"
    wtm_at "s"
    refine ST.mono (P := PB (aloneT (.mk op ks)) (σ₀)) ?_ ?_
    · repeat wtm_at "s"
      refine SC.lenTup (by rw [List.length_cons, tvs_length]; lia) (?_)
      repeat wtm_at "s"
      refine SV.eqInt ⟨_, rfl, ?_⟩
      have elen : (((V.str op :: tvs ks).length : Nat) : Int) = ks.length + 1 := by rw [List.length_cons, tvs_length]; rfl
      rw [elen]
      by_cases h0 : ks.length = 0
      · (first | refine kif_pos ((by simp [h0])) ?_ | rw [if_pos (by simp [h0])])
        repeat wtm_at "s"
        refine SI.tupN (j := 0) rfl (by decide) ?_
        repeat wtm_at "s"
        refine SV.inTup (p := .str op) (es := (["?x", "?y", "?z"] : List Str).map V.str) (.inl ⟨strOk_alpha op hop, rfl⟩) (by decide +kernel) (by decide +kernel) (shaped_str (strOk_alpha op hop)) ?_
        refine ⟨_, rfl, ?_⟩
        rw [any_strs]
        have ea : aloneT (.mk op ks) = (["?x", "?y", "?z"] : List Str).contains op := by show (decide (ks.length = 0) && _) = _; rw [h0]; rfl
        rw [ea]
        cases (["?x", "?y", "?z"] : List Str).contains op with
        | true => (first | refine kif_pos (rfl) ?_ | rw [if_pos rfl]); repeat wtm_at "s"
                  exact ⟨rfl, rfl⟩
        | false => (first | refine kif_neg ((by decide)) ?_ | rw [if_neg (by decide)]); exact ⟨rfl, rfl⟩
      · (first | refine kif_neg ((by simp; lia)) ?_ | rw [if_neg (by simp; lia)])
        have ea : aloneT (.mk op ks) = false := by show (decide (ks.length = 0) && _) = _; simp [h0]
        exact ⟨ea.symm, rfl⟩
    · rintro b σ' ⟨hb, hs'⟩
      rw [hb, hs']
      by_cases hal : aloneT (.mk op ks) = true
      · (first | refine kif_pos (hal) ?_ | rw [if_pos hal])
        have ew : wrongF ⟨name, .mk op ks, right, needs⟩ = aloneF name := by unfold wrongF; rw [if_pos hal]
        rw [ew] at hq
        repeat wtm_at "s"
        refine SV.addStr (Nat.le_trans okl (by decide)) (by decide +kernel) ?_
        exact ⟨σ, _, Weak.keep hcl hold (by simp [lowV]), hq⟩
      · (first | refine kif_neg (hal) ?_ | rw [if_neg hal])
        repeat wtm_at "s"
        have hL := seenF_ok 5 _ okleft
        have hR := seenF_ok 5 _ okright
        have hL6 := alpha_len hL
        have hR6 := alpha_len hR
        refine c_seen hK 5 (.mk op ks) okleft (by decide) _ _ _ _ hc (by show 5 + 1 ≤ d'; lia) ?_
        refine SG.cell (i := σ.nx) rfl rfl hc1 ?_
        obtain ⟨σ₁, e1⟩ : ∃ σ₁, σ₁ = σ₀.set σ.nx (.cell (some (.fl ((seenF 5 (.mk op ks)).map V.str)))) := ⟨_, rfl⟩
        show SS _ _ _ _ _ (σ₀.set σ.nx (.cell (some (.fl ((seenF 5 (.mk op ks)).map V.str))))) _
        rw [← e1]
        have hold1 : Old σ σ₁ := by rw [e1]; exact hold.set hcl (Nat.le_refl _) _
        have hk1 : σ₁.get σ.nx = some (.cell (some (.fl ((seenF 5 (.mk op ks)).map V.str)))) := by rw [e1, Sto.get_set, if_pos rfl]
        have hnx1 : σ₁.nx = σ.nx + 1 := by rw [e1, Sto.nx_set]; exact hnx0
        have D := data_strs (ss := seenF 5 (.mk op ks)) fun y hy => strOk_alpha y (hL.2 y hy)
        wtm_at "s"
        refine S1.assignComp ⟨rfl, rfl, rfl, rfl, rfl⟩ rfl rfl (SIt.list hc ?_)
        repeat wtm_at "s"
        refine c_seen hK 5 right okright (by decide) _ _ _ _ hc (by show 5 + 1 ≤ d'; lia) ⟨_, IsL.fl, ?_⟩
        refine SCompL.run (p := fun d => match d with | .str x => !(seenF 5 (.mk op ks)).contains x | _ => false) (f := id) IsL.fl _ _ _ (by simp; lia) ?_ ?_
        · intro d hd l
          obtain ⟨x, hx, rfl⟩ := List.mem_map.mp hd
          refine SG.local rfl ⟨rfl, ?_⟩
          show ST _ _ _ _ _ _ _
          repeat wtm_at "s"
          refine SV.notInList (p := .str x) (es := (seenF 5 (.mk op ks)).map V.str) (.inl ⟨strOk_alpha x (hR.2 x hx), rfl⟩) IsL.fl D.1 D.2 (shaped_str (strOk_alpha x (hR.2 x hx))) ⟨_, rfl, ?_⟩
          rw [any_strs]
          cases hb : (!(seenF 5 (.mk op ks)).contains x) with
          | true =>
            (first | refine kif_pos (rfl) ?_ | rw [if_pos rfl])
            exact ⟨rfl, hb.symm, fun _ => SE.local rfl rfl rfl ⟨rfl, rfl⟩⟩
          | false =>
            (first | refine kif_neg ((by decide)) ?_ | rw [if_neg (by decide)])
            exact ⟨rfl, hb.symm, fun h => by cases h⟩
        · have hfil : (([] : List V) ++ (((seenF 5 right).map V.str).filter fun d => match d with | .str x => !(seenF 5 (.mk op ks)).contains x | _ => false).map id) = (lostF (seenF 5 (.mk op ks)) (seenF 5 right)).map V.str := by
            rw [List.nil_append, List.map_id, List.filter_map]; rfl
          rw [hfil]
          have hlost : ∀ x ∈ lostF (seenF 5 (.mk op ks)) (seenF 5 right), x ∈ alpha := fun x hx => hR.2 x (List.mem_filter.mp hx).1
          have hlostlen : (lostF (seenF 5 (.mk op ks)) (seenF 5 right)).length ≤ 6 := Nat.le_trans (List.length_filter_le _ _) hR6
          have ew : wrongF ⟨name, .mk op ks, right, needs⟩ = match lostF (seenF 5 (.mk op ks)) (seenF 5 right) with
            | x :: _ => lostMsg name x
            | [] => wrongN name (seenF 5 (.mk op ks)) needs := by unfold wrongF; rw [if_neg hal]
          rw [ew] at hq
          generalize lostF (seenF 5 (.mk op ks)) (seenF 5 right) = lost at hq hlost hlostlen ⊢
          wtm_at "s"
          wtm_at "s"
          refine ST.mono (P := PB (!lost.isEmpty) ((σ₁.push (.list (lost.map V.str))).push (.list []))) ?_ ?_
          · repeat wtm_at "s"
            refine SV.neData (.inr ⟨lost.map V.str, IsL.ref ?_, (data_strs fun y hy => strOk_alpha y (hlost y hy)).1, rfl⟩) (.inr ⟨[], IsL.ref (Sto.get_push_self _ _), rfl, rfl⟩) (shaped_strs fun y hy => strOk_alpha y (hlost y hy)) (by decide +kernel) ⟨_, rfl, ?_, rfl⟩
            · rw [Sto.get_push, if_neg (by rw [Sto.nx_push]; lia)]; exact Sto.get_push_self _ _
            · cases lost with
              | nil => rfl
              | cons x r => rfl
          · rintro b σ' ⟨hb, hs'⟩
            rw [hb, hs']
            have hold2 : Old σ ((σ₁.push (.list (lost.map V.str))).push (.list [])) := (hold1.push hcl _).push hcl _
            cases lost with
            | cons x r =>
              (first | refine kif_pos ((by rfl)) ?_ | rw [if_pos (by rfl)])
              have hx2 : x.length ≤ 2 := by
                have := hlost x (.head _)
                unfold alpha at this
                simp only [List.mem_cons, List.not_mem_nil, or_false] at this
                rcases this with rfl | rfl | rfl | rfl | rfl | rfl <;> decide +kernel
              repeat wtm_at "s"
              refine SV.addStr (Nat.le_trans okl (by decide)) (by decide +kernel) ?_
              repeat wtm_at "s"
              refine SI.list (k := 0) (d := .str x) (IsL.ref (by rw [Sto.get_push, if_neg (by rw [Sto.nx_push]; lia)]; exact Sto.get_push_self _ _)) (by decide) (by decide) rfl ?_
              refine SV.addStr ?_ (by lia) ?_
              · show (name ++ ": ").length ≤ 1000
                rw [Str.length_append, show (": " : Str).length = 2 from by decide +kernel]; lia
              · repeat wtm_at "s"
                refine SV.addStr ?_ (by decide +kernel) ?_
                · show (name ++ ": " ++ x).length ≤ 1000
                  rw [Str.length_append, Str.length_append, show (": " : Str).length = 2 from by decide +kernel]; lia
                · exact ⟨σ, _, Weak.keep hcl hold2 (by simp [lowV]), hq⟩
            | nil =>
              (first | refine kif_neg ((by decide)) ?_ | rw [if_neg (by decide)])
              wtm_at "s"
              wtm_at "s"
              refine S1.for XOwn.none rfl (SIt.list hc (SE.local rfl rfl rfl ⟨_, hl.old hold2, ?_⟩))
              refine SFor.ind (Inv := InvWr σ name (seenF 5 (.mk op ks)) needs) ?_ ?_ _ _ _ ?_
              · rintro dq rq l' σ' ⟨ns', hds, ho', hnx', hk', hname, hwr, hok'⟩
                cases ns' with
                | nil => cases hds
                | cons q ns' =>
                  obtain ⟨kind, one, other⟩ := q
                  injection hds with e1 e2
                  subst e1; subst e2
                  obtain ⟨q1, q2, q3⟩ := hok' _ (.head _)
                  dsimp only at q1 q2 q3
                  refine ⟨hl.old ho', ?_⟩
                  refine SG.tuple hc rfl (by decide) ⟨rfl, SG.local rfl ⟨rfl, SG.local rfl ⟨rfl, SG.local rfl ?_⟩⟩⟩
                  show SS _ _ _ _ _ _ _
                  wtm_at "s"
                  wtm_at "s"
                  refine ST.mono (P := PB ((kind == "near")) (σ')) ?_ ?_
                  · repeat wtm_at "s"
                    exact SV.eqStr ⟨_, rfl, rfl, rfl⟩
                  · rintro b σ'' ⟨hb, hs''⟩
                    rw [hb, hs'']
                    cases hkn : (kind == ("near" : Str)) with
                    | true =>
                      (first | refine kif_pos (rfl) ?_ | rw [if_pos rfl])
                      have hq2 : Q (.str (wrongN name (seenF 5 (.mk op ks)) needs)) σ := hq
                      rw [← hwr, wrongN, if_pos hkn] at hq2
                      repeat wtm_at "s"
                      refine SE.local (d := .str name) rfl hname rfl ?_
                      repeat wtm_at "s"
                      refine SV.addStr (Nat.le_trans okl (by decide)) (by decide +kernel) ?_
                      exact ⟨σ, _, Weak.keep hcl ho' (by simp [lowV]), hq2⟩
                    | false =>
                      (first | refine kif_neg ((by decide)) ?_ | rw [if_neg (by decide)])
                      have h1 := seenF_ok 5 _ q2
                      have h2 := seenF_ok 5 _ q3
                      have h16 := alpha_len h1
                      have h26 := alpha_len h2
                      have hN : ∀ x ∈ seenF 5 one ++ seenF 5 other, x ∈ alpha := fun x hx => by
                        rcases List.mem_append.mp hx with hx | hx
                        · exact h1.2 x hx
                        · exact h2.2 x hx
                      have hNlen : (seenF 5 one ++ seenF 5 other).length ≤ 12 := by rw [List.length_append]; lia
                      wtm_at "s"
                      show SS _ _ _ _ _ _ _
                      wtm_at "s"
                      refine S1.assignComp ⟨rfl, rfl, rfl, rfl, rfl⟩ rfl rfl (SIt.list hc ?_)
                      repeat wtm_at "s"
                      refine c_seen hK 5 one q2 (by decide) _ _ _ _ hc (by show 5 + 1 ≤ d'; lia) ?_
                      repeat wtm_at "s"
                      refine c_seen hK 5 other q3 (by decide) _ _ _ _ hc (by show 5 + 1 ≤ d'; lia) ?_
                      refine SV.addList (ds := (seenF 5 one).map V.str) (es := (seenF 5 other).map V.str) IsL.fl IsL.fl (by rw [List.length_map, List.length_map]; lia) ?_
                      rw [← List.map_append]
                      obtain ⟨σ₄, e4⟩ : ∃ σ₄, σ₄ = σ'.push (.list ((seenF 5 one ++ seenF 5 other).map V.str)) := ⟨_, rfl⟩
                      have hl4 : σ₄.get σ'.nx = some (.list ((seenF 5 one ++ seenF 5 other).map V.str)) := by rw [e4]; exact Sto.get_push_self _ _
                      have hk4 : σ₄.get σ.nx = some (.cell (some (.fl ((seenF 5 (.mk op ks)).map V.str)))) := by rw [e4, Sto.get_push, if_neg (by lia)]; exact hk'
                      have ho4 : Old σ σ₄ := by rw [e4]; exact ho'.push hcl _
                      have hnx4 : σ.nx + 1 ≤ σ₄.nx := by rw [e4, Sto.nx_push]; lia
                      rw [← e4]
                      refine ⟨_, IsL.ref hl4, ?_⟩
                      refine SCompL.run (p := fun d => match d with | .str x => !(seenF 5 (.mk op ks)).contains x | _ => false) (f := id) (IsL.ref hl4) _ _ _ (by rw [List.length_map]; simp only [List.length_nil]; lia) ?_ ?_
                      · intro d hd l
                        obtain ⟨x, hx, rfl⟩ := List.mem_map.mp hd
                        refine SG.local rfl ⟨rfl, ?_⟩
                        show ST _ _ _ _ _ _ _
                        repeat wtm_at "s"
                        refine SV.notInList (p := .str x) (es := (seenF 5 (.mk op ks)).map V.str) (.inl ⟨strOk_alpha x (hN x hx), rfl⟩) IsL.fl D.1 D.2 (shaped_str (strOk_alpha x (hN x hx))) ⟨_, rfl, ?_⟩
                        rw [any_strs]
                        cases hb : (!(seenF 5 (.mk op ks)).contains x) with
                        | true =>
                          (first | refine kif_pos (rfl) ?_ | rw [if_pos rfl])
                          exact ⟨rfl, hb.symm, fun _ => SE.local rfl rfl rfl ⟨rfl, rfl⟩⟩
                        | false =>
                          (first | refine kif_neg ((by decide)) ?_ | rw [if_neg (by decide)])
                          exact ⟨rfl, hb.symm, fun h => by cases h⟩
                      · have hfil : (([] : List V) ++ (((seenF 5 one ++ seenF 5 other).map V.str).filter fun d => match d with | .str x => !(seenF 5 (.mk op ks)).contains x | _ => false).map id) = (lostF (seenF 5 (.mk op ks)) (seenF 5 one ++ seenF 5 other)).map V.str := by
                          rw [List.nil_append, List.map_id, List.filter_map]; rfl
                        rw [hfil]
                        have hlost : ∀ x ∈ lostF (seenF 5 (.mk op ks)) (seenF 5 one ++ seenF 5 other), x ∈ alpha := fun x hx => hN x (List.mem_filter.mp hx).1
                        have hwr2 : wrongN name (seenF 5 (.mk op ks)) ((kind, one, other) :: ns') = match lostF (seenF 5 (.mk op ks)) (seenF 5 one ++ seenF 5 other) with
                          | x :: _ => lostMsg name x
                          | [] => wrongN name (seenF 5 (.mk op ks)) ns' := by
                          rw [wrongN, if_neg (by show ¬ (kind == ("near" : Str)) = true; rw [hkn]; decide)]
                        have hq3 : Q (.str (wrongN name (seenF 5 (.mk op ks)) needs)) σ := hq
                        rw [← hwr, hwr2] at hq3
                        rw [hwr2] at hwr
                        generalize lostF (seenF 5 (.mk op ks)) (seenF 5 one ++ seenF 5 other) = lost at hq3 hwr hlost ⊢
                        wtm_at "s"
                        wtm_at "s"
                        refine ST.mono (P := PB (!lost.isEmpty) ((σ₄.push (.list (lost.map V.str))).push (.list []))) ?_ ?_
                        · repeat wtm_at "s"
                          refine SV.neData (.inr ⟨lost.map V.str, IsL.ref ?_, (data_strs fun y hy => strOk_alpha y (hlost y hy)).1, rfl⟩) (.inr ⟨[], IsL.ref (Sto.get_push_self _ _), rfl, rfl⟩) (shaped_strs fun y hy => strOk_alpha y (hlost y hy)) (by decide +kernel) ⟨_, rfl, ?_, rfl⟩
                          · rw [Sto.get_push, if_neg (by rw [Sto.nx_push]; lia)]; exact Sto.get_push_self _ _
                          · cases lost with
                            | nil => rfl
                            | cons x r => rfl
                        · rintro b σ'' ⟨hb, hs'⟩
                          rw [hb, hs']
                          have hold5 : Old σ ((σ₄.push (.list (lost.map V.str))).push (.list [])) := (ho4.push hcl _).push hcl _
                          cases lost with
                          | cons x r =>
                            (first | refine kif_pos ((by rfl)) ?_ | rw [if_pos (by rfl)])
                            have hx2 : x.length ≤ 2 := by
                              have := hlost x (.head _)
                              unfold alpha at this
                              simp only [List.mem_cons, List.not_mem_nil, or_false] at this
                              rcases this with rfl | rfl | rfl | rfl | rfl | rfl <;> decide +kernel
                            repeat wtm_at "s"
                            refine SE.local (d := .str name) rfl hname rfl ?_
                            repeat wtm_at "s"
                            refine SV.addStr (Nat.le_trans okl (by decide)) (by decide +kernel) ?_
                            repeat wtm_at "s"
                            refine SI.list (k := 0) (d := .str x) (IsL.ref (by rw [Sto.get_push, if_neg (by rw [Sto.nx_push]; lia)]; exact Sto.get_push_self _ _)) (by decide) (by decide) rfl ?_
                            refine SV.addStr ?_ (by lia) ?_
                            · show (name ++ ": ").length ≤ 1000
                              rw [Str.length_append, show (": " : Str).length = 2 from by decide +kernel]; lia
                            · repeat wtm_at "s"
                              refine SV.addStr ?_ (by decide +kernel) ?_
                              · show (name ++ ": " ++ x).length ≤ 1000
                                rw [Str.length_append, Str.length_append, show (": " : Str).length = 2 from by decide +kernel]; lia
                              · exact ⟨σ, _, Weak.keep hcl hold5 (by simp [lowV]), hq3⟩
                          | nil =>
                            (first | refine kif_neg ((by decide)) ?_ | rw [if_neg (by decide)])
                            wtm_at "s"
                            show SS _ _ _ _ _ _ _
                            wtm_at "s"
                            refine ⟨ns', rfl, hold5, ?_, ?_, hname, hwr, fun q hq => hok' q (.tail _ hq)⟩
                            · rw [Sto.nx_push, Sto.nx_push]; lia
                            · rw [Sto.get_push, if_neg (by rw [Sto.nx_push]; lia), Sto.get_push, if_neg (by lia)]; exact hk4
              · rintro l' σ' ⟨ns', hds, ho', hnx', hk', hname, hwr, hok'⟩
                cases ns' with
                | cons q r => cases hds
                | nil =>
                  refine ⟨hl.old ho', ?_⟩
                  repeat wtm_at "s"
                  have hq2 : Q (.str (wrongN name (seenF 5 (.mk op ks)) needs)) σ := hq
                  rw [← hwr] at hq2
                  exact ⟨σ, _, Weak.keep hcl ho' (by simp [lowV]), hq2⟩
              · refine ⟨needs, rfl, hold2, ?_, ?_, rfl, rfl, okneeds⟩
                · rw [Sto.nx_push, Sto.nx_push]; lia
                · rw [Sto.get_push, if_neg (by rw [Sto.nx_push]; lia), Sto.get_push, if_neg (by lia)]; exact hk1
end
/- part CV1 -/
open PySem PySem.W PySem.Calls PyProof.Rows PySem.SeqAt

/-! what the program's own variables tells is what the law's seen tells -/
theorem sle_total (a b : Str) : sle a b ∨ sle b a := by unfold sle; exact List.le_total _ _
theorem srt_ex (ss : List Str) : ∃ ts : List Str, ts.Perm ss ∧ ts.Pairwise sle := by
  refine ⟨ss.mergeSort (fun a b => decide (a.cps.toList ≤ b.cps.toList)), List.mergeSort_perm _ _, ?_⟩
  have := List.pairwise_mergeSort (le := fun a b : Str => decide (a.cps.toList ≤ b.cps.toList)) (fun a b c h1 h2 => by simp only [decide_eq_true_eq] at *; exact List.le_trans h1 h2) (fun a b => by
    simp only [Bool.or_eq_true, decide_eq_true_eq]; exact List.le_total _ _) ss
  exact this.imp fun h => by simpa [sle] using h
theorem srt_sorted (ss : List Str) : (srt ss).Pairwise sle := by
  unfold srt
  rw [dif_pos (srt_ex ss)]
  exact (srt_ex ss).choose_spec.2
theorem srt_same {ss ts : List Str} (p : ss.Perm ts) : srt ss = srt ts := sorted_unique ((srt_perm ss).trans (p.trans (srt_perm ts).symm)) (srt_sorted ss) (srt_sorted ts)
theorem firstS_mem (x : Str) : ∀ (ss acc : List Str), x ∈ firstS acc ss ↔ x ∈ acc ∨ x ∈ ss
  | [], acc => by simp [firstS]
  | y :: r, acc => by
    rw [firstS, firstS_mem x r]
    split
    · rename_i h
      obtain ⟨z, hz, e⟩ := List.any_eq_true.mp h
      have e : z = y := by simpa using e
      subst e
      simp only [List.mem_cons]
      constructor
      · rintro (h | h)
        · exact .inl h
        · exact .inr (.inr h)
      · rintro (h | h | h)
        · exact .inl h
        · exact .inl (h ▸ hz)
        · exact .inr h
    · simp only [List.mem_append, List.mem_cons, List.not_mem_nil, or_false]
      constructor
      · rintro ((h | h) | h)
        · exact .inl h
        · exact .inr (.inl h)
        · exact .inr (.inr h)
      · rintro (h | h | h)
        · exact .inl (.inl h)
        · exact .inl (.inr h)
        · exact .inr h
theorem firstS_nodup : ∀ (ss acc : List Str), acc.Nodup → (firstS acc ss).Nodup
  | [], _, h => h
  | y :: r, acc, h => by
    rw [firstS]
    refine firstS_nodup r _ ?_
    split
    · exact h
    · rename_i hn
      refine List.nodup_append.mpr ⟨h, by simp, fun a ha b hb e => ?_⟩
      rw [List.mem_singleton] at hb
      subst hb
      exact hn (List.any_eq_true.mpr ⟨a, ha, by simp [e]⟩)
theorem partsK_in : ∀ {ks : List T} {j : Nat} {t : T} {q : List Nat × T}, t ∈ ks → q ∈ partsT t → ∃ k, (k :: q.1, q.2) ∈ partsK ks j
  | t' :: r, j, t, q, ht, hq => by
    rcases List.mem_cons.mp ht with rfl | ht
    · exact ⟨j, by rw [partsK]; exact List.mem_append_left _ (List.mem_map.mpr ⟨q, hq, rfl⟩)⟩
    · obtain ⟨k, hk⟩ := partsK_in (j := j + 1) ht hq
      exact ⟨k, by rw [partsK]; exact List.mem_append_right _ hk⟩
theorem varNames_mem (x : Str) (op : Str) (ks : List T) : x ∈ varNames (.mk op ks) ↔ (isVarT (.mk op ks) = true ∧ x = op) ∨ ∃ t ∈ ks, x ∈ varNames t := by
  unfold varNames
  simp only [List.mem_map, List.mem_filter]
  constructor
  · rintro ⟨p, ⟨hp, hv⟩, rfl⟩
    rw [partsT, List.mem_cons] at hp
    rcases hp with rfl | hp
    · exact .inl ⟨hv, rfl⟩
    · obtain ⟨t, ht, k, q, hq, rfl⟩ := partsK_mem hp
      exact .inr ⟨t, ht, q, ⟨hq, hv⟩, rfl⟩
  · rintro (⟨hv, rfl⟩ | ⟨t, ht, p, ⟨hp, hv⟩, rfl⟩)
    · exact ⟨([], .mk x ks), ⟨by rw [partsT]; exact .head _, hv⟩, rfl⟩
    · obtain ⟨k, hk⟩ := partsK_in (j := 0) ht hp
      exact ⟨(k :: p.1, p.2), ⟨by rw [partsT]; exact List.mem_cons.mpr (.inr hk), hv⟩, rfl⟩
theorem isVar_alpha : ∀ op ∈ alpha, (Txt.slice op none (some 1) == "?") = isQ op ∧ (isQ op = true ↔ (["?x", "?y", "?z"] : List Str).contains op = true) := by
  intro op h
  unfold alpha at h
  simp only [List.mem_cons, List.not_mem_nil, or_false] at h
  rcases h with rfl | rfl | rfl | rfl | rfl | rfl <;> decide +kernel
theorem foldl_mem (n : Nat) (x : Str) : ∀ (ks : List T) (acc : List Str), x ∈ ks.foldl (fun acc t => acc ++ (seenF n t).filter fun x => !acc.contains x) acc ↔ x ∈ acc ∨ ∃ t ∈ ks, x ∈ seenF n t
  | [], acc => by simp
  | t :: r, acc => by
    rw [List.foldl_cons, foldl_mem n x r]
    simp only [List.mem_append, List.mem_filter, List.mem_cons]
    constructor
    · rintro ((h | ⟨h, _⟩) | ⟨t', h1, h2⟩)
      · exact .inl h
      · exact .inr ⟨t, .inl rfl, h⟩
      · exact .inr ⟨t', .inr h1, h2⟩
    · rintro (h | ⟨t', rfl | h1, h2⟩)
      · exact .inl (.inl h)
      · by_cases hx : x ∈ acc
        · exact .inl (.inl hx)
        · exact .inl (.inr ⟨h2, by simp [hx]⟩)
      · exact .inr ⟨t', h1, h2⟩
theorem seen_mem : ∀ (n : Nat) (t : T), TAl n t → ∀ x, x ∈ seenF n t ↔ x ∈ varNames t
  | 0, _, h, _ => h.elim
  | n + 1, .mk op ks, ⟨h1, h2, h3⟩, x => by
    have ih := fun t ht => seen_mem n t (h3 t ht) x
    obtain ⟨hv, _⟩ := isVar_alpha op h1
    rw [varNames_mem, seenF]
    by_cases h0 : ks.length = 0
    · have : ks = [] := List.eq_nil_of_length_eq_zero h0
      subst this
      have hvv : isVarT (.mk op []) = isQ op := by show (decide (([] : List T).length = 0) && _) = _; rw [hv]; rfl
      rw [if_pos h0, hvv]
      cases isQ op with
      | true => simp
      | false => simp
    · (first | refine kif_neg (h0) ?_ | rw [if_neg h0])
      have hvv : isVarT (.mk op ks) = false := by show (decide (ks.length = 0) && _) = _; simp [h0]
      rw [(srt_perm _).mem_iff, foldl_mem, hvv]
      simp only [List.not_mem_nil, false_or, Bool.false_eq_true, false_and]
      constructor
      · rintro ⟨t, ht, h⟩; exact ⟨t, ht, (ih t ht).mp h⟩
      · rintro ⟨t, ht, h⟩; exact ⟨t, ht, (ih t ht).mpr h⟩
theorem seen_sorted : ∀ (n : Nat) (t : T), (seenF n t).Pairwise sle
  | 0, _ => by simp [seenF]
  | n + 1, .mk op ks => by
    rw [seenF]
    split
    · split
      · simp
      · simp
    · exact srt_sorted _
theorem vars_seen {n : Nat} {t : T} (h : TAl n t) : varsT t = seenF n t := by
  have h1 := seenF_ok n t h
  have hp : (firstS [] (varNames t)).Perm (seenF n t) := (List.perm_ext_iff_of_nodup (firstS_nodup _ _ (by simp)) h1.1).mpr fun x => by
    rw [firstS_mem, seen_mem n t h x]; simp
  unfold varsT
  exact sorted_unique ((srt_perm _).trans hp) (srt_sorted _) (seen_sorted n t)
theorem TAl.tok : ∀ {n : Nat} {t : T}, TAl n t → TOk n t
  | 0, _, h => h.elim
  | n + 1, .mk op ks, ⟨h1, h2, h3⟩ => ⟨by
      unfold alpha at h1
      simp only [List.mem_cons, List.not_mem_nil, or_false] at h1
      rcases h1 with rfl | rfl | rfl | rfl | rfl | rfl <;> decide +kernel, by lia, fun t ht => (h3 t ht).tok⟩
theorem parts_few : ∀ {n : Nat} {t : T}, TAl n t → (partsT t).length + 1 ≤ 2 ^ n
  | 0, _, h => h.elim
  | n + 1, .mk op ks, ⟨h1, h2, h3⟩ => by
    have key : ∀ (ks : List T) (j : Nat), (∀ t ∈ ks, TAl n t) → (partsK ks j).length + ks.length ≤ ks.length * 2 ^ n := by
      intro ks
      induction ks with
      | nil => intro j _; simp [partsK]
      | cons t r ih =>
        intro j h
        rw [partsK, List.length_append, List.length_map, List.length_cons, Nat.succ_mul]
        have a := parts_few (h t (.head _))
        have b := ih (j + 1) fun t' h' => h t' (.tail _ h')
        lia
    have hk := key ks 0 h3
    rw [partsT, List.length_cons]
    have hp : 1 ≤ 2 ^ n := Nat.one_le_two_pow
    have e : 2 ^ (n + 1) = 2 ^ n + 2 ^ n := by rw [Nat.pow_succ]; lia
    rw [e]
    have hc : ks.length = 0 ∨ ks.length = 1 ∨ ks.length = 2 := by lia
    rcases hc with hc | hc | hc <;> rw [hc] at hk <;> lia
theorem varNames_few {n : Nat} {t : T} (h : TAl n t) : (varNames t).length ≤ 2 ^ n := by
  unfold varNames
  rw [List.length_map]
  exact Nat.le_trans (List.length_filter_le _ _) (by have := parts_few h; lia)
/- part CT9 -/
open PySem PySem.W PySem.Calls PyProof.Rows PySem.SeqAt

section
variable {C : Cx} (hK : C.K = KF C.w.params)
include hK
theorem cls_bank : ClsOk C.K 185 := ⟨by rw [hK]; rfl, by rw [hK]; rfl, by rw [hK]; rfl, by rw [hK]; rfl, by rw [hK]; rfl⟩
theorem c_bank (X : XPost) (W : En) (σ : Sto) (Q : V → Sto → Prop) (hcl : σ.Closed) (hc : W.calm = true) (hd : 4 ≤ W.d) (hq : ∀ σ', Old σ σ' → Q (.ref σ.nx) σ') : SC C X W σ (.val (.ref 185)) [] Q := by
  refine SC.cls (fI := 93) (by lia) (by rw [hK]; rfl) (by rw [hK]; rfl) (by rw [hK]; rfl) ?_
  obtain ⟨d', hd'⟩ : ∃ d', W.dec.d = d' + 1 := ⟨W.dec.d - 1, by show W.d - 1 = _; show W.d - 1 = (W.d - 1) - 1 + 1; lia⟩
  refine SCc.fn (Xi := .none) (d' := d') (a := 93) (by rw [hK]; rfl) (by rw [hK]; rfl) hd' (.of rfl rfl rfl (by decide) (by decide)) ?_ XLeaves.none ?_
  · intro vs hv
    obtain ⟨a, rfl⟩ := len1 hv
    rfl
  · intro hcl2
    show SS _ _ _ _ _ (σ.push (.inst 185 [])) _
    have hg1 : (σ.push (.inst 185 [])).get σ.nx = some (.inst 185 []) := Sto.get_push_self _ _
    have hold1 : Old σ (σ.push (.inst 185 [])) := (Old.refl σ).push hcl _
    have hnx1 : σ.nx < (σ.push (.inst 185 [])).nx := Nat.lt_succ_self _
    generalize σ.push (.inst 185 []) = σ1 at hg1 hold1 hnx1 ⊢
    show SS _ _ _ _ _ _ _
    wtm_at "s"
    wtm_at "s"
    repeat wtm_at "s"
    refine SG.field ?_
    repeat wtm_at "s"
    refine ⟨σ.nx, 185, [], rfl, by rw [Sto.get_push, if_neg (by lia)]; exact hg1, cls_bank hK, by rw [hK]; rfl, by simp, ?_⟩
    obtain ⟨σ2, e2⟩ : ∃ x, x = (σ1.push (.list [])).set σ.nx (.inst 185 [("nodes", V.ref σ1.nx)]) := ⟨_, rfl⟩
    show SS _ _ _ _ _ ((σ1.push (.list [])).set σ.nx (.inst 185 [("nodes", V.ref σ1.nx)])) _
    rw [← e2]
    have hg2 : σ2.get σ.nx = some (.inst 185 [("nodes", V.ref σ1.nx)]) := by rw [e2, Sto.get_set, if_pos rfl]
    have hold2 : Old σ σ2 := by rw [e2]; exact (hold1.push hcl _).set hcl (Nat.le_refl _) _
    have hnx2 : σ.nx < σ2.nx := by rw [e2, Sto.nx_set, Sto.nx_push]; lia
    show SS _ _ _ _ _ _ _
    wtm_at "s"
    wtm_at "s"
    refine SE.dict0 ?_
    refine SG.field ?_
    repeat wtm_at "s"
    refine ⟨σ.nx, 185, [("nodes", V.ref σ1.nx)], rfl, by rw [Sto.get_push, if_neg (by lia)]; exact hg2, cls_bank hK, by rw [hK]; rfl, by simp, ?_⟩
    obtain ⟨σ3, e3⟩ : ∃ x, x = (σ2.push (.dict [])).set σ.nx (.inst 185 [("nodes", V.ref σ1.nx), ("numbers", V.ref σ2.nx)]) := ⟨_, rfl⟩
    show SS _ _ _ _ _ ((σ2.push (.dict [])).set σ.nx (.inst 185 [("nodes", V.ref σ1.nx), ("numbers", V.ref σ2.nx)])) _
    rw [← e3]
    have hg3 : σ3.get σ.nx = some (.inst 185 [("nodes", V.ref σ1.nx), ("numbers", V.ref σ2.nx)]) := by rw [e3, Sto.get_set, if_pos rfl]
    have hold3 : Old σ σ3 := by rw [e3]; exact (hold2.push hcl _).set hcl (Nat.le_refl _) _
    have hnx3 : σ.nx < σ3.nx := by rw [e3, Sto.nx_set, Sto.nx_push]; lia
    show SS _ _ _ _ _ _ _
    wtm_at "s"
    wtm_at "s"
    repeat wtm_at "s"
    refine SG.field ?_
    repeat wtm_at "s"
    refine ⟨σ.nx, 185, [("nodes", V.ref σ1.nx), ("numbers", V.ref σ2.nx)], rfl, by rw [Sto.get_push, if_neg (by lia)]; exact hg3, cls_bank hK, by rw [hK]; rfl, by simp, ?_⟩
    obtain ⟨σ4, e4⟩ : ∃ x, x = (σ3.push (.list [])).set σ.nx (.inst 185 [("nodes", V.ref σ1.nx), ("numbers", V.ref σ2.nx), ("weights", V.ref σ3.nx)]) := ⟨_, rfl⟩
    show SS _ _ _ _ _ ((σ3.push (.list [])).set σ.nx (.inst 185 [("nodes", V.ref σ1.nx), ("numbers", V.ref σ2.nx), ("weights", V.ref σ3.nx)])) _
    rw [← e4]
    have hg4 : σ4.get σ.nx = some (.inst 185 [("nodes", V.ref σ1.nx), ("numbers", V.ref σ2.nx), ("weights", V.ref σ3.nx)]) := by rw [e4, Sto.get_set, if_pos rfl]
    have hold4 : Old σ σ4 := by rw [e4]; exact (hold3.push hcl _).set hcl (Nat.le_refl _) _
    have hnx4 : σ.nx < σ4.nx := by rw [e4, Sto.nx_set, Sto.nx_push]; lia
    show SS _ _ _ _ _ _ _
    wtm_at "s"
    wtm_at "s"
    repeat wtm_at "s"
    refine SG.field ?_
    repeat wtm_at "s"
    refine ⟨σ.nx, 185, [("nodes", V.ref σ1.nx), ("numbers", V.ref σ2.nx), ("weights", V.ref σ3.nx)], rfl, by rw [Sto.get_push, if_neg (by lia)]; exact hg4, cls_bank hK, by rw [hK]; rfl, by simp, ?_⟩
    obtain ⟨σ5, e5⟩ : ∃ x, x = (σ4.push (.list [])).set σ.nx (.inst 185 [("nodes", V.ref σ1.nx), ("numbers", V.ref σ2.nx), ("weights", V.ref σ3.nx), ("depths", V.ref σ4.nx)]) := ⟨_, rfl⟩
    show SS _ _ _ _ _ ((σ4.push (.list [])).set σ.nx (.inst 185 [("nodes", V.ref σ1.nx), ("numbers", V.ref σ2.nx), ("weights", V.ref σ3.nx), ("depths", V.ref σ4.nx)])) _
    rw [← e5]
    have hg5 : σ5.get σ.nx = some (.inst 185 [("nodes", V.ref σ1.nx), ("numbers", V.ref σ2.nx), ("weights", V.ref σ3.nx), ("depths", V.ref σ4.nx)]) := by rw [e5, Sto.get_set, if_pos rfl]
    have hold5 : Old σ σ5 := by rw [e5]; exact (hold4.push hcl _).set hcl (Nat.le_refl _) _
    have hnx5 : σ.nx < σ5.nx := by rw [e5, Sto.nx_set, Sto.nx_push]; lia
    show SS _ _ _ _ _ _ _
    wtm_at "s"
    exact ⟨rfl, hq _ hold5⟩
theorem cls_unions : ClsOk C.K 435 := ⟨by rw [hK]; rfl, by rw [hK]; rfl, by rw [hK]; rfl, by rw [hK]; rfl, by rw [hK]; rfl⟩
theorem c_unions (X : XPost) (W : En) (σ : Sto) (Q : V → Sto → Prop) (hcl : σ.Closed) (hc : W.calm = true) (hd : 4 ≤ W.d) (hq : ∀ σ', Old σ σ' → Q (.ref σ.nx) σ') : SC C X W σ (.val (.ref 435)) [] Q := by
  refine SC.cls (fI := 371) (by lia) (by rw [hK]; rfl) (by rw [hK]; rfl) (by rw [hK]; rfl) ?_
  obtain ⟨d', hd'⟩ : ∃ d', W.dec.d = d' + 1 := ⟨W.dec.d - 1, by show W.d - 1 = _; show W.d - 1 = (W.d - 1) - 1 + 1; lia⟩
  refine SCc.fn (Xi := .none) (d' := d') (a := 371) (by rw [hK]; rfl) (by rw [hK]; rfl) hd' (.of rfl rfl rfl (by decide) (by decide)) ?_ XLeaves.none ?_
  · intro vs hv
    obtain ⟨a, rfl⟩ := len1 hv
    rfl
  · intro hcl2
    show SS _ _ _ _ _ (σ.push (.inst 435 [])) _
    have hg1 : (σ.push (.inst 435 [])).get σ.nx = some (.inst 435 []) := Sto.get_push_self _ _
    have hold1 : Old σ (σ.push (.inst 435 [])) := (Old.refl σ).push hcl _
    have hnx1 : σ.nx < (σ.push (.inst 435 [])).nx := Nat.lt_succ_self _
    generalize σ.push (.inst 435 []) = σ1 at hg1 hold1 hnx1 ⊢
    show SS _ _ _ _ _ _ _
    wtm_at "s"
    wtm_at "s"
    repeat wtm_at "s"
    refine SG.field ?_
    repeat wtm_at "s"
    refine ⟨σ.nx, 435, [], rfl, by rw [Sto.get_push, if_neg (by lia)]; exact hg1, cls_unions hK, by rw [hK]; rfl, by simp, ?_⟩
    obtain ⟨σ2, e2⟩ : ∃ x, x = (σ1.push (.list [])).set σ.nx (.inst 435 [("above", V.ref σ1.nx)]) := ⟨_, rfl⟩
    show SS _ _ _ _ _ ((σ1.push (.list [])).set σ.nx (.inst 435 [("above", V.ref σ1.nx)])) _
    rw [← e2]
    have hg2 : σ2.get σ.nx = some (.inst 435 [("above", V.ref σ1.nx)]) := by rw [e2, Sto.get_set, if_pos rfl]
    have hold2 : Old σ σ2 := by rw [e2]; exact (hold1.push hcl _).set hcl (Nat.le_refl _) _
    have hnx2 : σ.nx < σ2.nx := by rw [e2, Sto.nx_set, Sto.nx_push]; lia
    show SS _ _ _ _ _ _ _
    wtm_at "s"
    wtm_at "s"
    repeat wtm_at "s"
    refine SG.field ?_
    repeat wtm_at "s"
    refine ⟨σ.nx, 435, [("above", V.ref σ1.nx)], rfl, by rw [Sto.get_push, if_neg (by lia)]; exact hg2, cls_unions hK, by rw [hK]; rfl, by simp, ?_⟩
    obtain ⟨σ3, e3⟩ : ∃ x, x = (σ2.push (.list [])).set σ.nx (.inst 435 [("above", V.ref σ1.nx), ("lots", V.ref σ2.nx)]) := ⟨_, rfl⟩
    show SS _ _ _ _ _ ((σ2.push (.list [])).set σ.nx (.inst 435 [("above", V.ref σ1.nx), ("lots", V.ref σ2.nx)])) _
    rw [← e3]
    have hg3 : σ3.get σ.nx = some (.inst 435 [("above", V.ref σ1.nx), ("lots", V.ref σ2.nx)]) := by rw [e3, Sto.get_set, if_pos rfl]
    have hold3 : Old σ σ3 := by rw [e3]; exact (hold2.push hcl _).set hcl (Nat.le_refl _) _
    have hnx3 : σ.nx < σ3.nx := by rw [e3, Sto.nx_set, Sto.nx_push]; lia
    show SS _ _ _ _ _ _ _
    wtm_at "s"
    wtm_at "s"
    repeat wtm_at "s"
    refine SG.field ?_
    repeat wtm_at "s"
    refine ⟨σ.nx, 435, [("above", V.ref σ1.nx), ("lots", V.ref σ2.nx)], rfl, by rw [Sto.get_push, if_neg (by lia)]; exact hg3, cls_unions hK, by rw [hK]; rfl, by simp, ?_⟩
    obtain ⟨σ4, e4⟩ : ∃ x, x = (σ3.push (.list [])).set σ.nx (.inst 435 [("above", V.ref σ1.nx), ("lots", V.ref σ2.nx), ("merged", V.ref σ3.nx)]) := ⟨_, rfl⟩
    show SS _ _ _ _ _ ((σ3.push (.list [])).set σ.nx (.inst 435 [("above", V.ref σ1.nx), ("lots", V.ref σ2.nx), ("merged", V.ref σ3.nx)])) _
    rw [← e4]
    have hg4 : σ4.get σ.nx = some (.inst 435 [("above", V.ref σ1.nx), ("lots", V.ref σ2.nx), ("merged", V.ref σ3.nx)]) := by rw [e4, Sto.get_set, if_pos rfl]
    have hold4 : Old σ σ4 := by rw [e4]; exact (hold3.push hcl _).set hcl (Nat.le_refl _) _
    have hnx4 : σ.nx < σ4.nx := by rw [e4, Sto.nx_set, Sto.nx_push]; lia
    show SS _ _ _ _ _ _ _
    wtm_at "s"
    exact ⟨rfl, hq _ hold4⟩
end
/- part CT10 -/
open PySem PySem.W PySem.Calls PyProof.Rows PySem.SeqAt

theorem _root_.Mine.Old.trans {σ σ₁ σ₂ : Sto} (h : Old σ σ₁) (h' : Old σ₁ σ₂) : Old σ σ₂ := ⟨Nat.le_trans h.le h'.le, fun j o hj => h'.get j o (h.get j o hj)⟩
theorem SC.closed {C : Cx} {X : XPost} {W : En} {σ : Sto} {f : V} {ds : List V} {Q : V → Sto → Prop} (h : σ.Closed → SC C X W σ f ds Q) : SC C X W σ f ds Q := fun g A L s fv vs R hA hf hv => h R.closed g A L s fv vs R hA hf hv
section
variable {C : Cx} (hK : C.K = KF C.w.params)
include hK
theorem cls_heap : ClsOk C.K 569 := ⟨by rw [hK]; rfl, by rw [hK]; rfl, by rw [hK]; rfl, by rw [hK]; rfl, by rw [hK]; rfl⟩
theorem c_heap (X : XPost) (W : En) (σ : Sto) (Q : V → Sto → Prop) (hcl : σ.Closed) (hc : W.calm = true) (hd : 8 ≤ W.d) (hq : ∀ σ', Old σ σ' → Q (.ref σ.nx) σ') : SC C X W σ (.val (.ref 569)) [] Q := by
  refine SC.cls (fI := 453) (by lia) (by rw [hK]; rfl) (by rw [hK]; rfl) (by rw [hK]; rfl) ?_
  obtain ⟨d', hd'⟩ : ∃ d', W.dec.d = d' + 1 := ⟨W.dec.d - 1, by show W.d - 1 = _; show W.d - 1 = (W.d - 1) - 1 + 1; lia⟩
  have hdd : 6 ≤ d' := by have : W.d - 1 = d' + 1 := hd'; lia
  refine SCc.fn (Xi := .none) (d' := d') (a := 453) (by rw [hK]; rfl) (by rw [hK]; rfl) hd' (.of rfl rfl rfl (by decide) (by decide)) ?_ XLeaves.none ?_
  · intro vs hv
    obtain ⟨a, rfl⟩ := len1 hv
    rfl
  · intro hcl2
    show SS _ _ _ _ _ (σ.push (.inst 569 [])) _
    have hg1 : (σ.push (.inst 569 [])).get σ.nx = some (.inst 569 []) := Sto.get_push_self _ _
    have hold1 : Old σ (σ.push (.inst 569 [])) := (Old.refl σ).push hcl _
    have hnx1 : σ.nx < (σ.push (.inst 569 [])).nx := Nat.lt_succ_self _
    generalize σ.push (.inst 569 []) = σ1 at hg1 hold1 hnx1 ⊢
    show SS _ _ _ _ _ _ _
    wtm_at "s"
    wtm_at "s"
    repeat wtm_at "s"
    refine SC.closed fun hcl1 => c_bank hK _ _ _ _ hcl1 hc (by show 4 ≤ d'; lia) fun τ1 ho1 => ?_
    refine SG.field ?_
    repeat wtm_at "s"
    refine ⟨σ.nx, 569, [], rfl, ho1.get _ _ hg1, cls_heap hK, by rw [hK]; rfl, by simp, ?_⟩
    obtain ⟨σ2, e2⟩ : ∃ x, x = τ1.set σ.nx (.inst 569 [("bank", V.ref σ1.nx)]) := ⟨_, rfl⟩
    show SS _ _ _ _ _ (τ1.set σ.nx (.inst 569 [("bank", V.ref σ1.nx)])) _
    rw [← e2]
    have hg2 : σ2.get σ.nx = some (.inst 569 [("bank", V.ref σ1.nx)]) := by rw [e2, Sto.get_set, if_pos rfl]
    have hold2 : Old σ σ2 := by rw [e2]; exact (hold1.trans ho1).set hcl (Nat.le_refl _) _
    have hnx2 : σ.nx < σ2.nx := by rw [e2, Sto.nx_set]; exact Nat.lt_of_lt_of_le hnx1 ho1.le
    show SS _ _ _ _ _ _ _
    wtm_at "s"
    wtm_at "s"
    repeat wtm_at "s"
    refine SC.closed fun hcl2 => c_unions hK _ _ _ _ hcl2 hc (by show 4 ≤ d'; lia) fun τ2 ho2 => ?_
    refine SG.field ?_
    repeat wtm_at "s"
    refine ⟨σ.nx, 569, [("bank", V.ref σ1.nx)], rfl, ho2.get _ _ hg2, cls_heap hK, by rw [hK]; rfl, by simp, ?_⟩
    obtain ⟨σ3, e3⟩ : ∃ x, x = τ2.set σ.nx (.inst 569 [("bank", V.ref σ1.nx), ("unions", V.ref σ2.nx)]) := ⟨_, rfl⟩
    show SS _ _ _ _ _ (τ2.set σ.nx (.inst 569 [("bank", V.ref σ1.nx), ("unions", V.ref σ2.nx)])) _
    rw [← e3]
    have hg3 : σ3.get σ.nx = some (.inst 569 [("bank", V.ref σ1.nx), ("unions", V.ref σ2.nx)]) := by rw [e3, Sto.get_set, if_pos rfl]
    have hold3 : Old σ σ3 := by rw [e3]; exact (hold2.trans ho2).set hcl (Nat.le_refl _) _
    have hnx3 : σ.nx < σ3.nx := by rw [e3, Sto.nx_set]; exact Nat.lt_of_lt_of_le hnx2 ho2.le
    show SS _ _ _ _ _ _ _
    wtm_at "s"
    wtm_at "s"
    repeat wtm_at "s"
    refine SG.field ?_
    repeat wtm_at "s"
    refine ⟨σ.nx, 569, [("bank", V.ref σ1.nx), ("unions", V.ref σ2.nx)], rfl, by rw [Sto.get_push, if_neg (by lia)]; exact hg3, cls_heap hK, by rw [hK]; rfl, by simp, ?_⟩
    obtain ⟨σ4, e4⟩ : ∃ x, x = (σ3.push (.list [])).set σ.nx (.inst 569 [("bank", V.ref σ1.nx), ("unions", V.ref σ2.nx), ("edges", V.ref σ3.nx)]) := ⟨_, rfl⟩
    show SS _ _ _ _ _ ((σ3.push (.list [])).set σ.nx (.inst 569 [("bank", V.ref σ1.nx), ("unions", V.ref σ2.nx), ("edges", V.ref σ3.nx)])) _
    rw [← e4]
    have hg4 : σ4.get σ.nx = some (.inst 569 [("bank", V.ref σ1.nx), ("unions", V.ref σ2.nx), ("edges", V.ref σ3.nx)]) := by rw [e4, Sto.get_set, if_pos rfl]
    have hold4 : Old σ σ4 := by rw [e4]; exact (hold3.push hcl _).set hcl (Nat.le_refl _) _
    have hnx4 : σ.nx < σ4.nx := by rw [e4, Sto.nx_set, Sto.nx_push]; lia
    show SS _ _ _ _ _ _ _
    wtm_at "s"
    wtm_at "s"
    repeat wtm_at "s"
    refine SG.field ?_
    repeat wtm_at "s"
    refine ⟨σ.nx, 569, [("bank", V.ref σ1.nx), ("unions", V.ref σ2.nx), ("edges", V.ref σ3.nx)], rfl, by rw [Sto.get_push, if_neg (by lia)]; exact hg4, cls_heap hK, by rw [hK]; rfl, by simp, ?_⟩
    obtain ⟨σ5, e5⟩ : ∃ x, x = (σ4.push (.list [])).set σ.nx (.inst 569 [("bank", V.ref σ1.nx), ("unions", V.ref σ2.nx), ("edges", V.ref σ3.nx), ("forest", V.ref σ4.nx)]) := ⟨_, rfl⟩
    show SS _ _ _ _ _ ((σ4.push (.list [])).set σ.nx (.inst 569 [("bank", V.ref σ1.nx), ("unions", V.ref σ2.nx), ("edges", V.ref σ3.nx), ("forest", V.ref σ4.nx)])) _
    rw [← e5]
    have hg5 : σ5.get σ.nx = some (.inst 569 [("bank", V.ref σ1.nx), ("unions", V.ref σ2.nx), ("edges", V.ref σ3.nx), ("forest", V.ref σ4.nx)]) := by rw [e5, Sto.get_set, if_pos rfl]
    have hold5 : Old σ σ5 := by rw [e5]; exact (hold4.push hcl _).set hcl (Nat.le_refl _) _
    have hnx5 : σ.nx < σ5.nx := by rw [e5, Sto.nx_set, Sto.nx_push]; lia
    show SS _ _ _ _ _ _ _
    wtm_at "s"
    wtm_at "s"
    refine SE.dict0 ?_
    refine SG.field ?_
    repeat wtm_at "s"
    refine ⟨σ.nx, 569, [("bank", V.ref σ1.nx), ("unions", V.ref σ2.nx), ("edges", V.ref σ3.nx), ("forest", V.ref σ4.nx)], rfl, by rw [Sto.get_push, if_neg (by lia)]; exact hg5, cls_heap hK, by rw [hK]; rfl, by simp, ?_⟩
    obtain ⟨σ6, e6⟩ : ∃ x, x = (σ5.push (.dict [])).set σ.nx (.inst 569 [("bank", V.ref σ1.nx), ("unions", V.ref σ2.nx), ("edges", V.ref σ3.nx), ("forest", V.ref σ4.nx), ("known", V.ref σ5.nx)]) := ⟨_, rfl⟩
    show SS _ _ _ _ _ ((σ5.push (.dict [])).set σ.nx (.inst 569 [("bank", V.ref σ1.nx), ("unions", V.ref σ2.nx), ("edges", V.ref σ3.nx), ("forest", V.ref σ4.nx), ("known", V.ref σ5.nx)])) _
    rw [← e6]
    have hg6 : σ6.get σ.nx = some (.inst 569 [("bank", V.ref σ1.nx), ("unions", V.ref σ2.nx), ("edges", V.ref σ3.nx), ("forest", V.ref σ4.nx), ("known", V.ref σ5.nx)]) := by rw [e6, Sto.get_set, if_pos rfl]
    have hold6 : Old σ σ6 := by rw [e6]; exact (hold5.push hcl _).set hcl (Nat.le_refl _) _
    have hnx6 : σ.nx < σ6.nx := by rw [e6, Sto.nx_set, Sto.nx_push]; lia
    show SS _ _ _ _ _ _ _
    wtm_at "s"
    wtm_at "s"
    refine SE.dict0 ?_
    refine SG.field ?_
    repeat wtm_at "s"
    refine ⟨σ.nx, 569, [("bank", V.ref σ1.nx), ("unions", V.ref σ2.nx), ("edges", V.ref σ3.nx), ("forest", V.ref σ4.nx), ("known", V.ref σ5.nx)], rfl, by rw [Sto.get_push, if_neg (by lia)]; exact hg6, cls_heap hK, by rw [hK]; rfl, by simp, ?_⟩
    obtain ⟨σ7, e7⟩ : ∃ x, x = (σ6.push (.dict [])).set σ.nx (.inst 569 [("bank", V.ref σ1.nx), ("unions", V.ref σ2.nx), ("edges", V.ref σ3.nx), ("forest", V.ref σ4.nx), ("known", V.ref σ5.nx), ("above", V.ref σ6.nx)]) := ⟨_, rfl⟩
    show SS _ _ _ _ _ ((σ6.push (.dict [])).set σ.nx (.inst 569 [("bank", V.ref σ1.nx), ("unions", V.ref σ2.nx), ("edges", V.ref σ3.nx), ("forest", V.ref σ4.nx), ("known", V.ref σ5.nx), ("above", V.ref σ6.nx)])) _
    rw [← e7]
    have hg7 : σ7.get σ.nx = some (.inst 569 [("bank", V.ref σ1.nx), ("unions", V.ref σ2.nx), ("edges", V.ref σ3.nx), ("forest", V.ref σ4.nx), ("known", V.ref σ5.nx), ("above", V.ref σ6.nx)]) := by rw [e7, Sto.get_set, if_pos rfl]
    have hold7 : Old σ σ7 := by rw [e7]; exact (hold6.push hcl _).set hcl (Nat.le_refl _) _
    have hnx7 : σ.nx < σ7.nx := by rw [e7, Sto.nx_set, Sto.nx_push]; lia
    show SS _ _ _ _ _ _ _
    wtm_at "s"
    wtm_at "s"
    repeat wtm_at "s"
    refine SG.field ?_
    repeat wtm_at "s"
    refine ⟨σ.nx, 569, [("bank", V.ref σ1.nx), ("unions", V.ref σ2.nx), ("edges", V.ref σ3.nx), ("forest", V.ref σ4.nx), ("known", V.ref σ5.nx), ("above", V.ref σ6.nx)], rfl, by rw [Sto.get_push, if_neg (by lia)]; exact hg7, cls_heap hK, by rw [hK]; rfl, by simp, ?_⟩
    obtain ⟨σ8, e8⟩ : ∃ x, x = (σ7.push (.list [])).set σ.nx (.inst 569 [("bank", V.ref σ1.nx), ("unions", V.ref σ2.nx), ("edges", V.ref σ3.nx), ("forest", V.ref σ4.nx), ("known", V.ref σ5.nx), ("above", V.ref σ6.nx), ("waiting", V.ref σ7.nx)]) := ⟨_, rfl⟩
    show SS _ _ _ _ _ ((σ7.push (.list [])).set σ.nx (.inst 569 [("bank", V.ref σ1.nx), ("unions", V.ref σ2.nx), ("edges", V.ref σ3.nx), ("forest", V.ref σ4.nx), ("known", V.ref σ5.nx), ("above", V.ref σ6.nx), ("waiting", V.ref σ7.nx)])) _
    rw [← e8]
    have hg8 : σ8.get σ.nx = some (.inst 569 [("bank", V.ref σ1.nx), ("unions", V.ref σ2.nx), ("edges", V.ref σ3.nx), ("forest", V.ref σ4.nx), ("known", V.ref σ5.nx), ("above", V.ref σ6.nx), ("waiting", V.ref σ7.nx)]) := by rw [e8, Sto.get_set, if_pos rfl]
    have hold8 : Old σ σ8 := by rw [e8]; exact (hold7.push hcl _).set hcl (Nat.le_refl _) _
    have hnx8 : σ.nx < σ8.nx := by rw [e8, Sto.nx_set, Sto.nx_push]; lia
    show SS _ _ _ _ _ _ _
    wtm_at "s"
    exact ⟨rfl, hq _ hold8⟩
theorem cls_walker : ClsOk C.K 223 := ⟨by rw [hK]; rfl, by rw [hK]; rfl, by rw [hK]; rfl, by rw [hK]; rfl, by rw [hK]; rfl⟩
theorem c_walker {h : Nat} (X : XPost) (W : En) (σ : Sto) (Q : V → Sto → Prop) (hcl : σ.Closed) (hc : W.calm = true) (hd : 4 ≤ W.d) (hq : ∀ σ', Old σ σ' → Q (.ref σ.nx) σ') : SC C X W σ (.val (.ref 223)) [.ref h] Q := by
  refine SC.cls (fI := 203) (by lia) (by rw [hK]; rfl) (by rw [hK]; rfl) (by rw [hK]; rfl) ?_
  obtain ⟨d', hd'⟩ : ∃ d', W.dec.d = d' + 1 := ⟨W.dec.d - 1, by show W.d - 1 = _; show W.d - 1 = (W.d - 1) - 1 + 1; lia⟩
  refine SCc.fn (Xi := .none) (d' := d') (a := 203) (by rw [hK]; rfl) (by rw [hK]; rfl) hd' (.of rfl rfl rfl (by decide) (by decide)) ?_ XLeaves.none ?_
  · intro vs hv
    obtain ⟨a, b, rfl⟩ := len2 hv
    rfl
  · intro hcl2
    show SS _ _ _ _ _ (σ.push (.inst 223 [])) _
    have hg1 : (σ.push (.inst 223 [])).get σ.nx = some (.inst 223 []) := Sto.get_push_self _ _
    have hold1 : Old σ (σ.push (.inst 223 [])) := (Old.refl σ).push hcl _
    generalize σ.push (.inst 223 []) = σ1 at hg1 hold1 ⊢
    repeat wtm_at "s"
    refine SG.field ?_
    repeat wtm_at "s"
    refine ⟨σ.nx, 223, [], rfl, hg1, cls_walker hK, by rw [hK]; rfl, by simp, ?_⟩
    show SS _ _ _ _ _ _ _
    wtm_at "s"
    exact ⟨rfl, hq _ (hold1.set hcl (Nat.le_refl _) _)⟩
theorem cls_placer : ClsOk C.K 292 := ⟨by rw [hK]; rfl, by rw [hK]; rfl, by rw [hK]; rfl, by rw [hK]; rfl, by rw [hK]; rfl⟩
theorem c_placer {h : Nat} (X : XPost) (W : En) (σ : Sto) (Q : V → Sto → Prop) (hcl : σ.Closed) (hc : W.calm = true) (hd : 4 ≤ W.d) (hq : ∀ σ', Old σ σ' → Q (.ref σ.nx) σ') : SC C X W σ (.val (.ref 292)) [.ref h] Q := by
  refine SC.cls (fI := 268) (by lia) (by rw [hK]; rfl) (by rw [hK]; rfl) (by rw [hK]; rfl) ?_
  obtain ⟨d', hd'⟩ : ∃ d', W.dec.d = d' + 1 := ⟨W.dec.d - 1, by show W.d - 1 = _; show W.d - 1 = (W.d - 1) - 1 + 1; lia⟩
  refine SCc.fn (Xi := .none) (d' := d') (a := 268) (by rw [hK]; rfl) (by rw [hK]; rfl) hd' (.of rfl rfl rfl (by decide) (by decide)) ?_ XLeaves.none ?_
  · intro vs hv
    obtain ⟨a, b, rfl⟩ := len2 hv
    rfl
  · intro hcl2
    show SS _ _ _ _ _ (σ.push (.inst 292 [])) _
    have hg1 : (σ.push (.inst 292 [])).get σ.nx = some (.inst 292 []) := Sto.get_push_self _ _
    have hold1 : Old σ (σ.push (.inst 292 [])) := (Old.refl σ).push hcl _
    generalize σ.push (.inst 292 []) = σ1 at hg1 hold1 ⊢
    repeat wtm_at "s"
    refine SG.field ?_
    repeat wtm_at "s"
    refine ⟨σ.nx, 292, [], rfl, hg1, cls_placer hK, by rw [hK]; rfl, by simp, ?_⟩
    show SS _ _ _ _ _ _ _
    wtm_at "s"
    exact ⟨rfl, hq _ (hold1.set hcl (Nat.le_refl _) _)⟩
end
/- part CE1 -/
open PySem PySem.W PySem.Calls PyProof.Rows PySem.SeqAt
section
variable {C : Cx} (hK : C.K = KF C.w.params)
include hK
theorem excOk60 : ExcOk C.K 60 := ⟨by rw [hK]; rfl, by rw [hK]; rfl, by rw [hK]; rfl, by rw [hK]; rfl⟩
omit hK in
theorem loadName_glob {M : Model} {A : Around} {E : Value → Shared → Prop} {s : Shared} {env : Env} {x : Str} {Q : Value → Shared → Prop} (hk : env.scope.kind = .function) (hx : env.kindOf x = some .globalImplicit) (h : wpAny M A (loadGlobal env x) Q E s) : wpAny M A (loadName env x) Q E s :=
  ks_loadName_global hk hx h
/-- super().__init__(what) in HeapError.__init__ -/
theorem c_superInit {i : Nat} {m : Str} {X : XPost} {W : En} {l : Loc} {σ : Sto} {g : TagMap} {A : Around} {cenv : Env} {L : Addr} {mm : Str → Option Value} {s : Shared} {body : List Stmt} {p0 p1 p2 p3 p4 p5 : Pos} {qn : Str} {Q : Fl → Loc → Sto → Prop}
    (p : Pre C W l σ g A cenv L mm s) (o : OwnFrame A cenv L) (hfn : W.fn = some (.ref 36, qn)) (hns : W.sc.names.lookup ("super" : Str) = some .globalImplicit) (hnc : W.sc.names.lookup ("__class__" : Str) = some .free) (hnl : W.sc.names.lookup ("self" : Str) = some .local) (hnw : W.sc.names.lookup ("what" : Str) = some .local)
    (hself : l "self" = some (.ref i)) (hwhat : l "what" = some (.str m)) (hfu : cenv.func = some 37) (hcell : cenv.cells.lookup ("__class__" : Str) = some 25) (hi : σ.get i = some (.exc 60 Option.none))
    (hfile : ((C.prog.main.file : Str) == ("/claim/cut.py" : Str)) = true) (htop : (C.prog.main.scope.names.lookup ("super" : Str)).isSome = false) (pl : Sem Bool)
    (hev : eval (.Call (.Attribute (.Call (.Name "super" p0) [] [] p1) "__init__" p2) [.Name "what" p3] [] p4) cenv = (do
      let ov ← attributeBase (.Call (.Name "super" p0) [] [] p1) "__init__" cenv (eval (.Call (.Name "super" p0) [] [] p1) cenv)
      standAt p2.atName
      let (f, first) ← holding [ov] (getMethod ov "__init__" pl)
      callWith p4 f first (backTo p4 (starEach [.Name "what" p3] cenv)) []))
    (hq : Q .next l (σ.set i (.exc 60 Option.none))) :
    PySem.wpAt C.M A (.func body cenv) (exec (.Expr (.Call (.Attribute (.Call (.Name "super" p0) [] [] p1) "__init__" p2) [.Name "what" p3] [] p4) p5) cenv) (UpS C L g Q) (X.P L g A.frames) s := by
  have hcls : ∃ c d, clsIn C.K 60 = some c ∧ clsIn C.K 47 = some d ∧ excTail c.mro = true ∧ c.hasDict = true ∧ alongIn C.K "__init__" ((c.mro.dropWhile (· != .ref 47)).drop 1) = some (some (.builtin "Exception.__init__")) := by
    rw [hK]; exact ⟨_, _, rfl, rfl, by decide, rfl, rfl⟩
  obtain ⟨cd, cdD, hcd, hcdD, hm, hhd, hal⟩ := hcls
  have hus := p.fl "self"
  rw [hself] at hus
  obtain ⟨u, hu, x, ou, tx⟩ := hus
  subst ou
  obtain ⟨x', o', vs, ex, t', hx, hcl', hdt, hsz, hdr⟩ := p.R.excAt hi ⟨x, rfl, tx⟩
  cases ex
  refine ks_wpAt_Expr_any (ks_wpAt_MethodCall (pl := pl) ?_ hev) p.E.notInteractive ?_
  · refine ks_wpAt_super_base (f := 37) ((p.E.kindOf _).trans hns) ((p.E.kindOf _).trans hnc) (by decide) hfu (p.R.kin 37 _ (by rw [hK]; rfl)) rfl rfl (p.E.fn _ _ hfn).1 (p.R.kin 36 _ (by rw [hK]; rfl)) rfl rfl hfile htop ?_
    refine loadName_glob p.E.ckind ((p.E.kindOf _).trans hns) (loadGlobal_builtin (by rw [p.E.glob]; exact p.R.top.g) (mg_none_of p.R.kin p.R.top.g (by rw [hK]; rfl)) (by rw [p.E.blt]; exact p.R.top.b) ((p.R.top.builtins _ (by decide)).trans rfl) ⟨rfl, ?_⟩)
    refine wpAny_loadName_free p.E.ckind ((p.E.kindOf _).trans hnc) hcell ⟨_, p.R.kin 25 _ (by rw [hK]; rfl), rfl⟩ ?_ (by decide)
    refine wpAny_loadName_local p.E.ckind ((p.E.kindOf _).trans hnl) (p.E.loc ▸ p.R.fr L mm p.fm) hu ?_
    refine ks_wpAny_isType_cls (p.R.kin 47 _ (by rw [hK]; rfl)) rfl ⟨rfl, ?_⟩
    refine ks_wpAny_call_super (p.R.kin 47 _ (by rw [hK]; rfl)) rfl hx hcl' (fun c q => by rw [hdt] at q; cases q) (looks_mroIn p.R.kin (by rw [hK]; rfl)) fun h' hso hk => ?_
    have hfree := p.R.free_size (Nat.le_refl s.heap.objs.size)
    have R1 : Rel C g σ { s with heap := h' } := p.R.keeps hk
    have R2 := R1.retag (a := s.heap.objs.size) (t := .froz (ks_superObj 47 x 60)) (by rw [hfree]; exact fun h => h) hso
    have x1 : Ext g (g.put s.heap.objs.size (.froz (ks_superObj 47 x 60))) := Ext.put hfree _
    have p1 := p.step x1 R2
    have hsv : VR (g.put s.heap.objs.size (.froz (ks_superObj 47 x 60))) (supV 47 60 i) (.ref s.heap.objs.size) := ⟨_, [.ref x], _, rfl, put_self .., ⟨x, rfl, rfl⟩, _, [], rfl, ⟨x, rfl, x1.at tx (by intro h; cases h)⟩, rfl⟩
    have fin : ∀ (fx : Value × List Value) (s' : Shared), UpM C (g.put s.heap.objs.size (.froz (ks_superObj 47 x 60))) (fun f fs σ' => f = mwV i ∧ fs = [] ∧ σ' = σ) fx s' →
        wpAny C.M A (callWith p4 fx.1 fx.2 (backTo p4 (starEach [.Name "what" p3] cenv)) []) (fun _ => UpS C L g Q .next) (X.P L g A.frames) s' := by
      rintro ⟨fv, first⟩ s' ⟨f, fs, g', σ', x2, R3, hf, hfs, rfl, rfl, rfl⟩
      cases hfs
      have p2 := p1.step x2 R3
      refine wpAny_mono (callWith_V (X := X) (Q := fun _ σ'' => σ'' = σ'.set i (.exc 60 Option.none)) (fs := []) rfl Keep.mw p2 hf rfl (SL.cons rfl (SE.local hnw hwhat rfl (SL.nil ?_)))) ?_ fun _ _ h => X.mono (x1.trans x2) h
      · exact SC.mw (nm := "RuleFault") hi (by rw [hK]; rfl) rfl
      · rintro v s'' ⟨d, g'', σ'', x3, R4, hv, rfl⟩
        have p3 := p2.step x3 R4
        exact ⟨.next, l, g'', _, mm, ((x1.trans x2).trans x3).l L, R4, p3.fm, p3.fl, rfl, hq⟩
    exact wpAny_mono (SM.sup (X := X) (W := W) (QM := fun f fs σ' => f = mwV i ∧ fs = [] ∧ σ' = σ) hi hcd hm (by rw [hK]; rfl) hal ⟨rfl, rfl, rfl⟩ _ A L _ _ _ R2 p1.A hsv) fin fun _ _ h => X.mono x1 h
  · rfl
/-- HeapError.__init__ -/
theorem c_heapError {i : Nat} {m : Str} (X : XPost) (W : En) (σ : Sto) (Q : V → Sto → Prop) (hi : σ.get i = some (.exc 60 Option.none)) (hd : 1 ≤ W.d)
    (hfile : ((C.prog.main.file : Str) == ("/claim/cut.py" : Str)) = true) (htop : (C.prog.main.scope.names.lookup ("super" : Str)).isSome = false) (hq : Q .none (σ.set i (.exc 60 (some [("what", .str m)])))) : SCc C X W σ (.val (.ref 37)) [.ref i, .str m] Q := by
  obtain ⟨d', hd'⟩ : ∃ d', W.d = d' + 1 := ⟨W.d - 1, by lia⟩
  refine SCc.fnAt (Xi := .none) (d' := d') (a := 37) (cl := [("__class__", 25)]) (by rw [hK]; rfl) (by rw [hK]; rfl) hd' rfl rfl rfl (by decide) (by decide) ?_ XLeaves.none ?_
  · intro vs hv
    obtain ⟨a, b, rfl⟩ := len2 hv
    rfl
  · intro hcl g A cenv L mm s p o e
    have hcls : ∃ c, clsIn C.K 60 = some c ∧ excTail c.mro = true ∧ c.hasDict = true := by
      rw [hK]; exact ⟨_, rfl, by decide, rfl⟩
    obtain ⟨cd, hcd, hm, hhd⟩ := hcls
    refine ks_wpAt_execs_cons (ks_wpAt_mono (c_superInit hK (Q := fun f l' σ' => f = .next ∧ σ' = σ.set i (.exc 60 Option.none) ∧ l' "self" = some (.ref i) ∧ l' "what" = some (.str m)) p o rfl rfl rfl rfl rfl rfl rfl (by rw [e]; rfl) (by rw [e]; rfl) hi hfile htop _ rfl ⟨rfl, rfl, rfl, rfl⟩) ?_ fun _ _ h => h)
    rintro fl s' ⟨f, l', g', σ', m', x, R, hm', hl, hf, rfl, rfl, h1, h2⟩
    obtain rfl : fl = .next := hf
    have p' := p.stepL x R hm' hl
    refine PySem.wpAt_of_wpAny (wpAny_mono ((?_ : SS C .none _ _ l' (σ.set i (.exc 60 Option.none)) fun f _ σ' => match f with | .ret d => Q d σ' | _ => Q .none σ') g' A cenv L m' s' p' o) (fun _ _ h => UpS.back x h) fun _ _ h => h.elim)
    refine SS.cons (S1.assign rfl rfl rfl (SE.local rfl h2 rfl (SG.excField (SE.local rfl h1 rfl ⟨i, 60, cd, rfl, by rw [Sto.get_set, if_pos rfl], hcd, hm, hhd, by rw [hK]; rfl, by rw [hK]; rfl, ?_⟩))))
    rw [Sto.set_set]
    exact SS.nil hq
end
/- part CE2 -/
open PySem PySem.W PySem.Calls PyProof.Rows PySem.SeqAt
noncomputable def whatF (m : Str) : List (Str × V) := [("what", .str m)]
section
variable {C : Cx} (hK : C.K = KF C.w.params)
include hK
theorem c_errTold {m : Str} (X : XPost) (W : En) (σ : Sto) (Q : V → Sto → Prop) (hd : 0 < W.d) (hq : Q (.str m) σ) : SC C X W σ (.val (.ref 44)) [excV C.w.params 60 (whatF m)] Q := by
  obtain ⟨d', hd'⟩ : ∃ d', W.d = d' + 1 := ⟨W.d - 1, by lia⟩
  refine SC.fn (Xi := .none) (d' := d') (a := 44) (by rw [hK]; rfl) (by rw [hK]; rfl) hd' (.of rfl rfl rfl (by decide) (by decide)) ?_ XLeaves.none ?_
  · intro vs hv
    obtain ⟨a, rfl⟩ := len1 hv
    rfl
  · intro hcl
    show SS _ _ _ _ _ σ _
    wtm_at "s"
    wtm_at "s"
    refine SE.excField (fun _ _ => rfl) (fun _ _ => rfl) ?_
    repeat wtm_at "s"
    exact ⟨60, whatF m, .str m, rfl, excOk60 hK, by rw [hK]; rfl, rfl, rfl, hq⟩

/-- _law_told -/
theorem c_told {make : V} (X : XPost) (W : En) (σ : Sto) (Q : V → Sto → Prop) (hd : 2 ≤ W.d) (hmk : Keep C make)
    (h : ∀ W', W'.d = W.d - 1 → W'.calm = W.calm → SC C (XF C 60 fun fs σ₁ => ∃ m, fs = whatF m ∧ Q (.tup [.none, .str m]) σ₁) W' σ make [] fun d σ₁ => Q (.tup [d, .str ""]) σ₁) :
    SC C X W σ (.val (.ref 607)) [make] Q := by
  obtain ⟨d', hd'⟩ : ∃ d', W.d = d' + 1 := ⟨W.d - 1, by lia⟩
  refine SC.fn (Xi := .none) (d' := d') (a := 607) (by rw [hK]; rfl) (by rw [hK]; rfl) hd' (.of rfl rfl rfl (by decide) (by decide)) ?_ XLeaves.none ?_
  · intro vs hv
    obtain ⟨a, rfl⟩ := len1 hv
    rfl
  · intro hcl
    show SS _ _ _ _ _ σ _
    refine SS.cons (S1.tryAs (c := 60) (nm := "RuleFault") (QX := fun fs σ₁ => ∃ m, fs = whatF m ∧ Q (.tup [.none, .str m]) σ₁) (by rw [hK]; rfl) (by decide) rfl (by rw [hK]; rfl) rfl rfl ?_ ?_)
    · wtm_at "s"
      wtm_at "s"
      refine SE.tuple (SL.cons rfl (SE.callName rfl (SE.local rfl rfl rfl ⟨hmk, SL.nil (SC.mono (h _ (by show d' = W.d - 1; lia) rfl) fun d σ₁ q => ?_)⟩)))
      repeat wtm_at "s"
      exact q
    · rintro l' fs σ' ⟨m, rfl, q⟩
      wtm_at "s"
      wtm_at "s"
      refine SE.tuple (SL.cons rfl (SE.none (SL.cons rfl ?_)))
      refine SE.meth rfl (fun _ => rfl) (SE.local rfl rfl rfl (SM.exc (excOk60 hK) (by rw [hK]; rfl) (by rw [hK]; rfl) rfl ⟨Keep.kT hK rfl, SL.nil (c_errTold hK _ _ _ _ (by show 0 < d'; lia) ?_)⟩))
      repeat wtm_at "s"
      exact ⟨_, rfl, fun _ => q⟩
end
/- part CE3 -/
open PySem PySem.W PySem.Calls PyProof.Rows PySem.SeqAt

/-- a list or a tuple -/
noncomputable def IsSeq (σ : Sto) (d : V) (ds : List V) : Prop := IsL σ d ds ∨ d = .tup ds
noncomputable def badN (name : Str) (known : List Str) : List Need → Option Str
  | [] => none
  | q :: r => if q.1 == "alike" || q.1 == "unlike" then (match lostF known (seenF 5 q.2.1 ++ seenF 5 q.2.2) with
    | x :: _ => some (lostMsg name x)
    | [] => badN name known r) else some (name ++ ": there is no need " ++ q.1)
noncomputable def badF (r : RD) : Option Str := if aloneT r.left then some (aloneF r.name) else badN r.name (seenF 5 r.left) (("alike", r.right, r.right) :: r.needs)

section
variable {C : Cx} {X : XPost} {W : En} {l : Loc} {σ : Sto} {Q : Fl → Loc → Sto → Prop}
theorem S1.closed {st : Stmt} (h : σ.Closed → S1 C X W st l σ Q) : S1 C X W st l σ Q := fun g A cenv L m s p o => h p.R.closed g A cenv L m s p o
theorem SS.closed {st : List Stmt} (h : σ.Closed → SS C X W st l σ Q) : SS C X W st l σ Q := fun g A cenv L m s p o => h p.R.closed g A cenv L m s p o
theorem SC.listSeq {d : V} {ds : List V} {Q : V → Sto → Prop} (hl : IsSeq σ d ds) (hz : ds.length ≤ 1000000) (h : Q (.ref σ.nx) (σ.push (.list ds))) : SC C X W σ (.val (.type "list")) [d] Q := by
  rcases hl with hl | rfl
  · exact SC.listList hl hz h
  · exact SC.listTup hz h
theorem SC.tupSeq {d : V} {ds : List V} {Q : V → Sto → Prop} (hl : IsSeq σ d ds) (hz : ds.length ≤ 1000000) (h : Q (.tup ds) σ) : SC C X W σ (.val (.type "tuple")) [d] Q := by
  rcases hl with hl | rfl
  · exact SC.tupList hl hz h
  · exact SC.tupTup h
end
theorem _root_.Mine.WeakX.old {σ σ₁ : Sto} {m : Str} (hc : σ.Closed) (h : Old σ σ₁) : WeakX σ.nx σ₁ (whatF m) σ := ⟨Nat.le_refl _, h.get, hc, fun f hf => by
  rw [List.mem_singleton.mp hf]; simp [lowV]⟩
/-- what the contracts over the text ask of the world -/
structure Ctx1 (C : Cx) : Prop where
  K : C.K = KF C.w.params
  file : ((C.prog.main.file : Str) == ("/claim/cut.py" : Str)) = true
  top : (C.prog.main.scope.names.lookup ("super" : Str)).isSome = false
section
variable {C : Cx} (hT : Ctx1 C)
include hT
/-- raise RuleFault(..) -/
theorem c_fault {W : En} {l : Loc} {σ : Sto} {QX : List (Str × V) → Sto → Prop} {Q : Fl → Loc → Sto → Prop} {e : Expr} {p1 p2 p3 : Pos} (hc : W.calm = true) (hd : 3 ≤ W.d) (hk : W.sc.names.lookup ("RuleFault" : Str) = some .globalImplicit) (hs : noStar e = true)
    (h : SE C (XF C 60 QX) W e l σ fun d σ₁ => σ₁ = σ ∧ ∃ m, d = .str m ∧ QX (whatF m) σ) : S1 C (XF C 60 QX) W (.Raise (some (.Call (.Name "RuleFault" p1) [e] [] p2)) Option.none p3) l σ Q := by
  have hK := hT.K
  refine S1.closed fun hcl => ?_
  refine S1.raise (c := 60) (nm := "RuleFault") (by rw [hK]; rfl) (by decide) hc ?_
  have hns : noStars [e] = true := by simp [noStars, hs]
  refine SE.callName hns (SE.globT hK hk rfl ⟨Keep.kT hK rfl, SL.cons hs (SE.mono h ?_)⟩)
  rintro d σ₁ ⟨rfl, m, rfl, q⟩
  refine SL.nil (SC.ofCode (SCc.exc (fI := 37) (nm := "RuleFault") (by lia) (by rw [hK]; rfl) (by decide) (by rw [hK]; rfl) (by rw [hK]; rfl) (by rw [hK]; rfl) (by rw [hK]; rfl) (Nat.le_of_ble_eq_true rfl) ?_))
  refine c_heapError hK _ _ _ _ (Sto.get_push_self _ _) (by show 1 ≤ W.d - 1; lia) hT.file hT.top ⟨rfl, σ₁.nx, whatF m, σ₁, rfl, ?_, ?_, Nat.le_refl _, q⟩
  · rw [Sto.get_set, if_pos rfl]; rfl
  · refine WeakX.old hcl ⟨by rw [Sto.nx_set, Sto.nx_push]; lia, fun i o hi => ?_⟩
    have := (hcl i o hi).1
    rw [Sto.get_set, if_neg (by lia), Sto.get_push, if_neg (by lia)]
    exact hi
end
/- part CE4 -/
set_option maxHeartbeats 1000000
open PySem PySem.W PySem.Calls PyProof.Rows PySem.SeqAt
theorem IsSeq.old {σ σ₁ : Sto} {d : V} {ds : List V} (h : IsSeq σ d ds) (o : Old σ σ₁) : IsSeq σ₁ d ds := by
  rcases h with h | h
  · exact .inl (h.old o)
  · exact .inr h
theorem alpha_short {x : Str} (h : x ∈ alpha) : x.length ≤ 2 := by
  unfold alpha at h
  simp only [List.mem_cons, List.not_mem_nil, or_false] at h
  rcases h with rfl | rfl | rfl | rfl | rfl | rfl <;> decide +kernel
theorem kind_short {r : RD} (ok : RDOk r) (hk : ∀ q ∈ r.needs, q.1.length ≤ 100) : ∀ q ∈ (("alike", r.right, r.right) :: r.needs : List Need), PyData.strOk q.1 = true ∧ q.1.length ≤ 100 ∧ TAl 5 q.2.1 ∧ TAl 5 q.2.2 := by
  intro q hq
  rcases List.mem_cons.mp hq with rfl | hq
  · exact ⟨show PyData.strOk ("alike" : Str) = true by decide +kernel, show ("alike" : Str).length ≤ 100 by decide +kernel, ok.right, ok.right⟩
  · obtain ⟨a, b, c⟩ := ok.needs q hq
    exact ⟨a, hk q hq, b, c⟩
theorem isVar_alone {op : Str} {ks : List T} (h : op ∈ alpha) : (decide ((tvs ks).length = 0) && Txt.slice op none (some 1) == "?") = aloneT (.mk op ks) := by
  obtain ⟨h1, h2⟩ := isVar_alpha op h
  rw [tvs_length, h1]
  show (decide (ks.length = 0) && isQ op) = (decide (ks.length = 0) && (["?x", "?y", "?z"] : List Str).contains op)
  congr 1
  cases hq : isQ op with
  | true => exact (h2.mp hq).symm
  | false =>
    cases hc : (["?x", "?y", "?z"] : List Str).contains op with
    | true => rw [h2.mpr hc] at hq; cases hq
    | false => rfl

section
variable {C : Cx}
/-- the text of a fault: name, a written text, a text, a written text -/
theorem c_msg2 {X : XPost} {W : En} {l : Loc} {σ : Sto} {name lit : Str} {x1 : Str} {p1 p2 p3 p4 : Pos} {k1 : Nat} {Q : V → Sto → Prop} (hk : W.sc.names.lookup x1 = some .local) (hd : (x1 == ("__debug__" : Str)) = false) (hl : l x1 = some (.str name)) (hn : name.length ≤ 1000) (hz : lit.length ≤ 1000)
    (hq : Q (.str (name ++ lit)) σ) : SE C X W (.JoinedStr [.FormattedValue (.Name x1 p1) (-1) Option.none p2, .Constant (.str lit) k1 p3] p4) l σ Q := by
  refine SE.joined (SE.fmtStr (SE.local hk hl hd ⟨name, rfl, by lia, name, rfl, ?_, SE.str ⟨lit, rfl, ?_, ?_⟩⟩))
  · show (Str.empty).length + name.length ≤ 1000000
    have : (Str.empty).length = 0 := rfl
    lia
  · rw [Str.length_append]
    have : (Str.empty).length = 0 := rfl
    lia
  · rw [Str.empty_append]
    exact hq
theorem c_msg3 {X : XPost} {W : En} {l : Loc} {σ : Sto} {name lit y : Str} {x1 : Str} {e : Expr} {p1 p2 p3 p4 p5 : Pos} {k1 : Nat} {Q : V → Sto → Prop} (hk : W.sc.names.lookup x1 = some .local) (hd : (x1 == ("__debug__" : Str)) = false) (hl : l x1 = some (.str name)) (hn : name.length ≤ 1000) (hz : lit.length ≤ 1000) (hy : y.length ≤ 1000)
    (he : SE C X W e l σ fun d σ₁ => d = .str y ∧ σ₁ = σ) (hq : Q (.str (name ++ lit ++ y)) σ) : SE C X W (.JoinedStr [.FormattedValue (.Name x1 p1) (-1) Option.none p2, .Constant (.str lit) k1 p3, .FormattedValue e (-1) Option.none p5] p4) l σ Q := by
  refine SE.joined (SE.fmtStr (SE.local hk hl hd ⟨name, rfl, by lia, name, rfl, ?_, SE.str ⟨lit, rfl, ?_, SE.fmtStr (SE.mono he ?_)⟩⟩))
  · show (Str.empty).length + name.length ≤ 1000000
    have : (Str.empty).length = 0 := rfl
    lia
  · rw [Str.length_append]
    have : (Str.empty).length = 0 := rfl
    lia
  · rintro d σ₁ ⟨rfl, rfl⟩
    refine ⟨y, rfl, by lia, y, rfl, ?_, ?_⟩
    · rw [Str.length_append, Str.length_append]
      have : (Str.empty).length = 0 := rfl
      lia
    · rw [Str.empty_append]; exact hq
theorem c_msg4 {X : XPost} {W : En} {l : Loc} {σ : Sto} {name lit lit2 y : Str} {x1 : Str} {e : Expr} {p1 p2 p3 p4 p5 p6 : Pos} {k1 k2 : Nat} {Q : V → Sto → Prop} (hk : W.sc.names.lookup x1 = some .local) (hd : (x1 == ("__debug__" : Str)) = false) (hl : l x1 = some (.str name)) (hn : name.length ≤ 1000) (hz : lit.length ≤ 1000) (hz2 : lit2.length ≤ 1000) (hy : y.length ≤ 1000)
    (he : SE C X W e l σ fun d σ₁ => d = .str y ∧ σ₁ = σ) (hq : Q (.str (name ++ lit ++ y ++ lit2)) σ) : SE C X W (.JoinedStr [.FormattedValue (.Name x1 p1) (-1) Option.none p2, .Constant (.str lit) k1 p3, .FormattedValue e (-1) Option.none p5, .Constant (.str lit2) k2 p6] p4) l σ Q := by
  refine SE.joined (SE.fmtStr (SE.local hk hl hd ⟨name, rfl, by lia, name, rfl, ?_, SE.str ⟨lit, rfl, ?_, SE.fmtStr (SE.mono he ?_)⟩⟩))
  · show (Str.empty).length + name.length ≤ 1000000
    have : (Str.empty).length = 0 := rfl
    lia
  · rw [Str.length_append]
    have : (Str.empty).length = 0 := rfl
    lia
  · rintro d σ₁ ⟨rfl, rfl⟩
    refine ⟨y, rfl, by lia, y, rfl, ?_, SE.str ⟨lit2, rfl, ?_, ?_⟩⟩
    · rw [Str.length_append, Str.length_append]
      have : (Str.empty).length = 0 := rfl
      lia
    · rw [Str.length_append, Str.length_append, Str.length_append]
      have : (Str.empty).length = 0 := rfl
      lia
    · rw [Str.empty_append]; exact hq

theorem low_needs (n : Nat) (ns : List Need) : lowVs n (needsV ns) := lowVs_of fun d hd => by
  obtain ⟨q, _, rfl⟩ := List.mem_map.mp hd
  unfold needV
  rw [lowV, lowVs, lowVs, lowVs, lowVs]
  exact ⟨by simp [lowV], low_tv n _, low_tv n _, trivial⟩
theorem low_rule (n : Nat) (r : RD) : lowO n (.inst 250 (ruleF r)) := by
  intro f hf
  unfold ruleF at hf
  simp only [List.mem_cons, List.not_mem_nil, or_false] at hf
  rcases hf with rfl | rfl | rfl | rfl
  · simp [lowV]
  · exact low_tv n _
  · exact low_tv n _
  · show lowV n (.tup (needsV r.needs)); rw [lowV]; exact low_needs n _
variable (hT : Ctx1 C)
include hT
theorem cls250 : ClsOk C.K 250 := by
  have hK := hT.K
  exact ⟨by rw [hK]; rfl, by rw [hK]; rfl, by rw [hK]; rfl, by rw [hK]; rfl, by rw [hK]; rfl⟩
inductive InvRi (σ : Sto) (name : Str) (seen : List Str) (left right : T) (needs : List Need) (i : Nat) (d : V) (ds : List V) (l' : Loc) (σ' : Sto) : Prop
  | mk (ns' : List Need) (hds : ds = needsV ns') (ho : Old σ σ') (hnx : σ.nx + 4 ≤ σ'.nx) (hk : σ'.get σ.nx = some (.cell (some (.fl (seen.map V.str))))) (hask : σ'.get (σ.nx + 3) = some (.list (needsV (("alike", right, right) :: needs))))
    (hl : l' "name" = some (.str name) ∧ l' "self" = some (.ref i) ∧ l' "left" = some (tv left) ∧ l' "right" = some (tv right) ∧ l' "needs" = some d)
    (hwr : badN name seen ns' = badN name seen (("alike", right, right) :: needs)) (hok : ∀ q ∈ ns', PyData.strOk q.1 = true ∧ q.1.length ≤ 100 ∧ TAl 5 q.2.1 ∧ TAl 5 q.2.2)
theorem c_ruleInit {i : Nat} {d : V} {r : RD} {QX : List (Str × V) → Sto → Prop} (W : En) (σ : Sto) (Q : V → Sto → Prop) (ok : RDOk r) (okk : ∀ q ∈ r.needs, q.1.length ≤ 100) (hi : σ.get i = some (.inst 250 [])) (hl : IsSeq σ d (needsV r.needs)) (hc : W.calm = true) (hd : 12 ≤ W.d)
    (hq : badF r = none → Q .none (σ.set i (.inst 250 (ruleF r)))) (hx : ∀ m, badF r = some m → QX (whatF m) σ) : SCc C (XF C 60 QX) W σ (.val (.ref 240)) [.ref i, .str r.name, tv r.left, tv r.right, d] Q := by
  have hK := hT.K
  obtain ⟨d', hd'⟩ : ∃ d', W.d = d' + 1 := ⟨W.d - 1, by lia⟩
  refine SCc.weakX ?_
  refine SCc.fn (Xi := XF C 60 fun fs σ₁ => ∃ σ', WeakX σ.nx σ₁ fs σ' ∧ QX fs σ') (d' := d') (a := 240) (by rw [hK]; rfl) (by rw [hK]; rfl) hd' (.of rfl rfl rfl (by decide) (by decide)) ?_ (XLeaves.fly fun _ _ h => h) ?_
  · intro vs hv
    obtain ⟨a, b, c, d, f, rfl⟩ := len5 hv
    rfl
  · intro hcl
    obtain ⟨name, ⟨op, ks⟩, right, needs⟩ := r
    have okall := kind_short ok okk
    obtain ⟨okn, okl, okleft, okright, okneeds, okfew⟩ := ok
    dsimp only at okn okl okleft okright okneeds okfew hl okall
    obtain ⟨σ₀, e0⟩ : ∃ σ₀, σ₀ = σ.push (.cell Option.none) := ⟨_, rfl⟩
    show SS _ _ _ _ _ (σ.push (.cell Option.none)) _
    rw [← e0]
    have hold : Old σ σ₀ := by rw [e0]; exact (Old.refl σ).push hcl _
    have hnx0 : σ₀.nx = σ.nx + 1 := by rw [e0]; rfl
    have hc1 : σ₀.get σ.nx = some (.cell Option.none) := by rw [e0]; exact Sto.get_push_self _ _
    have hop := okleft.1
    have hks := okleft.2.1
    have fault : ∀ {σ₁ : Sto} {m : Str}, Old σ σ₁ → badF ⟨name, .mk op ks, right, needs⟩ = some m → ∃ σ', WeakX σ.nx σ₁ (whatF m) σ' ∧ QX (whatF m) σ' := fun ho hb => ⟨σ, WeakX.old hcl ho, hx _ hb⟩
    wtm_at "s"
    wtm_at "s"
    refine ST.mono (P := PB (aloneT (.mk op ks)) (σ₀)) ?_ ?_
    · refine ST.val rfl (SE.callName rfl (SE.globT hK rfl rfl ⟨Keep.kT hK rfl, SL.cons rfl (SE.local rfl rfl rfl (SL.nil ?_))⟩))
      refine c_is_variable hK (by rw [tvs_length]; lia) (Nat.le_trans (alpha_short hop) (by decide)) (by show 0 < d'; lia) ⟨_, rfl, ?_, rfl⟩
      exact isVar_alone hop
    · rintro b σ' ⟨hb, hs'⟩
      rw [hb, hs']
      by_cases hal : aloneT (.mk op ks) = true
      · (first | refine kif_pos (hal) ?_ | rw [if_pos hal])
        have eb : badF ⟨name, .mk op ks, right, needs⟩ = some (aloneF name) := by unfold badF; rw [if_pos hal]
        wtm_at "s"
        refine c_fault hT hc (by show 3 ≤ d'; lia) rfl rfl ?_
        exact c_msg2 rfl rfl rfl (show name.length ≤ 1000 by lia) (by decide +kernel) ⟨rfl, _, rfl, fault hold eb⟩
      · (first | refine kif_neg (hal) ?_ | rw [if_neg hal])
        have eb : badF ⟨name, .mk op ks, right, needs⟩ = badN name (seenF 5 (.mk op ks)) (("alike", right, right) :: needs) := by unfold badF; rw [if_neg hal]
        repeat wtm_at "s"
        have hL := seenF_ok 5 _ okleft
        have hL6 := alpha_len hL
        have fewv : ∀ {t : T}, TAl 5 t → (varNames t).length < 900 ∧ (firstS [] (varNames t)).length < 64 ∧ (partsT t).length ≤ 100000 := fun {t} ht => by
          have h1 := varNames_few ht
          have h2 := parts_few ht
          have h3 : (firstS [] (varNames t)).length ≤ 6 := by
            have hp := (List.perm_ext_iff_of_nodup (firstS_nodup (varNames t) [] (by simp)) (seenF_ok 5 t ht).1).mpr fun x => by rw [firstS_mem, seen_mem 5 t ht x]; simp
            rw [hp.length_eq]
            exact alpha_len (seenF_ok 5 t ht)
          exact ⟨Nat.lt_of_le_of_lt h1 (by decide), by lia, Nat.le_trans (Nat.le_of_lt (Nat.lt_of_succ_le h2)) (by decide)⟩
        have vars : ∀ {t : T} {X : XPost} {W₁ : En} {σ₁ : Sto} {Q₁ : V → Sto → Prop}, TAl 5 t → W₁.calm = true → 7 ≤ W₁.d → Q₁ (.fl ((seenF 5 t).map V.str)) σ₁ → SC C X W₁ σ₁ (.val (.ref 74)) [tv t] Q₁ := fun {t X W₁ σ₁ Q₁} ht h1 h2 h3 => by
          obtain ⟨a, b, c⟩ := fewv ht
          exact c_variables hK ht.tok (by decide) c b a _ _ _ _ h1 (by lia) (by rw [vars_seen ht]; exact h3)
        refine vars okleft hc (by show 7 ≤ d'; lia) ?_
        refine SG.cell (i := σ.nx) rfl rfl hc1 ?_
        obtain ⟨σ₁, e1⟩ : ∃ σ₁, σ₁ = σ₀.set σ.nx (.cell (some (.fl ((seenF 5 (.mk op ks)).map V.str)))) := ⟨_, rfl⟩
        show SS _ _ _ _ _ (σ₀.set σ.nx (.cell (some (.fl ((seenF 5 (.mk op ks)).map V.str))))) _
        rw [← e1]
        have hold1 : Old σ σ₁ := by rw [e1]; exact hold.set hcl (Nat.le_refl _) _
        have hk1 : σ₁.get σ.nx = some (.cell (some (.fl ((seenF 5 (.mk op ks)).map V.str)))) := by rw [e1, Sto.get_set, if_pos rfl]
        have hnx1 : σ₁.nx = σ.nx + 1 := by rw [e1, Sto.nx_set]; exact hnx0
        have D := data_strs (ss := seenF 5 (.mk op ks)) fun y hy => strOk_alpha y (hL.2 y hy)
        have hlow : Old σ σ₁ := hold1
        -- asked
        wtm_at "s"
        wtm_at "s"
        wtm_at "s"
        repeat wtm_at "s"
        refine SC.listSeq (hl.old (hold1.push hcl _)) (by unfold needsV; rw [List.length_map]; lia) ?_
        have hdisp : ([V.tup [V.str "alike", tv right, tv right]] : List V) ++ needsV needs = needsV (("alike", right, right) :: needs) := rfl
        refine SV.addList (ds := [V.tup [V.str "alike", tv right, tv right]]) (es := needsV needs) (IsL.ref ?_) (IsL.ref (Sto.get_push_self _ _)) (by unfold needsV; rw [List.length_map]; simp; lia) ?_
        · rw [Sto.get_push, if_neg (by rw [Sto.nx_push]; lia)]; exact Sto.get_push_self _ _
        rw [hdisp]
        repeat wtm_at "s"
        obtain ⟨σ₂, e2⟩ : ∃ σ₂, σ₂ = (((σ₁.push (.list [V.tup [V.str "alike", tv right, tv right]])).push (.list (needsV needs))).push (.list (needsV (("alike", right, right) :: needs)))) := ⟨_, rfl⟩
        show S1 _ _ _ _ _ (((σ₁.push (.list [V.tup [V.str "alike", tv right, tv right]])).push (.list (needsV needs))).push (.list (needsV (("alike", right, right) :: needs)))) _
        rw [← e2]
        have hold2 : Old σ σ₂ := by rw [e2]; exact ((hold1.push hcl _).push hcl _).push hcl _
        have hnx2 : σ.nx + 1 ≤ σ₂.nx := by rw [e2, Sto.nx_push, Sto.nx_push, Sto.nx_push]; lia
        have hk2 : σ₂.get σ.nx = some (.cell (some (.fl ((seenF 5 (.mk op ks)).map V.str)))) := by
          rw [e2, Sto.get_push, if_neg (by rw [Sto.nx_push, Sto.nx_push]; lia), Sto.get_push, if_neg (by rw [Sto.nx_push]; lia), Sto.get_push, if_neg (by lia)]; exact hk1
        have hia : (σ.nx + 3 : Nat) = ((σ₁.push (.list [V.tup [V.str "alike", tv right, tv right]])).push (.list (needsV needs))).nx := by rw [Sto.nx_push, Sto.nx_push]; lia
        have hask2 : σ₂.get (σ.nx + 3) = some (.list (needsV (("alike", right, right) :: needs))) := by
          rw [e2, hia]; exact Sto.get_push_self _ _
        rw [← hia]
        refine S1.for XOwn.fly rfl (SIt.list hc (SE.local rfl rfl rfl ⟨_, IsL.ref hask2, ?_⟩))
        have hW : (W.calm = true) := hc
        refine SFor.ind (Inv := InvRi σ name (seenF 5 (.mk op ks)) (.mk op ks) right needs i d) ?_ ?_ _ _ _ ?_
        · rintro dq rq l' σ' ⟨ns', hds, ho', hnx', hk', hask', ⟨hname, hself, hleft, hright, hneeds⟩, hwr, hok'⟩
          cases ns' with
          | nil => cases hds
          | cons q ns' =>
            obtain ⟨kind, one, other⟩ := q
            injection hds with e1 e2
            subst e1; subst e2
            obtain ⟨q1, q12, q2, q3⟩ := hok' _ (.head _)
            dsimp only at q1 q12 q2 q3
            refine ⟨IsL.ref hask', ?_⟩
            refine SG.tuple hc rfl (by decide) ⟨rfl, SG.local rfl ⟨rfl, SG.local rfl ⟨rfl, SG.local rfl ?_⟩⟩⟩
            show SS _ _ _ _ _ _ _
            wtm_at "s"
            wtm_at "s"
            refine ST.mono (P := PB (!(kind == "alike" || kind == "unlike")) (σ')) ?_ ?_
            · repeat wtm_at "s"
              refine SV.notInTup (p := .str kind) (es := (["alike", "unlike"] : List Str).map V.str) (.inl ⟨q1, rfl⟩) (by decide +kernel) (by decide +kernel) (shaped_str q1) ⟨_, rfl, ?_, rfl⟩
              rw [any_strs]
              rw [List.contains_cons, List.contains_cons, List.contains_nil, Bool.or_false]
            · rintro b σ'' ⟨hb, hs''⟩
              rw [hb, hs'']
              cases hkn : (kind == ("alike" : Str) || kind == ("unlike" : Str)) with
              | false =>
                (first | refine kif_pos ((by rfl)) ?_ | rw [if_pos (by rfl)])
                have eb2 : badF ⟨name, .mk op ks, right, needs⟩ = some (name ++ ": there is no need " ++ kind) := by
                  rw [eb, ← hwr, badN, if_neg (by show ¬ ((kind == ("alike" : Str) || kind == ("unlike" : Str)) = true); rw [hkn]; decide)]
                wtm_at "s"
                refine c_fault hT hc (by show 3 ≤ d'; lia) rfl rfl ?_
                refine c_msg3 rfl rfl hname (by lia) (by decide +kernel) (show kind.length ≤ 1000 by lia) (SE.local rfl rfl rfl ⟨rfl, rfl⟩) ⟨rfl, _, rfl, fault ho' eb2⟩
              | true =>
                (first | refine kif_neg ((by decide)) ?_ | rw [if_neg (by decide)])
                have h1 := seenF_ok 5 _ q2
                have h2 := seenF_ok 5 _ q3
                have h16 := alpha_len h1
                have h26 := alpha_len h2
                have hN : ∀ x ∈ seenF 5 one ++ seenF 5 other, x ∈ alpha := fun x hx => by
                  rcases List.mem_append.mp hx with hx | hx
                  · exact h1.2 x hx
                  · exact h2.2 x hx
                wtm_at "s"
                show SS _ _ _ _ _ _ _
                wtm_at "s"
                refine S1.assignComp ⟨rfl, rfl, rfl, rfl, rfl⟩ rfl rfl (SIt.list hc ?_)
                repeat wtm_at "s"
                refine vars q2 hc (by show 7 ≤ d'; lia) ?_
                repeat wtm_at "s"
                refine vars q3 hc (by show 7 ≤ d'; lia) ?_
                refine SV.addList (ds := (seenF 5 one).map V.str) (es := (seenF 5 other).map V.str) IsL.fl IsL.fl (by rw [List.length_map, List.length_map]; lia) ?_
                rw [← List.map_append]
                obtain ⟨σ₄, e4⟩ : ∃ σ₄, σ₄ = σ'.push (.list ((seenF 5 one ++ seenF 5 other).map V.str)) := ⟨_, rfl⟩
                have hl4 : σ₄.get σ'.nx = some (.list ((seenF 5 one ++ seenF 5 other).map V.str)) := by rw [e4]; exact Sto.get_push_self _ _
                have hk4 : σ₄.get σ.nx = some (.cell (some (.fl ((seenF 5 (.mk op ks)).map V.str)))) := by rw [e4, Sto.get_push, if_neg (by lia)]; exact hk'
                have hask4 : σ₄.get (σ.nx + 3) = some (.list (needsV (("alike", right, right) :: needs))) := by rw [e4, Sto.get_push, if_neg (by lia)]; exact hask'
                have ho4 : Old σ σ₄ := by rw [e4]; exact ho'.push hcl _
                have hnx4 : σ.nx + 4 ≤ σ₄.nx := by rw [e4, Sto.nx_push]; lia
                rw [← e4]
                refine ⟨_, IsL.ref hl4, ?_⟩
                refine SCompL.run (p := fun d => match d with | .str x => !(seenF 5 (.mk op ks)).contains x | _ => false) (f := id) (IsL.ref hl4) _ _ _ (by rw [List.length_map, List.length_append]; simp only [List.length_nil]; lia) ?_ ?_
                · intro d hd l
                  obtain ⟨x, hx, rfl⟩ := List.mem_map.mp hd
                  refine SG.local rfl ⟨rfl, ?_⟩
                  show ST _ _ _ _ _ _ _
                  repeat wtm_at "s"
                  refine SV.notInList (p := .str x) (es := (seenF 5 (.mk op ks)).map V.str) (.inl ⟨strOk_alpha x (hN x hx), rfl⟩) IsL.fl D.1 D.2 (shaped_str (strOk_alpha x (hN x hx))) ⟨_, rfl, ?_⟩
                  rw [any_strs]
                  cases hb : (!(seenF 5 (.mk op ks)).contains x) with
                  | true =>
                    (first | refine kif_pos (rfl) ?_ | rw [if_pos rfl])
                    exact ⟨rfl, hb.symm, fun _ => SE.local rfl rfl rfl ⟨rfl, rfl⟩⟩
                  | false =>
                    (first | refine kif_neg ((by decide)) ?_ | rw [if_neg (by decide)])
                    exact ⟨rfl, hb.symm, fun h => by cases h⟩
                · have hfil : (([] : List V) ++ (((seenF 5 one ++ seenF 5 other).map V.str).filter fun d => match d with | .str x => !(seenF 5 (.mk op ks)).contains x | _ => false).map id) = (lostF (seenF 5 (.mk op ks)) (seenF 5 one ++ seenF 5 other)).map V.str := by
                    rw [List.nil_append, List.map_id, List.filter_map]; rfl
                  rw [hfil]
                  have hlost : ∀ x ∈ lostF (seenF 5 (.mk op ks)) (seenF 5 one ++ seenF 5 other), x ∈ alpha := fun x hx => hN x (List.mem_filter.mp hx).1
                  have hwr2 : badN name (seenF 5 (.mk op ks)) ((kind, one, other) :: ns') = match lostF (seenF 5 (.mk op ks)) (seenF 5 one ++ seenF 5 other) with
                    | x :: _ => some (lostMsg name x)
                    | [] => badN name (seenF 5 (.mk op ks)) ns' := by
                    rw [badN, if_pos (by show (kind == ("alike" : Str) || kind == ("unlike" : Str)) = true; exact hkn)]
                    try rfl
                  rw [hwr2] at hwr
                  generalize lostF (seenF 5 (.mk op ks)) (seenF 5 one ++ seenF 5 other) = lost at hwr hlost ⊢
                  wtm_at "s"
                  wtm_at "s"
                  have hold5 : Old σ ((σ₄.push (.list (lost.map V.str))).push (.list [])) := (ho4.push hcl _).push hcl _
                  refine ST.mono (P := PB (!lost.isEmpty) ((σ₄.push (.list (lost.map V.str))).push (.list []))) ?_ ?_
                  · repeat wtm_at "s"
                    refine SV.neData (.inr ⟨lost.map V.str, IsL.ref ?_, (data_strs fun y hy => strOk_alpha y (hlost y hy)).1, rfl⟩) (.inr ⟨[], IsL.ref (Sto.get_push_self _ _), rfl, rfl⟩) (shaped_strs fun y hy => strOk_alpha y (hlost y hy)) (by decide +kernel) ⟨_, rfl, ?_, rfl⟩
                    · rw [Sto.get_push, if_neg (by rw [Sto.nx_push]; lia)]; exact Sto.get_push_self _ _
                    · cases lost with
                      | nil => rfl
                      | cons x r => rfl
                  · rintro b σ'' ⟨hb, hs'⟩
                    rw [hb, hs']
                    cases lost with
                    | cons x r =>
                      (first | refine kif_pos ((by rfl)) ?_ | rw [if_pos (by rfl)])
                      have hx2 := alpha_short (hlost x (.head _))
                      have eb2 : badF ⟨name, .mk op ks, right, needs⟩ = some (lostMsg name x) := by rw [eb, ← hwr]
                      wtm_at "s"
                      refine c_fault hT hc (by show 3 ≤ d'; lia) rfl rfl ?_
                      refine c_msg4 rfl rfl hname (by lia) (by decide +kernel) (by decide +kernel) (show x.length ≤ 1000 by lia) ?_ ⟨rfl, _, rfl, fault hold5 eb2⟩
                      repeat wtm_at "s"
                      exact SI.list (k := 0) (d := .str x) (IsL.ref (by rw [Sto.get_push, if_neg (by rw [Sto.nx_push]; lia)]; exact Sto.get_push_self _ _)) (by decide) (by decide) rfl ⟨rfl, rfl⟩
                    | nil =>
                      (first | refine kif_neg ((by decide)) ?_ | rw [if_neg (by decide)])
                      wtm_at "s"
                      show SS _ _ _ _ _ _ _
                      wtm_at "s"
                      refine ⟨ns', rfl, hold5, ?_, ?_, ?_, ⟨hname, hself, hleft, hright, hneeds⟩, hwr, fun q hq => hok' q (.tail _ hq)⟩
                      · rw [Sto.nx_push, Sto.nx_push]; lia
                      · rw [Sto.get_push, if_neg (by rw [Sto.nx_push]; lia), Sto.get_push, if_neg (by lia)]; exact hk4
                      · rw [Sto.get_push, if_neg (by rw [Sto.nx_push]; lia), Sto.get_push, if_neg (by lia)]; exact hask4
        · rintro l' σ' ⟨ns', hds, ho', hnx', hk', hask', ⟨hname, hself, hleft, hright, hneeds⟩, hwr, hok'⟩
          cases ns' with
          | cons q r => cases hds
          | nil =>
            refine ⟨IsL.ref hask', ?_⟩
            have eb2 : badF ⟨name, .mk op ks, right, needs⟩ = Option.none := by rw [eb, ← hwr, badN]
            have cls := cls250 hT
            have hgi : σ'.get i = some (.inst 250 []) := ho'.get i _ hi
            have hilt := (hcl i _ hi).1
            refine SS.cons (S1.assign rfl rfl rfl (SE.local rfl hname rfl (SG.field (SE.local rfl hself rfl ⟨i, 250, [], rfl, hgi, cls, by rw [hK]; rfl, by simp, ?_⟩))))
            show SS _ _ _ _ _ (σ'.set i (.inst 250 [("name", .str name)])) _
            refine SS.cons (S1.assign rfl rfl rfl (SE.local rfl hleft rfl (SG.field (SE.local rfl hself rfl ⟨i, 250, [("name", .str name)], rfl, by rw [Sto.get_set, if_pos rfl], cls, by rw [hK]; rfl, by simp, ?_⟩))))
            rw [Sto.set_set]
            show SS _ _ _ _ _ (σ'.set i (.inst 250 [("name", .str name), ("left", tv (.mk op ks))])) _
            refine SS.cons (S1.assign rfl rfl rfl (SE.local rfl hright rfl (SG.field (SE.local rfl hself rfl ⟨i, 250, [("name", .str name), ("left", tv (.mk op ks))], rfl, by rw [Sto.get_set, if_pos rfl], cls, by rw [hK]; rfl, by simp, ?_⟩))))
            rw [Sto.set_set]
            show SS _ _ _ _ _ (σ'.set i (.inst 250 [("name", .str name), ("left", tv (.mk op ks)), ("right", tv right)])) _
            have hseq : IsSeq (σ'.set i (.inst 250 [("name", .str name), ("left", tv (.mk op ks)), ("right", tv right)])) d (needsV needs) := by
              rcases hl.old ho' with (h | ⟨j, h, hj⟩) | h
              · exact .inl (.inl h)
              · refine .inl (.inr ⟨j, h, ?_⟩)
                rw [Sto.get_set, if_neg (fun z => by rw [z, hgi] at hj; cases hj)]; exact hj
              · exact .inr h
            refine SS.cons (S1.assign rfl rfl rfl (SE.callName rfl (SE.bltT hK rfl rfl rfl (by decide) ⟨Keep.type, SL.cons rfl (SE.local rfl hneeds rfl (SL.nil (SC.tupSeq hseq (by unfold needsV; rw [List.length_map]; lia) (SG.field (SE.local rfl hself rfl ⟨i, 250, [("name", .str name), ("left", tv (.mk op ks)), ("right", tv right)], rfl, by rw [Sto.get_set, if_pos rfl], cls, by rw [hK]; rfl, by simp, ?_⟩)))))⟩)))
            rw [Sto.set_set]
            show SS _ _ _ _ _ (σ'.set i (.inst 250 (ruleF ⟨name, .mk op ks, right, needs⟩))) _
            refine SS.nil ⟨σ.set i (.inst 250 (ruleF ⟨name, .mk op ks, right, needs⟩)), .none, ⟨Nat.le_refl _, ho'.le, fun j o hj => ?_, Closed.set hcl hilt (low_rule _ _), .keep (by simp [lowV])⟩, hq eb2⟩
            rw [Sto.get_set] at hj ⊢
            by_cases z : j = i
            · rw [if_pos z] at hj ⊢; exact hj
            · rw [if_neg z] at hj ⊢; exact ho'.get j o hj
        · refine ⟨_, rfl, hold2, ?_, hk2, hask2, ⟨rfl, rfl, rfl, rfl, rfl⟩, rfl, okall⟩
          rw [e2, Sto.nx_push, Sto.nx_push, Sto.nx_push]; lia
end
/- part CE5 -/
set_option maxHeartbeats 1000000
open PySem PySem.W PySem.Calls PyProof.Rows PySem.SeqAt
theorem _root_.Mine.Sto.push_set (σ : Sto) (a b : O) : (σ.push a).set σ.nx b = σ.push b := by
  unfold Sto.push Sto.set
  congr 1
  funext i
  by_cases h : i = σ.nx <;> simp [h]
theorem SCc.weakXe {C : Cx} {c : Addr} {QX : List (Str × V) → Sto → Prop} {W : En} {σ : Sto} {f : V} {ds : List V} {Q : V → Sto → Prop}
    (h : SCc C (XF C c fun fs σ₁ => ∃ σ', WeakX σ.nx σ₁ fs σ' ∧ QX fs σ') W σ f ds Q) : SCc C (XF C c QX) W σ f ds Q :=
  fun g A L s fv vs R hA hf hv => codeAny_mono (h g A L s fv vs R hA hf hv) fun r s' z => by
    cases r with
    | error e => exact XD.weak R z
    | ok fl => cases fl <;> exact z
theorem SCc.closed {C : Cx} {X : XPost} {W : En} {σ : Sto} {f : V} {ds : List V} {Q : V → Sto → Prop} (h : σ.Closed → SCc C X W σ f ds Q) : SCc C X W σ f ds Q := fun g A L s fv vs R => h R.closed g A L s fv vs R
structure RuleOk (r : RD) : Prop extends RDOk r where
  kinds : ∀ q ∈ r.needs, q.1.length ≤ 100
noncomputable def backR (r : RD) : RD := ⟨r.name ++ "-back", r.right, r.left, r.needs⟩
theorem RuleOk.back {r : RD} (h : RuleOk r) (hl : r.name.length ≤ 90) (hs : PyData.strOk (r.name ++ "-back") = true) : RuleOk (backR r) :=
  ⟨⟨hs, by show (r.name ++ "-back").length ≤ 100; rw [Str.length_append, show ("-back" : Str).length = 5 from by decide +kernel]; lia, h.right, h.left, h.needs, h.few⟩, h.kinds⟩
section
variable {C : Cx} (hT : Ctx1 C)
include hT
/-- Rule(..) -/
theorem c_rule {d : V} {r : RD} {QX : List (Str × V) → Sto → Prop} (W : En) (σ : Sto) (Q : V → Sto → Prop) (ok : RuleOk r) (hl : IsSeq σ d (needsV r.needs)) (hc : W.calm = true) (hd : 13 ≤ W.d)
    (hq : badF r = none → Q (.ref σ.nx) (σ.push (.inst 250 (ruleF r)))) (hx : ∀ m, badF r = some m → QX (whatF m) σ) : SCc C (XF C 60 QX) W σ (.val (.ref 250)) [.str r.name, tv r.left, tv r.right, d] Q := by
  have hK := hT.K
  refine SCc.closed fun hcl => SCc.weakXe ?_
  refine SCc.cls (fI := 240) (by lia) (by rw [hK]; rfl) (by rw [hK]; rfl) (by rw [hK]; rfl) ?_
  have ho : Old σ (σ.push (.inst 250 [])) := (Old.refl σ).push hcl _
  refine c_ruleInit hT _ _ _ ok.toRDOk ok.kinds (Sto.get_push_self _ _) (hl.old ho) hc (by show 12 ≤ W.d - 1; lia) (fun hb => ⟨rfl, ?_⟩) fun m hb => ⟨σ, WeakX.old hcl ho, hx m hb⟩
  rw [Sto.push_set]
  exact hq hb
/-- Rule.turned -/
theorem c_turned {i : Nat} {r : RD} {QX : List (Str × V) → Sto → Prop} (W : En) (σ : Sto) (Q : V → Sto → Prop) (ok : RuleOk (backR r)) (hlen : r.name.length ≤ 100) (hi : σ.get i = some (.inst 250 (ruleF r))) (hc : W.calm = true) (hd : 14 ≤ W.d)
    (hq : badF (backR r) = none → Q (.ref σ.nx) (σ.push (.inst 250 (ruleF (backR r))))) (hx : ∀ m, badF (backR r) = some m → QX (whatF m) σ) : SCc C (XF C 60 QX) W σ (.val (.ref 247)) [.ref i] Q := by
  have hK := hT.K
  obtain ⟨d', hd'⟩ : ∃ d', W.d = d' + 1 := ⟨W.d - 1, by lia⟩
  refine SCc.fn (Xi := XF C 60 QX) (d' := d') (a := 247) (by rw [hK]; rfl) (by rw [hK]; rfl) hd' (.of rfl rfl rfl (by decide) (by decide)) ?_ (XLeaves.fly fun _ _ h => h) ?_
  · intro vs hv
    obtain ⟨a, rfl⟩ := len1 hv
    rfl
  · intro hcl
    show SS _ _ _ _ _ σ _
    have cls := cls250 hT
    wtm_at "s"
    wtm_at "s"
    refine SE.callName rfl (SE.globT hK rfl rfl ⟨Keep.kT hK rfl, SL.cons rfl (SE.bin (SE.field (fun _ _ => rfl) (fun _ _ => rfl) (SE.local rfl rfl rfl ⟨i, 250, ruleF r, .str r.name, rfl, hi, cls, by rw [hK]; rfl, rfl, rfl, SE.str (SV.addStr (by lia) (by decide +kernel) ?_)⟩)))⟩)
    refine SL.cons rfl (SE.field (fun _ _ => rfl) (fun _ _ => rfl) (SE.local rfl rfl rfl ⟨i, 250, ruleF r, tv r.right, rfl, hi, cls, by rw [hK]; rfl, rfl, handed_tv _, ?_⟩))
    refine SL.cons rfl (SE.field (fun _ _ => rfl) (fun _ _ => rfl) (SE.local rfl rfl rfl ⟨i, 250, ruleF r, tv r.left, rfl, hi, cls, by rw [hK]; rfl, rfl, handed_tv _, ?_⟩))
    refine SL.cons rfl (SE.field (fun _ _ => rfl) (fun _ _ => rfl) (SE.local rfl rfl rfl ⟨i, 250, ruleF r, .tup (needsV r.needs), rfl, hi, cls, by rw [hK]; rfl, rfl, rfl, ?_⟩))
    refine SL.nil (SC.ofCode (c_rule hT (r := backR r) _ _ _ ok (.inr rfl) hc (by show 13 ≤ d'; lia) hq hx))
end
/- part CE6 -/
set_option maxHeartbeats 1000000
open PySem PySem.W PySem.Calls PyProof.Rows PySem.SeqAt
section
variable {C : Cx} {X : XPost} {W : En} {l : Loc} {σ : Sto}
/-- self.name = e -/
theorem S1.setF {i : Nat} {c : Addr} {name : Str} {e : Expr} {p1 p2 p3 : Pos} {Q : Fl → Loc → Sto → Prop} (hk : W.sc.names.lookup ("self" : Str) = some .local) (hs : l "self" = some (.ref i)) (ok : ClsOk C.K c) (ht : takerIn C.K c name = some Option.none) (hn : notComp e = true)
    (hw : swappedStores [.Attribute (.Name "self" p1) name p2] e (envS W.sc) = pure Option.none)
    (h : SE C X W e l σ fun d σ₁ => ∃ fs, σ₁.get i = some (.inst c fs) ∧ fs.length ≤ 1000 ∧ Q .next l (σ₁.set i (.inst c (putF name d fs)))) : S1 C X W (.Assign [.Attribute (.Name "self" p1) name p2] e p3) l σ Q := by
  refine S1.assign hn hw rfl (SE.mono h ?_)
  rintro d σ₁ ⟨fs, hg, hz, q⟩
  exact SG.field (SE.local hk hs (by decide) ⟨i, c, fs, rfl, hg, ok, ht, hz, q⟩)
theorem SV.notInTupK {a : Addr} {vs : List Value} {ss : List Str} {x : Str} {Q : V → Sto → Prop} (ha : C.K.lookup a = some (tupObj vs)) (hv : StrsAre vs ss) (hss : ∀ y ∈ ss, PyData.strOk y = true) (hx : PyData.strOk x = true) (h : Q (.bool (!ss.contains x)) σ) : SV C X W σ [.str x, .val (.ref a)] (tCmp .NotIn) Q := by
  rintro g A L s _ R hA ⟨v, _, rfl, hv', u, _, rfl, rfl, rfl⟩
  obtain ⟨t, rfl⟩ := hv'
  obtain ⟨D1, D2⟩ := data_strs hss
  have rd : ∀ {vs : List Value} {ss : List Str}, StrsAre vs ss → ∃ as, ReadsAll s.heap vs (pds (ss.map V.str)) as := by
    intro vs ss h
    induction h with
    | nil => exact ⟨_, .nil⟩
    | cons y t _ ih => obtain ⟨as, ra⟩ := ih; exact ⟨_, .cons (.str y t) ra⟩
  obtain ⟨as, ra⟩ := rd hv
  obtain ⟨bs, rb⟩ : ∃ bs, Reads s.heap (.ref a) (.tuple (pds (ss.map V.str))) bs := ⟨_, .tuple (R.kin _ _ ha) rfl rfl (by simpa using ra)⟩
  refine PySem.SeqAt.notIn_tuple_reads rb (Reads.str x t) D2 (canLay_of_shaped (shaped_str hx)) (depthIn (shaped_str hx) (by have := hA.units; lia)) ?_
  rw [any_strs]
  exact Up.here (d := .bool _) R rfl h
end
theorem ruleName_low (n : Nat) (x : Str) : lowV n (.str x) := by simp [lowV]
noncomputable def badRun (word : Str) (names : List Str) : Option Str :=
  if (["together", "turns", "rests"] : List Str).contains word then (if (firstS [] names).length < names.length then some "two rules have one name" else none) else some "there is no such order"
/-- rules that stand in the store -/
noncomputable def RulesAt (σ : Sto) (rl : List (Nat × RD)) : Prop := ∀ x ∈ rl, σ.get x.1 = some (.inst 250 (ruleF x.2))
theorem RulesAt.old {σ σ₁ : Sto} {rl : List (Nat × RD)} (h : RulesAt σ rl) (o : Old σ σ₁) : RulesAt σ₁ rl := fun x hx => o.get _ _ (h x hx)
noncomputable def nameAt (σ : Sto) : V → V
  | .ref i => match σ.get i with
    | some (.inst _ fs) => (lookF fs "name").getD .none
    | _ => .none
  | _ => .none
theorem nameAt_of {σ : Sto} {i : Nat} {r : RD} (h : σ.get i = some (.inst 250 (ruleF r))) : nameAt σ (.ref i) = .str r.name := by
  simp only [nameAt, h]; rfl
/-- an object that is being made -/
structure RunSt (σ σ' : Sto) (c : Addr) (fs : List (Str × V)) : Prop where
  old : Old σ σ'
  get : σ'.get σ.nx = some (.inst c fs)
  nx : σ.nx < σ'.nx
theorem RunSt.put {σ σ' : Sto} {c : Addr} {fs : List (Str × V)} (h : RunSt σ σ' c fs) (hc : σ.Closed) (fs' : List (Str × V)) : RunSt σ (σ'.set σ.nx (.inst c fs')) c fs' :=
  ⟨h.old.set hc (Nat.le_refl _) _, by rw [Sto.get_set, if_pos rfl], by rw [Sto.nx_set]; exact h.nx⟩
theorem RunSt.push {σ σ' : Sto} {c : Addr} {fs : List (Str × V)} (h : RunSt σ σ' c fs) (hc : σ.Closed) (o : O) : RunSt σ (σ'.push o) c fs :=
  ⟨h.old.push hc _, by rw [Sto.get_push, if_neg (Nat.ne_of_lt h.nx)]; exact h.get, by rw [Sto.nx_push]; have := h.nx; lia⟩
theorem RunSt.more {σ σ' σ'' : Sto} {c : Addr} {fs : List (Str × V)} (h : RunSt σ σ' c fs) (o : Old σ' σ'') : RunSt σ σ'' c fs :=
  ⟨h.old.trans o, o.get _ _ h.get, Nat.lt_of_lt_of_le h.nx o.le⟩
section
variable {C : Cx} (hT : Ctx1 C)
include hT
theorem cls353 : ClsOk C.K 353 := by
  have hK := hT.K
  exact ⟨by rw [hK]; rfl, by rw [hK]; rfl, by rw [hK]; rfl, by rw [hK]; rfl, by rw [hK]; rfl⟩
/-- Runner(..) -/
theorem c_runner {h jr jo : Nat} {rl : List (Nat × RD)} {word : Str} {QX : List (Str × V) → Sto → Prop} (W : En) (σ : Sto) (Q : V → Sto → Prop) (hr : σ.get jr = some (.list (rl.map fun x => .ref x.1))) (hrl : RulesAt σ rl) (hfew : rl.length ≤ 100) (hopt : σ.get jo = some (.dict (skv [("order", .str word)]))) (hword : PyData.strOk word = true)
    (hc : W.calm = true) (hd : 13 ≤ W.d) (hq : badRun word (rl.map (·.2.name)) = Option.none → ∀ σ', Old σ σ' → Q (.ref σ.nx) σ') (hx : ∀ m, badRun word (rl.map (·.2.name)) = some m → QX (whatF m) σ) : SCc C (XF C 60 QX) W σ (.val (.ref 353)) [.ref h, .ref jr, .ref jo] Q := by
  have hK := hT.K
  refine SCc.closed fun hcl => SCc.weakXe ?_
  refine SCc.cls (fI := 308) (by lia) (by rw [hK]; rfl) (by rw [hK]; rfl) (by rw [hK]; rfl) ?_
  have ho : Old σ (σ.push (.inst 353 [])) := (Old.refl σ).push hcl _
  have hg0 : (σ.push (.inst 353 [])).get σ.nx = some (.inst 353 []) := Sto.get_push_self _ _
  have hnx0 : σ.nx < (σ.push (.inst 353 [])).nx := Nat.lt_succ_self _
  generalize σ.push (.inst 353 []) = σ₁ at ho hg0 hnx0 ⊢
  obtain ⟨d', hd'⟩ : ∃ d', W.dec.d = d' + 1 := ⟨W.d - 2, by show W.d - 1 = _; lia⟩
  have hdd : 11 ≤ d' := by have : W.d - 1 = d' + 1 := hd'; lia
  refine SCc.fn (Xi := XF C 60 fun fs σ₁ => ∃ σ', WeakX σ.nx σ₁ fs σ' ∧ QX fs σ') (d' := d') (a := 308) (by rw [hK]; rfl) (by rw [hK]; rfl) hd' (.of rfl rfl rfl (by decide) (by decide)) ?_ (XLeaves.fly fun _ _ h => h) ?_
  · intro vs hv
    obtain ⟨a, b, c, d, rfl⟩ := len4 hv
    rfl
  · intro hcl1
    show SS _ _ _ _ _ σ₁ _
    have fault : ∀ {σ₁ : Sto} {m : Str}, Old σ σ₁ → badRun word (rl.map (·.2.name)) = some m → ∃ σ', WeakX σ.nx σ₁ (whatF m) σ' ∧ QX (whatF m) σ' := fun ho hb => ⟨σ, WeakX.old hcl ho, hx _ hb⟩
    wtm_at "s"
    wtm_at "s"
    refine ST.mono (P := PB (!(["together", "turns", "rests"] : List Str).contains word) (σ₁)) ?_ ?_
    · wtm_at "s"
      refine SE.meth rfl (fun _ => rfl) (SE.local rfl rfl rfl (SM.dict (sk := [("order", .str word)]) (ho.get _ _ hopt) PySem.F.slot_dict_get PySem.F.type_dict_get ⟨Keep.builtin, SL.cons rfl (SE.str (SL.cons rfl (SE.str (SL.nil ?_))))⟩))
      refine SC.dictGet2 (sk := [("order", .str word)]) (ho.get _ _ hopt) (by show ([("order" : Str)]).Nodup; simp) ?_
      have hlk : (lookS [("order", V.str word)] "order").getD (V.str "together") = .str word := rfl
      rw [hlk]
      repeat wtm_at "s"
      refine SV.notInTupK (ss := ["together", "turns", "rests"]) (by rw [hK]; rfl) (.cons _ _ (.cons _ _ (.cons _ _ .nil))) (by decide +kernel) hword ⟨_, rfl, rfl, rfl⟩
    · rintro b σ' ⟨hb, hs'⟩
      rw [hb, hs']
      cases hw : (["together", "turns", "rests"] : List Str).contains word with
      | false =>
        (first | refine kif_pos ((by rfl)) ?_ | rw [if_pos (by rfl)])
        wtm_at "s"
        refine c_fault hT hc (by show 3 ≤ d'; lia) rfl rfl (SE.str ⟨rfl, _, rfl, fault ho ?_⟩)
        unfold badRun; rw [if_neg (by rw [hw]; decide)]
      | true =>
        (first | refine kif_neg ((by decide)) ?_ | rw [if_neg (by decide)])
        wtm_at "s"
        show SS _ _ _ _ _ σ₁ _
        have hr1 := ho.get _ _ hr
        have hrl1 := hrl.old ho
        refine SS.cons (S1.assignComp ⟨rfl, rfl, rfl, rfl, rfl⟩ rfl rfl (SIt.list hc (SE.local rfl rfl rfl ⟨_, IsL.ref hr1, ?_⟩)))
        have cls := cls250 hT
        refine SCompL.run (p := fun _ => true) (f := nameAt σ₁) (IsL.ref hr1) _ _ _ (by rw [List.length_map]; simp only [List.length_nil]; lia) ?_ ?_
        · intro d hd l
          obtain ⟨x, hx, rfl⟩ := List.mem_map.mp hd
          refine SG.local rfl ⟨rfl, rfl, rfl, fun _ => ?_⟩
          refine SE.field (fun _ _ => rfl) (fun _ _ => rfl) (SE.local rfl rfl rfl ⟨x.1, 250, ruleF x.2, .str x.2.name, rfl, hrl1 x hx, cls, by rw [hK]; rfl, rfl, rfl, rfl, ?_⟩)
          exact (nameAt_of (hrl1 x hx)).symm
        · have hnames : (([] : List V) ++ ((rl.map fun x => V.ref x.1).filter fun _ => true).map (nameAt σ₁)) = (rl.map (·.2.name)).map V.str := by
            rw [List.nil_append, List.filter_eq_self.mpr fun _ _ => rfl, List.map_map, List.map_map]
            refine List.map_congr_left fun x hx => ?_
            exact nameAt_of (hrl1 x hx)
          rw [hnames]
          show KNx _ _ _ _ _ .next (Loc.set _ _ (.ref σ₁.nx)) (σ₁.push (.list _))
          have hnl : (rl.map (·.2.name)).length ≤ 100 := by rw [List.length_map]; exact hfew
          generalize hnm : rl.map (·.2.name) = names at fault hnl hq ⊢
          have ho2 : Old σ (σ₁.push (.list (names.map V.str))) := ho.push hcl _
          have hg2 : (σ₁.push (.list (names.map V.str))).get σ.nx = some (.inst 353 []) := by rw [Sto.get_push, if_neg (by lia)]; exact hg0
          have hl2 : (σ₁.push (.list (names.map V.str))).get σ₁.nx = some (.list (names.map V.str)) := Sto.get_push_self _ _
          have hnx2 : σ.nx < (σ₁.push (.list (names.map V.str))).nx := by rw [Sto.nx_push]; lia
          generalize hi2 : σ₁.nx = in2 at hl2 ⊢
          generalize σ₁.push (.list (names.map V.str)) = σ₂ at ho2 hg2 hl2 hnx2 ⊢
          wtm_at "s"
          wtm_at "s"
          refine ST.mono (P := PB (decide ((firstS [] names).length < names.length)) (σ₂)) ?_ ?_
          · repeat wtm_at "s"
            refine SC.setStrs (ss := names) hc (IsL.ref hl2) (by lia) ?_
            have hfl : (firstS [] names).length ≤ names.length := by
              have : ∀ (ss acc : List Str), (firstS acc ss).length ≤ acc.length + ss.length := by
                intro ss
                induction ss with
                | nil => intro acc; simp [firstS]
                | cons y r ih =>
                  intro acc
                  rw [firstS]
                  refine Nat.le_trans (ih _) ?_
                  split
                  · simp only [List.length_cons]; lia
                  · rw [List.length_append]; simp only [List.length_cons, List.length_nil]; lia
              simpa using this names []
            repeat wtm_at "s"
            refine SC.lenSet (by rw [List.length_map]; lia) ?_
            repeat wtm_at "s"
            refine SC.lenList (IsL.ref hl2) (by rw [List.length_map]; lia) (SV.ltInt ⟨_, rfl, ?_, rfl⟩)
            rw [List.length_map, List.length_map]
            simp
          · rintro b σ' ⟨hb, hs'⟩
            rw [hb, hs']
            by_cases hdup : (firstS [] names).length < names.length
            · (first | refine kif_pos ((by simpa using hdup)) ?_ | rw [if_pos (by simpa using hdup)])
              wtm_at "s"
              refine c_fault hT hc (by show 3 ≤ d'; lia) rfl rfl (SE.str ⟨rfl, _, rfl, fault ho2 ?_⟩)
              unfold badRun; rw [if_pos hw, if_pos hdup]
            · (first | refine kif_neg ((by simpa using hdup)) ?_ | rw [if_neg (by simpa using hdup)])
              have hb2 : badRun word names = Option.none := by unfold badRun; rw [if_pos hw, if_neg hdup]
              wtm_at "s"
              show SS _ _ _ _ _ σ₂ _
              have cls3 := cls353 hT
              have fin := hq hb2
              have s0 : RunSt σ σ₂ 353 [] := ⟨ho2, hg2, hnx2⟩
              refine SS.cons (S1.setF rfl rfl cls3 (by rw [hK]; rfl) rfl rfl (SE.local rfl rfl rfl ⟨_, s0.get, by simp, ?_⟩))
              have s1 := s0.put hcl [("heap", .ref h)]
              show SS _ _ _ _ _ (σ₂.set σ.nx (.inst 353 [("heap", .ref h)])) _
              generalize σ₂.set σ.nx (.inst 353 [("heap", .ref h)]) = σ₃ at s1 ⊢
              refine SS.cons (S1.setF rfl rfl cls3 (by rw [hK]; rfl) rfl rfl (SE.callName rfl (SE.bltT hK rfl rfl rfl (by decide) ⟨Keep.type, SL.cons rfl (SE.local rfl rfl rfl (SL.nil (SC.listList (IsL.ref (s1.old.get _ _ hr)) (by rw [List.length_map]; lia) ⟨_, (s1.push hcl _).get, by simp, ?_⟩)))⟩)))
              have s2 := (s1.push hcl (.list (rl.map fun x => .ref x.1))).put hcl [("heap", .ref h), ("rules", .ref σ₃.nx)]
              have hrr : ((σ₃.push (.list (rl.map fun x => .ref x.1))).set σ.nx (.inst 353 [("heap", .ref h), ("rules", .ref σ₃.nx)])).get σ₃.nx = some (.list (rl.map fun x => .ref x.1)) := by
                rw [Sto.get_set, if_neg (Nat.ne_of_gt s1.nx)]; exact Sto.get_push_self _ _
              have hrl : σ.nx < σ₃.nx := s1.nx
              show SS _ _ _ _ _ ((σ₃.push (.list (rl.map fun x => .ref x.1))).set σ.nx (.inst 353 [("heap", .ref h), ("rules", .ref σ₃.nx)])) _
              generalize (σ₃.push (.list (rl.map fun x => .ref x.1))).set σ.nx (.inst 353 [("heap", .ref h), ("rules", .ref σ₃.nx)]) = σ₄ at s2 hrr ⊢
              generalize σ₃.nx = jr2 at s2 hrr hrl ⊢
              refine SS.cons (S1.setF rfl rfl cls3 (by rw [hK]; rfl) rfl rfl (SE.local rfl rfl rfl ⟨_, s2.get, by simp, ?_⟩))
              have s3 := s2.put hcl [("heap", .ref h), ("rules", .ref jr2), ("options", .ref jo)]
              have hrr3 : (σ₄.set σ.nx (.inst 353 [("heap", .ref h), ("rules", .ref jr2), ("options", .ref jo)])).get jr2 = some (.list (rl.map fun x => .ref x.1)) := by rw [Sto.get_set, if_neg (Nat.ne_of_gt hrl)]; exact hrr
              show SS _ _ _ _ _ (σ₄.set σ.nx (.inst 353 [("heap", .ref h), ("rules", .ref jr2), ("options", .ref jo)])) _
              generalize σ₄.set σ.nx (.inst 353 [("heap", .ref h), ("rules", .ref jr2), ("options", .ref jo)]) = σ₅ at s3 hrr3 ⊢
              refine SS.closed fun hcl5 => ?_
              refine SS.cons (S1.setF rfl rfl cls3 (by rw [hK]; rfl) rfl rfl (SE.callName rfl (SE.globT hK rfl rfl ⟨Keep.kT hK rfl, SL.cons rfl (SE.local rfl rfl rfl (SL.nil (c_walker hK _ _ _ _ hcl5 hc (by show 4 ≤ d'; lia) fun τ hτ => ⟨_, (s3.more hτ).get, by simp, ?_⟩)))⟩)))
              have s4 := (s3.more hτ).put hcl [("heap", .ref h), ("rules", .ref jr2), ("options", .ref jo), ("walker", .ref σ₅.nx)]
              have hrr4 : (τ.set σ.nx (.inst 353 [("heap", .ref h), ("rules", .ref jr2), ("options", .ref jo), ("walker", .ref σ₅.nx)])).get jr2 = some (.list (rl.map fun x => .ref x.1)) := by rw [Sto.get_set, if_neg (Nat.ne_of_gt hrl)]; exact hτ.get _ _ hrr3
              show SS _ _ _ _ _ (τ.set σ.nx (.inst 353 [("heap", .ref h), ("rules", .ref jr2), ("options", .ref jo), ("walker", .ref σ₅.nx)])) _
              generalize τ.set σ.nx (.inst 353 [("heap", .ref h), ("rules", .ref jr2), ("options", .ref jo), ("walker", .ref σ₅.nx)]) = σ₆ at s4 hrr4 ⊢
              generalize σ₅.nx = jw at s4 ⊢
              refine SS.closed fun hcl6 => ?_
              refine SS.cons (S1.setF rfl rfl cls3 (by rw [hK]; rfl) rfl rfl (SE.callName rfl (SE.globT hK rfl rfl ⟨Keep.kT hK rfl, SL.cons rfl (SE.local rfl rfl rfl (SL.nil (c_placer hK _ _ _ _ hcl6 hc (by show 4 ≤ d'; lia) fun τ hτ => ⟨_, (s4.more hτ).get, by simp, ?_⟩)))⟩)))
              have s5 := (s4.more hτ).put hcl [("heap", .ref h), ("rules", .ref jr2), ("options", .ref jo), ("walker", .ref jw), ("placer", .ref σ₆.nx)]
              have hrr5 : (τ.set σ.nx (.inst 353 [("heap", .ref h), ("rules", .ref jr2), ("options", .ref jo), ("walker", .ref jw), ("placer", .ref σ₆.nx)])).get jr2 = some (.list (rl.map fun x => .ref x.1)) := by rw [Sto.get_set, if_neg (Nat.ne_of_gt hrl)]; exact hτ.get _ _ hrr4
              show SS _ _ _ _ _ (τ.set σ.nx (.inst 353 [("heap", .ref h), ("rules", .ref jr2), ("options", .ref jo), ("walker", .ref jw), ("placer", .ref σ₆.nx)])) _
              generalize τ.set σ.nx (.inst 353 [("heap", .ref h), ("rules", .ref jr2), ("options", .ref jo), ("walker", .ref jw), ("placer", .ref σ₆.nx)]) = σ₇ at s5 hrr5 ⊢
              generalize σ₆.nx = jp at s5 ⊢
              refine SS.closed fun hcl7 => ?_
              have hj7 : jr2 < σ₇.nx := (hcl7 _ _ hrr5).1
              refine SS.cons (S1.setF rfl rfl cls3 (by rw [hK]; rfl) rfl rfl (SE.list (SL.nil ⟨lenOk rfl, _, (s5.push hcl _).get, by simp, ?_⟩)))
              have s6 := (s5.push hcl (.list [])).put hcl [("heap", .ref h), ("rules", .ref jr2), ("options", .ref jo), ("walker", .ref jw), ("placer", .ref jp), ("history", .ref σ₇.nx)]
              have hrr6 : ((σ₇.push (.list [])).set σ.nx (.inst 353 [("heap", .ref h), ("rules", .ref jr2), ("options", .ref jo), ("walker", .ref jw), ("placer", .ref jp), ("history", .ref σ₇.nx)])).get jr2 = some (.list (rl.map fun x => .ref x.1)) := by
                rw [Sto.get_set, if_neg (Nat.ne_of_gt hrl), Sto.get_push, if_neg (Nat.ne_of_lt hj7)]; exact hrr5
              show SS _ _ _ _ _ ((σ₇.push (.list [])).set σ.nx (.inst 353 [("heap", .ref h), ("rules", .ref jr2), ("options", .ref jo), ("walker", .ref jw), ("placer", .ref jp), ("history", .ref σ₇.nx)])) _
              generalize (σ₇.push (.list [])).set σ.nx (.inst 353 [("heap", .ref h), ("rules", .ref jr2), ("options", .ref jo), ("walker", .ref jw), ("placer", .ref jp), ("history", .ref σ₇.nx)]) = σ₈ at s6 hrr6 ⊢
              generalize σ₇.nx = jh at s6 hj7 ⊢
              refine SS.cons (S1.setF rfl rfl cls3 (by rw [hK]; rfl) rfl rfl (SE.int ⟨_, s6.get, by simp, ?_⟩))
              have s7 := s6.put hcl [("heap", .ref h), ("rules", .ref jr2), ("options", .ref jo), ("walker", .ref jw), ("placer", .ref jp), ("history", .ref jh), ("rounds", .int 0)]
              have hrr7 : (σ₈.set σ.nx (.inst 353 [("heap", .ref h), ("rules", .ref jr2), ("options", .ref jo), ("walker", .ref jw), ("placer", .ref jp), ("history", .ref jh), ("rounds", .int 0)])).get jr2 = some (.list (rl.map fun x => .ref x.1)) := by
                rw [Sto.get_set, if_neg (Nat.ne_of_gt hrl)]; exact hrr6
              show SS _ _ _ _ _ (σ₈.set σ.nx (.inst 353 [("heap", .ref h), ("rules", .ref jr2), ("options", .ref jo), ("walker", .ref jw), ("placer", .ref jp), ("history", .ref jh), ("rounds", .int 0)])) _
              generalize σ₈.set σ.nx (.inst 353 [("heap", .ref h), ("rules", .ref jr2), ("options", .ref jo), ("walker", .ref jw), ("placer", .ref jp), ("history", .ref jh), ("rounds", .int 0)]) = σ₉ at s7 hrr7 ⊢
              have mul : ∀ {W₁ : En} {l₁ : Loc} {σ₁ : Sto} {fs : List (Str × V)} {Q₁ : V → Sto → Prop} {p1 p2 p3 p4 p5 p6 p7 p8 : Pos} {k1 : Nat}, W₁.sc.names.lookup ("self" : Str) = some .local → l₁ "self" = some (.ref σ.nx) → W₁.sc.names.lookup ("len" : Str) = some .globalImplicit → RunSt σ σ₁ 353 fs → lookF fs "rules" = some (.ref jr2) → σ₁.get jr2 = some (.list (rl.map fun x => .ref x.1)) → jr2 < σ₁.nx →
                  Q₁ (.ref (σ₁.push (.list [.int 0])).nx) ((σ₁.push (.list [.int 0])).push (.list (List.replicate rl.length (.int 0)))) →
                  SE C (XF C 60 fun fs σ₁ => ∃ σ', WeakX σ.nx σ₁ fs σ' ∧ QX fs σ') W₁ (.BinOp (.List [.Constant (.int 0) k1 p1] p2) .Mult (.Call (.Name "len" p3) [.Attribute (.Name "self" p4) "rules" p5] [] p6) p7) l₁ σ₁ Q₁ := by
                intro W₁ l₁ σ₁ fs Q₁ p1 p2 p3 p4 p5 p6 p7 p8 k1 hk1 hs1 hk2 st hlk hj hjn hq1
                refine SE.bin (SE.list (SL.cons rfl (SE.int (SL.nil ⟨lenOk rfl, ?_⟩))))
                have hj' : (σ₁.push (.list [.int 0])).get jr2 = some (.list (rl.map fun x => .ref x.1)) := by rw [Sto.get_push, if_neg (Nat.ne_of_lt hjn)]; exact hj
                refine SE.callName rfl (SE.bltT hK hk2 rfl rfl (by decide) ⟨Keep.builtin, SL.cons rfl (SE.field (fun _ _ => rfl) (fun _ _ => rfl) (SE.local hk1 hs1 rfl ⟨σ.nx, 353, fs, .ref jr2, rfl, (st.push hcl _).get, cls3, by rw [hK]; rfl, hlk, rfl, SL.nil (SC.lenList (IsL.ref hj') (by rw [List.length_map]; lia) ?_)⟩))⟩)
                rw [List.length_map]
                exact SV.mulList1 (d := .int 0) (IsL.ref (Sto.get_push_self _ _)) (by lia) hq1
              refine SS.closed fun hcl9 => ?_
              have hj9 : jr2 < σ₉.nx := (hcl9 _ _ hrr7).1
              refine SS.cons (S1.setF rfl rfl cls3 (by rw [hK]; rfl) rfl rfl (mul (p8 := ⟨0, 0, 0, 0⟩) rfl rfl rfl s7 rfl hrr7 hj9 ⟨_, ((s7.push hcl _).push hcl _).get, by simp, ?_⟩))
              obtain ⟨js, hjs⟩ : ∃ js, js = (σ₉.push (.list [.int 0])).nx := ⟨_, rfl⟩
              have s8 := ((s7.push hcl (.list [.int 0])).push hcl (.list (List.replicate rl.length (.int 0)))).put hcl [("heap", .ref h), ("rules", .ref jr2), ("options", .ref jo), ("walker", .ref jw), ("placer", .ref jp), ("history", .ref jh), ("rounds", .int 0), ("rests", .ref js)]
              have hrr8 : (((σ₉.push (.list [.int 0])).push (.list (List.replicate rl.length (.int 0)))).set σ.nx (.inst 353 [("heap", .ref h), ("rules", .ref jr2), ("options", .ref jo), ("walker", .ref jw), ("placer", .ref jp), ("history", .ref jh), ("rounds", .int 0), ("rests", .ref js)])).get jr2 = some (.list (rl.map fun x => .ref x.1)) := by
                rw [Sto.get_set, if_neg (Nat.ne_of_gt hrl), Sto.get_push, if_neg (by rw [Sto.nx_push]; lia), Sto.get_push, if_neg (Nat.ne_of_lt hj9)]; exact hrr7
              rw [← hjs]
              show SS _ _ _ _ _ (((σ₉.push (.list [.int 0])).push (.list (List.replicate rl.length (.int 0)))).set σ.nx (.inst 353 [("heap", .ref h), ("rules", .ref jr2), ("options", .ref jo), ("walker", .ref jw), ("placer", .ref jp), ("history", .ref jh), ("rounds", .int 0), ("rests", .ref js)])) _
              generalize ((σ₉.push (.list [.int 0])).push (.list (List.replicate rl.length (.int 0)))).set σ.nx (.inst 353 [("heap", .ref h), ("rules", .ref jr2), ("options", .ref jo), ("walker", .ref jw), ("placer", .ref jp), ("history", .ref jh), ("rounds", .int 0), ("rests", .ref js)]) = σa at s8 hrr8 ⊢
              refine SS.closed fun hcla => ?_
              refine SS.cons (S1.setF rfl rfl cls3 (by rw [hK]; rfl) rfl rfl (mul (p8 := ⟨0, 0, 0, 0⟩) rfl rfl rfl s8 rfl hrr8 (hcla _ _ hrr8).1 ⟨_, ((s8.push hcl _).push hcl _).get, by simp, ?_⟩))
              exact SS.nil ⟨rfl, fin _ (((s8.push hcl _).push hcl _).put hcl _).old⟩
end
/- part CE7 -/
set_option maxHeartbeats 1000000
open PySem PySem.W PySem.Calls PyProof.Rows PySem.SeqAt

/-! the plain law of a rule -/
noncomputable def kindsOk (ns : List Need) : Prop := ∀ q ∈ ns, q.1 = "alike" ∨ q.1 = "unlike" ∨ q.1 = "near"
theorem near_msg (name : Str) : name ++ ": there is no need " ++ ("near" : Str) = name ++ ": there is no need near" := by
  rw [Str.append_assoc]; congr 1
theorem wrongN_bad (name : Str) (known : List Str) : ∀ ns : List Need, kindsOk ns → wrongN name known ns = (badN name known ns).getD ""
  | [], _ => rfl
  | q :: r, h => by
    have ih := wrongN_bad name known r fun q' h' => h q' (.tail _ h')
    rw [wrongN, badN]
    rcases h q (.head _) with e | e | e
    · rw [if_neg (by rw [e]; decide +kernel), if_pos (by rw [e]; decide +kernel)]
      cases lostF known (seenF 5 q.2.1 ++ seenF 5 q.2.2) with
      | nil => exact ih
      | cons x l => rfl
    · rw [if_neg (by rw [e]; decide +kernel), if_pos (by rw [e]; decide +kernel)]
      cases lostF known (seenF 5 q.2.1 ++ seenF 5 q.2.2) with
      | nil => exact ih
      | cons x l => rfl
    · rw [if_pos (by rw [e]; decide +kernel), if_neg (by rw [e]; decide +kernel), e]
      exact (near_msg name).symm
theorem lost_twice (known ss : List Str) : (match lostF known (ss ++ ss) with | x :: _ => some x | [] => none) = (match lostF known ss with | x :: _ => some x | [] => none) := by
  unfold lostF
  rw [List.filter_append]
  cases ss.filter fun x => !known.contains x with
  | nil => rfl
  | cons x r => rfl
theorem wrong_bad {r : RD} (h : kindsOk r.needs) : wrongF r = (badF r).getD "" := by
  unfold wrongF badF
  by_cases ha : aloneT r.left = true
  · rw [if_pos ha, if_pos ha]; rfl
  · rw [if_neg ha, if_neg ha, badN, if_pos (show (("alike" : Str) == "alike" || ("alike" : Str) == "unlike") = true by decide +kernel)]
    have e := lost_twice (seenF 5 r.left) (seenF 5 r.right)
    dsimp only
    cases h1 : lostF (seenF 5 r.left) (seenF 5 r.right) with
    | nil =>
      rw [h1] at e
      cases h2 : lostF (seenF 5 r.left) (seenF 5 r.right ++ seenF 5 r.right) with
      | nil => exact wrongN_bad _ _ _ h
      | cons y l => rw [h2] at e; cases e
    | cons x l =>
      rw [h1] at e
      cases h2 : lostF (seenF 5 r.left) (seenF 5 r.right ++ seenF 5 r.right) with
      | nil => rw [h2] at e; cases e
      | cons y l' =>
        rw [h2] at e
        have e : y = x := by injection e
        subst e
        show lostMsg r.name y = (some (lostMsg r.name y)).getD ""
        exact (Option.getD_some).symm
theorem app_ne (a b : Str) (h : 0 < b.length) : a ++ b ≠ "" := fun e => by
  have := congrArg Str.length e
  rw [Str.length_append] at this
  have e2 : ("" : Str).length = 0 := by decide +kernel
  lia
theorem badN_ne (name : Str) (known : List Str) : ∀ (ns : List Need) (m : Str), badN name known ns = some m → m ≠ ""
  | [], _, h => by cases h
  | q :: r, m, h => by
    rw [badN] at h
    split at h
    · split at h
      · injection h with h
        rw [← h]
        exact app_ne _ _ (by decide +kernel)
      · exact badN_ne name known r m h
    · injection h with h
      rw [← h]
      intro e
      have := congrArg Str.length e
      rw [Str.length_append, Str.length_append] at this
      have e2 : ("" : Str).length = 0 := by decide +kernel
      have e3 : 0 < (": there is no need " : Str).length := by decide +kernel
      lia
theorem bad_ne {r : RD} {m : Str} (h : badF r = some m) : m ≠ "" := by
  unfold badF at h
  split at h
  · injection h with h
    rw [← h]
    exact app_ne _ _ (by decide +kernel)
  · exact badN_ne _ _ _ _ h
theorem badN_name (n1 n2 : Str) (known : List Str) : ∀ ns : List Need, badN n1 known ns = none → badN n2 known ns = none
  | [], _ => rfl
  | q :: r, h => by
    rw [badN] at h ⊢
    split at h
    · rename_i hk
      rw [if_pos hk]
      split at h
      · cases h
      · exact badN_name n1 n2 known r h
    · cases h
theorem bad_name {r s : RD} (h1 : r.left = s.left) (h2 : r.right = s.right) (h3 : r.needs = s.needs) (h : badF r = none) : badF s = none := by
  unfold badF at h ⊢
  rw [← h1, ← h2, ← h3]
  split at h
  · cases h
  · rename_i ha
    rw [if_neg ha]
    exact badN_name _ _ _ _ h

theorem TAl.more : ∀ {n : Nat} {t : T}, TAl n t → TAl (n + 1) t
  | 0, _, h => h.elim
  | n + 1, .mk _ _, ⟨a, b, c⟩ => ⟨a, b, fun t ht => (c t ht).more⟩
theorem TAl.upto {n m : Nat} {t : T} (h : TAl n t) (hm : n ≤ m) : TAl m t := by
  induction hm with
  | refl => exact h
  | step _ ih => exact ih.more
theorem var_alpha {w : Nat} (h : w < 3) : Str.ofString ((["?x", "?y", "?z"] : List String).getD w "a") ∈ alpha := by
  have : w = 0 ∨ w = 1 ∨ w = 2 := by lia
  rcases this with rfl | rfl | rfl <;> decide +kernel
theorem patF_ok (cs : List Int) : ∀ (d k : Nat), TAl (d + 1) (patF cs d k).1
  | 0, k => by
    unfold patF
    dsimp only
    split
    · rename_i h; exact ⟨var_alpha h, by simp, fun t ht => by cases ht⟩
    · exact ⟨by decide +kernel, by simp, fun t ht => by cases ht⟩
  | d + 1, k => by
    unfold patF
    dsimp only
    split
    · rename_i h; exact ⟨var_alpha h, by simp, fun t ht => by cases ht⟩
    · split
      · exact ⟨by decide +kernel, by simp, fun t ht => by cases ht⟩
      · split
        · refine ⟨by decide +kernel, by simp, fun t ht => ?_⟩
          rw [List.mem_singleton.mp ht]
          exact patF_ok cs d _
        · refine ⟨by decide +kernel, by simp, fun t ht => ?_⟩
          rcases List.mem_cons.mp ht with rfl | ht
          · exact patF_ok cs d _
          · rw [List.mem_singleton.mp ht]; exact patF_ok cs d _

/-! the state of the law -/
theorem _root_.Mine.Sto.other {σ : Sto} {a b : Nat} {x y z : O} (h1 : σ.get a = some x) (h2 : σ.get b = some y) (hne : x = y → False) : (σ.set b z).get a = some x := by
  rw [Sto.get_set, if_neg]
  · exact h1
  · intro e; subst e; rw [h1] at h2; injection h2 with h2; exact hne h2
theorem _root_.Mine.Sto.otherI {σ : Sto} {a b : Nat} {x z : O} (h1 : σ.get a = some x) (hne : a ≠ b) : (σ.set b z).get a = some x := by
  rw [Sto.get_set, if_neg hne]; exact h1
noncomputable def upd (cv : Nat → Option V) (m : Nat) (d : V) : Nat → Option V := fun j => if j = m then some d else cv j
structure LawSt (n0 ip fi cj rr : Nat) (cs : List Int) (k : Nat) (cv : Nat → Option V) (rl : List (Nat × RD)) (tb : List ((Nat × Nat) × Str)) (σ : Sto) : Prop where
  feed : FeedAt σ fi cj cs k
  tab : σ.get ip = some (tabO 616 tb)
  cells : ∀ m, m < 6 → σ.get (n0 + m) = some (.cell (cv m))
  cu : cv 4 = some (.ref rr)
  lst : σ.get rr = some (.list (rl.map fun x => .ref x.1))
  rules : RulesAt σ rl
  ne : cj ≠ rr
section
variable {n0 ip fi cj rr k : Nat} {cs : List Int} {cv : Nat → Option V} {rl : List (Nat × RD)} {tb : List ((Nat × Nat) × Str)} {σ σ' : Sto}
theorem LawSt.keep (h : LawSt n0 ip fi cj rr cs k cv rl tb σ) (q : ∀ j o, σ.get j = some o → σ'.get j = some o) : LawSt n0 ip fi cj rr cs k cv rl tb σ' :=
  ⟨⟨q _ _ h.feed.d, q _ _ h.feed.c, h.feed.ne⟩, q _ _ h.tab, fun m hm => q _ _ (h.cells m hm), h.cu, q _ _ h.lst, fun x hx => q _ _ (h.rules x hx), h.ne⟩
theorem LawSt.old (h : LawSt n0 ip fi cj rr cs k cv rl tb σ) (o : Old σ σ') : LawSt n0 ip fi cj rr cs k cv rl tb σ' := h.keep o.get
theorem LawSt.push (h : LawSt n0 ip fi cj rr cs k cv rl tb σ) (hc : σ.Closed) (o : O) : LawSt n0 ip fi cj rr cs k cv rl tb (σ.push o) := h.keep fun j o' hj => by
  rw [Sto.get_push, if_neg (Nat.ne_of_lt (hc j o' hj).1)]; exact hj
theorem LawSt.setFeed (h : LawSt n0 ip fi cj rr cs k cv rl tb σ) (k' : Nat) : LawSt n0 ip fi cj rr cs k' cv rl tb (σ.set fi (.dict (skv (feedD cj k')))) :=
  ⟨⟨by rw [Sto.get_set, if_pos rfl], Sto.otherI h.feed.c (Ne.symm h.feed.ne), h.feed.ne⟩, Sto.other h.tab h.feed.d (by intro e; cases e), fun m hm => Sto.other (h.cells m hm) h.feed.d (by intro e; cases e), h.cu,
    Sto.other h.lst h.feed.d (by intro e; cases e), fun x hx => Sto.other (h.rules x hx) h.feed.d (by intro e; cases e), h.ne⟩
theorem LawSt.setTab (h : LawSt n0 ip fi cj rr cs k cv rl tb σ) (tb' : List ((Nat × Nat) × Str)) : LawSt n0 ip fi cj rr cs k cv rl tb' (σ.set ip (tabO 616 tb')) :=
  ⟨⟨Sto.other h.feed.d h.tab (by intro e; cases e), Sto.other h.feed.c h.tab (by intro e; cases e), h.feed.ne⟩, by rw [Sto.get_set, if_pos rfl], fun m hm => Sto.other (h.cells m hm) h.tab (by intro e; cases e), h.cu,
    Sto.other h.lst h.tab (by intro e; cases e), fun x hx => Sto.other (h.rules x hx) h.tab (by intro e; cases e), h.ne⟩
theorem LawSt.setCell (h : LawSt n0 ip fi cj rr cs k cv rl tb σ) {m : Nat} (hm : m < 6) (h4 : m ≠ 4) (d : V) : LawSt n0 ip fi cj rr cs k (upd cv m d) rl tb (σ.set (n0 + m) (.cell (some d))) :=
  have hcell := h.cells m hm
  ⟨⟨Sto.other h.feed.d hcell (by intro e; cases e), Sto.other h.feed.c hcell (by intro e; cases e), h.feed.ne⟩, Sto.other h.tab hcell (by intro e; cases e), fun j hj => by
      by_cases z : j = m
      · subst z; rw [Sto.get_set, if_pos rfl]; simp [upd]
      · rw [Sto.otherI (h.cells j hj) (by lia)]; simp [upd, z], by simp [upd, Ne.symm h4, h.cu],
    Sto.other h.lst hcell (by intro e; cases e), fun x hx => Sto.other (h.rules x hx) hcell (by intro e; cases e), h.ne⟩
theorem LawSt.setRules (h : LawSt n0 ip fi cj rr cs k cv rl tb σ) {rr' : Nat} {rl' : List (Nat × RD)} (hl : σ.get rr' = some (.list (rl'.map fun x => .ref x.1))) (hr : RulesAt σ rl') (hne : cj ≠ rr') : LawSt n0 ip fi cj rr' cs k (upd cv 4 (.ref rr')) rl' tb (σ.set (n0 + 4) (.cell (some (.ref rr')))) :=
  have hcell := h.cells 4 (by decide)
  ⟨⟨Sto.other h.feed.d hcell (by intro e; cases e), Sto.other h.feed.c hcell (by intro e; cases e), h.feed.ne⟩, Sto.other h.tab hcell (by intro e; cases e), fun j hj => by
      by_cases z : j = 4
      · subst z; rw [Sto.get_set, if_pos rfl]; simp [upd]
      · rw [Sto.otherI (h.cells j hj) (by lia)]; simp [upd, z], by simp [upd],
    Sto.other hl hcell (by intro e; cases e), fun x hx => Sto.other (hr x hx) hcell (by intro e; cases e), hne⟩
theorem LawSt.addRule (h : LawSt n0 ip fi cj rr cs k cv rl tb σ) {i : Nat} {r : RD} (hi : σ.get i = some (.inst 250 (ruleF r))) : LawSt n0 ip fi cj rr cs k cv (rl ++ [(i, r)]) tb (σ.set rr (.list ((rl ++ [(i, r)]).map fun x => .ref x.1))) :=
  ⟨⟨Sto.other h.feed.d h.lst (by intro e; cases e), Sto.otherI h.feed.c h.ne, h.feed.ne⟩, Sto.other h.tab h.lst (by intro e; cases e), fun m hm => Sto.other (h.cells m hm) h.lst (by intro e; cases e), h.cu,
    by rw [Sto.get_set, if_pos rfl], fun x hx => by
      rcases List.mem_append.mp hx with hx | hx
      · exact Sto.other (h.rules x hx) h.lst (by intro e; cases e)
      · rw [List.mem_singleton.mp hx]; exact Sto.other hi h.lst (by intro e; cases e), h.ne⟩
/-- an object that the law leaves alone -/
theorem LawSt.list (h : LawSt n0 ip fi cj rr cs k cv rl tb σ) {j : Nat} {ds : List V} (hj : σ.get j = some (.list ds)) (n1 : j ≠ rr) : ∀ x,
    (σ.set fi x).get j = some (.list ds) ∧ (σ.set ip x).get j = some (.list ds) ∧ (∀ m, m < 6 → (σ.set (n0 + m) x).get j = some (.list ds)) ∧ (σ.set rr x).get j = some (.list ds) := fun _ =>
  ⟨Sto.other hj h.feed.d (by intro e; cases e), Sto.other hj h.tab (by intro e; cases e), fun m hm => Sto.other hj (h.cells m hm) (by intro e; cases e), Sto.otherI hj n1⟩
end
theorem SCc.noX {C : Cx} {c : Addr} {X : XPost} {W : En} {σ : Sto} {f : V} {ds : List V} {Q : V → Sto → Prop} (h : SCc C (XF C c fun _ _ => False) W σ f ds Q) : SCc C X W σ f ds Q :=
  fun g A L s fv vs R hA hf hv => codeAny_mono (h g A L s fv vs R hA hf hv) fun r s' z => by
    cases r with
    | error e => obtain ⟨_, _, _, _, _, _, _, _, _, _, _, _, _, _, q⟩ := z; exact q.elim
    | ok fl => cases fl <;> exact z
section
variable {C : Cx} {X : XPost} {W : En} {l : Loc} {σ : Sto} {Q : V → Sto → Prop}
theorem SE.closed {e : Expr} (h : σ.Closed → SE C X W e l σ Q) : SE C X W e l σ Q := fun g A cenv L m s p => h p.R.closed g A cenv L m s p
theorem SL.closed {es : List Expr} {QL : List V → Sto → Prop} (h : σ.Closed → SL C X W es l σ QL) : SL C X W es l σ QL := fun pos g A cenv L m s p => h p.R.closed pos g A cenv L m s p
theorem SV.neBool {a b : Bool} (h : Q (.bool (a != b)) σ) : SV C X W σ [.bool a, .bool b] (tCmp .NotEq) Q := by
  refine SV.neData (.inl ⟨rfl, rfl⟩) (.inl ⟨rfl, rfl⟩) rfl rfl ?_
  have e : (!PyData.eqv (pd (.bool a)) (pd (.bool b))) = (a != b) := by cases a <;> cases b <;> rfl
  rw [e]; exact h
end
/- part CE71 -/
open PySem PySem.W PySem.Calls PyProof.Rows PySem.SeqAt
noncomputable def vX : T := .mk "?x" []
noncomputable def vY : T := .mk "?y" []
noncomputable def plainR : RD := ⟨"plain", .mk "g" [vX, vY], .mk "g" [vY, vX], [("unlike", vX, vY)]⟩
noncomputable def flatR (n : Str) : RD := ⟨n, .mk "f" [.mk "a" []], .mk "a" [], []⟩
theorem lost_none {known names : List Str} (h : ∀ x ∈ names, x ∈ known) : lostF known names = [] := by
  unfold lostF
  refine List.filter_eq_nil_iff.mpr fun x hx => ?_
  simp [h x hx]
theorem seen_plainL : seenF 5 (.mk "g" [vX, vY]) = srt ["?x", "?y"] := by
  unfold seenF
  rw [if_neg (by decide)]
  congr 1
theorem seen_plainR : seenF 5 (.mk "g" [vY, vX]) = srt ["?y", "?x"] := by
  unfold seenF
  rw [if_neg (by decide)]
  congr 1
theorem bad_plain : badF plainR = none := by
  unfold badF
  rw [if_neg (by decide)]
  show badN _ (seenF 5 (.mk "g" [vX, vY])) [("alike", .mk "g" [vY, vX], .mk "g" [vY, vX]), ("unlike", vX, vY)] = none
  rw [badN, if_pos (by decide)]
  dsimp only
  rw [seen_plainL, seen_plainR, lost_none (by
    intro x hx
    refine (srt_perm _).mem_iff.mpr ?_
    rcases List.mem_append.mp hx with hx | hx <;> have := (srt_perm _).mem_iff.mp hx <;> simp at this ⊢ <;> rcases this with h | h <;> simp [h])]
  dsimp only
  rw [badN, if_pos (by decide)]
  dsimp only
  rw [lost_none (by
    intro x hx
    refine (srt_perm _).mem_iff.mpr ?_
    have e : seenF 5 vX ++ seenF 5 vY = (["?x", "?y"] : List Str) := rfl
    rw [e] at hx
    exact hx)]
  rfl
theorem bad_plainb : badF (backR plainR) = none := by
  unfold badF
  rw [if_neg (by decide)]
  show badN _ (seenF 5 (.mk "g" [vY, vX])) [("alike", .mk "g" [vX, vY], .mk "g" [vX, vY]), ("unlike", vX, vY)] = none
  rw [badN, if_pos (by decide)]
  dsimp only
  rw [seen_plainL, seen_plainR, lost_none (by
    intro x hx
    refine (srt_perm _).mem_iff.mpr ?_
    rcases List.mem_append.mp hx with hx | hx <;> have := (srt_perm _).mem_iff.mp hx <;> simp at this ⊢ <;> rcases this with h | h <;> simp [h])]
  dsimp only
  rw [badN, if_pos (by decide)]
  dsimp only
  rw [lost_none (by
    intro x hx
    refine (srt_perm _).mem_iff.mpr ?_
    have e : seenF 5 vX ++ seenF 5 vY = (["?x", "?y"] : List Str) := rfl
    rw [e] at hx
    simp at hx ⊢
    rcases hx with h | h <;> simp [h])]
  rfl
theorem bad_flat (n : Str) : badF (flatR n) = none := by
  unfold badF
  rw [if_neg (by show ¬ aloneT (.mk "f" [.mk "a" []]) = true; decide)]
  show badN _ (seenF 5 (.mk "f" [.mk "a" []])) [("alike", .mk "a" [], .mk "a" [])] = none
  rw [badN, if_pos (by decide)]
  dsimp only
  have e : seenF 5 (.mk "a" []) = [] := rfl
  rw [e]
  rfl
theorem firstS_lle : ∀ (ss acc : List Str), (firstS acc ss).length ≤ acc.length + ss.length
  | [], acc => by simp [firstS]
  | y :: r, acc => by
    rw [firstS]
    refine Nat.le_trans (firstS_lle r _) ?_
    split
    · simp only [List.length_cons]; lia
    · rw [List.length_append]; simp only [List.length_cons, List.length_nil]; lia
theorem firstS_nd : ∀ (ss acc : List Str), (acc ++ ss).Nodup → (firstS acc ss).length = acc.length + ss.length
  | [], acc, _ => by simp [firstS]
  | y :: r, acc, h => by
    rw [firstS]
    have hy : y ∉ acc := fun hy => by
      have := (List.nodup_append.mp h).2.2 y hy y (by simp)
      exact this rfl
    rw [if_neg (by simp; exact hy), firstS_nd r (acc ++ [y]) (by rw [List.append_assoc]; exact h)]
    simp; lia
theorem firstS_dup : ∀ (ss acc : List Str) (y : Str), y ∈ acc ++ ss → (firstS acc (ss ++ [y])).length < acc.length + (ss ++ [y]).length
  | [], acc, y, h => by
    rw [List.append_nil] at h
    show (firstS (if acc.any (· == y) then acc else acc ++ [y]) []).length < _
    rw [if_pos (by simpa using h)]
    simp [firstS]
  | z :: r, acc, y, h => by
    show (firstS (if acc.any (· == z) then acc else acc ++ [z]) (r ++ [y])).length < _
    by_cases hz : acc.any (· == z) = true
    · rw [if_pos hz]
      have : y ∈ acc ++ r := by
        have hz' : z ∈ acc := by simpa using hz
        rcases List.mem_append.mp h with h | h
        · exact List.mem_append_left _ h
        · rcases List.mem_cons.mp h with rfl | h
          · exact List.mem_append_left _ hz'
          · exact List.mem_append_right _ h
      have := firstS_dup r acc y this
      simp only [List.length_append, List.length_cons, List.length_nil] at this ⊢
      lia
    · rw [if_neg hz]
      have := firstS_dup r (acc ++ [z]) y (by rw [List.append_assoc]; exact h)
      simp only [List.length_append, List.length_cons, List.length_nil] at this ⊢
      lia
section
variable {C : Cx} {X : XPost} {W : En} {l : Loc} {σ : Sto} {Q : V → Sto → Prop}
theorem SE.fieldT {o : Expr} {name : Str} {pos : Pos} (hb : ∀ env t, attributeBase o name env t = t)
    (h : SE C X W o l σ fun d σ₁ => ∃ i c fs d', d = .ref i ∧ σ₁.get i = some (.inst c fs) ∧ ClsOk C.K c ∧ findIn C.K (.ref c) name = some Option.none ∧ lookF fs name = some d' ∧ handedV d' = true ∧ Q d' σ₁) :
    SE C X W (.Attribute o name pos) l σ Q := fun g A cenv L m s p => by
  rw [arm_eval_Attribute, hb]
  refine wpAny_bind (SE.then p h fun d ov g₁ σ₁ s₁ e₁ p₁ hv q => ?_)
  obtain ⟨i, c, fs, d', rfl, hi, ok, hn, hl, hh, q⟩ := q
  obtain ⟨x, dx, es, n, rfl, tx, tdx, hdx, I, hfs⟩ := p₁.R.instAt hi hv
  obtain ⟨vo, hvo, r⟩ := hfs.lookIn (x := name) (n := n)
  rw [hl] at r
  obtain ⟨v, rfl, rv⟩ := r
  have hhv : handedIn v = true := handed_of rv fun u e => by rw [e] at hh; exact hh
  obtain ⟨cd, hcd, hd⟩ := any_some ok.dict
  have hf : findObj C.K c (some (dctObj es n)) name = some (.value v) := by
    unfold findObj
    rw [hcd, hn]
    simp only [Option.bind_some, PySem.W.ownOf, hd, if_true, hvo]
  refine wpAny_bind (wpAny_standAt (wpAny_bind (wpAny_holding (get_value p₁.R.kin I ok.ga hf hhv ?_))))
  refine wpAny_bind (wpAny_letTemporaryGo (wpAny_pure ?_))
  exact Up.back e₁ (Up.here (p₁.R.toks _) rv q)

end
/- part CE8 -/
set_option maxHeartbeats 40000000
open PySem PySem.W PySem.Calls PyProof.Rows PySem.SeqAt
noncomputable def nm (lap : Nat) : Str := "n" ++ Str.ofString (toString (lap : Int))
noncomputable def e1 : (Nat × Nat) × Str := ((345, 31), "law" ++ ".<locals>." ++ "<lambda>")
structure LapOk (lap : Nat) (rl : List (Nat × RD)) : Prop where
  names : ∀ x ∈ rl, ∃ j, j < lap ∧ x.2.name = nm j
  nodup : (rl.map (·.2.name)).Nodup
  few : rl.length ≤ lap
  ok : ∀ x ∈ rl, RuleOk x.2
theorem LawSt.init {n0 ip fi cj rr k : Nat} {cs : List Int} {tb : List ((Nat × Nat) × Str)} {σ : Sto} (feed : FeedAt σ fi cj cs k) (tab : σ.get ip = some (tabO 616 tb)) (cells : ∀ m, m < 6 → σ.get (n0 + m) = some (.cell Option.none)) (lst : σ.get rr = some (.list [])) (ne : cj ≠ rr) :
    LawSt n0 ip fi cj rr cs k (upd (fun _ => Option.none) 4 (.ref rr)) [] tb (σ.set (n0 + 4) (.cell (some (.ref rr)))) :=
  have hcell := cells 4 (by decide)
  ⟨⟨Sto.other feed.d hcell (by intro e; cases e), Sto.other feed.c hcell (by intro e; cases e), feed.ne⟩, Sto.other tab hcell (by intro e; cases e), fun j hj => by
      by_cases z : j = 4
      · subst z; rw [Sto.get_set, if_pos rfl]; simp [upd]
      · rw [Sto.otherI (cells j hj) (by lia)]; simp [upd, z], by simp [upd], Sto.other lst hcell (by intro e; cases e), (fun x hx => by cases hx), ne⟩
theorem range3 {lap : Nat} (h : lap < 3) : ((List.range 3).drop lap).map (fun j : Nat => V.int (j : Int)) = .int lap :: ((List.range 3).drop (lap + 1)).map (fun j : Nat => V.int (j : Int)) := by
  have : lap = 0 ∨ lap = 1 ∨ lap = 2 := by lia
  rcases this with rfl | rfl | rfl <;> rfl
theorem LawSt.setList {n0 ip fi cj rr k : Nat} {cs : List Int} {cv : Nat → Option V} {rl : List (Nat × RD)} {tb : List ((Nat × Nat) × Str)} {σ : Sto} (h : LawSt n0 ip fi cj rr cs k cv rl tb σ) {j : Nat} {ds es : List V} (hj : σ.get j = some (.list ds)) (n1 : j ≠ rr) (n2 : j ≠ cj) :
    LawSt n0 ip fi cj rr cs k cv rl tb (σ.set j (.list es)) :=
  ⟨⟨Sto.other h.feed.d hj (by intro e; cases e), Sto.otherI h.feed.c (Ne.symm n2), h.feed.ne⟩, Sto.other h.tab hj (by intro e; cases e), fun m hm => Sto.other (h.cells m hm) hj (by intro e; cases e), h.cu,
    Sto.otherI h.lst (Ne.symm n1), fun x hx => Sto.other (h.rules x hx) hj (by intro e; cases e), h.ne⟩
noncomputable def kindAt (w : Nat) : Str := (["alike", "unlike", "alike", "near"] : List Str).getD w "alike"
theorem kindAt_ok {w : Nat} (h : w < 4) : ([.str "alike", .str "unlike", .str "alike", .str "near"] : List V)[w]? = some (.str (kindAt w)) ∧ (kindAt w = "alike" ∨ kindAt w = "unlike" ∨ kindAt w = "near") := by
  have : w = 0 ∨ w = 1 ∨ w = 2 ∨ w = 3 := by lia
  rcases this with rfl | rfl | rfl | rfl
  · exact ⟨rfl, .inl rfl⟩
  · exact ⟨rfl, .inr (.inl rfl)⟩
  · exact ⟨rfl, .inl rfl⟩
  · exact ⟨rfl, .inr (.inr rfl)⟩
theorem nm_ok {lap : Nat} (h : lap < 3) : PyData.strOk (nm lap) = true ∧ (nm lap).length ≤ 50 ∧ PyData.strOk (nm lap ++ "-back") = true ∧ PyData.strOk (nm lap ++ "-back" ++ "-back") = true ∧ nm lap ++ "-back" ++ "-back" = nm lap ++ "-back-back" := by
  have : lap = 0 ∨ lap = 1 ∨ lap = 2 := by lia
  rcases this with rfl | rfl | rfl <;> exact ⟨by decide +kernel, by decide +kernel, by decide +kernel, by decide +kernel, by decide +kernel⟩
noncomputable def oV : Option Nat → V | Option.none => .none | some i => .ref i
noncomputable def Told (r : RD) (σ : Sto) : Option Nat → Prop | Option.none => ∃ m, badF r = some m | some i => badF r = Option.none ∧ σ.get i = some (.inst 250 (ruleF r))
theorem oV_ne (o : Option Nat) : oV o ≠ .val .none := by cases o <;> (intro e; cases e)
theorem told_bool {r : RD} {σ : Sto} {o : Option Nat} {bm : Str} (e : (badF r).getD "" = bm) (h : Told r σ o) : ((match oV o with | .none => true | _ => false) != (bm != "")) = false := by
  cases o with
  | none =>
    obtain ⟨m, hm⟩ := h
    rw [hm] at e
    have e2 : m = bm := e
    have := bad_ne hm
    rw [e2] at this
    simp [oV, this]
  | some i =>
    obtain ⟨h, _⟩ := h
    rw [h] at e
    have e2 : ("" : Str) = bm := e
    simp [oV, ← e2]
theorem LapOk.more {lap : Nat} {rl : List (Nat × RD)} (h : LapOk lap rl) : LapOk (lap + 1) rl :=
  ⟨fun x hx => let ⟨j, a, b⟩ := h.names x hx; ⟨j, by lia, b⟩, h.nodup, by have := h.few; lia, h.ok⟩
theorem nm_inj {i j : Nat} (hi : i < 3) (hj : j < 3) (h : nm i = nm j) : i = j := by
  have a : i = 0 ∨ i = 1 ∨ i = 2 := by lia
  have b : j = 0 ∨ j = 1 ∨ j = 2 := by lia
  rcases a with rfl | rfl | rfl <;> rcases b with rfl | rfl | rfl <;> first | rfl | exact absurd h (by decide +kernel)
theorem LapOk.add {lap : Nat} {rl : List (Nat × RD)} (h : LapOk lap rl) (hl : lap < 3) {i : Nat} {r : RD} (hn : r.name = nm lap) (ok : RuleOk r) : LapOk (lap + 1) (rl ++ [(i, r)]) := by
  refine ⟨fun x hx => ?_, ?_, by have := h.few; rw [List.length_append]; simp only [List.length_cons, List.length_nil]; lia, fun x hx => ?_⟩
  · rcases List.mem_append.mp hx with hx | hx
    · exact h.more.names x hx
    · rw [List.mem_singleton.mp hx]; exact ⟨lap, by lia, hn⟩
  · rw [List.map_append, List.nodup_append]
    refine ⟨h.nodup, by simp, fun a ha b hb e => ?_⟩
    obtain ⟨x, hx, rfl⟩ := List.mem_map.mp ha
    obtain ⟨j, hj, e2⟩ := h.names x hx
    have hb : b = r.name := by simpa using hb
    have := nm_inj (by lia) hl (e2.symm.trans ((e.trans hb).trans hn))
    lia
  · rcases List.mem_append.mp hx with hx | hx
    · exact h.ok x hx
    · rw [List.mem_singleton.mp hx]; exact ok
theorem plain_ok : RuleOk plainR := by
  have vx : TAl 5 vX := ⟨by decide +kernel, by decide, fun t ht => by cases ht⟩
  have vy : TAl 5 vY := ⟨by decide +kernel, by decide, fun t ht => by cases ht⟩
  have g : ∀ a b, TAl 4 a → TAl 4 b → TAl 5 (.mk "g" [a, b]) := fun a b ha hb => ⟨by decide +kernel, by simp, fun t ht => by
    rcases List.mem_cons.mp ht with rfl | ht
    · exact ha
    · rw [List.mem_singleton.mp ht]; exact hb⟩
  have vx4 : TAl 4 vX := ⟨by decide +kernel, by decide, fun t ht => by cases ht⟩
  have vy4 : TAl 4 vY := ⟨by decide +kernel, by decide, fun t ht => by cases ht⟩
  exact ⟨⟨by decide +kernel, by decide +kernel, g _ _ vx4 vy4, g _ _ vy4 vx4, fun q hq => by rw [List.mem_singleton.mp hq]; exact ⟨by decide +kernel, vx, vy⟩, by decide⟩, fun q hq => by rw [List.mem_singleton.mp hq]; decide +kernel⟩
theorem flat_ok {n : Str} (h1 : PyData.strOk n = true) (h2 : n.length ≤ 100) : RuleOk (flatR n) := by
  have va : ∀ m, TAl (m + 1) (.mk "a" []) := fun m => ⟨by decide +kernel, by decide, fun t ht => by cases ht⟩
  exact ⟨⟨h1, h2, ⟨by decide +kernel, by decide, fun t ht => by rw [List.mem_singleton.mp ht]; exact va 3⟩, va 4, (fun q hq => by cases hq), Nat.zero_le _⟩, fun q hq => by cases hq⟩
theorem SV.closed {C : Cx} {X : XPost} {W : En} {σ : Sto} {ds : List V} {t : List Value → Sem Value} {Q : V → Sto → Prop} (h : σ.Closed → SV C X W σ ds t Q) : SV C X W σ ds t Q := fun g A L s vs R => h R.closed g A L s vs R
theorem lam2 {C : Cx} {X : XPost} {W : En} {l : Loc} {σ : Sto} {Q : V → Sto → Prop} (hBM : BM C) (hCH : CodeHd C.H0 620 616) {n0 ip fi cj rr k : Nat} {cs : List Int} {cv : Nat → Option V} {rl : List (Nat × RD)} {tb : List ((Nat × Nat) × Str)} (st : LawSt n0 ip fi cj rr cs k cv rl tb σ)
    {params : Arguments} {body : Expr} {scope : Scope} {pos : Pos} (hpos : ((pos.line, pos.col) == ((345, 31) : Nat × Nat)) = false) (htb : tb = [] ∨ tb = [e1]) (hfn : W.fn = some ((Value.ref 620, ("law" ++ ".<locals>." : Str)) : Value × Str)) (hf : freeOk W.cells scope.names = true) (hdef : ∀ env, defaultsOf params env = ([], []))
    (h : ∀ σ' tb', LawSt n0 ip fi cj rr cs k cv rl tb' σ' → (∀ j o, j ≠ ip → σ.get j = some o → σ'.get j = some o) → Q (lamV params body scope ("law" ++ ".<locals>." ++ "<lambda>") (closGo W.cells scope.names [])) σ') : SE C X W (.Lambda params body scope pos) l σ Q := by
  refine SE.lam hfn hCH hBM st.tab hf hdef ?_
  have e : tb.lookup (pos.line, pos.col) = Option.none := by
    rcases htb with rfl | rfl
    · rfl
    · show (match (pos.line, pos.col) == ((345, 31) : Nat × Nat) with | true => _ | false => _) = _
      rw [hpos]; rfl
  rw [e]
  exact h _ _ (st.setTab _) fun j o hj e => by rw [Sto.get_set, if_neg hj]; exact e
noncomputable def wordAt (w : Nat) : Str := (["together", "turns", "rests", "thrice"] : List Str).getD w "together"
theorem wordAt_ok {w : Nat} (h : w < 4) : ([.str "together", .str "turns", .str "rests", .str "thrice"] : List V)[w]? = some (.str (wordAt w)) ∧ PyData.strOk (wordAt w) = true ∧ ((["together", "turns", "rests"] : List Str).contains (wordAt w) = !(wordAt w == "thrice")) := by
  have : w = 0 ∨ w = 1 ∨ w = 2 ∨ w = 3 := by lia
  rcases this with rfl | rfl | rfl | rfl <;> exact ⟨rfl, by decide +kernel, by decide +kernel⟩
theorem badRun_is {word : Str} {names : List Str} {w : Nat} (hw : (["together", "turns", "rests"] : List Str).contains word = !(word == "thrice")) (hd : (firstS [] names).length < names.length ↔ w = 1) :
    (badRun word names).isSome = (((w : Int) == 1) || (word == "thrice")) ∧ ((badRun word names).getD "" != "") = (badRun word names).isSome := by
  unfold badRun
  rw [hw]
  cases word == "thrice" with
  | true => (first | refine kif_neg ((by decide)) ?_ | rw [if_neg (by decide)]); exact ⟨by simp, by decide +kernel⟩
  | false =>
    (first | refine kif_pos ((by rfl)) ?_ | rw [if_pos (by rfl)])
    by_cases h : w = 1
    · rw [if_pos (hd.mpr h), h]; exact ⟨rfl, by decide +kernel⟩
    · (first | refine kif_neg ((fun x => h (hd.mp x))) ?_ | rw [if_neg (fun x => h (hd.mp x))])
      have : ((w : Int) == 1) = false := by simp; lia
      rw [this]; exact ⟨rfl, by decide +kernel⟩
theorem num_ok {lap : Nat} (h : lap < 3) : (lap : Int).natAbs.log2 < 1920 ∧ (Str.ofString (toString (lap : Int))).length ≤ 1000 := by
  have : lap = 0 ∨ lap = 1 ∨ lap = 2 := by lia
  rcases this with rfl | rfl | rfl <;> exact ⟨by decide +kernel, by decide +kernel⟩
theorem lam1 {C : Cx} {X : XPost} {W : En} {l : Loc} {σ : Sto} {Q : V → Sto → Prop} (hBM : BM C) (hCH : CodeHd C.H0 620 616) {n0 ip fi cj rr k : Nat} {cs : List Int} {cv : Nat → Option V} {rl : List (Nat × RD)} {tb : List ((Nat × Nat) × Str)} (st : LawSt n0 ip fi cj rr cs k cv rl tb σ)
    {params : Arguments} {body : Expr} {scope : Scope} {pos : Pos} (hpos : (pos.line, pos.col) = ((345, 31) : Nat × Nat)) (htb : tb = [] ∨ tb = [e1]) (hfn : W.fn = some ((Value.ref 620, ("law" ++ ".<locals>." : Str)) : Value × Str)) (hf : freeOk W.cells scope.names = true) (hdef : ∀ env, defaultsOf params env = ([], []))
    (h : ∀ σ', LawSt n0 ip fi cj rr cs k cv rl [e1] σ' → (∀ j ds, σ.get j = some (.list ds) → σ'.get j = some (.list ds)) → Q (lamV params body scope ("law" ++ ".<locals>." ++ "<lambda>") (closGo W.cells scope.names [])) σ') : SE C X W (.Lambda params body scope pos) l σ Q := by
  refine SE.lam hfn hCH hBM st.tab hf hdef ?_
  rcases htb with rfl | rfl
  · rw [hpos]
    exact h _ (st.setTab [e1]) fun j ds hj => Sto.other hj st.tab (by intro e; cases e)
  · rw [hpos]
    exact ⟨rfl, h _ st fun j ds hj => hj⟩
inductive InvL1 (n0 ip fi cj rr : Nat) (cs : List Int) (ds : List V) (l' : Loc) (σ' : Sto) : Prop
  | mk (lap k : Nat) (cv : Nat → Option V) (rl : List (Nat × RD)) (tb : List ((Nat × Nat) × Str)) (hds : ds = ((List.range 3).drop lap).map (fun j : Nat => V.int (j : Int))) (hlap : lap ≤ 3) (st : LawSt n0 ip fi cj rr cs k cv rl tb σ') (hk : k ≤ 200 * lap) (ok : LapOk lap rl) (htb : tb = [] ∨ tb = [e1]) (hfeed : l' "feed" = some (.ref fi))
inductive PostR (n0 ip fi cj rr : Nat) (cs : List Int) (lap k2 : Nat) (left : T) (rl : List (Nat × RD)) (tb : List ((Nat × Nat) × Str)) (f : Fl) (l'' : Loc) (σ'' : Sto) : Prop
  | mk (k3 : Nat) (cv3 : Nat → Option V) (right : T) (e : f = .next) (hf : l'' "feed" = some (.ref fi)) (hl : l'' "lap" = some (.int (lap : Int))) (hk : k3 ≤ k2 + 2) (tr : TAl 5 right) (cl : cv3 0 = some (tv left)) (cr : cv3 3 = some (tv right)) (st : LawSt n0 ip fi cj rr cs k3 cv3 rl tb σ'')
inductive InvL2 (n0 ip fi cj rr : Nat) (cs : List Int) (lap n k3 jn : Nat) (cv5 : Nat → Option V) (rl : List (Nat × RD)) (tb : List ((Nat × Nat) × Str)) (ds : List V) (l' : Loc) (σ' : Sto) : Prop
  | mk (ns : List Need) (k : Nat) (hlen : ds.length + ns.length = n) (hk : k ≤ k3 + 1 + 7 * ns.length) (st : LawSt n0 ip fi cj rr cs k cv5 rl tb σ') (hj : σ'.get jn = some (.list (needsV ns))) (hns : ∀ q ∈ ns, (q.1 = "alike" ∨ q.1 = "unlike" ∨ q.1 = "near") ∧ TAl 5 q.2.1 ∧ TAl 5 q.2.2) (hf : l' "feed" = some (.ref fi)) (hl : l' "lap" = some (.int (lap : Int)))
inductive PostT (n0 ip fi cj rr : Nat) (cs : List Int) (kk : Nat) (cva : Nat → Option V) (rl : List (Nat × RD)) (jn jh : Nat) (r : RD) (d : V) (σ' : Sto) : Prop
  | mk (o : Option Nat) (hd : d = .tup [oV o, .str ((badF r).getD "")]) (told : Told r σ' o) (st : LawSt n0 ip fi cj rr cs kk cva rl [e1] σ') (hj : σ'.get jn = some (.list (needsV r.needs))) (hh : σ'.get jh = some (.list (needsV r.needs)))
inductive PostB (σc : Sto) (r : RD) (d : V) (σ' : Sto) : Prop
  | mk (o : Option Nat) (hd : d = .tup [oV o, .str ((badF r).getD "")]) (told : Told r σ' o) (old : Old σc σ')
inductive PostW (n0 ip fi cj rr2 : Nat) (cs : List Int) (k1 : Nat) (cv8 : Nat → Option V) (tb : List ((Nat × Nat) × Str)) (w ir : Nat) (f : Fl) (l'' : Loc) (σ'' : Sto) : Prop
  | mk (rl9 : List (Nat × RD)) (e : f = .next) (hf : l'' "feed" = some (.ref fi)) (hw : l'' "way" = some (.int (w : Int))) (hr : l'' "rule" = some (.ref ir)) (st : LawSt n0 ip fi cj rr2 cs k1 cv8 rl9 tb σ'') (hlen : rl9.length ≤ 5) (hm : (ir, plainR) ∈ rl9) (hd : (firstS [] (rl9.map (·.2.name))).length < (rl9.map (·.2.name)).length ↔ w = 1)
inductive PostU (n0 ip fi cj rr2 : Nat) (cs : List Int) (k2 : Nat) (cvb : Nat → Option V) (rl9 : List (Nat × RD)) (word : Str) (d : V) (σ' : Sto) : Prop
  | mk (o : Option Nat) (tb' : List ((Nat × Nat) × Str)) (hd : d = .tup [oV o, .str ((badRun word (rl9.map (·.2.name))).getD "")]) (ho : o.isNone = (badRun word (rl9.map (·.2.name))).isSome) (st : LawSt n0 ip fi cj rr2 cs k2 cvb rl9 tb' σ')
theorem S1.mono {C : Cx} {X : XPost} {W : En} {l : Loc} {σ : Sto} {Q Q' : Fl → Loc → Sto → Prop} {st : Stmt} (h : S1 C X W st l σ Q) (k : ∀ f l' σ', Q f l' σ' → Q' f l' σ') : S1 C X W st l σ Q' :=
  fun g A cenv L m s p o => wpAny_mono (h g A cenv L m s p o) (fun _ _ ⟨f, l', g', σ', m', x, R, hm, hl, hf, q⟩ => ⟨f, l', g', σ', m', x, R, hm, hl, hf, k _ _ _ q⟩) fun _ _ h => h
section
variable {C : Cx} (hT : Ctx1 C)
include hT
theorem c_law (hBM : BM C) (hCH : CodeHd C.H0 620 616) {cs : List Int} (hz : cs.length ≤ 63) (X : XPost) (W : En) (σ : Sto) (Q : V → Sto → Prop) (hc : W.calm = true) (hd : 24 ≤ W.d) {ip : Nat} (hip : σ.get ip = some (tabO 616 []))
    (hq : ∀ σ' tb, σ'.get ip = some (tabO 616 tb) → Q (.bool true) σ') : SCc C X W σ (.val (.ref 621)) [.fl (cs.map V.int)] Q := by
  have hK := hT.K
  obtain ⟨d', hd'⟩ : ∃ d', W.d = d' + 1 := ⟨W.d - 1, by lia⟩
  refine SCc.fn (Xi := .none) (d' := d') (a := 621) (by rw [hK]; rfl) (by rw [hK]; rfl) hd' (.of rfl rfl rfl (by decide) (by decide)) ?_ XLeaves.none ?_
  · intro vs hv
    obtain ⟨a, rfl⟩ := len1 hv
    rfl
  · intro hcl
    have hipl := (hcl ip _ hip).1
    have hs : ∀ σ₀, σ₀ = (((((σ.push (.cell Option.none)).push (.cell Option.none)).push (.cell Option.none)).push (.cell Option.none)).push (.cell Option.none)).push (.cell Option.none) →
        σ₀.get ip = some (tabO 616 []) ∧ ∀ m, m < 6 → σ₀.get (σ.nx + m) = some (.cell Option.none) := by
      rintro σ₀ rfl
      refine ⟨?_, fun m hm => ?_⟩
      · have n1 : ip ≠ σ.nx := by lia
        have n2 : ip ≠ σ.nx + 1 := by lia
        have n3 : ip ≠ σ.nx + 1 + 1 := by lia
        have n4 : ip ≠ σ.nx + 1 + 1 + 1 := by lia
        have n5 : ip ≠ σ.nx + 1 + 1 + 1 + 1 := by lia
        have n6 : ip ≠ σ.nx + 1 + 1 + 1 + 1 + 1 := by lia
        simp only [Sto.push, n1, n2, n3, n4, n5, n6, if_false]
        exact hip
      · have : m = 0 ∨ m = 1 ∨ m = 2 ∨ m = 3 ∨ m = 4 ∨ m = 5 := by lia
        rcases this with rfl | rfl | rfl | rfl | rfl | rfl <;> simp [Sto.push]
    show SS _ _ _ _ _ ((((((σ.push (.cell Option.none)).push (.cell Option.none)).push (.cell Option.none)).push (.cell Option.none)).push (.cell Option.none)).push (.cell Option.none)) _
    obtain ⟨σ₀, e0⟩ : ∃ σ₀, σ₀ = (((((σ.push (.cell Option.none)).push (.cell Option.none)).push (.cell Option.none)).push (.cell Option.none)).push (.cell Option.none)).push (.cell Option.none) := ⟨_, rfl⟩
    obtain ⟨h1, h2⟩ := hs σ₀ e0
    rw [← e0]
    clear e0 hs
    refine SS.closed fun hcl0 => ?_
    wtm_at "s"
    refine S1.assign rfl rfl rfl ?_
    refine SE.tuple (SL.cons rfl (SE.callName rfl (SE.globT hK rfl rfl ⟨Keep.kT hK rfl, SL.cons rfl (SE.local rfl rfl rfl (SL.nil (c_feed hK _ _ _ _ (by lia) hc (by show 0 < d'; lia) fun fi cj σ₁ hf ho => ?_)))⟩)))
    refine SL.closed fun hcl1 => ?_
    refine SL.cons rfl (SE.list (SL.nil ⟨lenOk rfl, SL.nil ⟨lenOk rfl, ?_⟩⟩))
    have hrr : σ₁.nx = (σ₁.push (.list [])).nx - 1 := rfl
    refine SG.tuple hc rfl (by decide) ⟨rfl, SG.local rfl ⟨rfl, SG.cell (i := σ.nx + 4) (o := Option.none) rfl rfl ?_ ?_⟩⟩
    · rw [Sto.get_push, if_neg (Nat.ne_of_lt (hcl1 _ _ (ho.get _ _ (h2 4 (by decide)))).1)]
      exact ho.get _ _ (h2 4 (by decide))
    have hp : ∀ j o, σ₁.get j = some o → (σ₁.push (.list [])).get j = some o := fun j o hj => by rw [Sto.get_push, if_neg (Nat.ne_of_lt (hcl1 _ _ hj).1)]; exact hj
    have st0 := LawSt.init (n0 := σ.nx) (ip := ip) (rr := σ₁.nx) (σ := σ₁.push (.list [])) ⟨hp _ _ hf.d, hp _ _ hf.c, hf.ne⟩ (hp _ _ (ho.get _ _ h1)) (fun m hm => hp _ _ (ho.get _ _ (h2 m hm))) (Sto.get_push_self _ _) (Nat.ne_of_lt (hcl1 _ _ hf.c).1)
    have hcs : (cs.take 40).length ≤ 40 := List.length_take_le _ _
    show SS _ _ _ _ _ ((σ₁.push (.list [])).set (σ.nx + 4) (.cell (some (.ref σ₁.nx)))) _
    generalize (σ₁.push (.list [])).set (σ.nx + 4) (.cell (some (.ref σ₁.nx))) = σ₂ at st0 ⊢
    generalize σ₁.nx = rr at st0 ⊢
    generalize cs.take 40 = ct at st0 hcs
    clear hf hcl1 ho hp hrr
    wtm_at "s"
    refine S1.for XOwn.none rfl (SIt.range hc (SE.callName rfl (SE.bltT hK rfl rfl rfl (by decide) ⟨Keep.type, SL.cons rfl (SE.int (SL.nil (SC.range ⟨3, rfl, by decide, ?_⟩)))⟩)))
    refine SFor.ind (Inv := InvL1 σ.nx ip fi cj rr ct) ?_ ?_ _ _ _ ?_
    · rintro dl rl' l' σ' ⟨lap, k, cv, rl, tb, hds, hlap, st, hk, hlok, htb, hfeed⟩
      have hlt : lap < 3 := by
        rcases Nat.lt_or_ge lap 3 with h | h
        · exact h
        · have : lap = 3 := by lia
          subst this; cases hds
      rw [range3 hlt] at hds
      injection hds with ea eb
      subst ea; subst eb
      refine ⟨trivial, SG.local rfl ?_⟩
      show SS _ _ _ _ _ σ' _
      wtm_at "s"
      refine S1.assign rfl rfl rfl ?_
      refine SE.tuple (SL.cons rfl (SE.callName rfl (SE.globT hK rfl rfl ⟨Keep.kT hK rfl, SL.cons rfl (SE.local rfl hfeed rfl (SL.cons rfl (SE.int (SL.nil (c_pattern hK hcs 2 k _ _ _ _ (by lia) st.feed hc (by show 4 ≤ d'; lia) ?_)))))⟩)))
      have kl1 := patF_le ct 2 k
      have tl1 := patF_ok ct 2 k
      have st1 := st.setFeed (patF ct 2 k).2
      generalize (patF ct 2 k).2 = k1 at kl1 st1 ⊢
      generalize (patF ct 2 k).1 = left at tl1 ⊢
      generalize σ'.set fi (.dict (skv (feedD cj k1))) = σ1 at st1 ⊢
      refine SL.cons rfl (SE.callName rfl (SE.globT hK rfl rfl ⟨Keep.kT hK rfl, SL.cons rfl (SE.local rfl hfeed rfl (SL.cons rfl (SE.int (SL.nil (c_pattern hK hcs 2 k1 _ _ _ _ (by lia) st1.feed hc (by show 4 ≤ d'; lia) ?_)))))⟩))
      have kl2 := patF_le ct 2 k1
      have tl2 := patF_ok ct 2 k1
      have st2 := st1.setFeed (patF ct 2 k1).2
      generalize (patF ct 2 k1).2 = k2 at kl2 st2 ⊢
      generalize (patF ct 2 k1).1 = right0 at tl2 ⊢
      generalize σ1.set fi (.dict (skv (feedD cj k2))) = σ2 at st2 ⊢
      refine SL.nil ⟨lenOk rfl, SG.tuple hc rfl (by decide) ⟨rfl, SG.cell (i := σ.nx + 0) rfl rfl (st2.cells 0 (by decide)) ⟨rfl, SG.cell (i := σ.nx + 3) rfl rfl ((st2.setCell (m := 0) (by decide) (by decide) (tv left)).cells 3 (by decide)) ?_⟩⟩⟩
      have st3 := (st2.setCell (m := 0) (by decide) (by decide) (tv left)).setCell (m := 3) (by decide) (by decide) (tv right0)
      show SS _ _ _ _ _ ((σ2.set (σ.nx + 0) (.cell (some (tv left)))).set (σ.nx + 3) (.cell (some (tv right0)))) _
      generalize (σ2.set (σ.nx + 0) (.cell (some (tv left)))).set (σ.nx + 3) (.cell (some (tv right0))) = σ3 at st3 ⊢
      clear st2 st1 st
      have kl3 : k2 + 14 ≤ k + 28 := by
        simp only [Nat.reducePow, Nat.reduceAdd] at kl1 kl2
        lia
      clear kl1 kl2
      have hk3 : k2 ≤ k + 14 := by lia
      clear kl3
      -- the right side
      refine SS.cons (S1.mono (Q := PostR σ.nx ip fi cj rr ct lap k2 left rl tb) ?_ ?_)
      · refine S1.ifS (ST.mono (P := fun b σ' => b = decide (takeV ct k2 2 = 0) ∧ LawSt σ.nx ip fi cj rr ct (k2 + 1) (upd (upd cv 0 (tv left)) 3 (tv right0)) rl tb σ') ?_ ?_)
        · refine ST.cmp rfl (SE.callName rfl (SE.globT hK rfl rfl ⟨Keep.kT hK rfl, SL.cons rfl (SE.local rfl hfeed rfl (SL.cons rfl (SE.int (SL.nil (c_take hK (m := 2) _ _ _ _ st3.feed hcs (by lia) (by decide) (by decide) hc (by show 0 < d'; lia) ?_)))))⟩))
          exact SE.int (SV.eqInt ⟨_, rfl, rfl, st3.setFeed _⟩)
        · rintro b σ4 ⟨hb, st4⟩
          rw [hb]
          by_cases h0 : takeV ct k2 2 = 0
          · (first | refine kif_pos ((by simpa using h0)) ?_ | rw [if_pos (by simpa using h0)])
            refine SS.cons (S1.assign rfl rfl rfl (SE.ifExp (ST.mono (P := fun b σ' => LawSt σ.nx ip fi cj rr ct (k2 + 1 + 1) (upd (upd cv 0 (tv left)) 3 (tv right0)) rl tb σ') ?_ ?_)))
            · refine ST.cmp rfl (SE.callName rfl (SE.globT hK rfl rfl ⟨Keep.kT hK rfl, SL.cons rfl (SE.local rfl hfeed rfl (SL.cons rfl (SE.int (SL.nil (c_take hK (m := 2) _ _ _ _ st4.feed hcs (by lia) (by decide) (by decide) hc (by show 0 < d'; lia) ?_)))))⟩))
              exact SE.int (SV.eqInt ⟨_, rfl, st4.setFeed _⟩)
            · intro b σ5 st5
              cases b with
              | true =>
                (first | refine kif_pos (rfl) ?_ | rw [if_pos rfl])
                refine SE.tuple (SL.cons rfl (SE.str (SL.cons rfl (SE.cell (.inl rfl) rfl (st5.cells 0 (by decide)) rfl rfl (SL.cons rfl (SE.tuple (SL.cons rfl (SE.str (SL.nil ⟨lenOk rfl, SL.nil ⟨lenOk rfl, ?_⟩⟩)))))))))
                refine SG.cell (i := σ.nx + 3) rfl rfl (st5.cells 3 (by decide)) (SS.nil ⟨k2 + 1 + 1, _, .mk "g" [left, .mk "a" []], rfl, hfeed, rfl, by lia, ?_, ?_, ?_, st5.setCell (m := 3) (by decide) (by decide) _⟩)
                · exact TAl.upto (n := 4) ⟨by decide +kernel, by simp, fun t ht => by
                    rcases List.mem_cons.mp ht with rfl | ht
                    · exact tl1
                    · rw [List.mem_singleton.mp ht]; exact ⟨by decide +kernel, by simp, fun t ht => by cases ht⟩⟩ (by decide)
                · rfl
                · rfl
              | false =>
                (first | refine kif_neg ((by decide)) ?_ | rw [if_neg (by decide)])
                refine SE.tuple (SL.cons rfl (SE.str (SL.cons rfl (SE.cell (.inl rfl) rfl (st5.cells 3 (by decide)) rfl rfl (SL.nil ⟨lenOk rfl, ?_⟩)))))
                refine SG.cell (i := σ.nx + 3) rfl rfl (st5.cells 3 (by decide)) (SS.nil ⟨k2 + 1 + 1, _, .mk "f" [right0], rfl, hfeed, rfl, by lia, ?_, ?_, ?_, st5.setCell (m := 3) (by decide) (by decide) _⟩)
                · exact TAl.upto (n := 4) ⟨by decide +kernel, by simp, fun t ht => by rw [List.mem_singleton.mp ht]; exact tl2⟩ (by decide)
                · rfl
                · rfl
          · (first | refine kif_neg ((by simpa using h0)) ?_ | rw [if_neg (by simpa using h0)])
            exact SS.nil ⟨k2 + 1, _, right0, rfl, hfeed, rfl, by lia, tl2.upto (by decide), rfl, rfl, st4⟩
      · rintro f l1 σ4 ⟨k3, cv3, right, rfl, hfeed1, hlap1, hk4, tr, cl, cr, st4⟩
        show SS _ _ _ _ _ _ _
        have tl := tl1.upto (m := 5) (by decide)
        clear tl1 tl2 st3 right0
        have hk5 : k3 ≤ k + 16 := by lia
        clear hk4 hk3
        -- the needs
        refine SS.closed fun hcl4 => ?_
        refine SS.cons (S1.assign rfl rfl rfl (SE.list (SL.nil ⟨lenOk rfl, SG.cell (i := σ.nx + 2) rfl rfl ((st4.push hcl4 _).cells 2 (by decide)) ?_⟩)))
        have st5 := (st4.push hcl4 (.list [])).setCell (m := 2) (by decide) (by decide) (.ref σ4.nx)
        have hj5 : ((σ4.push (.list [])).set (σ.nx + 2) (.cell (some (.ref σ4.nx)))).get σ4.nx = some (.list []) := Sto.other (Sto.get_push_self _ _) ((st4.push hcl4 _).cells 2 (by decide)) (by intro e; cases e)
        have hjr : σ4.nx ≠ rr := Nat.ne_of_gt (hcl4 _ _ st4.lst).1
        have hjc : σ4.nx ≠ cj := Nat.ne_of_gt (hcl4 _ _ st4.feed.c).1
        have hcc : cv3 = cv3 := rfl
        show SS _ _ _ _ l1 ((σ4.push (.list [])).set (σ.nx + 2) (.cell (some (.ref σ4.nx)))) _
        have cl5 : (upd cv3 2 (.ref σ4.nx)) 0 = some (tv left) := cl
        have cr5 : (upd cv3 2 (.ref σ4.nx)) 3 = some (tv right) := cr
        have cn5 : (upd cv3 2 (.ref σ4.nx)) 2 = some (.ref σ4.nx) := rfl
        generalize upd cv3 2 (.ref σ4.nx) = cv5 at st5 cl5 cr5 cn5
        generalize (σ4.push (.list [])).set (σ.nx + 2) (.cell (some (.ref σ4.nx))) = σ5 at st5 hj5 ⊢
        generalize σ4.nx = jn at st5 hj5 hjr hjc cn5 ⊢
        clear st4 hcl4 hcc cl cr
        obtain ⟨n, en, hn⟩ := take_range ct k3 3 (by decide)
        refine SS.cons (S1.for XOwn.none rfl (SIt.range hc (SE.callName rfl (SE.bltT hK rfl rfl rfl (by decide) ⟨Keep.type, SL.cons rfl (SE.callName rfl (SE.globT hK rfl rfl ⟨Keep.kT hK rfl, SL.cons rfl (SE.local rfl hfeed1 rfl (SL.cons rfl (SE.int (SL.nil (c_take hK (m := 3) _ _ _ _ st5.feed hcs (by lia) (by decide) (by decide) hc (by show 0 < d'; lia) ?_)))))⟩))⟩))))
        have st6 := st5.setFeed (k3 + 1)
        rw [en]
        have hj6 : (σ5.set fi (.dict (skv (feedD cj (k3 + 1))))).get jn = some (.list []) := (st5.list hj5 hjr _).1
        generalize σ5.set fi (.dict (skv (feedD cj (k3 + 1)))) = σ6 at st6 hj6 ⊢
        clear st5 hj5 en
        refine SL.nil (SC.range ⟨n, rfl, by lia, ?_⟩)
        refine SFor.ind (Inv := InvL2 σ.nx ip fi cj rr ct lap n k3 jn cv5 rl tb) ?_ ?_ _ _ _ ?_
        · rintro dt rt lt σ' ⟨ns, kk, hlen, hkk, st, hj, hns, hft, hlt2⟩
          rw [List.length_cons] at hlen
          refine ⟨trivial, SG.local rfl ?_⟩
          refine SS.closed fun hcl7 => ?_
          obtain ⟨w, ew, hw⟩ := take_range ct kk 4 (by decide)
          have hns3 : ns.length ≤ 2 := by lia
          refine SS.cons (S1.assign rfl rfl rfl (SE.sub (SE.list (SL.cons rfl (SE.str (SL.cons rfl (SE.str (SL.cons rfl (SE.str (SL.cons rfl (SE.str (SL.nil ⟨lenOk rfl, ?_⟩)))))))))))) 
          have stp := st.push hcl7 (.list [.str "alike", .str "unlike", .str "alike", .str "near"])
          have hjp : (σ'.push (.list [.str "alike", .str "unlike", .str "alike", .str "near"])).get jn = some (.list (needsV ns)) := by rw [Sto.get_push, if_neg (Nat.ne_of_lt (hcl7 _ _ hj).1)]; exact hj
          refine SE.callName rfl (SE.globT hK rfl rfl ⟨Keep.kT hK rfl, SL.cons rfl (SE.local rfl hft rfl (SL.cons rfl (SE.int (SL.nil (c_take hK (m := 4) _ _ _ _ stp.feed hcs (by lia) (by decide) (by decide) hc (by show 0 < d'; lia) ?_)))))⟩)
          rw [ew]
          have hlit := (stp.list (Sto.get_push_self _ _) (Nat.ne_of_gt (hcl7 _ _ st.lst).1) (.dict (skv (feedD cj (kk + 1))))).1
          have hj7 := (stp.list hjp hjr (.dict (skv (feedD cj (kk + 1))))).1
          have st7 := stp.setFeed (kk + 1)
          generalize (σ'.push (.list [.str "alike", .str "unlike", .str "alike", .str "near"])).set fi (.dict (skv (feedD cj (kk + 1)))) = σ8 at st7 hj7 hlit ⊢
          obtain ⟨hk4, hkind⟩ := kindAt_ok hw
          refine SI.list (IsL.ref hlit) (by lia) (by lia) (d := .str (kindAt w)) (by rw [Int.toNat_natCast]; exact hk4) (SG.local rfl ?_)
          refine SS.cons (S1.assign rfl rfl rfl (SE.callName rfl (SE.globT hK rfl rfl ⟨Keep.kT hK rfl, SL.cons rfl (SE.local rfl hft rfl (SL.cons rfl (SE.int (SL.nil (c_pattern hK hcs 1 (kk + 1) _ _ _ _ (by lia) st7.feed hc (by show 3 ≤ d'; lia) (SG.local rfl ?_))))))⟩)))
          have kl1 := patF_le ct 1 (kk + 1)
          have tl1 := patF_ok ct 1 (kk + 1)
          have st8 := st7.setFeed (patF ct 1 (kk + 1)).2
          have hj8 := (st7.list hj7 hjr (.dict (skv (feedD cj (patF ct 1 (kk + 1)).2)))).1
          show SS _ _ _ _ _ (σ8.set fi (.dict (skv (feedD cj (patF ct 1 (kk + 1)).2)))) _
          generalize (patF ct 1 (kk + 1)).2 = k8 at kl1 st8 hj8 ⊢
          generalize (patF ct 1 (kk + 1)).1 = one at tl1 ⊢
          generalize σ8.set fi (.dict (skv (feedD cj k8))) = σ9 at st8 hj8 ⊢
          refine SS.cons (S1.expr rfl (SE.meth rfl (fun _ => rfl) (SE.cell (.inl rfl) rfl ((st8.cells 2 (by decide)).trans (by rw [cn5])) rfl rfl (SM.list (IsL.ref hj8) PySem.F.slot_list_append PySem.F.type_list_append ⟨Keep.builtin, SL.cons rfl (SE.tuple (SL.cons rfl (SE.local rfl rfl rfl (SL.cons rfl (SE.local rfl rfl rfl (SL.cons rfl ?_))))))⟩))))
          refine SE.callName rfl (SE.globT hK rfl rfl ⟨Keep.kT hK rfl, SL.cons rfl (SE.local rfl hft rfl (SL.cons rfl (SE.int (SL.nil (c_pattern hK hcs 1 k8 _ _ _ _ (by lia) st8.feed hc (by show 3 ≤ d'; lia) ?_)))))⟩)
          have kl2 := patF_le ct 1 k8
          have tl2 := patF_ok ct 1 k8
          have st9 := st8.setFeed (patF ct 1 k8).2
          have hj9 := (st8.list hj8 hjr (.dict (skv (feedD cj (patF ct 1 k8).2)))).1
          generalize (patF ct 1 k8).2 = k9 at kl2 st9 hj9 ⊢
          generalize (patF ct 1 k8).1 = two at tl2 ⊢
          generalize σ9.set fi (.dict (skv (feedD cj k9))) = σa at st9 hj9 ⊢
          refine SL.nil ⟨lenOk rfl, SL.nil (SC.append hj9 (by unfold needsV; rw [List.length_map]; lia) (SS.nil ⟨ns ++ [(kindAt w, one, two)], k9, ?_, ?_, st9.setList hj9 hjr hjc, ?_, ?_, hft, hlt2⟩))⟩
          · rw [List.length_append]; simp only [List.length_cons, List.length_nil]; lia
          · rw [List.length_append]; simp only [List.length_cons, List.length_nil]
            simp only [Nat.reducePow, Nat.reduceAdd] at kl1 kl2
            lia
          · rw [Sto.get_set, if_pos rfl]
            unfold needsV
            rw [List.map_append]; rfl
          · intro q hq
            rcases List.mem_append.mp hq with hq | hq
            · exact hns q hq
            · rw [List.mem_singleton.mp hq]
              exact ⟨hkind, tl1.upto (by decide), tl2.upto (by decide)⟩
        · rintro lt σ7 ⟨ns, kk, hlen, hkk, st, hj, hns, hft, hlt2⟩
          refine ⟨trivial, ?_⟩
          simp only [List.length_nil, Nat.zero_add] at hlen
          have hns3 : ns.length ≤ 2 := by lia
          have hk7 : kk ≤ k + 31 := by lia
          clear hkk hj6 st6 hk5 hlen hn
          obtain ⟨okn, okl, okb, okbb, ebb⟩ := nm_ok hlt
          have ok : RuleOk ⟨nm lap, left, right, ns⟩ := ⟨⟨okn, by show (nm lap).length ≤ 100; lia, tl, tr, fun q hq => ⟨by rcases (hns q hq).1 with e | e | e <;> rw [e] <;> decide +kernel, (hns q hq).2⟩, by show ns.length ≤ 10; lia⟩,
            fun q hq => by rcases (hns q hq).1 with e | e | e <;> rw [e] <;> decide +kernel⟩
          have hkinds : kindsOk ns := fun q hq => (hns q hq).1
          -- the name
          refine SS.closed fun hcl7 => ?_
          refine SS.cons <| S1.assign rfl rfl rfl <| SE.tuple <| SL.cons rfl <| SE.bin <| SE.str <| SE.callName rfl <| SE.bltT hK rfl rfl rfl (by decide) ⟨Keep.type, SL.cons rfl <| SE.local rfl hlt2 rfl <| SL.nil <| SC.strInt (num_ok hlt).1 <| SV.addStr (by decide +kernel) (num_ok hlt).2 ?_⟩
          refine SL.cons rfl (SE.callName rfl (SE.bltT hK rfl rfl rfl (by decide) ⟨Keep.type, SL.cons rfl (SE.cell (.inl rfl) rfl ((st.cells 2 (by decide)).trans (by rw [cn5])) rfl rfl (SL.nil (SC.listList (IsL.ref hj) (by unfold needsV; rw [List.length_map]; lia) ?_)))⟩))
          refine SL.nil ⟨lenOk rfl, ?_⟩
          have hp7 : ∀ j o, σ7.get j = some o → (σ7.push (.list (needsV ns))).get j = some o := fun j o hj => by rw [Sto.get_push, if_neg (Nat.ne_of_lt (hcl7 _ _ hj).1)]; exact hj
          have stp := st.keep hp7
          have hhr : σ7.nx ≠ rr := Nat.ne_of_gt (hcl7 _ _ st.lst).1
          refine SG.tuple hc rfl (by decide) ⟨rfl, SG.cell (i := σ.nx + 1) rfl rfl (stp.cells 1 (by decide)) ⟨rfl, SG.local rfl ?_⟩⟩
          have sta := stp.setCell (m := 1) (by decide) (by decide) (.str (nm lap))
          have hja := (stp.list (hp7 _ _ hj) hjr (.cell (some (.str (nm lap))))).2.2.1 1 (by decide)
          have hha := (stp.list (Sto.get_push_self σ7 (.list (needsV ns))) hhr (.cell (some (.str (nm lap))))).2.2.1 1 (by decide)
          show SS _ _ _ _ _ ((σ7.push (.list (needsV ns))).set (σ.nx + 1) (.cell (some (.str (nm lap))))) _
          have cla : (upd cv5 1 (.str (nm lap))) 0 = some (tv left) := cl5
          have cra : (upd cv5 1 (.str (nm lap))) 3 = some (tv right) := cr5
          have cna : (upd cv5 1 (.str (nm lap))) 2 = some (.ref jn) := cn5
          have cma : (upd cv5 1 (.str (nm lap))) 1 = some (.str (nm lap)) := rfl
          generalize upd cv5 1 (.str (nm lap)) = cva at sta cla cra cna cma
          generalize (σ7.push (.list (needsV ns))).set (σ.nx + 1) (.cell (some (.str (nm lap)))) = σa at sta hja hha ⊢
          generalize σ7.nx = jh at hja hha hhr ⊢
          clear stp hp7 st hj cl5 cr5 cn5
          -- the rule
          refine SS.cons <| S1.assign rfl rfl rfl <| SE.mono (Q := PostT σ.nx ip fi cj rr ct kk cva rl jn jh ⟨nm lap, left, right, ns⟩) ?_ ?_
          · refine SE.callName rfl <| SE.globT hK rfl rfl ⟨Keep.kT hK rfl, SL.cons rfl <| lam1 hBM hCH sta rfl htb rfl rfl (fun _ => rfl) fun σb stb hls => SL.nil <| SC.closed fun hclb => c_told hK _ _ _ _ (by show 2 ≤ d'; lia) Keep.lam fun W' hWd hWc => SC.ofCode ?_⟩
            have hW2 : W'.d = d' - 1 := hWd
            refine SCc.lam (d' := d' - 2) (by lia) rfl rfl rfl (by decide) (fun _ _ _ _ => rfl) (XLeaves.fly fun _ _ h => h) fun cdv => ?_
            refine SE.callName rfl <| SE.globT hK rfl rfl ⟨Keep.kT hK rfl, SL.cons rfl <| SE.cell (.inr rfl) rfl ((stb.cells 1 (by decide)).trans (by rw [cma])) rfl rfl <| SL.cons rfl <| SE.cell (.inr rfl) rfl ((stb.cells 0 (by decide)).trans (by rw [cla])) rfl rfl <|
              SL.cons rfl <| SE.cell (.inr rfl) rfl ((stb.cells 3 (by decide)).trans (by rw [cra])) rfl rfl <| SL.cons rfl <| SE.cell (.inr rfl) rfl ((stb.cells 2 (by decide)).trans (by rw [cna])) rfl rfl <| SL.nil <| SC.ofCode ?_⟩
            refine c_rule hT (r := ⟨nm lap, left, right, ns⟩) _ _ _ ok (.inl (IsL.ref (hls _ _ hja))) (hWc.trans hc) (by show 13 ≤ d' - 2; lia) (fun hb => ?_) fun m hb => ?_
            · have hkp : ∀ j o, σb.get j = some o → (σb.push (.inst 250 (ruleF ⟨nm lap, left, right, ns⟩))).get j = some o := fun j o hj => by rw [Sto.get_push, if_neg (Nat.ne_of_lt (hclb _ _ hj).1)]; exact hj
              exact ⟨some σb.nx, by rw [hb]; rfl, ⟨hb, Sto.get_push_self _ _⟩, stb.keep hkp, hkp _ _ (hls _ _ hja), hkp _ _ (hls _ _ hha)⟩
            · exact ⟨m, rfl, Option.none, by rw [hb]; rfl, ⟨m, hb⟩, stb, hls _ _ hja, hls _ _ hha⟩
          · rintro d σb ⟨o, rfl, told, stb, hjb, hhb⟩
            refine SG.tuple hc rfl (by decide) ⟨rfl, SG.local rfl ⟨rfl, SG.local rfl ?_⟩⟩
            show SS _ _ _ _ _ σb _
            clear sta hja hha
            have hwr := wrong_bad (r := ⟨nm lap, left, right, ns⟩) hkinds
            refine SS.cons <| S1.assign rfl rfl rfl <| SE.callName rfl <| SE.globT hK rfl rfl ⟨Keep.kT hK rfl, SL.cons rfl <| SE.cell (.inl rfl) rfl ((stb.cells 1 (by decide)).trans (by rw [cma])) rfl rfl <| SL.cons rfl <| SE.cell (.inl rfl) rfl ((stb.cells 0 (by decide)).trans (by rw [cla])) rfl rfl <|
              SL.cons rfl <| SE.cell (.inl rfl) rfl ((stb.cells 3 (by decide)).trans (by rw [cra])) rfl rfl <| SL.cons rfl <| SE.local rfl rfl rfl <| SL.nil <| c_wrong hK (r := ⟨nm lap, left, right, ns⟩) _ _ _ _ ok.toRDOk (IsL.ref hhb) hc (by show 8 ≤ d'; lia) <| SG.local rfl ?_⟩
            rw [hwr]
            have D := (data_needs fun q hq => ⟨(by rcases (hns q hq).1 with e | e | e <;> rw [e] <;> decide +kernel : PyData.strOk q.1 = true), (hns q hq).2⟩)
            generalize ebd : (badF ⟨nm lap, left, right, ns⟩).getD "" = bm at told ⊢
            refine SS.cons <| S1.ifS <| ST.mono (P := PB (false) (σb)) ?_ ?_
            · refine ST.boolOp <| SA.consOr <| ST.cmp rfl <| SE.local rfl rfl rfl <| SE.local rfl rfl rfl <| SV.neStr ⟨_, rfl, ?_⟩
              (first | refine kif_neg ((by simp)) ?_ | rw [if_neg (by simp)])
              refine SA.consOr <| ST.cmp rfl <| SE.cmp rfl <| SE.local rfl rfl rfl <| SE.none <| SV.isNone (oV_ne o) <| SE.cmp rfl <| SE.local rfl rfl rfl <| SE.str <| SV.neStr <| SV.neBool ⟨false, congrArg V.bool (by cases o <;> exact told_bool ebd told), ?_⟩
              (first | refine kif_neg ((by decide)) ?_ | rw [if_neg (by decide)])
              have hsh : shaped (.list (pds (needsV ns))) = true := by
                show (PyData.canLayAll0 (pds (needsV ns)) && decide (PyData.depthAll (pds (needsV ns)) + 1 ≤ 64)) = true
                rw [D.2.1, decide_eq_true (by have := D.2.2; lia)]; rfl
              refine SA.consOr <| ST.cmp rfl <| SE.cell (.inl rfl) rfl ((stb.cells 2 (by decide)).trans (by rw [cna])) rfl rfl <| SE.local rfl rfl rfl <| SV.neData (.inr ⟨_, IsL.ref hjb, D.1, rfl⟩) (.inr ⟨_, IsL.ref hhb, D.1, rfl⟩) hsh hsh ⟨_, rfl, ?_⟩
              rw [eqv_refl (.list (pds (needsV ns))) D.2.1]
              exact SA.nilOr ⟨rfl, rfl⟩
            · rintro b σ' ⟨rfl, hs⟩
              rw [hs]; refine kif_neg (by decide) ?_
              refine SS.nil ?_
              try show SS _ _ _ _ _ _ _
              refine SS.cons <| S1.ifS <| ST.cmp rfl <| SE.local rfl rfl rfl <| SE.none <| SV.isNone (oV_ne o) ⟨o.isNone, congrArg V.bool (by cases o <;> rfl), ?_⟩
              cases o with
              | none =>
                (first | refine kif_pos ((by rfl)) ?_ | rw [if_pos (by rfl)])
                refine SS.cons <| S1.cont ⟨lap + 1, kk, _, rl, [e1], rfl, hlt, stb, by lia, hlok.more, .inr rfl, hft⟩
              | some i =>
                (first | refine kif_neg ((by simp)) ?_ | rw [if_neg (by simp)])
                refine SS.nil ?_
                try show SS _ _ _ _ _ _ _
                obtain ⟨hbad, hi⟩ := told
                have fewr := hlok.few
                refine SS.cons <| S1.expr rfl <| SE.meth rfl (fun _ => rfl) <| SE.cell (.inl rfl) rfl ((stb.cells 4 (by decide)).trans (by rw [stb.cu])) rfl rfl <| SM.list (IsL.ref stb.lst) PySem.F.slot_list_append PySem.F.type_list_append ⟨Keep.builtin, SL.cons rfl <| SE.local rfl rfl rfl <| SL.nil <| SC.append stb.lst (by rw [List.length_map]; lia) ?_⟩
                have e : (rl.map fun x => V.ref x.1) ++ [oV (some i)] = (rl ++ [(i, (⟨nm lap, left, right, ns⟩ : RD))]).map fun x => V.ref x.1 := by rw [List.map_append]; rfl
                rw [e]
                have stc := stb.addRule hi
                have hjc2 := Sto.otherI (z := .list ((rl ++ [(i, (⟨nm lap, left, right, ns⟩ : RD))]).map fun x => V.ref x.1)) hjb hjr
                have hhc := Sto.otherI (z := .list ((rl ++ [(i, (⟨nm lap, left, right, ns⟩ : RD))]).map fun x => V.ref x.1)) hhb hhr
                have hic := stc.rules (i, ⟨nm lap, left, right, ns⟩) (by simp)
                have hlk := hlok.add hlt (i := i) (r := ⟨nm lap, left, right, ns⟩) rfl ok
                show SS _ _ _ _ _ (σb.set rr (.list ((rl ++ [(i, (⟨nm lap, left, right, ns⟩ : RD))]).map fun x => V.ref x.1))) _
                generalize σb.set rr (.list ((rl ++ [(i, (⟨nm lap, left, right, ns⟩ : RD))]).map fun x => V.ref x.1)) = σc at stc hjc2 hhc hic ⊢
                generalize rl ++ [(i, (⟨nm lap, left, right, ns⟩ : RD))] = rlc at stc hlk
                clear stb hjb hhb hi e hlok
                refine SS.cons <| S1.ifS <| ST.not <| ST.val rfl <| SE.callName rfl <| SE.globT hK rfl rfl ⟨Keep.kT hK rfl, SL.cons rfl <| SE.local rfl rfl rfl <| SL.cons rfl <| SE.cell (.inl rfl) rfl ((stc.cells 1 (by decide)).trans (by rw [cma])) rfl rfl <| SL.cons rfl <| SE.cell (.inl rfl) rfl ((stc.cells 0 (by decide)).trans (by rw [cla])) rfl rfl <|
                  SL.cons rfl <| SE.cell (.inl rfl) rfl ((stc.cells 3 (by decide)).trans (by rw [cra])) rfl rfl <| SL.cons rfl <| SE.local rfl rfl rfl <| SL.nil <| c_is hK (r := ⟨nm lap, left, right, ns⟩) _ _ _ _ hic ok.toRDOk (IsL.ref hhc) hc (by show 0 < d'; lia) ⟨_, rfl, ?_⟩⟩
                (first | refine kif_neg ((by decide)) ?_ | rw [if_neg (by decide)])
                refine SS.nil ?_
                try show SS _ _ _ _ _ _ _
                have okb2 : RuleOk (backR ⟨nm lap, left, right, ns⟩) := ok.back (by show (nm lap).length ≤ 90; lia) okb
                have cls := cls250 hT
                refine SS.cons <| S1.assign rfl rfl rfl <| SE.mono (Q := PostB σc (backR ⟨nm lap, left, right, ns⟩)) ?_ ?_
                · refine SE.callName rfl <| SE.globT hK rfl rfl ⟨Keep.kT hK rfl, SL.cons rfl <| SE.bound (fun _ _ => rfl) (fun _ _ => rfl) rfl <| SE.local rfl rfl rfl ⟨i, 250, ruleF ⟨nm lap, left, right, ns⟩, 247, _, rfl, hic, cls, by rw [hK]; rfl, by rw [hK]; rfl, rfl, by rw [hK]; rfl, by rw [hK]; rfl, rfl,
                    SL.nil <| c_told hK _ _ _ _ (by show 2 ≤ d'; lia) (Keep.meth (by rw [hK]; rfl) rfl) fun W' hWd hWc => SC.ofCode <| SCc.closed fun hclc => SCc.meth ?_⟩⟩
                  have hW2 : W'.d = d' - 1 := hWd
                  refine c_turned hT (r := ⟨nm lap, left, right, ns⟩) _ _ _ okb2 (by show (nm lap).length ≤ 100; lia) hic (hWc.trans hc) (by lia) (fun hb => ?_) fun m hb => ?_
                  · exact ⟨some σc.nx, by rw [hb]; rfl, ⟨hb, Sto.get_push_self _ _⟩, (Old.refl σc).push hclc _⟩
                  · exact ⟨m, rfl, Option.none, by rw [hb]; rfl, ⟨m, hb⟩, Old.refl σc⟩
                · rintro d σd ⟨o, rfl, told, hod⟩
                  refine SG.tuple hc rfl (by decide) ⟨rfl, SG.local rfl ⟨rfl, SG.local rfl ?_⟩⟩
                  show SS _ _ _ _ _ σd _
                  have std := stc.old hod
                  have hid := hod.get _ _ hic
                  have hhd := hod.get _ _ hhc
                  have hjd := hod.get _ _ hjc2
                  clear stc hic hhc hjc2 hod
                  have hwr2 := wrong_bad (r := backR ⟨nm lap, left, right, ns⟩) hkinds
                  refine SS.cons <| S1.assign rfl rfl rfl <| SE.callName rfl <| SE.globT hK rfl rfl ⟨Keep.kT hK rfl, SL.cons rfl <| SE.bin <| SE.cell (.inl rfl) rfl ((std.cells 1 (by decide)).trans (by rw [cma])) rfl rfl <| SE.str <| SV.addStr (x := nm lap) (by lia) (by decide +kernel) <| SL.cons rfl <| SE.cell (.inl rfl) rfl ((std.cells 3 (by decide)).trans (by rw [cra]; rfl)) rfl rfl <|
                    SL.cons rfl <| SE.cell (.inl rfl) rfl ((std.cells 0 (by decide)).trans (by rw [cla]; rfl)) rfl rfl <| SL.cons rfl <| SE.local rfl rfl rfl <| SL.nil <| c_wrong hK (r := backR ⟨nm lap, left, right, ns⟩) _ _ _ _ okb2.toRDOk (IsL.ref hhd) hc (by show 8 ≤ d'; lia) <| SG.local rfl ?_⟩
                  rw [hwr2]
                  generalize ebd2 : (badF (backR ⟨nm lap, left, right, ns⟩)).getD "" = bm2 at told ⊢
                  refine SS.cons <| S1.ifS <| ST.mono (P := PB (false) (σd)) ?_ ?_
                  · refine ST.boolOp <| SA.consOr <| ST.cmp rfl <| SE.local rfl rfl rfl <| SE.local rfl rfl rfl <| SV.neStr ⟨_, rfl, ?_⟩
                    (first | refine kif_neg ((by simp)) ?_ | rw [if_neg (by simp)])
                    refine SA.consOr <| ST.cmp rfl <| SE.cmp rfl <| SE.local rfl rfl rfl <| SE.none <| SV.isNone (oV_ne o) <| SE.cmp rfl <| SE.local rfl rfl rfl <| SE.str <| SV.neStr <| SV.neBool ⟨false, congrArg V.bool (by cases o <;> exact told_bool ebd2 told), ?_⟩
                    (first | refine kif_neg ((by decide)) ?_ | rw [if_neg (by decide)])
                    refine SA.consOr <| ST.not <| ST.val rfl <| SE.callName rfl <| SE.globT hK rfl rfl ⟨Keep.kT hK rfl, SL.cons rfl <| SE.local rfl rfl rfl <| SL.cons rfl <| SE.cell (.inl rfl) rfl ((std.cells 1 (by decide)).trans (by rw [cma])) rfl rfl <| SL.cons rfl <| SE.cell (.inl rfl) rfl ((std.cells 0 (by decide)).trans (by rw [cla])) rfl rfl <|
                      SL.cons rfl <| SE.cell (.inl rfl) rfl ((std.cells 3 (by decide)).trans (by rw [cra])) rfl rfl <| SL.cons rfl <| SE.local rfl rfl rfl <| SL.nil <| c_is hK (r := ⟨nm lap, left, right, ns⟩) _ _ _ _ hid ok.toRDOk (IsL.ref hhd) hc (by show 0 < d'; lia) ⟨_, rfl, ?_⟩⟩
                    (first | refine kif_neg ((by decide)) ?_ | rw [if_neg (by decide)])
                    exact SA.nilOr ⟨rfl, rfl⟩
                  · rintro b σ' ⟨rfl, hs⟩
                    rw [hs]; refine kif_neg (by decide) ?_
                    refine SS.nil ?_
                    try show SS _ _ _ _ _ _ _
                    refine SS.cons <| S1.ifS <| ST.cmp rfl <| SE.local rfl rfl rfl <| SE.none <| SV.isNotNone (oV_ne o) ⟨o.isSome, congrArg V.bool (by cases o <;> rfl), ?_⟩
                    have fin : ∀ {l' : Loc} {σ' : Sto}, Old σd σ' → l' "feed" = some (.ref fi) → InvL1 σ.nx ip fi cj rr ct (List.map (fun j : Nat => V.int (j : Int)) (List.drop (lap + 1) (List.range 3))) l' σ' :=
                      fun ho hf => ⟨lap + 1, kk, _, rlc, [e1], rfl, hlt, std.old ho, by lia, hlk, .inr rfl, hf⟩
                    cases o with
                    | none =>
                      (first | refine kif_neg ((by simp)) ?_ | rw [if_neg (by simp)])
                      exact SS.nil (SS.nil (fin (Old.refl _) hft))
                    | some i2 =>
                      (first | refine kif_pos ((by rfl)) ?_ | rw [if_pos (by rfl)])
                      obtain ⟨hbad2, hi2⟩ := told
                      refine SS.cons <| S1.ifS <| ST.not <| ST.val rfl <| SE.callName rfl <| SE.globT hK rfl rfl ⟨Keep.kT hK rfl, SL.cons rfl <| SE.local rfl rfl rfl <| SL.cons rfl <| SE.bin <| SE.cell (.inl rfl) rfl ((std.cells 1 (by decide)).trans (by rw [cma])) rfl rfl <| SE.str <| SV.addStr (x := nm lap) (by lia) (by decide +kernel) <| SL.cons rfl <| SE.cell (.inl rfl) rfl ((std.cells 3 (by decide)).trans (by rw [cra]; rfl)) rfl rfl <|
                        SL.cons rfl <| SE.cell (.inl rfl) rfl ((std.cells 0 (by decide)).trans (by rw [cla]; rfl)) rfl rfl <| SL.cons rfl <| SE.local rfl rfl rfl <| SL.nil <| c_is hK (r := backR ⟨nm lap, left, right, ns⟩) _ _ _ _ hi2 okb2.toRDOk (IsL.ref hhd) hc (by show 0 < d'; lia) ⟨_, rfl, ?_⟩⟩
                      (first | refine kif_neg ((by decide)) ?_ | rw [if_neg (by decide)])
                      refine SS.nil ?_
                      try show SS _ _ _ _ _ _ _
                      have okb3 : RuleOk (backR (backR ⟨nm lap, left, right, ns⟩)) := okb2.back (by show (nm lap ++ "-back").length ≤ 90; rw [Str.length_append, show ("-back" : Str).length = 5 from by decide +kernel]; lia) okbb
                      have hb3 : badF (backR (backR ⟨nm lap, left, right, ns⟩)) = Option.none := bad_name (r := ⟨nm lap, left, right, ns⟩) (s := backR (backR ⟨nm lap, left, right, ns⟩)) rfl rfl rfl hbad
                      refine SS.cons <| S1.ifS <| ST.not <| ST.val rfl <| SE.callName rfl <| SE.globT hK rfl rfl ⟨Keep.kT hK rfl, SL.cons rfl <| SE.closed fun hcld => SE.meth rfl (fun _ => rfl) <| SE.local rfl rfl rfl <| SM.inst hi2 cls (by rw [hK]; rfl) (by rw [hK]; rfl) rfl ⟨Keep.kT hK rfl, SL.nil <| SC.ofCode <| SCc.noX (c := 60) ?_⟩⟩
                      refine c_turned hT (r := backR ⟨nm lap, left, right, ns⟩) _ _ _ okb3 (by show (nm lap ++ "-back").length ≤ 100; rw [Str.length_append, show ("-back" : Str).length = 5 from by decide +kernel]; lia) hi2 hc (by show 14 ≤ d'; lia) (fun _ => ?_) fun m hb => ?_
                      · have hoe := (Old.refl σd).push hcld (.inst 250 (ruleF (backR (backR ⟨nm lap, left, right, ns⟩))))
                        have hie : (σd.push (.inst 250 (ruleF (backR (backR ⟨nm lap, left, right, ns⟩))))).get σd.nx = some (.inst 250 (ruleF (backR (backR ⟨nm lap, left, right, ns⟩)))) := Sto.get_push_self _ _
                        have ste := std.old hoe
                        have hhe := hoe.get _ _ hhd
                        generalize σd.push (.inst 250 (ruleF (backR (backR ⟨nm lap, left, right, ns⟩)))) = σe at hoe hie ste hhe ⊢
                        refine SL.cons rfl <| SE.bin <| SE.cell (.inl rfl) rfl ((ste.cells 1 (by decide)).trans (by rw [cma])) rfl rfl <| SE.str <| SV.addStr (x := nm lap) (by lia) (by decide +kernel) <| SL.cons rfl <| SE.cell (.inl rfl) rfl ((ste.cells 0 (by decide)).trans (by rw [cla])) rfl rfl <|
                          SL.cons rfl <| SE.cell (.inl rfl) rfl ((ste.cells 3 (by decide)).trans (by rw [cra])) rfl rfl <| SL.cons rfl <| SE.local rfl rfl rfl <| SL.nil ?_
                        rw [← ebb]
                        refine c_is hK (r := backR (backR ⟨nm lap, left, right, ns⟩)) _ _ _ _ hie okb3.toRDOk (IsL.ref hhe) hc (by show 0 < d'; lia) ⟨_, rfl, ?_⟩
                        (first | refine kif_neg ((by decide)) ?_ | rw [if_neg (by decide)])
                        exact SS.nil (SS.nil (SS.nil (fin hoe hft)))
                      · rw [hb3] at hb; cases hb
        · exact ⟨[], k3 + 1, by simp, by simp, st6, hj6, (fun q hq => by cases hq), hfeed1, hlap1⟩
    · rintro l1 σ3 ⟨lap, k, cv, rl, tb, hds, hlap, st, hk, hlok, htb, hfeed⟩
      refine ⟨trivial, ?_⟩
      have hlap3 : lap = 3 := by
        rcases Nat.lt_or_ge lap 3 with h | h
        · rw [range3 h] at hds; cases hds
        · lia
      subst hlap3
      have hfew := hlok.few
      have hk600 : k ≤ 600 := by lia
      clear hds hlap hk st0
      show SS _ _ _ _ _ _ _
      have okp : RuleOk plainR := plain_ok
      refine SS.closed fun hcl3 => ?_
      refine SS.cons <| S1.assign rfl rfl rfl <| SE.callName rfl <| SE.globT hK rfl rfl ⟨Keep.kT hK rfl, ?_⟩
      repeat wtm_at "s"
      have hp3 : ∀ j o, σ3.get j = some o → (σ3.push (.list (needsV plainR.needs))).get j = some o := fun j o hj => by rw [Sto.get_push, if_neg (Nat.ne_of_lt (hcl3 _ _ hj).1)]; exact hj
      refine SC.ofCode <| SCc.noX (c := 60) <| SCc.closed fun hcl4 => c_rule hT (r := plainR) _ _ _ okp (.inl (IsL.ref (Sto.get_push_self σ3 (.list (needsV plainR.needs))))) hc (by show 13 ≤ d'; lia) (fun _ => ?_) fun m hb => by rw [bad_plain] at hb; cases hb
      have ste := (st.keep hp3).push hcl4 (.inst 250 (ruleF plainR))
      have hpe := (Sto.get_push_self (σ3.push (.list (needsV plainR.needs))) (.inst 250 (ruleF plainR)))
      refine SG.local rfl ?_
      show SS _ _ _ _ (Loc.set l1 "rule" (.ref (σ3.push (.list (needsV plainR.needs))).nx)) ((σ3.push (.list (needsV plainR.needs))).push (.inst 250 (ruleF plainR))) _
      generalize (σ3.push (.list (needsV plainR.needs))).push (.inst 250 (ruleF plainR)) = σ4 at ste hpe ⊢
      generalize (σ3.push (.list (needsV plainR.needs))).nx = ir at hpe ⊢
      clear st hp3 hcl3
      obtain ⟨w, ew, hw⟩ := take_range ct k 4 (by decide)
      refine SS.closed fun hcl5 => ?_
      refine SS.cons <| S1.assign rfl rfl rfl ?_
      refine SE.tuple <| SL.cons rfl <| SE.bin <| SE.cell (.inl rfl) rfl ((ste.cells 4 (by decide)).trans (by rw [ste.cu])) rfl rfl <| SE.list <| SL.cons rfl <| SE.local rfl rfl rfl <| SL.nil ⟨lenOk rfl, SV.closed fun hcl6 => ?_⟩
      have hp5 : ∀ j o, σ4.get j = some o → (σ4.push (.list [.ref ir])).get j = some o := fun j o hj => by rw [Sto.get_push, if_neg (Nat.ne_of_lt (hcl5 _ _ hj).1)]; exact hj
      have st5 := ste.keep hp5
      refine SV.addList (IsL.ref st5.lst) (IsL.ref (Sto.get_push_self σ4 (.list [.ref ir]))) (by rw [List.length_map]; simp only [List.length_cons, List.length_nil]; lia) ?_
      have e : (rl.map fun x => V.ref x.1) ++ [V.ref ir] = (rl ++ [(ir, plainR)]).map fun x => V.ref x.1 := by rw [List.map_append]; rfl
      rw [e]
      have hp6 : ∀ j o, σ4.get j = some o → ((σ4.push (.list [.ref ir])).push (.list ((rl ++ [(ir, plainR)]).map fun x => V.ref x.1))).get j = some o := fun j o hj => by
        rw [Sto.get_push, if_neg (Nat.ne_of_lt (hcl6 _ _ (hp5 _ _ hj)).1)]; exact hp5 _ _ hj
      have st6 := ste.keep hp6
      have hl6 := Sto.get_push_self (σ4.push (.list [.ref ir])) (.list ((rl ++ [(ir, plainR)]).map fun x => V.ref x.1))
      have hne6 : cj ≠ (σ4.push (.list [.ref ir])).nx := Nat.ne_of_lt (hcl6 _ _ st5.feed.c).1
      have hpe6 := hp6 _ _ hpe
      generalize (σ4.push (.list [.ref ir])).push (.list ((rl ++ [(ir, plainR)]).map fun x => V.ref x.1)) = σ6 at st6 hl6 hpe6 ⊢
      generalize (σ4.push (.list [.ref ir])).nx = rr2 at hl6 hne6 ⊢
      clear st5 hcl6 hp5 hp6 ste hpe hcl5 e
      refine SL.cons rfl <| SE.callName rfl <| SE.globT hK rfl rfl ⟨Keep.kT hK rfl, SL.cons rfl <| SE.local rfl hfeed rfl <| SL.cons rfl <| SE.int <| SL.nil <| c_take hK (m := 4) _ _ _ _ st6.feed hcs (by lia) (by decide) (by decide) hc (by show 0 < d'; lia) ?_⟩
      rw [ew]
      have st7 := st6.setFeed (k + 1)
      have hl7 := Sto.other (z := .dict (skv (feedD cj (k + 1)))) hl6 st6.feed.d (by intro e; cases e)
      have hpe7 := Sto.other (z := .dict (skv (feedD cj (k + 1)))) hpe6 st6.feed.d (by intro e; cases e)
      generalize σ6.set fi (.dict (skv (feedD cj (k + 1)))) = σ7 at st7 hl7 hpe7 ⊢
      clear st6 hl6 hpe6
      have hrules : RulesAt σ7 (rl ++ [(ir, plainR)]) := fun x hx => by
        rcases List.mem_append.mp hx with hx | hx
        · exact st7.rules x hx
        · rw [List.mem_singleton.mp hx]; exact hpe7
      refine SL.nil ⟨lenOk rfl, SG.tuple hc rfl (by decide) ⟨rfl, SG.cell (i := σ.nx + 4) rfl rfl (st7.cells 4 (by decide)) ⟨rfl, SG.local rfl ?_⟩⟩⟩
      have st8 := st7.setRules hl7 hrules hne6
      show SS _ _ _ _ _ (σ7.set (σ.nx + 4) (.cell (some (.ref rr2)))) _
      generalize σ7.set (σ.nx + 4) (.cell (some (.ref rr2))) = σ8 at st8 ⊢
      generalize upd cv 4 (.ref rr2) = cv8 at st8
      clear st7 hl7 hpe7 hrules
      have hnd : ((rl ++ [(ir, plainR)]).map (·.2.name)).Nodup := by
        rw [List.map_append, List.nodup_append]
        refine ⟨hlok.nodup, by simp, fun a ha b hb e => ?_⟩
        obtain ⟨x, hx, rfl⟩ := List.mem_map.mp ha
        obtain ⟨j, hj, e2⟩ := hlok.names x hx
        have hb : b = "plain" := by
          have hb : b = plainR.name := by simpa using hb
          exact hb
        have : nm j ≠ "plain" := by
          have : j = 0 ∨ j = 1 ∨ j = 2 := by lia
          rcases this with rfl | rfl | rfl <;> decide +kernel
        exact this (e2.symm.trans (e.trans hb))
      have hokl : ∀ x ∈ rl ++ [(ir, plainR)], RuleOk x.2 := fun x hx => by
        rcases List.mem_append.mp hx with hx | hx
        · exact hlok.ok x hx
        · rw [List.mem_singleton.mp hx]; exact plain_ok
      have hmem : (ir, plainR) ∈ rl ++ [(ir, plainR)] := by simp
      have hlen8 : (rl ++ [(ir, plainR)]).length ≤ 4 := by rw [List.length_append]; simp only [List.length_cons, List.length_nil]; lia
      obtain ⟨x0, rest, hx0⟩ : ∃ x0 rest, rl ++ [(ir, plainR)] = x0 :: rest := by
        cases rl with
        | nil => exact ⟨_, _, rfl⟩
        | cons a r => exact ⟨_, _, rfl⟩
      generalize rl ++ [(ir, plainR)] = rl8 at st8 hnd hokl hmem hlen8 hx0
      clear hlok hfew
      refine SS.cons (S1.mono (Q := PostW σ.nx ip fi cj rr2 ct (k + 1) cv8 tb w ir) ?_ ?_)
      · refine S1.ifS <| ST.cmp rfl <| SE.local rfl rfl rfl <| SE.int <| SV.eqInt ⟨_, rfl, ?_⟩
        by_cases hw1 : w = 1
        · (first | refine kif_pos ((by simp [hw1])) ?_ | rw [if_pos (by simp [hw1])])
          refine SS.closed fun hcl8 => ?_
          have hx0m : x0 ∈ rl8 := by rw [hx0]; simp
          have okx := hokl x0 hx0m
          have cls := cls250 hT
          refine SS.cons <| S1.expr rfl <| SE.meth rfl (fun _ => rfl) <| SE.cell (.inl rfl) rfl ((st8.cells 4 (by decide)).trans (by rw [st8.cu])) rfl rfl <| SM.list (IsL.ref st8.lst) PySem.F.slot_list_append PySem.F.type_list_append ⟨Keep.builtin, SL.cons rfl <| SE.callName rfl <| SE.globT hK rfl rfl ⟨Keep.kT hK rfl, SL.cons rfl ?_⟩⟩
          refine SE.fieldT (fun _ _ => rfl) <| SE.sub <| SE.cell (.inl rfl) rfl ((st8.cells 4 (by decide)).trans (by rw [st8.cu])) rfl rfl <| SE.int <| SI.list (IsL.ref st8.lst) (by decide) (by decide) (d := .ref x0.1) (by rw [hx0]; rfl)
            ⟨x0.1, 250, ruleF x0.2, .str x0.2.name, rfl, st8.rules x0 hx0m, cls, by rw [hK]; rfl, rfl, rfl, ?_⟩
          repeat wtm_at "s"
          refine SC.ofCode <| SCc.noX (c := 60) <| c_rule hT (r := flatR x0.2.name) _ _ _ (flat_ok okx.name okx.len) (.inr rfl) hc (by show 13 ≤ d'; lia) (fun _ => ?_) fun m hb => by rw [bad_flat] at hb; cases hb
          have st9 := st8.push hcl8 (.inst 250 (ruleF (flatR x0.2.name)))
          refine SL.nil <| SC.append st9.lst (by rw [List.length_map]; lia) ?_
          have e : (rl8.map fun x => V.ref x.1) ++ [V.ref σ8.nx] = (rl8 ++ [(σ8.nx, flatR x0.2.name)]).map fun x => V.ref x.1 := by rw [List.map_append]; rfl
          rw [e]
          refine SS.nil ⟨_, rfl, hfeed, rfl, rfl, st9.addRule (Sto.get_push_self _ _), by rw [List.length_append]; simp only [List.length_cons, List.length_nil]; lia, by simp [hmem], ?_⟩
          have en : (rl8 ++ [(σ8.nx, flatR x0.2.name)]).map (·.2.name) = rl8.map (·.2.name) ++ [x0.2.name] := by rw [List.map_append]; rfl
          rw [en]
          have := firstS_dup (rl8.map (·.2.name)) [] x0.2.name (by rw [hx0]; simp)
          simp only [List.length_nil, Nat.zero_add] at this
          exact ⟨fun _ => hw1, fun _ => this⟩
        · (first | refine kif_neg ((by simpa using fun h => hw1 (by lia))) ?_ | rw [if_neg (by simpa using fun h => hw1 (by lia))])
          have := firstS_nd (rl8.map (·.2.name)) [] (by simpa using hnd)
          exact SS.nil ⟨rl8, rfl, hfeed, rfl, rfl, st8, by lia, hmem, ⟨fun h => by lia, fun h => absurd h hw1⟩⟩
      · rintro f l2 σ9 ⟨rl9, rfl, hfeed2, hway, hrule, st9, hlen9, hmem9, hdup⟩
        try show SS _ _ _ _ _ _ _
        obtain ⟨w2, ew2, hw2⟩ := take_range ct (k + 1) 4 (by decide)
        obtain ⟨hwx, hwok, hwc⟩ := wordAt_ok hw2
        obtain ⟨hbr, hbm⟩ := badRun_is hwc hdup
        refine SS.closed fun hcl9 => ?_
        refine SS.cons (S1.assign rfl rfl rfl (SE.sub (SE.list (SL.cons rfl (SE.str (SL.cons rfl (SE.str (SL.cons rfl (SE.str (SL.cons rfl (SE.str (SL.nil ⟨lenOk rfl, ?_⟩))))))))))))
        have stp := st9.push hcl9 (.list [.str "together", .str "turns", .str "rests", .str "thrice"])
        refine SE.callName rfl (SE.globT hK rfl rfl ⟨Keep.kT hK rfl, SL.cons rfl (SE.local rfl hfeed2 rfl (SL.cons rfl (SE.int (SL.nil (c_take hK (m := 4) _ _ _ _ stp.feed hcs (by lia) (by decide) (by decide) hc (by show 0 < d'; lia) ?_)))))⟩)
        rw [ew2]
        have hlit := (stp.list (Sto.get_push_self _ _) (Nat.ne_of_gt (hcl9 _ _ st9.lst).1) (.dict (skv (feedD cj (k + 1 + 1))))).1
        have sta := stp.setFeed (k + 1 + 1)
        generalize (σ9.push (.list [.str "together", .str "turns", .str "rests", .str "thrice"])).set fi (.dict (skv (feedD cj (k + 1 + 1)))) = σa at sta hlit ⊢
        refine SI.list (IsL.ref hlit) (by lia) (by lia) (d := .str (wordAt w2)) (by rw [Int.toNat_natCast]; exact hwx) (SG.cell (i := σ.nx + 5) rfl rfl (sta.cells 5 (by decide)) ?_)
        have stb := sta.setCell (m := 5) (by decide) (by decide) (.str (wordAt w2))
        have c5 : (upd cv8 5 (.str (wordAt w2))) 5 = some (.str (wordAt w2)) := rfl
        show SS _ _ _ _ _ (σa.set (σ.nx + 5) (.cell (some (.str (wordAt w2))))) _
        generalize σa.set (σ.nx + 5) (.cell (some (.str (wordAt w2)))) = σb at stb ⊢
        generalize upd cv8 5 (.str (wordAt w2)) = cvb at stb c5
        generalize wordAt w2 = word at c5 hwok hwc hbr hbm
        clear sta hlit stp st9 hwx
        refine SS.cons <| S1.assign rfl rfl rfl <| SE.mono (Q := PostU σ.nx ip fi cj rr2 ct (k + 1 + 1) cvb rl9 word) ?_ ?_
        · refine SE.callName rfl <| SE.globT hK rfl rfl ⟨Keep.kT hK rfl, SL.cons rfl <| lam2 hBM hCH stb rfl htb rfl rfl (fun _ => rfl) fun σc tb' stc _ => SL.nil <| SC.closed fun hclc => c_told hK _ _ _ _ (by show 2 ≤ d'; lia) Keep.lam fun W' hWd hWc => SC.ofCode ?_⟩
          have hW2 : W'.d = d' - 1 := hWd
          refine SCc.lam (d' := d' - 2) (by lia) rfl rfl rfl (by decide) (fun _ _ _ _ => rfl) (XLeaves.fly fun _ _ h => h) fun cdv => ?_
          refine SE.callName rfl <| SE.globT hK rfl rfl ⟨Keep.kT hK rfl, SL.cons rfl <| SE.callName rfl <| SE.globT hK rfl rfl ⟨Keep.kT hK rfl, SL.nil <| c_heap hK _ _ _ _ hclc (hWc.trans hc) (by show 8 ≤ d' - 2; lia) fun σd hod => SL.closed fun hcld => ?_⟩⟩
          have std := stc.old hod
          refine SL.cons rfl <| SE.cell (.inr rfl) rfl ((std.cells 4 (by decide)).trans (by rw [std.cu])) rfl rfl <| SL.cons rfl <| SE.dict rfl rfl (by simp) (by decide) ?_
          refine SE.str ⟨_, rfl, SE.cell (.inr rfl) rfl ((std.cells 5 (by decide)).trans (by rw [c5])) rfl rfl ⟨?_, ?_⟩⟩
          · show (["order"] : List Str).Nodup
            simp
          · have hoe : Old σd (σd.push (.dict (skv [("order", .str word)]))) := (Old.refl σd).push hcld _
            have ste := std.old hoe
            have hge : (σd.push (.dict (skv [("order", .str word)]))).get σd.nx = some (.dict (skv [("order", .str word)])) := Sto.get_push_self _ _
            refine SL.nil <| SC.ofCode <| c_runner hT (rl := rl9) (word := word) _ _ _ ste.lst ste.rules (by lia) hge hwok (hWc.trans hc) (by show 13 ≤ d' - 2; lia) (fun hb σf hof => ?_) fun m hb => ?_
            · exact ⟨some _, tb', by rw [hb]; rfl, by rw [hb]; rfl, ste.old hof⟩
            · exact ⟨m, rfl, Option.none, tb', by rw [hb]; rfl, by rw [hb]; rfl, ste⟩
        · rintro d σc ⟨o, tb', rfl, hon, stc⟩
          refine SG.tuple hc rfl (by decide) ⟨rfl, SG.local rfl ⟨rfl, SG.local rfl ?_⟩⟩
          show SS _ _ _ _ _ σc _
          generalize hmm : (badRun word (rl9.map (·.2.name))).getD "" = mm at hbm ⊢
          refine SS.cons <| S1.ifS <| ST.mono (P := PB (false) (σc)) ?_ ?_
          · have hin : ∀ b, b = o.isNone → b = (((w : Int) == 1) || (word == "thrice")) := fun b e => e.trans (hon.trans hbr)
            refine ST.boolOp <| SA.consOr <| ST.mono (P := PB (false) (σc)) ?_ ?_
            · refine ST.cmp rfl <| SE.cmp rfl <| SE.local rfl rfl rfl <| SE.none <| SV.isNone (oV_ne o) <| SE.or2 <| SE.cmp rfl <| SE.local rfl hway rfl <| SE.int <| SV.eqInt ⟨_, rfl, ?_⟩
              by_cases hw1 : ((w : Int) == 1) = true
              · (first | refine kif_pos (hw1) ?_ | rw [if_pos hw1])
                refine SV.neBool ⟨false, congrArg V.bool ?_, rfl, rfl⟩
                rw [hw1] at hin
                have := hin _ rfl
                cases o with
                | none => rfl
                | some i => cases this
              · (first | refine kif_neg (hw1) ?_ | rw [if_neg hw1])
                refine SE.cmp rfl <| SE.cell (.inl rfl) rfl ((stc.cells 5 (by decide)).trans (by rw [c5])) rfl rfl <| SE.str <| SV.eqStr <| SV.neBool ⟨false, congrArg V.bool ?_, rfl, rfl⟩
                have hwf : ((w : Int) == 1) = false := by simpa using hw1
                rw [hwf, Bool.false_or] at hin
                have := hin _ rfl
                rw [← this]
                cases o <;> rfl
            · rintro b σ' ⟨rfl, hs⟩
              rw [hs]; refine kif_neg (by decide) ?_
              refine SA.consOr <| ST.cmp rfl <| SE.cmp rfl <| SE.local rfl rfl rfl <| SE.str <| SV.neStr <| SE.cmp rfl <| SE.local rfl rfl rfl <| SE.none <| SV.isNone (oV_ne o) <| SV.neBool ⟨false, congrArg V.bool ?_, ?_⟩
              · rw [hbm]
                have := hon
                cases o with
                | none => rw [← this]; rfl
                | some i => rw [← this]; rfl
              · (first | refine kif_neg ((by decide)) ?_ | rw [if_neg (by decide)])
                exact SA.nilOr ⟨rfl, rfl⟩
          · rintro b σ' ⟨rfl, hs⟩
            rw [hs]; refine kif_neg (by decide) ?_
            refine SS.nil ?_
            try show SS _ _ _ _ _ _ _
            have hic := stc.rules _ hmem9
            have cls := cls250 hT
            have okb : RuleOk (backR plainR) := plain_ok.back (by decide +kernel) (by decide +kernel)
            refine SS.cons <| S1.ret <| SE.callName rfl <| SE.globT hK rfl rfl ⟨Keep.kT hK rfl, SL.cons rfl <| SE.closed fun hclc => SE.meth rfl (fun _ => rfl) <| SE.local rfl hrule rfl <| SM.inst hic cls (by rw [hK]; rfl) (by rw [hK]; rfl) rfl ⟨Keep.kT hK rfl, SL.nil <| SC.ofCode <| SCc.noX (c := 60) ?_⟩⟩
            refine c_turned hT (r := plainR) _ _ _ okb (by decide +kernel) hic hc (by show 14 ≤ d'; lia) (fun _ => ?_) fun m hb => by rw [bad_plainb] at hb; cases hb
            have hod := (Old.refl σc).push hclc (.inst 250 (ruleF (backR plainR)))
            have hid : (σc.push (.inst 250 (ruleF (backR plainR)))).get σc.nx = some (.inst 250 (ruleF (backR plainR))) := Sto.get_push_self _ _
            have std := stc.old hod
            have hir := hod.get _ _ hic
            generalize σc.push (.inst 250 (ruleF (backR plainR))) = σd at hid std hir ⊢
            refine SL.closed fun hcld => ?_
            refine SL.cons rfl <| SE.str <| SL.cons rfl <| SE.field (fun _ _ => rfl) (fun _ _ => rfl) <| SE.local rfl hrule rfl ⟨ir, 250, ruleF plainR, tv plainR.right, rfl, hir, cls, by rw [hK]; rfl, rfl, handed_tv _, ?_⟩
            refine SL.cons rfl <| SE.field (fun _ _ => rfl) (fun _ _ => rfl) <| SE.local rfl hrule rfl ⟨ir, 250, ruleF plainR, tv plainR.left, rfl, hir, cls, by rw [hK]; rfl, rfl, handed_tv _, ?_⟩
            repeat wtm_at "s"
            have hoe := (Old.refl σd).push hcld (.list (needsV plainR.needs))
            have hle : (σd.push (.list (needsV plainR.needs))).get σd.nx = some (.list (needsV plainR.needs)) := Sto.get_push_self _ _
            have ste := std.old hoe
            have hie := hoe.get _ _ hid
            have en : (backR plainR).name = "plain-back" := by decide +kernel
            rw [← en]
            exact c_is hK (r := backR plainR) _ _ _ _ hie okb.toRDOk (IsL.ref hle) hc (by show 0 < d'; lia) (hq _ tb' ste.tab)
    · exact ⟨0, 0, _, [], [], rfl, by decide, st0, by decide, ⟨fun x hx => (by cases hx), by simp, by simp, fun x hx => (by cases hx)⟩, .inl rfl, rfl⟩
end
/- part CE9 -/
set_option maxHeartbeats 1000000
open PySem PySem.W PySem.Calls PyProof.Rows PySem.SeqAt
theorem wellInts {P : Params} {h : Heap} {g : TagMap} : ∀ {ks : List Int} {vs : List Value}, WellAll P h vs (ofPys (ks.map PyData.int)) → VRs g (ks.map V.int) vs
  | [], _, w => by cases w; rfl
  | k :: r, _, w => by
    cases w with
    | cons a b => cases a with
      | int i t => exact ⟨_, _, rfl, ⟨t, rfl⟩, wellInts b⟩
/-- the world of the law -/
noncomputable def cxLaw (prog : Program) (w : World) (s₁ : Shared) (mg mb : Str → Option Value) (loose : List Str) : Cx where
  prog := prog
  w := w
  H0 := ghostOf s₁.heap [(620, 616)]
  K := KF w.params
  os := s₁.os
  top := topProg
  loose := loose
  mg := mg
  mb := mb
noncomputable def gLaw (lst : Addr) (o : Obj) : TagMap := fun a => if a = 616 then .main 0 else if a = lst then .froz o else .free
noncomputable def σLaw : Sto := ⟨1, fun i => if i = 0 then some (tabO 616 []) else Option.none⟩
theorem law_go {prog p : Program} {w : World} {s₁ : Shared} {mg mb : Str → Option Value} {loose : List Str} {mean : ExcName → Option Value} (X : (KF w.params).In s₁.heap) (T : Top p loose mean mg mb s₁.heap)
    (hT9 : TabsAt [(620, 616)] s₁.heap) (hg : s₁.gens = #[]) {lst : Addr} {ks : List Int} (wl : Well w.params s₁.heap (.ref lst) (ofPy (.list (ks.map .int)))) (hk : ks.length ≤ 63)
    (hfile : ((prog.main.file : Str) == ("/claim/cut.py" : Str)) = true) (htop : (prog.main.scope.names.lookup ("super" : Str)).isSome = false) :
    codeAny (model prog w) callerA (.call (.ref 621) ⟨[.ref lst], []⟩) (fun r s' => (∃ v, r = .ok (.ret v) ∧ v = .bool true) ∧ (∀ b o, (ghostOf s₁.heap [(620, 616)]).get? b = some o → s'.heap.get? b = some o) ∧ s'.os = s₁.os ∧ s'.gens = #[] ∧ GrownAll [(620, 616)] s'.heap) s₁ := by
  have hP : s₁.heap.get? 616 = some (tabObj #[]) := (hT9 (620, 616) (.head _)).2
  obtain ⟨vs, hlst, hws⟩ : ∃ vs : List Value, s₁.heap.get? lst = some (lstObj vs 0) ∧ WellAll w.params s₁.heap vs (ofPys (ks.map PyData.int)) := by
    cases wl with
    | list h1 h2 => exact ⟨_, h1, h2⟩
  have hne : lst ≠ 616 := fun e => by rw [e, hP] at hlst; cases hlst
  have hK0 := ghost_K (tabs := [(620, 616)]) hT9 X (by rfl)
  have hcode : CodeHd (ghostOf s₁.heap [(620, 616)]) 620 616 := (ghost_code (tabs := [(620, 616)]) hT9).1
  have hTg := ghost_top (tabs := [(620, 616)]) hT9 T
  have hTr := topRead_of hTg
  obtain ⟨C, hC⟩ : ∃ C, C = cxLaw prog w s₁ mg mb (loose ++ (recsOf p).map (·.name) ++ (litsOf p).map (·.1) ++ (clssOf p loose).map (·.name)) := ⟨_, rfl⟩
  have ok : C.Ok := by
    rw [hC]
    refine ⟨hK0, hTr, 621, by decide, ?_⟩
    have e := hK0 621 _ rfl
    show (ghostOf s₁.heap [(620, 616)]).get? 621 ≠ Option.none
    rw [e]; exact fun h => by cases h
  have hH0 : C.H0 = ghostOf s₁.heap [(620, 616)] := by rw [hC]; rfl
  have hp0 : C.H0.get? 616 = Option.none := by rw [hH0]; exact hideAll_none _ (.head _)
  have R : Rel C (gLaw lst (lstObj vs 0)) σLaw s₁ := by
    refine ⟨ok, fun b o e => ?_, fun a ha => ?_, fun a ha => ?_, fun a o ha => ?_, fun a o ha => ?_, fun a m ha => ?_, fun a b i ha hb => ?_, fun a i ha => ?_, fun a i ha => ?_, fun i o hi => ?_, hg, by rw [hC]; rfl⟩
    · rw [hH0] at e; exact of_hideAll _ e
    · unfold gLaw at ha
      split at ha
      · rename_i h; exact ⟨_, h ▸ hP⟩
      · split at ha
        · rename_i h; exact ⟨_, h ▸ hlst⟩
        · exact absurd rfl ha
    · unfold gLaw
      split
      · rename_i h; rw [h] at ha; exact absurd hp0 ha
      · split
        · exact .inl ⟨_, rfl⟩
        · exact .inr rfl
    · unfold gLaw at ha
      split at ha
      · cases ha
      · split at ha
        · rename_i h; cases ha; exact h ▸ hlst
        · cases ha
    · unfold gLaw at ha
      split at ha
      · cases ha
      · split at ha <;> cases ha
    · unfold gLaw at ha
      split at ha
      · cases ha
      · split at ha <;> cases ha
    · have one : ∀ {a i}, gLaw lst (lstObj vs 0) a = .main i → a = 616 := fun {a i} ha => by
        unfold gLaw at ha
        split at ha
        · assumption
        · split at ha <;> cases ha
      rw [one ha, one hb]
    · unfold gLaw at ha
      split at ha
      · cases ha; decide
      · split at ha <;> cases ha
    · unfold gLaw at ha
      split at ha
      · cases ha
      · split at ha <;> cases ha
    · unfold σLaw at hi
      dsimp only at hi
      split at hi
      · rename_i h; cases hi; subst h
        exact ⟨616, by simp [gLaw], [], _, hP, ⟨rfl, rfl, rfl⟩, rfl⟩
      · cases hi
  have hT : Ctx1 C := ⟨by rw [hC]; rfl, by rw [hC]; exact hfile, by rw [hC]; exact htop⟩
  have hBM : BM C := by
    obtain ⟨bm, ob, b1, b2, b3, b4, b5, b6⟩ := hTg.bmain
    exact ⟨bm, ob, by rw [hC]; exact b1, b2, by rw [hH0]; exact b3, b4, b5, b6⟩
  have A : Ar (gLaw lst (lstObj vs 0)) 30 true callerA := ⟨by decide, by decide, fun _ => rfl, ⟨[], rfl, fun e he => by cases he⟩, rfl⟩
  have hCM : C.M = model prog w := by rw [hC]; rfl
  have main := c_law hT hBM (by rw [hH0]; exact hcode) hk .none ⟨default, [], 30, true, Option.none⟩ σLaw (fun d σ' => d = .bool true ∧ ∃ tb, σ'.get 0 = some (tabO 616 tb)) rfl (by decide) (ip := 0) rfl (fun σ' tb h => ⟨rfl, tb, h⟩)
    (gLaw lst (lstObj vs 0)) callerA 0 s₁ (.ref 621) [.ref lst] R A rfl ⟨_, _, rfl, ⟨lst, vs, 0, rfl, by simp [gLaw, hne], wellInts hws⟩, rfl⟩
  rw [hCM] at main
  refine codeAny_mono main fun r s' z => ?_
  cases r with
  | error e => exact z.elim
  | ok fl =>
    cases fl with
    | ret v =>
      obtain ⟨d, g', σ', x, R', hv, hd, tb, htb⟩ := z
      subst hd
      obtain rfl : v = .bool true := hv
      obtain ⟨_, vs', e', _, _⟩ := R'.tabAt htb
      exact ⟨⟨_, rfl, rfl⟩, fun b o e => R'.base b o (by rw [hH0]; exact e), by rw [R'.os, hC]; rfl, R'.gens, ⟨_, e'⟩, trivial⟩
    | _ => exact z.elim
theorem law_end {prog : Program} {w : World} {s₁ : Shared} {f : Value} {vs : List Value} {cw : ClaimW} {cl : Str → Option Addr} {mean : ExcName → Option Value} {args : List WData} {tabs : List (Addr × Addr)} (hT : TabsAt tabs s₁.heap) (hr : ∀ a x, cw.raises a x = false) (hpost : cw.post args (.bool true) args = true)
    (h1 : codeAny (model prog w) callerA (.call f ⟨vs, []⟩) (fun r s' => (∃ v, r = .ok (.ret v) ∧ v = .bool true) ∧ (∀ b o, (ghostOf s₁.heap tabs).get? b = some o → s'.heap.get? b = some o) ∧ s'.os = s₁.os ∧ s'.gens = #[] ∧ GrownAll tabs s'.heap) s₁) :
    wpAny (model prog w) callerA (call f vs) (fun v s' => GoodWG cw cl mean args s₁ (.ok (.ret v)) s') (fun e s' => GoodWG cw cl mean args s₁ (.error e) s') s₁ := by
  have h2 : codeAny (model prog w) callerA (.call f ⟨vs, []⟩) (GoodWG cw cl mean args s₁) s₁ := kn_post hT hr (codeAny_mono h1 fun r s' ⟨⟨v, hr', hv⟩, hk, hos, hgn, hgr⟩ =>
    ⟨⟨.inl ⟨v, .bool true, [], hr', fun c => hr args c, hv ▸ ReadsW.bool true, hpost, fun _ => ⟨List.nodup_nil, fun a ha => by cases ha⟩⟩, hk, hos, hgn⟩, hgr⟩)
  refine wpAny_call (codeAny_mono h2 fun r s' z => ?_)
  cases r with
  | error e => exact z
  | ok fl =>
    cases fl with
    | ret v => exact z
    | _ => rcases z.1 with ⟨_, _, _, e, _⟩ | ⟨_, _, _, e, _⟩ <;> cases e
end Mine.D
open PySem PySem.W PyProof.Rows PySem.Calls
set_option Elab.async true
namespace Mine
theorem main.tw10047389527955405517 : True := trivial
theorem main.tw10094358506670053839 : True := trivial
theorem main.tw10114013102757674387 : True := trivial
theorem main.tw10123989817122485451 : True := trivial
theorem main.tw10140136200207757160 : True := trivial
theorem main.tw10159738436595150677 : True := trivial
theorem main.tw10169072693733980587 : True := trivial
theorem main.tw10177057350305019805 : True := trivial
theorem main.tw10199874654664476236 : True := trivial
theorem main.tw10234815189450012239 : True := trivial
theorem main.tw10283388844273144081 : True := trivial
theorem main.tw10298723112805639129 : True := trivial
theorem main.tw10334261112615635914 : True := trivial
theorem main.tw10363585996791799541 : True := trivial
theorem main.tw104360540948158410 : True := trivial
theorem main.tw10450603732522932521 : True := trivial
theorem main.tw10453263994017694363 : True := trivial
theorem main.tw10455743928339290457 : True := trivial
theorem main.tw1054321117371714560 : True := trivial
theorem main.tw10564528347858357063 : True := trivial
theorem main.tw10572078138482761021 : True := trivial
theorem main.tw10609540516017602915 : True := trivial
theorem main.tw10625486282989778954 : True := trivial
theorem main.tw10642606787283503386 : True := trivial
theorem main.tw10652611922669240339 : True := trivial
theorem main.tw10652863235454686790 : True := trivial
theorem main.tw10663580350406149668 : True := trivial
theorem main.tw10665089971535097683 : True := trivial
theorem main.tw10707853282979444102 : True := trivial
theorem main.tw10750994468655217958 : True := trivial
theorem main.tw10813080517026676716 : True := trivial
theorem main.tw10821422270917381399 : True := trivial
theorem main.tw1084220662915027778 : True := trivial
theorem main.tw10864377008497418100 : True := trivial
theorem main.tw10876229203375891673 : True := trivial
theorem main.tw10876375607700338302 : True := trivial
theorem main.tw10877679251791092727 : True := trivial
theorem main.tw10896356407431480244 : True := trivial
theorem main.tw10924716458440934090 : True := trivial
theorem main.tw1092785777240315536 : True := trivial
theorem main.tw10953687544409504101 : True := trivial
theorem main.tw1098248734344127483 : True := trivial
theorem main.tw10992214633131536827 : True := trivial
theorem main.tw1099256609624015869 : True := trivial
theorem main.tw11001617756164336837 : True := trivial
theorem main.tw11003572833241299968 : True := trivial
theorem main.tw11020365191643786025 : True := trivial
theorem main.tw11041547156204584376 : True := trivial
theorem main.tw11086099901593105684 : True := trivial
theorem main.tw11092141859048813250 : True := trivial
theorem main.tw11101190512080308003 : True := trivial
theorem main.tw11135027115929721415 : True := trivial
theorem main.tw1118068078248606362 : True := trivial
theorem main.tw11181722664286889309 : True := trivial
theorem main.tw11218778669853930896 : True := trivial
theorem main.tw11221353774195762014 : True := trivial
theorem main.tw11239335112260394413 : True := trivial
theorem main.tw11251407683458634364 : True := trivial
theorem main.tw11261727412033496967 : True := trivial
theorem main.tw11273777480241942364 : True := trivial
theorem main.tw11311155076762098589 : True := trivial
theorem main.tw11349898740250378076 : True := trivial
theorem main.tw11374851513655246148 : True := trivial
theorem main.tw11388154006635350966 : True := trivial
theorem main.tw11399646045708457374 : True := trivial
theorem main.tw11410963132546700228 : True := trivial
theorem main.tw1142173933681417890 : True := trivial
theorem main.tw11447318969077168634 : True := trivial
theorem main.tw11461230924637031220 : True := trivial
theorem main.tw11476092923266045095 : True := trivial
theorem main.tw11487549891475536569 : True := trivial
theorem main.tw1150287232629052791 : True := trivial
theorem main.tw11531331273489700057 : True := trivial
theorem main.tw11544348965984651327 : True := trivial
theorem main.tw11554813239044494598 : True := trivial
theorem main.tw1156462466702112376 : True := trivial
theorem main.tw11568233105128105434 : True := trivial
theorem main.tw1157997071576566072 : True := trivial
theorem main.tw11595355409239048105 : True := trivial
theorem main.tw11646826074482590764 : True := trivial
theorem main.tw11692516046256081784 : True := trivial
theorem main.tw11710404883906591787 : True := trivial
theorem main.tw11712081513822626495 : True := trivial
theorem main.tw11716418206903941319 : True := trivial
theorem main.tw11735423636902730196 : True := trivial
theorem main.tw11752208632293872130 : True := trivial
theorem main.tw11774690029378154688 : True := trivial
theorem main.tw11785714552879321826 : True := trivial
theorem main.tw1178595665728414349 : True := trivial
theorem main.tw11815829001073249272 : True := trivial
theorem main.tw11962923498438245051 : True := trivial
theorem main.tw11967333016625521393 : True := trivial
theorem main.tw11982392923317675503 : True := trivial
theorem main.tw1198661942849946583 : True := trivial
theorem main.tw11987853993630220354 : True := trivial
theorem main.tw12014785543569010823 : True := trivial
theorem main.tw12027323910402764344 : True := trivial
theorem main.tw12057704586751987240 : True := trivial
theorem main.tw12077450504624328385 : True := trivial
theorem main.tw12139096438432415106 : True := trivial
theorem main.tw12170992721606120685 : True := trivial
theorem main.tw12205347405646519318 : True := trivial
theorem main.tw12222963475772708484 : True := trivial
theorem main.tw12252054271945606052 : True := trivial
theorem main.tw12273490649430754879 : True := trivial
theorem main.tw12277023271486646383 : True := trivial
theorem main.tw12298629886278197574 : True := trivial
theorem main.tw12343854547171428336 : True := trivial
theorem main.tw12361340156312767134 : True := trivial
theorem main.tw1236483940969888574 : True := trivial
theorem main.tw12398391418792145533 : True := trivial
theorem main.tw1242282695825638017 : True := trivial
theorem main.tw12431561837914552411 : True := trivial
theorem main.tw12450111651097656602 : True := trivial
theorem main.tw12463224122652932544 : True := trivial
theorem main.tw12483276189755474720 : True := trivial
theorem main.tw12488115920082068600 : True := trivial
theorem main.tw12518504611687188807 : True := trivial
theorem main.tw1253437644075932092 : True := trivial
theorem main.tw12543713266681445118 : True := trivial
theorem main.tw1255815211270559930 : True := trivial
theorem main.tw12564604832814323664 : True := trivial
theorem main.tw12590340796369385619 : True := trivial
theorem main.tw12594366453804578888 : True := trivial
theorem main.tw12604180812275160505 : True := trivial
theorem main.tw12623159325031504133 : True := trivial
theorem main.tw1264294196387467257 : True := trivial
theorem main.tw12670839924663504800 : True := trivial
theorem main.tw12675357926760492328 : True := trivial
theorem main.tw12692632004510240207 : True := trivial
theorem main.tw12702744160499308131 : True := trivial
theorem main.tw12732289081945773324 : True := trivial
theorem main.tw12741544251441588921 : True := trivial
theorem main.tw12748397558918655664 : True := trivial
theorem main.tw12751799325998411230 : True := trivial
theorem main.tw1277820614484962519 : True := trivial
theorem main.tw12800608258095302798 : True := trivial
theorem main.tw12872379398031375081 : True := trivial
theorem main.tw12885385263037960081 : True := trivial
theorem main.tw12885673836220544336 : True := trivial
theorem main.tw1289389943133740499 : True := trivial
theorem main.tw12900284412222446716 : True := trivial
theorem main.tw12909650291622432550 : True := trivial
theorem main.tw12922898485456448571 : True := trivial
theorem main.tw12927740378394474205 : True := trivial
theorem main.tw12974819211118642341 : True := trivial
theorem main.tw12987577155417789579 : True := trivial
theorem main.tw12992176717851604617 : True := trivial
theorem main.tw13077236301305049449 : True := trivial
theorem main.tw13110577991587790113 : True := trivial
theorem main.tw13110970153573199417 : True := trivial
theorem main.tw13113777628852026922 : True := trivial
theorem main.tw13116522157475607773 : True := trivial
theorem main.tw13132915859168520264 : True := trivial
theorem main.tw13148611719377898607 : True := trivial
theorem main.tw13157206579259725088 : True := trivial
theorem main.tw13180746182150919023 : True := trivial
theorem main.tw13187166440333854079 : True := trivial
theorem main.tw1319676515408343850 : True := trivial
theorem main.tw13224007501803129859 : True := trivial
theorem main.tw13227692790652741651 : True := trivial
theorem main.tw13260870731297125680 : True := trivial
theorem main.tw13270728482189477470 : True := trivial
theorem main.tw13293747886898857621 : True := trivial
theorem main.tw13313126695403321540 : True := trivial
theorem main.tw13348322127785295214 : True := trivial
theorem main.tw13350764725976880583 : True := trivial
theorem main.tw13355152605343272895 : True := trivial
theorem main.tw13406003279186336099 : True := trivial
theorem main.tw13465503431842376007 : True := trivial
theorem main.tw13503263706703578961 : True := trivial
theorem main.tw13547569757486424058 : True := trivial
theorem main.tw13590572293223372214 : True := trivial
theorem main.tw13591255225166038476 : True := trivial
theorem main.tw13597483153833180358 : True := trivial
theorem main.tw13626721169425172152 : True := trivial
theorem main.tw13667920496262714385 : True := trivial
theorem main.tw13693970394777133609 : True := trivial
theorem main.tw13724616953566380437 : True := trivial
theorem main.tw13777938177461255882 : True := trivial
theorem main.tw13797323745857372409 : True := trivial
theorem main.tw13803360072150633466 : True := trivial
theorem main.tw13962693860625380366 : True := trivial
theorem main.tw13969057352263671647 : True := trivial
theorem main.tw13972245371655741198 : True := trivial
theorem main.tw13980345723018547825 : True := trivial
theorem main.tw13989496423458381343 : True := trivial
theorem main.tw13995172100960836882 : True := trivial
theorem main.tw14009396871252706886 : True := trivial
theorem main.tw14027531716089632829 : True := trivial
theorem main.tw14060465935940456498 : True := trivial
theorem main.tw14061640607465278742 : True := trivial
theorem main.tw14064073609400967072 : True := trivial
theorem main.tw14080665800827857628 : True := trivial
theorem main.tw14097447854668400296 : True := trivial
theorem main.tw1409966394225722968 : True := trivial
theorem main.tw14106445559736802775 : True := trivial
theorem main.tw1410759432943718018 : True := trivial
theorem main.tw14148177179885854485 : True := trivial
theorem main.tw14161005256144132680 : True := trivial
theorem main.tw14168887731352723522 : True := trivial
theorem main.tw14216407083858561409 : True := trivial
theorem main.tw14218914174604095658 : True := trivial
theorem main.tw1429040668314091153 : True := trivial
theorem main.tw14313897822631088780 : True := trivial
theorem main.tw14364048958407549093 : True := trivial
theorem main.tw14368271195830560734 : True := trivial
theorem main.tw14439473939278146460 : True := trivial
theorem main.tw14457758005677747962 : True := trivial
theorem main.tw14504180641510445567 : True := trivial
theorem main.tw14510055921401542917 : True := trivial
theorem main.tw14539993770535171780 : True := trivial
theorem main.tw1454224541498743561 : True := trivial
theorem main.tw14562738103837258888 : True := trivial
theorem main.tw14635473669698735251 : True := trivial
theorem main.tw14639212616227390028 : True := trivial
theorem main.tw14646587721710459877 : True := trivial
theorem main.tw14662554035588321541 : True := trivial
theorem main.tw14672674291997333471 : True := trivial
theorem main.tw1469836325065767749 : True := trivial
theorem main.tw14722489848711283861 : True := trivial
theorem main.tw14759895335926876869 : True := trivial
theorem main.tw14788915703135433725 : True := trivial
theorem main.tw14793117695081215449 : True := trivial
theorem main.tw14798791472264738832 : True := trivial
theorem main.tw14814594519894181452 : True := trivial
theorem main.tw14859100970857779836 : True := trivial
theorem main.tw14864641218109852296 : True := trivial
theorem main.tw14907226015203709474 : True := trivial
theorem main.tw1496695287857109588 : True := trivial
theorem main.tw15017983477296125989 : True := trivial
theorem main.tw15023316991559800185 : True := trivial
theorem main.tw1504049600530537962 : True := trivial
theorem main.tw15059693217772790739 : True := trivial
theorem main.tw15062679425460387418 : True := trivial
theorem main.tw15079240505294077160 : True := trivial
theorem main.tw15136431859952498927 : True := trivial
theorem main.tw15162887387933576508 : True := trivial
theorem main.tw1519927702969063271 : True := trivial
theorem main.tw1519992759497675636 : True := trivial
theorem main.tw15225127925928830808 : True := trivial
theorem main.tw15277975159832343749 : True := trivial
theorem main.tw15303317825217679618 : True := trivial
theorem main.tw15342904991969174519 : True := trivial
theorem main.tw15350898050860989542 : True := trivial
theorem main.tw15356762974548107741 : True := trivial
theorem main.tw15365013842991253249 : True := trivial
theorem main.tw15387884906608193903 : True := trivial
theorem main.tw15410482203810522393 : True := trivial
theorem main.tw1545906260438175962 : True := trivial
theorem main.tw15465920861327815835 : True := trivial
theorem main.tw15467891735981029475 : True := trivial
theorem main.tw15510692781650021527 : True := trivial
theorem main.tw15514936471743626214 : True := trivial
theorem main.tw15554039934745177238 : True := trivial
theorem main.tw15558288988949320067 : True := trivial
theorem main.tw15580989882048331800 : True := trivial
theorem main.tw15589955886551607785 : True := trivial
theorem main.tw15595112118272840620 : True := trivial
theorem main.tw15608450976537380609 : True := trivial
theorem main.tw15616401959046598769 : True := trivial
theorem main.tw15624239662980076321 : True := trivial
theorem main.tw15643365686152983790 : True := trivial
theorem main.tw15649996292582860464 : True := trivial
theorem main.tw15734200111481486640 : True := trivial
theorem main.tw15734660467963936456 : True := trivial
theorem main.tw15737690656516749961 : True := trivial
theorem main.tw15803610866087392283 : True := trivial
theorem main.tw15806524323241146399 : True := trivial
theorem main.tw1587290215689348708 : True := trivial
theorem main.tw15955573374722617477 : True := trivial
theorem main.tw15957597259013190341 : True := trivial
theorem main.tw15970538086172389420 : True := trivial
theorem main.tw15984706205718930553 : True := trivial
theorem main.tw16008252555379753968 : True := trivial
theorem main.tw16008457594558532635 : True := trivial
theorem main.tw16026485685270457870 : True := trivial
theorem main.tw16035907590883218939 : True := trivial
theorem main.tw16049902774474827687 : True := trivial
theorem main.tw16102231251864390963 : True := trivial
theorem main.tw16135426469972691074 : True := trivial
theorem main.tw16136984950599521427 : True := trivial
theorem main.tw1615045767204293396 : True := trivial
theorem main.tw16153842264607907944 : True := trivial
theorem main.tw1615956725737779560 : True := trivial
theorem main.tw161903638078081290 : True := trivial
theorem main.tw16193401482309157537 : True := trivial
theorem main.tw16218864148678617972 : True := trivial
theorem main.tw16251939892948500945 : True := trivial
theorem main.tw1628013610222277130 : True := trivial
theorem main.tw16305672181175384284 : True := trivial
theorem main.tw16320215318167395912 : True := trivial
theorem main.tw1632041292262086317 : True := trivial
theorem main.tw16357356043003861740 : True := trivial
theorem main.tw16411370214107742406 : True := trivial
theorem main.tw16451033083921036709 : True := trivial
theorem main.tw16452447596832230105 : True := trivial
theorem main.tw1645717771770832407 : True := trivial
theorem main.tw16480584520131690045 : True := trivial
theorem main.tw16572128252103988241 : True := trivial
theorem main.tw16629339528299215175 : True := trivial
theorem main.tw16641786646906312760 : True := trivial
theorem main.tw16656740534632174751 : True := trivial
theorem main.tw16676564476587882173 : True := trivial
theorem main.tw16689149305811164139 : True := trivial
theorem main.tw16721930046160240684 : True := trivial
theorem main.tw1677766988990989824 : True := trivial
theorem main.tw16778611742570070204 : True := trivial
theorem main.tw1678875084529416142 : True := trivial
theorem main.tw16806246253224384389 : True := trivial
theorem main.tw16819838333489098493 : True := trivial
theorem main.tw16832360635688203351 : True := trivial
theorem main.tw16923884221124529275 : True := trivial
theorem main.tw16959884160788844718 : True := trivial
theorem main.tw17016820405989369747 : True := trivial
theorem main.tw17052023290607921161 : True := trivial
theorem main.tw17057053908230417247 : True := trivial
theorem main.tw17091655785135471103 : True := trivial
theorem main.tw17118054049896295152 : True := trivial
theorem main.tw17128291446047057950 : True := trivial
theorem main.tw17146568849442343683 : True := trivial
theorem main.tw17147588175821073265 : True := trivial
theorem main.tw1714950047550659301 : True := trivial
theorem main.tw17201416709059790184 : True := trivial
theorem main.tw17223442867436993403 : True := trivial
theorem main.tw17268439761433841065 : True := trivial
theorem main.tw17272174723667511238 : True := trivial
theorem main.tw17275675667316583603 : True := trivial
theorem main.tw17290568124846718506 : True := trivial
theorem main.tw17297283025540448806 : True := trivial
theorem main.tw17298425922696826006 : True := trivial
theorem main.tw17336282652733537790 : True := trivial
theorem main.tw17353955331779342651 : True := trivial
theorem main.tw17402982504261768225 : True := trivial
theorem main.tw17429019505603694559 : True := trivial
theorem main.tw17431719831054627609 : True := trivial
theorem main.tw17438294365789470252 : True := trivial
theorem main.tw17453503289922162039 : True := trivial
theorem main.tw17456035664235451855 : True := trivial
theorem main.tw17477492558424962760 : True := trivial
theorem main.tw17495560712657236704 : True := trivial
theorem main.tw17561526911342447988 : True := trivial
theorem main.tw17644181745481072423 : True := trivial
theorem main.tw17665120845849184447 : True := trivial
theorem main.tw17679725944135375923 : True := trivial
theorem main.tw17695171507069755227 : True := trivial
theorem main.tw17705503467451336006 : True := trivial
theorem main.tw17715262827843222689 : True := trivial
theorem main.tw17725498274588495791 : True := trivial
theorem main.tw1777545030009416734 : True := trivial
theorem main.tw17871620999419790863 : True := trivial
theorem main.tw17906638245316424091 : True := trivial
theorem main.tw17922808331100549178 : True := trivial
theorem main.tw17958375852430007124 : True := trivial
theorem main.tw17974016328880235120 : True := trivial
theorem main.tw18031918436515192882 : True := trivial
theorem main.tw18063282731904131703 : True := trivial
theorem main.tw18120430973489738927 : True := trivial
theorem main.tw18134284020713443437 : True := trivial
theorem main.tw18165044119631177899 : True := trivial
theorem main.tw18185682825829819572 : True := trivial
theorem main.tw18190005008629794160 : True := trivial
theorem main.tw18238007617527299592 : True := trivial
theorem main.tw1826329307503635854 : True := trivial
theorem main.tw18284262389922463811 : True := trivial
theorem main.tw18302796317244248524 : True := trivial
theorem main.tw18315214858253571532 : True := trivial
theorem main.tw18325589031809861271 : True := trivial
theorem main.tw18332899500509843999 : True := trivial
theorem main.tw18344032359734412310 : True := trivial
theorem main.tw18385570937342765463 : True := trivial
theorem main.tw18390973280401263659 : True := trivial
theorem main.tw18392154025008590481 : True := trivial
theorem main.tw18397530887139883770 : True := trivial
theorem main.tw18421580907717582127 : True := trivial
theorem main.tw18425317256667529438 : True := trivial
theorem main.tw18431692314602308842 : True := trivial
theorem main.tw1886080085820668685 : True := trivial
theorem main.tw1900339198761634783 : True := trivial
theorem main.tw1980160206288974728 : True := trivial
theorem main.tw2007339730380871907 : True := trivial
theorem main.tw2019394398466159022 : True := trivial
theorem main.tw2110754180369666209 : True := trivial
theorem main.tw2173562974560187446 : True := trivial
theorem main.tw2190695567426971638 : True := trivial
theorem main.tw2195194259037543316 : True := trivial
theorem main.tw221909299271738847 : True := trivial
theorem main.tw2225956059507018244 : True := trivial
theorem main.tw2238316416991798583 : True := trivial
theorem main.tw2276097655705016344 : True := trivial
theorem main.tw2279707942289718827 : True := trivial
theorem main.tw2341703837736514645 : True := trivial
theorem main.tw2406621943657119228 : True := trivial
theorem main.tw2433702464844828792 : True := trivial
theorem main.tw244467455267321384 : True := trivial
theorem main.tw2456247091588846565 : True := trivial
theorem main.tw2496676261509829067 : True := trivial
theorem main.tw2524017781993486291 : True := trivial
theorem main.tw2538046985915079169 : True := trivial
theorem main.tw2544328076492683441 : True := trivial
theorem main.tw2566753976717531306 : True := trivial
theorem main.tw2629084897520917108 : True := trivial
theorem main.tw2647654807098235363 : True := trivial
theorem main.tw2700663920422101307 : True := trivial
theorem main.tw2702614204127132176 : True := trivial
theorem main.tw2714283472998740243 : True := trivial
theorem main.tw2724176850512262202 : True := trivial
theorem main.tw2729793432009153956 : True := trivial
theorem main.tw2744014450722944760 : True := trivial
theorem main.tw2750411421705246143 : True := trivial
theorem main.tw2759098988195820126 : True := trivial
theorem main.tw2821470743931037460 : True := trivial
theorem main.tw2852251193174398662 : True := trivial
theorem main.tw2906824675625879941 : True := trivial
theorem main.tw302440914744352476 : True := trivial
theorem main.tw3027586509356016917 : True := trivial
theorem main.tw3045742163950154196 : True := trivial
theorem main.tw3137596982192898869 : True := trivial
theorem main.tw3160845607165458772 : True := trivial
theorem main.tw31828345220925962 : True := trivial
theorem main.tw3234112476842188716 : True := trivial
theorem main.tw3298483428156984901 : True := trivial
theorem main.tw3299218664060906527 : True := trivial
theorem main.tw3305931106042330821 : True := trivial
theorem main.tw3314904115985164895 : True := trivial
theorem main.tw3343439749351644125 : True := trivial
theorem main.tw33456957511925785 : True := trivial
theorem main.tw3370190323706015969 : True := trivial
theorem main.tw3370842686811476594 : True := trivial
theorem main.tw341453280667917650 : True := trivial
theorem main.tw3421349623929635341 : True := trivial
theorem main.tw3454311308915712629 : True := trivial
theorem main.tw3464709057266567092 : True := trivial
theorem main.tw3466206800631347469 : True := trivial
theorem main.tw3557749057250611081 : True := trivial
theorem main.tw3562595001068472590 : True := trivial
theorem main.tw3570300971023340979 : True := trivial
theorem main.tw3583811862363856187 : True := trivial
theorem main.tw358491910552652209 : True := trivial
theorem main.tw3613476055612923068 : True := trivial
theorem main.tw3626430660855392483 : True := trivial
theorem main.tw3627144658338631552 : True := trivial
theorem main.tw3635900802997115186 : True := trivial
theorem main.tw365850788961202214 : True := trivial
theorem main.tw3706830351922483016 : True := trivial
theorem main.tw372505627349444580 : True := trivial
theorem main.tw3748114642381145586 : True := trivial
theorem main.tw3796207824708393856 : True := trivial
theorem main.tw3829396358689915599 : True := trivial
theorem main.tw3848698983108048278 : True := trivial
theorem main.tw3864431920445960829 : True := trivial
theorem main.tw3867218068155391060 : True := trivial
theorem main.tw3905226178654972811 : True := trivial
theorem main.tw3911810758690780188 : True := trivial
theorem main.tw3934531018447913466 : True := trivial
theorem main.tw3958507339218470045 : True := trivial
theorem main.tw3960113756560652017 : True := trivial
theorem main.tw3994622017586750766 : True := trivial
theorem main.tw4026956272090484662 : True := trivial
theorem main.tw4038153913678941442 : True := trivial
theorem main.tw4039676971129161736 : True := trivial
theorem main.tw4044139247061151142 : True := trivial
theorem main.tw4072190877284726289 : True := trivial
theorem main.tw4088224383575840552 : True := trivial
theorem main.tw4126091431370883743 : True := trivial
theorem main.tw4139100593308808776 : True := trivial
theorem main.tw4156125974679941130 : True := trivial
theorem main.tw4189750870438640210 : True := trivial
theorem main.tw4261964983698606537 : True := trivial
theorem main.tw4297412468100583042 : True := trivial
theorem main.tw4310270188432123100 : True := trivial
theorem main.tw4324958949535026087 : True := trivial
theorem main.tw4333880214566435006 : True := trivial
theorem main.tw4411106372489854205 : True := trivial
theorem main.tw4452170602077327944 : True := trivial
theorem main.tw4458048076830672230 : True := trivial
theorem main.tw4475767826048309731 : True := trivial
theorem main.tw4490809748136132443 : True := trivial
theorem main.tw4491334807805099456 : True := trivial
theorem main.tw4500915450034043215 : True := trivial
theorem main.tw451873465583785326 : True := trivial
theorem main.tw453184122279072053 : True := trivial
theorem main.tw4585930131862741453 : True := trivial
theorem main.tw4605139254293405059 : True := trivial
theorem main.tw4637267157515435788 : True := trivial
theorem main.tw4638281056170512193 : True := trivial
theorem main.tw4650958065196391918 : True := trivial
theorem main.tw4651154628705390771 : True := trivial
theorem main.tw4681395471914393968 : True := trivial
theorem main.tw471287901995484742 : True := trivial
theorem main.tw474381771622712015 : True := trivial
theorem main.tw4749052000479324790 : True := trivial
theorem main.tw4766233809647381661 : True := trivial
theorem main.tw4775608329324902142 : True := trivial
theorem main.tw4812270449578504274 : True := trivial
theorem main.tw4817600198373253283 : True := trivial
theorem main.tw4839478117068044826 : True := trivial
theorem main.tw48596604365144762 : True := trivial
theorem main.tw4900431672193113347 : True := trivial
theorem main.tw4917070330192852093 : True := trivial
theorem main.tw4924694640843408985 : True := trivial
theorem main.tw4946776927847147119 : True := trivial
theorem main.tw4948327476702027199 : True := trivial
theorem main.tw49674306023711395 : True := trivial
theorem main.tw4990475226369331113 : True := trivial
theorem main.tw4996873109452691289 : True := trivial
theorem main.tw5061512775090418087 : True := trivial
theorem main.tw5084117380071580128 : True := trivial
theorem main.tw5102693214775723256 : True := trivial
theorem main.tw5127751686995613262 : True := trivial
theorem main.tw5160751907100791332 : True := trivial
theorem main.tw5181119749688162637 : True := trivial
theorem main.tw5203219222101121401 : True := trivial
theorem main.tw52199770228462824 : True := trivial
theorem main.tw5234446048077146213 : True := trivial
theorem main.tw5240536507193477226 : True := trivial
theorem main.tw5240779543111244032 : True := trivial
theorem main.tw5243159528196176124 : True := trivial
theorem main.tw5287059835090251167 : True := trivial
theorem main.tw5309058905264134205 : True := trivial
theorem main.tw5363903885879670357 : True := trivial
theorem main.tw5372645768047454471 : True := trivial
theorem main.tw5396188567872606041 : True := trivial
theorem main.tw5396361742852586263 : True := trivial
theorem main.tw5400957986263281647 : True := trivial
theorem main.tw5401703158475992631 : True := trivial
theorem main.tw5436791530062809996 : True := trivial
theorem main.tw545269030811804461 : True := trivial
theorem main.tw5473700226181020891 : True := trivial
theorem main.tw5518243967957118194 : True := trivial
theorem main.tw5532463470591059822 : True := trivial
theorem main.tw5585478044538960755 : True := trivial
theorem main.tw5613160597433933154 : True := trivial
theorem main.tw5623159541915647742 : True := trivial
theorem main.tw5638201095994319732 : True := trivial
theorem main.tw5658389794328434202 : True := trivial
theorem main.tw5665406974723832613 : True := trivial
theorem main.tw5665735395497279834 : True := trivial
theorem main.tw5756291457177834533 : True := trivial
theorem main.tw5781596087445459943 : True := trivial
theorem main.tw5790326737455844299 : True := trivial
theorem main.tw5831584030425509755 : True := trivial
theorem main.tw5837888446457221635 : True := trivial
theorem main.tw5842977544298395883 : True := trivial
theorem main.tw5871769198996169552 : True := trivial
theorem main.tw6044114016751833949 : True := trivial
theorem main.tw6053611964639427726 : True := trivial
theorem main.tw6063798129297943090 : True := trivial
theorem main.tw6075091234017535682 : True := trivial
theorem main.tw6087835443962453003 : True := trivial
theorem main.tw6112859857366181021 : True := trivial
theorem main.tw6162249291895867263 : True := trivial
theorem main.tw6183352029847204284 : True := trivial
theorem main.tw6214117541549086881 : True := trivial
theorem main.tw6222487380544312443 : True := trivial
theorem main.tw6237627108579964202 : True := trivial
theorem main.tw6334894449686545209 : True := trivial
theorem main.tw6361450105264607166 : True := trivial
theorem main.tw6389877041954997217 : True := trivial
theorem main.tw6418098437765475518 : True := trivial
theorem main.tw6449824600675878752 : True := trivial
theorem main.tw645136716886899192 : True := trivial
theorem main.tw6455149578367423246 : True := trivial
theorem main.tw6508729118710982530 : True := trivial
theorem main.tw6511744376749373798 : True := trivial
theorem main.tw6542085627976250192 : True := trivial
theorem main.tw6545385358150927430 : True := trivial
theorem main.tw656089360051881306 : True := trivial
theorem main.tw65644731488775911 : True := trivial
theorem main.tw6565609875121592624 : True := trivial
theorem main.tw6584820252761975732 : True := trivial
theorem main.tw6596593509180878263 : True := trivial
theorem main.tw66260789543402106 : True := trivial
theorem main.tw6632538468102435922 : True := trivial
theorem main.tw6635558491612396129 : True := trivial
theorem main.tw6639522245352263942 : True := trivial
theorem main.tw6657087868060814 : True := trivial
theorem main.tw6660377722381337597 : True := trivial
theorem main.tw6663778134991626487 : True := trivial
theorem main.tw6674893403203295414 : True := trivial
theorem main.tw6690441779611380620 : True := trivial
theorem main.tw6696893160125735727 : True := trivial
theorem main.tw6697339332421208802 : True := trivial
theorem main.tw6702130215012162313 : True := trivial
theorem main.tw6741292078354696603 : True := trivial
theorem main.tw6785657489111691699 : True := trivial
theorem main.tw6788530277367551627 : True := trivial
theorem main.tw6788695710022549768 : True := trivial
theorem main.tw6855474311058116810 : True := trivial
theorem main.tw6862268138105152660 : True := trivial
theorem main.tw6862492499505807319 : True := trivial
theorem main.tw6880717277089553138 : True := trivial
theorem main.tw6886502059237256666 : True := trivial
theorem main.tw6910295442248876197 : True := trivial
theorem main.tw6912675738884088206 : True := trivial
theorem main.tw6981815665589151136 : True := trivial
theorem main.tw7019240024125815769 : True := trivial
theorem main.tw7083192437325867461 : True := trivial
theorem main.tw7113585516715319716 : True := trivial
theorem main.tw714498697977054788 : True := trivial
theorem main.tw716429049611869786 : True := trivial
theorem main.tw7165207203227711834 : True := trivial
theorem main.tw7173623326730630234 : True := trivial
theorem main.tw7186131708394509389 : True := trivial
theorem main.tw7214478077546791972 : True := trivial
theorem main.tw7221758910455160077 : True := trivial
theorem main.tw7235775444256392728 : True := trivial
theorem main.tw7237411587787531456 : True := trivial
theorem main.tw7268301785047649679 : True := trivial
theorem main.tw7273056430967151046 : True := trivial
theorem main.tw7293298908176781663 : True := trivial
theorem main.tw7298748307773712898 : True := trivial
theorem main.tw7308723440029596264 : True := trivial
theorem main.tw7332552209862256014 : True := trivial
theorem main.tw73751810991705359 : True := trivial
theorem main.tw7380652910202371479 : True := trivial
theorem main.tw7439787175107056256 : True := trivial
theorem main.tw7514964652732493775 : True := trivial
theorem main.tw7590696779544312186 : True := trivial
theorem main.tw7623511443260959870 : True := trivial
theorem main.tw7624293977416268664 : True := trivial
theorem main.tw7647378279178456250 : True := trivial
theorem main.tw765107192605250810 : True := trivial
theorem main.tw7691172733374981047 : True := trivial
theorem main.tw7698036289167662538 : True := trivial
theorem main.tw7742616358663508648 : True := trivial
theorem main.tw7751025194823839400 : True := trivial
theorem main.tw7761410557224570781 : True := trivial
theorem main.tw7846812961960373227 : True := trivial
theorem main.tw7884331609784382070 : True := trivial
theorem main.tw7929128423345735474 : True := trivial
theorem main.tw7943094425149488825 : True := trivial
theorem main.tw796168687070700412 : True := trivial
theorem main.tw7974275031393228247 : True := trivial
theorem main.tw8046773169563483271 : True := trivial
theorem main.tw8060562821785662972 : True := trivial
theorem main.tw8079908401900000222 : True := trivial
theorem main.tw8090509862211737132 : True := trivial
theorem main.tw8207831470162742035 : True := trivial
theorem main.tw8211959896082780389 : True := trivial
theorem main.tw8216622288551721904 : True := trivial
theorem main.tw8260724100714396741 : True := trivial
theorem main.tw8265370782698574782 : True := trivial
theorem main.tw832900586485598795 : True := trivial
theorem main.tw833945537157984683 : True := trivial
theorem main.tw8436210846270712021 : True := trivial
theorem main.tw8440099810896429113 : True := trivial
theorem main.tw8466321980469482115 : True := trivial
theorem main.tw8478376212529829071 : True := trivial
theorem main.tw8484041278411425421 : True := trivial
theorem main.tw8557395850702784662 : True := trivial
theorem main.tw8595929696516509207 : True := trivial
theorem main.tw8627561154394265716 : True := trivial
theorem main.tw8652556701797213591 : True := trivial
theorem main.tw8663697691656813868 : True := trivial
theorem main.tw8707812797481193996 : True := trivial
theorem main.tw8729708805864041840 : True := trivial
theorem main.tw8748973510418095054 : True := trivial
theorem main.tw8809968196449919288 : True := trivial
theorem main.tw8834365191522931223 : True := trivial
theorem main.tw8844999433837080629 : True := trivial
theorem main.tw8879939841973710529 : True := trivial
theorem main.tw8888671373892434659 : True := trivial
theorem main.tw8905464785575363620 : True := trivial
theorem main.tw892681787802806017 : True := trivial
theorem main.tw8930851030842425676 : True := trivial
theorem main.tw8952462522180670554 : True := trivial
theorem main.tw9069182735580402390 : True := trivial
theorem main.tw9155575984036265788 : True := trivial
theorem main.tw917386388269078853 : True := trivial
theorem main.tw918671981122897330 : True := trivial
theorem main.tw9189880136782149556 : True := trivial
theorem main.tw9253799994812790149 : True := trivial
theorem main.tw9265829497004654079 : True := trivial
theorem main.tw9268297945177815525 : True := trivial
theorem main.tw9272984997812220495 : True := trivial
theorem main.tw9274054859765456524 : True := trivial
theorem main.tw9302470337196694018 : True := trivial
theorem main.tw9303439499767911484 : True := trivial
theorem main.tw9360745474812902239 : True := trivial
theorem main.tw9361300454564663673 : True := trivial
theorem main.tw9368617206455126095 : True := trivial
theorem main.tw9369988214560726041 : True := trivial
theorem main.tw9376575566392132001 : True := trivial
theorem main.tw9381277316556691805 : True := trivial
theorem main.tw9394770849952503311 : True := trivial
theorem main.tw9406782406253462049 : True := trivial
theorem main.tw9417822746687237092 : True := trivial
theorem main.tw9470667924834194258 : True := trivial
theorem main.tw9483120023164983764 : True := trivial
theorem main.tw9498315638749924794 : True := trivial
theorem main.tw9508770018378322450 : True := trivial
theorem main.tw9512817274939609580 : True := trivial
theorem main.tw9515011664573035354 : True := trivial
theorem main.tw9557352009045844224 : True := trivial
theorem main.tw9558744834307401277 : True := trivial
theorem main.tw9561784451562097942 : True := trivial
theorem main.tw9563168847844234846 : True := trivial
theorem main.tw9573086628692744296 : True := trivial
theorem main.tw961187720498965250 : True := trivial
theorem main.tw962193829226610041 : True := trivial
theorem main.tw9656510801202774680 : True := trivial
theorem main.tw9658885295015712986 : True := trivial
theorem main.tw9670510015898674028 : True := trivial
theorem main.tw9681375758050803366 : True := trivial
theorem main.tw9682133043923132273 : True := trivial
theorem main.tw9730157408454304684 : True := trivial
theorem main.tw979501456738626862 : True := trivial
theorem main.tw9808303207383738048 : True := trivial
theorem main.tw9840939614602229412 : True := trivial
theorem main.tw9848185148710128376 : True := trivial
theorem main.tw9903775340124721222 : True := trivial
theorem main.tw9925469786538053656 : True := trivial
theorem main.tw9942282790977331292 : True := trivial
theorem main.tw9957550378297406723 : True := trivial
theorem main.tw9964214247947446159 : True := trivial
theorem main.tw9976160756891316704 : True := trivial
theorem main.tw9994787619460420439 : True := trivial
set_option maxRecDepth 100000 in
set_option maxHeartbeats 8000000 in
theorem main : PySem.Challenge.rw_pq0089_01.Holds := by
  w_on
  o_law
  o_head (kmHook KF KA (fun _ => by kernel_rfl) [616])
  (case hw => w_witness2)
  intro w s₀ s₁ mg mb G Y fa o pm cd doc dV kV ho hd hcd hD hmg hg args vals as hpre hlay hrd hwl hlo
  have KX := km_in_of Y
  km_tabs Y
  refine Ground.open G ?_
  intro T B D TE TW
  try (refine guard_noD D (by decide +kernel) ?_; clear D)
  have hfa : fa = 621 := by
    have e := mg_of (n := "law") (v := .ref 621) KX (Top.g T) (by kernel_rfl)
    have e2 := e.symm.trans hmg
    injection e2 with e3
    injection e3 with e4
    exact e4.symm
  subst hfa
  have hT9 : TabsAt ([(620, 616)] : List (Addr × Addr)) _ := List.forall_mem_cons.mpr ⟨⟨codeHd_of_K (c := 620) (P := 616) KX (by kernel_rfl), hT8 616 (by simp)⟩, fun _ h => nomatch h⟩
  clear hmg
  wrow_args hpre hlay hrd hwl hlo
  have h1 := D.law_go (prog := PySem.Challenge.rw_pq0089_01.row.prog) KX T hT9 hg (by assumption) (by omega) (by kernel_rfl) (by kernel_rfl)
  exact D.law_end hT9 (fun _ _ => rfl) (by kernel_rfl) h1
end Mine
set_option Elab.async false
theorem PySem.Challenge.cw_pq0089_01_holds : PySem.Challenge.rw_pq0089_01.Holds :=
  Mine.main
