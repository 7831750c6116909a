import PyProof.Rows.All
import Wide.All
import OpenK.AllK
import Wide.FinOn
import PyProof.ExcBaseAll.Exception
import PyProof.StationsW
import KE.KTryDeep
import PyProof.ExcAttrAll.Exception
import PyProof.NeKinds
import KE.KPop
import PyProof.Rows.StrCountLaw
import KE.KSlice
import Lean
import PySem.Challenge.RW_ov0042_01
set_option Elab.async false
set_option compiler.extract_closed false
section
open PySem PySem.W PySem.Calls PyProof.Rows
local macro_rules | `(tactic| walk_at $s:str) => `(tactic| k_extra $s)
local macro_rules | `(tactic| walk_at "pyIter ref") => `(tactic| k_extra "own iter")
section
open PySem PySem.W PyProof.Rows
set_option maxRecDepth 100000
set_option maxHeartbeats 8000000
namespace Mine.hd
noncomputable def top : List Stmt := PySem.Challenge.rw_ov0042_01.row.toRowW.prog.main.body
noncomputable def nth : List Stmt → Nat → Stmt
  | [], _ => .Pass ⟨0, 0, 0, 0⟩
  | x :: _, 0 => x
  | _ :: l, n + 1 => nth l n
noncomputable def inClass : Stmt → List Stmt
  | .ClassDef _ _ _ b .. => b
  | _ => []
noncomputable def parsOf : Stmt → Arguments
  | .FunctionDef _ p .. => p
  | _ => ⟨[], [], none, [], [], none, []⟩
noncomputable def bodyOf : Stmt → List Stmt
  | .FunctionDef _ _ b .. => b
  | _ => []
noncomputable def scopeOf : Stmt → Scope
  | .FunctionDef _ _ _ _ _ _ s .. => s
  | _ => PySem.Challenge.rw_ov0042_01.row.toRowW.prog.main.scope
noncomputable def heap_39 : Params → Frag := (fun {p0 : Arguments} {b0 : List Stmt} {c0 : Scope} {p1 : Arguments} {b1 : List Stmt} {c1 : Scope} {p2 : Arguments} {b2 : List Stmt} {c2 : Scope} {p3 : Arguments} {b3 : List Stmt} {c3 : Scope} {p4 : Arguments} {b4 : List Stmt} {c4 : Scope} {p5 : Arguments} {b5 : List Stmt} {c5 : Scope} {p6 : Arguments} {b6 : List Stmt} {c6 : Scope} {p7 : Arguments} {b7 : List Stmt} {c7 : Scope} {p8 : Arguments} {b8 : List Stmt} {c8 : Scope} {p9 : Arguments} {b9 : List Stmt} {c9 : Scope} {p10 : Arguments} {b10 : List Stmt} {c10 : Scope} {p11 : Arguments} {b11 : List Stmt} {c11 : Scope} {p12 : Arguments} {b12 : List Stmt} {c12 : Scope} {p13 : Arguments} {b13 : List Stmt} {c13 : Scope} {p14 : Arguments} {b14 : List Stmt} {c14 : Scope} {p15 : Arguments} {b15 : List Stmt} {c15 : Scope} {p16 : Arguments} {b16 : List Stmt} {c16 : Scope} {p17 : Arguments} {b17 : List Stmt} {c17 : Scope} {p18 : Arguments} {b18 : List Stmt} {c18 : Scope} {p19 : Arguments} {b19 : List Stmt} {c19 : Scope} {p20 : Arguments} {b20 : List Stmt} {c20 : Scope}
  (_ : parsOf (nth (inClass (nth top 2)) 0) = p0) (_ : bodyOf (nth (inClass (nth top 2)) 0) = b0) (_ : scopeOf (nth (inClass (nth top 2)) 0) = c0) (_ : parsOf (nth (inClass (nth top 4)) 0) = p1) (_ : bodyOf (nth (inClass (nth top 4)) 0) = b1) (_ : scopeOf (nth (inClass (nth top 4)) 0) = c1) (_ : parsOf (nth (inClass (nth top 4)) 1) = p2) (_ : bodyOf (nth (inClass (nth top 4)) 1) = b2) (_ : scopeOf (nth (inClass (nth top 4)) 1) = c2) (_ : parsOf (nth (inClass (nth top 4)) 2) = p3) (_ : bodyOf (nth (inClass (nth top 4)) 2) = b3) (_ : scopeOf (nth (inClass (nth top 4)) 2) = c3) (_ : parsOf (nth (inClass (nth top 4)) 3) = p4) (_ : bodyOf (nth (inClass (nth top 4)) 3) = b4) (_ : scopeOf (nth (inClass (nth top 4)) 3) = c4) (_ : parsOf (nth (inClass (nth top 4)) 4) = p5) (_ : bodyOf (nth (inClass (nth top 4)) 4) = b5) (_ : scopeOf (nth (inClass (nth top 4)) 4) = c5) (_ : parsOf (nth (inClass (nth top 4)) 5) = p6) (_ : bodyOf (nth (inClass (nth top 4)) 5) = b6) (_ : scopeOf (nth (inClass (nth top 4)) 5) = c6) (_ : parsOf (nth (inClass (nth top 4)) 6) = p7) (_ : bodyOf (nth (inClass (nth top 4)) 6) = b7) (_ : scopeOf (nth (inClass (nth top 4)) 6) = c7) (_ : parsOf (nth top 5) = p8) (_ : bodyOf (nth top 5) = b8) (_ : scopeOf (nth top 5) = c8) (_ : parsOf (nth top 6) = p9) (_ : bodyOf (nth top 6) = b9) (_ : scopeOf (nth top 6) = c9) (_ : parsOf (nth top 7) = p10) (_ : bodyOf (nth top 7) = b10) (_ : scopeOf (nth top 7) = c10) (_ : parsOf (nth top 8) = p11) (_ : bodyOf (nth top 8) = b11) (_ : scopeOf (nth top 8) = c11) (_ : parsOf (nth top 10) = p12) (_ : bodyOf (nth top 10) = b12) (_ : scopeOf (nth top 10) = c12) (_ : parsOf (nth top 11) = p13) (_ : bodyOf (nth top 11) = b13) (_ : scopeOf (nth top 11) = c13) (_ : parsOf (nth top 12) = p14) (_ : bodyOf (nth top 12) = b14) (_ : scopeOf (nth top 12) = c14) (_ : parsOf (nth top 13) = p15) (_ : bodyOf (nth top 13) = b15) (_ : scopeOf (nth top 13) = c15) (_ : parsOf (nth top 14) = p16) (_ : bodyOf (nth top 14) = b16) (_ : scopeOf (nth top 14) = c16) (_ : parsOf (nth top 15) = p17) (_ : bodyOf (nth top 15) = b17) (_ : scopeOf (nth top 15) = c17) (_ : parsOf (nth top 16) = p18) (_ : bodyOf (nth top 16) = b18) (_ : scopeOf (nth top 16) = c18) (_ : parsOf (nth top 17) = p19) (_ : bodyOf (nth top 17) = b19) (_ : scopeOf (nth top 17) = c19) (_ : parsOf (nth top 18) = p20) (_ : bodyOf (nth top 18) = b20) (_ : scopeOf (nth top 18) = c20) =>
 fun P =>
 (nat_lit 2, { cls := Value.none, data := Data.dict #[{ hash := PyData.keyHash P (Str.ofString "type.__subclasses__.Exception.0"), key := Value.str (Str.ofString "type.__subclasses__.Exception.0") 205, val := Value.int 24 0 }, { hash := PyData.keyHash P (Str.ofString "type.__subclasses__.Exception.n"), key := Value.str (Str.ofString "type.__subclasses__.Exception.n") 206, val := Value.int 1 0 }] 2 }) ::
   (nat_lit 3, { cls := Value.type "dict", data := Data.dict #[{ hash := PyData.keyHash P (Str.ofString "__name__"), key := Value.str (Str.ofString "__name__") 165, val := Value.str (Str.ofString "law_ov0042_01") 349 }, { hash := PyData.keyHash P (Str.ofString "__doc__"), key := Value.str (Str.ofString "__doc__") 166, val := Value.none }, { hash := PyData.keyHash P (Str.ofString "__package__"), key := Value.str (Str.ofString "__package__") 167, val := Value.none }, { hash := PyData.keyHash P (Str.ofString "__loader__"), key := Value.str (Str.ofString "__loader__") 168, val := Value.builtin "__main__.__loader__#opaque" }, { hash := PyData.keyHash P (Str.ofString "__spec__"), key := Value.str (Str.ofString "__spec__") 169, val := Value.none }, { hash := PyData.keyHash P (Str.ofString "__annotations__"), key := Value.str (Str.ofString "__annotations__") 170, val := Value.ref 6 }, { hash := PyData.keyHash P (Str.ofString "__builtins__"), key := Value.str (Str.ofString "__builtins__") 171, val := Value.ref 4 }, { hash := PyData.keyHash P (Str.ofString "__file__"), key := Value.str (Str.ofString "__file__") 173, val := Value.str (Str.ofString "/claim/cut.py") 172 }, { hash := PyData.keyHash P (Str.ofString "__cached__"), key := Value.str (Str.ofString "__cached__") 174, val := Value.none }, { hash := PyData.keyHash P (Str.ofString "CoveError"), key := Value.str (Str.ofString "CoveError") 208, val := Value.ref 24 }, { hash := PyData.keyHash P (Str.ofString "Refusal"), key := Value.str (Str.ofString "Refusal") 233, val := Value.ref 44 }, { hash := PyData.keyHash P (Str.ofString "Matching"), key := Value.str (Str.ofString "Matching") 318, val := Value.ref 103 }, { hash := PyData.keyHash P (Str.ofString "doubled_text"), key := Value.str (Str.ofString "doubled_text") 325, val := Value.ref 114 }, { hash := PyData.keyHash P (Str.ofString "argument_text"), key := Value.str (Str.ofString "argument_text") 336, val := Value.ref 121 }, { hash := PyData.keyHash P (Str.ofString "unused_text"), key := Value.str (Str.ofString "unused_text") 342, val := Value.ref 126 }, { hash := PyData.keyHash P (Str.ofString "match_names"), key := Value.str (Str.ofString "match_names") 348, val := Value.ref 132 }, { hash := PyData.keyHash P (Str.ofString "_law_pick"), key := Value.str (Str.ofString "_law_pick") 362, val := Value.ref 139 }, { hash := PyData.keyHash P (Str.ofString "_law_answer"), key := Value.str (Str.ofString "_law_answer") 373, val := Value.ref 146 }, { hash := PyData.keyHash P (Str.ofString "_law_mixed"), key := Value.str (Str.ofString "_law_mixed") 379, val := Value.ref 151 }, { hash := PyData.keyHash P (Str.ofString "_law_given"), key := Value.str (Str.ofString "_law_given") 389, val := Value.ref 158 }, { hash := PyData.keyHash P (Str.ofString "_law_same_in_order"), key := Value.str (Str.ofString "_law_same_in_order") 395, val := Value.ref 163 }, { hash := PyData.keyHash P (Str.ofString "_law_with_letter"), key := Value.str (Str.ofString "_law_with_letter") 402, val := Value.ref 170 }, { hash := PyData.keyHash P (Str.ofString "_law_same_with_letter"), key := Value.str (Str.ofString "_law_same_with_letter") 408, val := Value.ref 175 }, { hash := PyData.keyHash P (Str.ofString "_law_all"), key := Value.str (Str.ofString "_law_all") 418, val := Value.ref 182 }, { hash := PyData.keyHash P (Str.ofString "law"), key := Value.str (Str.ofString "law") 433, val := Value.ref 189 }] 25 }) ::
   (nat_lit 15, { cls := Value.type "tuple", data := Data.seq #[Value.type "Exception"] }) ::
   (nat_lit 22, { cls := Value.type "tuple", data := Data.seq #[] }) ::
   (nat_lit 23, { cls := Value.type "dict", data := Data.dict #[{ hash := PyData.keyHash P (Str.ofString "__module__"), key := Value.str (Str.ofString "__module__") 196, val := Value.str (Str.ofString "vectorcove.errors") 187 }, { hash := PyData.keyHash P (Str.ofString "__firstlineno__"), key := Value.str (Str.ofString "__firstlineno__") 200, val := Value.int 2 199 }, { hash := PyData.keyHash P (Str.ofString "__static_attributes__"), key := Value.str (Str.ofString "__static_attributes__") 201, val := Value.ref 22 }, { hash := PyData.keyHash P (Str.ofString "__weakref__"), key := Value.str (Str.ofString "__weakref__") 203, val := Value.ref 25 }, { hash := PyData.keyHash P (Str.ofString "__doc__"), key := Value.str (Str.ofString "__doc__") 204, val := Value.none }] 3 }) ::
   (nat_lit 24, { cls := Value.type "type", data := Data.cls { name := Str.ofString "CoveError", bases := [Value.type "Exception"], mro := [Value.ref 24, Value.type "Exception", Value.type "BaseException", Value.type "object"], ns := 23, qualname := Str.ofString "CoveError", subclasses := [Value.ref 44] }, slots := #[some (Value.ref 15), none, some (Value.str (Str.ofString "CoveError") 189), some (Value.str (Str.ofString "CoveError") 197), some (Value.builtin "Exception.__new__"), some (Value.bool true)] }) ::
   (nat_lit 25, { cls := Value.type "getset_descriptor", data := Data.fields #[Value.str (Str.ofString "__weakref__") 202, Value.ref 24, Value.builtin "ExceptionGroup.__weakref__", Value.none] }) ::
   (nat_lit 28, { cls := Value.type "tuple", data := Data.seq #[Value.ref 24] }) ::
   (nat_lit 35, { cls := Value.type "tuple", data := Data.seq #[] }) ::
   (nat_lit 37, { cls := Value.type "tuple", data := Data.seq #[Value.str (Str.ofString "self") 224, Value.str (Str.ofString "message") 225] }) ::
   (nat_lit 38, { cls := Value.type "tuple", data := Data.seq #[] }) ::
   (nat_lit 40, { cls := Value.type "code", data := Data.fields #[Value.str (Str.ofString "__init__") 221, Value.str (Str.ofString "Refusal.__init__") 222, Value.str (Str.ofString "/claim/cut.py") 223, Value.int 6 0, Value.int 2 0, Value.int 0 0, Value.int 0 0, Value.int 3 0, Value.ref 35, Value.bool true, Value.int 181 0, Value.ref 36, Value.none, Value.ref 37, Value.ref 38, Value.ref 39, Value.int 226 0, Value.int 6 0, Value.str (Str.ofString "/claim/cut.py") 227] }) ::
   (nat_lit 41, { cls := Value.type "function", data := Data.func { name := Str.ofString "__init__", qualname := Str.ofString "Refusal.__init__", params := p0, body := FuncBody.stmts b0, scope := c0, globals := 3, closure := [], defaults := Value.none, kwdefaults := Value.none, pyModule := Value.str (Str.ofString "vectorcove.errors") 187, code := Value.ref 40 } }) ::
   (nat_lit 42, { cls := Value.type "tuple", data := Data.seq #[Value.str (Str.ofString "message") 229] }) ::
   (nat_lit 43, { cls := Value.type "dict", data := Data.dict #[{ hash := PyData.keyHash P (Str.ofString "__module__"), key := Value.str (Str.ofString "__module__") 216, val := Value.str (Str.ofString "vectorcove.errors") 187 }, { hash := PyData.keyHash P (Str.ofString "__firstlineno__"), key := Value.str (Str.ofString "__firstlineno__") 220, val := Value.int 4 219 }, { hash := PyData.keyHash P (Str.ofString "__init__"), key := Value.str (Str.ofString "__init__") 228, val := Value.ref 41 }, { hash := PyData.keyHash P (Str.ofString "__static_attributes__"), key := Value.str (Str.ofString "__static_attributes__") 230, val := Value.ref 42 }, { hash := PyData.keyHash P (Str.ofString "__doc__"), key := Value.str (Str.ofString "__doc__") 231, val := Value.none }] 2 }) ::
   (nat_lit 44, { cls := Value.type "type", data := Data.cls { name := Str.ofString "Refusal", bases := [Value.ref 24], mro := [Value.ref 44, Value.ref 24, Value.type "Exception", Value.type "BaseException", Value.type "object"], ns := 43, qualname := Str.ofString "Refusal" }, slots := #[some (Value.ref 28), none, some (Value.str (Str.ofString "Refusal") 209), some (Value.str (Str.ofString "Refusal") 217), some (Value.builtin "Exception.__new__"), some (Value.bool true)] }) ::
   (nat_lit 54, { cls := Value.type "tuple", data := Data.seq #[] }) ::
   (nat_lit 56, { cls := Value.type "tuple", data := Data.seq #[Value.str (Str.ofString "self") 251, Value.str (Str.ofString "formals") 252, Value.str (Str.ofString "tags") 253] }) ::
   (nat_lit 57, { cls := Value.type "tuple", data := Data.seq #[] }) ::
   (nat_lit 59, { cls := Value.type "code", data := Data.fields #[Value.str (Str.ofString "__init__") 248, Value.str (Str.ofString "Matching.__init__") 249, Value.str (Str.ofString "/claim/cut.py") 250, Value.int 11 0, Value.int 3 0, Value.int 0 0, Value.int 0 0, Value.int 3 0, Value.ref 54, Value.bool true, Value.int 181 0, Value.ref 55, Value.none, Value.ref 56, Value.ref 57, Value.ref 58, Value.int 254 0, Value.int 11 0, Value.str (Str.ofString "/claim/cut.py") 255] }) ::
   (nat_lit 60, { cls := Value.type "function", data := Data.func { name := Str.ofString "__init__", qualname := Str.ofString "Matching.__init__", params := p1, body := FuncBody.stmts b1, scope := c1, globals := 3, closure := [], defaults := Value.none, kwdefaults := Value.none, pyModule := Value.str (Str.ofString "vectorcove.callargs") 234, code := Value.ref 59 } }) ::
   (nat_lit 61, { cls := Value.type "tuple", data := Data.seq #[] }) ::
   (nat_lit 63, { cls := Value.type "tuple", data := Data.seq #[Value.str (Str.ofString "self") 260, Value.str (Str.ofString "name") 261, Value.str (Str.ofString "place") 262] }) ::
   (nat_lit 64, { cls := Value.type "tuple", data := Data.seq #[] }) ::
   (nat_lit 66, { cls := Value.type "code", data := Data.fields #[Value.str (Str.ofString "exact") 257, Value.str (Str.ofString "Matching.exact") 258, Value.str (Str.ofString "/claim/cut.py") 259, Value.int 17 0, Value.int 1 0, Value.int 0 0, Value.int 0 0, Value.int 3 0, Value.ref 61, Value.bool true, Value.int 181 0, Value.ref 62, Value.none, Value.ref 63, Value.ref 64, Value.ref 65, Value.int 263 0, Value.int 17 0, Value.str (Str.ofString "/claim/cut.py") 264] }) ::
   (nat_lit 67, { cls := Value.type "function", data := Data.func { name := Str.ofString "exact", qualname := Str.ofString "Matching.exact", params := p2, body := FuncBody.stmts b2, scope := c2, globals := 3, closure := [], defaults := Value.none, kwdefaults := Value.none, pyModule := Value.str (Str.ofString "vectorcove.callargs") 234, code := Value.ref 66 } }) ::
   (nat_lit 68, { cls := Value.type "tuple", data := Data.seq #[] }) ::
   (nat_lit 70, { cls := Value.type "tuple", data := Data.seq #[Value.str (Str.ofString "self") 269, Value.str (Str.ofString "name") 270] }) ::
   (nat_lit 71, { cls := Value.type "tuple", data := Data.seq #[] }) ::
   (nat_lit 73, { cls := Value.type "code", data := Data.fields #[Value.str (Str.ofString "partial") 266, Value.str (Str.ofString "Matching.partial") 267, Value.str (Str.ofString "/claim/cut.py") 268, Value.int 27 0, Value.int 1 0, Value.int 0 0, Value.int 0 0, Value.int 3 0, Value.ref 68, Value.bool true, Value.int 181 0, Value.ref 69, Value.none, Value.ref 70, Value.ref 71, Value.ref 72, Value.int 271 0, Value.int 27 0, Value.str (Str.ofString "/claim/cut.py") 272] }) ::
   (nat_lit 74, { cls := Value.type "function", data := Data.func { name := Str.ofString "partial", qualname := Str.ofString "Matching.partial", params := p3, body := FuncBody.stmts b3, scope := c3, globals := 3, closure := [], defaults := Value.none, kwdefaults := Value.none, pyModule := Value.str (Str.ofString "vectorcove.callargs") 234, code := Value.ref 73 } }) ::
   (nat_lit 75, { cls := Value.type "tuple", data := Data.seq #[] }) ::
   (nat_lit 77, { cls := Value.type "tuple", data := Data.seq #[Value.str (Str.ofString "self") 277, Value.str (Str.ofString "name") 278, Value.str (Str.ofString "place") 279, Value.str (Str.ofString "tag") 280] }) ::
   (nat_lit 78, { cls := Value.type "tuple", data := Data.seq #[] }) ::
   (nat_lit 80, { cls := Value.type "code", data := Data.fields #[Value.str (Str.ofString "partial_of") 274, Value.str (Str.ofString "Matching.partial_of") 275, Value.str (Str.ofString "/claim/cut.py") 276, Value.int 34 0, Value.int 2 0, Value.int 0 0, Value.int 0 0, Value.int 3 0, Value.ref 75, Value.bool true, Value.int 181 0, Value.ref 76, Value.none, Value.ref 77, Value.ref 78, Value.ref 79, Value.int 281 0, Value.int 34 0, Value.str (Str.ofString "/claim/cut.py") 282] }) ::
   (nat_lit 81, { cls := Value.type "function", data := Data.func { name := Str.ofString "partial_of", qualname := Str.ofString "Matching.partial_of", params := p4, body := FuncBody.stmts b4, scope := c4, globals := 3, closure := [], defaults := Value.none, kwdefaults := Value.none, pyModule := Value.str (Str.ofString "vectorcove.callargs") 234, code := Value.ref 80 } }) ::
   (nat_lit 82, { cls := Value.type "tuple", data := Data.seq #[] }) ::
   (nat_lit 84, { cls := Value.type "tuple", data := Data.seq #[Value.str (Str.ofString "self") 287, Value.str (Str.ofString "place") 288, Value.str (Str.ofString "name") 289] }) ::
   (nat_lit 85, { cls := Value.type "tuple", data := Data.seq #[] }) ::
   (nat_lit 87, { cls := Value.type "code", data := Data.fields #[Value.str (Str.ofString "positional") 284, Value.str (Str.ofString "Matching.positional") 285, Value.str (Str.ofString "/claim/cut.py") 286, Value.int 45 0, Value.int 1 0, Value.int 0 0, Value.int 0 0, Value.int 3 0, Value.ref 82, Value.bool true, Value.int 181 0, Value.ref 83, Value.none, Value.ref 84, Value.ref 85, Value.ref 86, Value.int 290 0, Value.int 45 0, Value.str (Str.ofString "/claim/cut.py") 291] }) ::
   (nat_lit 88, { cls := Value.type "function", data := Data.func { name := Str.ofString "positional", qualname := Str.ofString "Matching.positional", params := p5, body := FuncBody.stmts b5, scope := c5, globals := 3, closure := [], defaults := Value.none, kwdefaults := Value.none, pyModule := Value.str (Str.ofString "vectorcove.callargs") 234, code := Value.ref 87 } }) ::
   (nat_lit 89, { cls := Value.type "tuple", data := Data.seq #[] }) ::
   (nat_lit 91, { cls := Value.type "tuple", data := Data.seq #[Value.str (Str.ofString "self") 296, Value.str (Str.ofString "place") 297] }) ::
   (nat_lit 92, { cls := Value.type "tuple", data := Data.seq #[] }) ::
   (nat_lit 94, { cls := Value.type "code", data := Data.fields #[Value.str (Str.ofString "is_free") 293, Value.str (Str.ofString "Matching.is_free") 294, Value.str (Str.ofString "/claim/cut.py") 295, Value.int 57 0, Value.int 2 0, Value.int 0 0, Value.int 0 0, Value.int 3 0, Value.ref 89, Value.bool true, Value.int 181 0, Value.ref 90, Value.none, Value.ref 91, Value.ref 92, Value.ref 93, Value.int 298 0, Value.int 57 0, Value.str (Str.ofString "/claim/cut.py") 299] }) ::
   (nat_lit 95, { cls := Value.type "function", data := Data.func { name := Str.ofString "is_free", qualname := Str.ofString "Matching.is_free", params := p6, body := FuncBody.stmts b6, scope := c6, globals := 3, closure := [], defaults := Value.none, kwdefaults := Value.none, pyModule := Value.str (Str.ofString "vectorcove.callargs") 234, code := Value.ref 94 } }) ::
   (nat_lit 96, { cls := Value.type "tuple", data := Data.seq #[] }) ::
   (nat_lit 99, { cls := Value.type "code", data := Data.fields #[Value.str (Str.ofString "rest") 301, Value.str (Str.ofString "Matching.rest") 302, Value.str (Str.ofString "/claim/cut.py") 303, Value.int 60 0, Value.int 1 0, Value.int 0 0, Value.int 0 0, Value.int 3 0, Value.ref 96, Value.bool true, Value.int 181 0, Value.ref 97, Value.none, Value.none, Value.none, Value.ref 98, Value.int 304 0, Value.int 60 0, Value.str (Str.ofString "/claim/cut.py") 305] }) ::
   (nat_lit 100, { cls := Value.type "function", data := Data.func { name := Str.ofString "rest", qualname := Str.ofString "Matching.rest", params := p7, body := FuncBody.stmts b7, scope := c7, globals := 3, closure := [], defaults := Value.none, kwdefaults := Value.none, pyModule := Value.str (Str.ofString "vectorcove.callargs") 234, code := Value.ref 99 } }) ::
   (nat_lit 101, { cls := Value.type "tuple", data := Data.seq #[Value.str (Str.ofString "formals") 307, Value.str (Str.ofString "places") 308, Value.str (Str.ofString "tags") 309, Value.str (Str.ofString "used") 310] }) ::
   (nat_lit 102, { cls := Value.type "dict", data := Data.dict #[{ hash := PyData.keyHash P (Str.ofString "__module__"), key := Value.str (Str.ofString "__module__") 243, val := Value.str (Str.ofString "vectorcove.callargs") 234 }, { hash := PyData.keyHash P (Str.ofString "__firstlineno__"), key := Value.str (Str.ofString "__firstlineno__") 247, val := Value.int 9 246 }, { hash := PyData.keyHash P (Str.ofString "__init__"), key := Value.str (Str.ofString "__init__") 256, val := Value.ref 60 }, { hash := PyData.keyHash P (Str.ofString "exact"), key := Value.str (Str.ofString "exact") 265, val := Value.ref 67 }, { hash := PyData.keyHash P (Str.ofString "partial"), key := Value.str (Str.ofString "partial") 273, val := Value.ref 74 }, { hash := PyData.keyHash P (Str.ofString "partial_of"), key := Value.str (Str.ofString "partial_of") 283, val := Value.ref 81 }, { hash := PyData.keyHash P (Str.ofString "positional"), key := Value.str (Str.ofString "positional") 292, val := Value.ref 88 }, { hash := PyData.keyHash P (Str.ofString "is_free"), key := Value.str (Str.ofString "is_free") 300, val := Value.ref 95 }, { hash := PyData.keyHash P (Str.ofString "rest"), key := Value.str (Str.ofString "rest") 306, val := Value.ref 100 }, { hash := PyData.keyHash P (Str.ofString "__static_attributes__"), key := Value.str (Str.ofString "__static_attributes__") 311, val := Value.ref 101 }, { hash := PyData.keyHash P (Str.ofString "__dict__"), key := Value.str (Str.ofString "__dict__") 313, val := Value.ref 104 }, { hash := PyData.keyHash P (Str.ofString "__weakref__"), key := Value.str (Str.ofString "__weakref__") 315, val := Value.ref 105 }, { hash := PyData.keyHash P (Str.ofString "__doc__"), key := Value.str (Str.ofString "__doc__") 316, val := Value.none }] 4 }) ::
   (nat_lit 103, { cls := Value.type "type", data := Data.cls { name := Str.ofString "Matching", bases := [Value.type "object"], mro := [Value.ref 103, Value.type "object"], ns := 102, qualname := Str.ofString "Matching" }, slots := #[none, none, some (Value.str (Str.ofString "Matching") 236), some (Value.str (Str.ofString "Matching") 244), some (Value.builtin "object.__new__"), some (Value.bool true)] }) ::
   (nat_lit 104, { cls := Value.type "getset_descriptor", data := Data.fields #[Value.str (Str.ofString "__dict__") 312, Value.ref 103, Value.builtin "function.__dict__", Value.builtin "function.__dict__#set"] }) ::
   (nat_lit 105, { cls := Value.type "getset_descriptor", data := Data.fields #[Value.str (Str.ofString "__weakref__") 314, Value.ref 103, Value.builtin "ExceptionGroup.__weakref__", Value.none] }) ::
   (nat_lit 108, { cls := Value.type "tuple", data := Data.seq #[] }) ::
   (nat_lit 110, { cls := Value.type "tuple", data := Data.seq #[Value.str (Str.ofString "name") 322] }) ::
   (nat_lit 111, { cls := Value.type "tuple", data := Data.seq #[] }) ::
   (nat_lit 113, { cls := Value.type "code", data := Data.fields #[Value.str (Str.ofString "doubled_text") 319, Value.str (Str.ofString "doubled_text") 320, Value.str (Str.ofString "/claim/cut.py") 321, Value.int 62 0, Value.int 1 0, Value.int 0 0, Value.int 0 0, Value.int 3 0, Value.ref 108, Value.bool true, Value.int 181 0, Value.ref 109, Value.none, Value.ref 110, Value.ref 111, Value.ref 112, Value.int 323 0, Value.int 62 0, Value.str (Str.ofString "/claim/cut.py") 324] }) ::
   (nat_lit 114, { cls := Value.type "function", data := Data.func { name := Str.ofString "doubled_text", qualname := Str.ofString "doubled_text", params := p8, body := FuncBody.stmts b8, scope := c8, globals := 3, closure := [], defaults := Value.none, kwdefaults := Value.none, pyModule := Value.str (Str.ofString "vectorcove.callargs") 234, code := Value.ref 113 } }) ::
   (nat_lit 115, { cls := Value.type "tuple", data := Data.seq #[] }) ::
   (nat_lit 117, { cls := Value.type "tuple", data := Data.seq #[Value.str (Str.ofString "args") 329, Value.str (Str.ofString "place") 330, Value.str (Str.ofString "show") 331, Value.str (Str.ofString "tag") 332, Value.str (Str.ofString "value") 333] }) ::
   (nat_lit 118, { cls := Value.type "tuple", data := Data.seq #[] }) ::
   (nat_lit 120, { cls := Value.type "code", data := Data.fields #[Value.str (Str.ofString "argument_text") 326, Value.str (Str.ofString "argument_text") 327, Value.str (Str.ofString "/claim/cut.py") 328, Value.int 64 0, Value.int 3 0, Value.int 0 0, Value.int 0 0, Value.int 3 0, Value.ref 115, Value.bool true, Value.int 181 0, Value.ref 116, Value.none, Value.ref 117, Value.ref 118, Value.ref 119, Value.int 334 0, Value.int 64 0, Value.str (Str.ofString "/claim/cut.py") 335] }) ::
   (nat_lit 121, { cls := Value.type "function", data := Data.func { name := Str.ofString "argument_text", qualname := Str.ofString "argument_text", params := p9, body := FuncBody.stmts b9, scope := c9, globals := 3, closure := [], defaults := Value.none, kwdefaults := Value.none, pyModule := Value.str (Str.ofString "vectorcove.callargs") 234, code := Value.ref 120 } }) ::
   (nat_lit 122, { cls := Value.type "tuple", data := Data.seq #[] }) ::
   (nat_lit 125, { cls := Value.type "code", data := Data.fields #[Value.str (Str.ofString "unused_text") 337, Value.str (Str.ofString "unused_text") 338, Value.str (Str.ofString "/claim/cut.py") 339, Value.int 73 0, Value.int 3 0, Value.int 0 0, Value.int 0 0, Value.int 3 0, Value.ref 122, Value.bool true, Value.int 181 0, Value.ref 123, Value.none, Value.none, Value.none, Value.ref 124, Value.int 340 0, Value.int 73 0, Value.str (Str.ofString "/claim/cut.py") 341] }) ::
   (nat_lit 126, { cls := Value.type "function", data := Data.func { name := Str.ofString "unused_text", qualname := Str.ofString "unused_text", params := p10, body := FuncBody.stmts b10, scope := c10, globals := 3, closure := [], defaults := Value.none, kwdefaults := Value.none, pyModule := Value.str (Str.ofString "vectorcove.callargs") 234, code := Value.ref 125 } }) ::
   (nat_lit 127, { cls := Value.type "tuple", data := Data.seq #[Value.none] }) ::
   (nat_lit 128, { cls := Value.type "tuple", data := Data.seq #[] }) ::
   (nat_lit 131, { cls := Value.type "code", data := Data.fields #[Value.str (Str.ofString "match_names") 343, Value.str (Str.ofString "match_names") 344, Value.str (Str.ofString "/claim/cut.py") 345, Value.int 79 0, Value.int 3 0, Value.int 0 0, Value.int 0 0, Value.int 3 0, Value.ref 128, Value.bool true, Value.int 181 0, Value.ref 129, Value.none, Value.none, Value.none, Value.ref 130, Value.int 346 0, Value.int 79 0, Value.str (Str.ofString "/claim/cut.py") 347] }) ::
   (nat_lit 132, { cls := Value.type "function", data := Data.func { name := Str.ofString "match_names", qualname := Str.ofString "match_names", params := p11, body := FuncBody.stmts b11, scope := c11, globals := 3, closure := [], defaults := Value.ref 127, kwdefaults := Value.none, pyModule := Value.str (Str.ofString "vectorcove.callargs") 234, code := Value.ref 131 } }) ::
   (nat_lit 133, { cls := Value.type "tuple", data := Data.seq #[] }) ::
   (nat_lit 135, { cls := Value.type "tuple", data := Data.seq #[Value.str (Str.ofString "jar") 354, Value.str (Str.ofString "count") 355, Value.str (Str.ofString "at") 356, Value.str (Str.ofString "cell") 357, Value.str (Str.ofString "low") 358, Value.str (Str.ofString "got") 359] }) ::
   (nat_lit 136, { cls := Value.type "tuple", data := Data.seq #[] }) ::
   (nat_lit 138, { cls := Value.type "code", data := Data.fields #[Value.str (Str.ofString "_law_pick") 351, Value.str (Str.ofString "_law_pick") 352, Value.str (Str.ofString "/claim/cut.py") 353, Value.int 89 0, Value.int 2 0, Value.int 0 0, Value.int 0 0, Value.int 3 0, Value.ref 133, Value.bool true, Value.int 181 0, Value.ref 134, Value.none, Value.ref 135, Value.ref 136, Value.ref 137, Value.int 360 0, Value.int 89 0, Value.str (Str.ofString "/claim/cut.py") 361] }) ::
   (nat_lit 139, { cls := Value.type "function", data := Data.func { name := Str.ofString "_law_pick", qualname := Str.ofString "_law_pick", params := p12, body := FuncBody.stmts b12, scope := c12, globals := 3, closure := [], defaults := Value.none, kwdefaults := Value.none, pyModule := Value.str (Str.ofString "law_ov0042_01") 349, code := Value.ref 138 } }) ::
   (nat_lit 140, { cls := Value.type "tuple", data := Data.seq #[] }) ::
   (nat_lit 142, { cls := Value.type "tuple", data := Data.seq #[Value.str (Str.ofString "formals") 366, Value.str (Str.ofString "args") 367, Value.str (Str.ofString "places") 368, Value.str (Str.ofString "rest") 369, Value.str (Str.ofString "fault") 370] }) ::
   (nat_lit 143, { cls := Value.type "tuple", data := Data.seq #[] }) ::
   (nat_lit 145, { cls := Value.type "code", data := Data.fields #[Value.str (Str.ofString "_law_answer") 363, Value.str (Str.ofString "_law_answer") 364, Value.str (Str.ofString "/claim/cut.py") 365, Value.int 102 0, Value.int 2 0, Value.int 0 0, Value.int 0 0, Value.int 3 0, Value.ref 140, Value.bool true, Value.int 181 0, Value.ref 141, Value.none, Value.ref 142, Value.ref 143, Value.ref 144, Value.int 371 0, Value.int 102 0, Value.str (Str.ofString "/claim/cut.py") 372] }) ::
   (nat_lit 146, { cls := Value.type "function", data := Data.func { name := Str.ofString "_law_answer", qualname := Str.ofString "_law_answer", params := p13, body := FuncBody.stmts b13, scope := c13, globals := 3, closure := [], defaults := Value.none, kwdefaults := Value.none, pyModule := Value.str (Str.ofString "law_ov0042_01") 349, code := Value.ref 145 } }) ::
   (nat_lit 147, { cls := Value.type "tuple", data := Data.seq #[] }) ::
   (nat_lit 150, { cls := Value.type "code", data := Data.fields #[Value.str (Str.ofString "_law_mixed") 374, Value.str (Str.ofString "_law_mixed") 375, Value.str (Str.ofString "/claim/cut.py") 376, Value.int 108 0, Value.int 2 0, Value.int 0 0, Value.int 0 0, Value.int 3 0, Value.ref 147, Value.bool true, Value.int 181 0, Value.ref 148, Value.none, Value.none, Value.none, Value.ref 149, Value.int 377 0, Value.int 108 0, Value.str (Str.ofString "/claim/cut.py") 378] }) ::
   (nat_lit 151, { cls := Value.type "function", data := Data.func { name := Str.ofString "_law_mixed", qualname := Str.ofString "_law_mixed", params := p14, body := FuncBody.stmts b14, scope := c14, globals := 3, closure := [], defaults := Value.none, kwdefaults := Value.none, pyModule := Value.str (Str.ofString "law_ov0042_01") 349, code := Value.ref 150 } }) ::
   (nat_lit 152, { cls := Value.type "tuple", data := Data.seq #[] }) ::
   (nat_lit 154, { cls := Value.type "tuple", data := Data.seq #[Value.str (Str.ofString "args") 383, Value.str (Str.ofString "places") 384, Value.str (Str.ofString "given_to") 385, Value.str (Str.ofString "name") 386] }) ::
   (nat_lit 155, { cls := Value.type "tuple", data := Data.seq #[] }) ::
   (nat_lit 157, { cls := Value.type "code", data := Data.fields #[Value.str (Str.ofString "_law_given") 380, Value.str (Str.ofString "_law_given") 381, Value.str (Str.ofString "/claim/cut.py") 382, Value.int 118 0, Value.int 2 0, Value.int 0 0, Value.int 0 0, Value.int 3 0, Value.ref 152, Value.bool true, Value.int 181 0, Value.ref 153, Value.none, Value.ref 154, Value.ref 155, Value.ref 156, Value.int 387 0, Value.int 118 0, Value.str (Str.ofString "/claim/cut.py") 388] }) ::
   (nat_lit 158, { cls := Value.type "function", data := Data.func { name := Str.ofString "_law_given", qualname := Str.ofString "_law_given", params := p15, body := FuncBody.stmts b15, scope := c15, globals := 3, closure := [], defaults := Value.none, kwdefaults := Value.none, pyModule := Value.str (Str.ofString "law_ov0042_01") 349, code := Value.ref 157 } }) ::
   (nat_lit 159, { cls := Value.type "tuple", data := Data.seq #[] }) ::
   (nat_lit 162, { cls := Value.type "code", data := Data.fields #[Value.str (Str.ofString "_law_same_in_order") 390, Value.str (Str.ofString "_law_same_in_order") 391, Value.str (Str.ofString "/claim/cut.py") 392, Value.int 123 0, Value.int 3 0, Value.int 0 0, Value.int 0 0, Value.int 3 0, Value.ref 159, Value.bool true, Value.int 181 0, Value.ref 160, Value.none, Value.none, Value.none, Value.ref 161, Value.int 393 0, Value.int 123 0, Value.str (Str.ofString "/claim/cut.py") 394] }) ::
   (nat_lit 163, { cls := Value.type "function", data := Data.func { name := Str.ofString "_law_same_in_order", qualname := Str.ofString "_law_same_in_order", params := p16, body := FuncBody.stmts b16, scope := c16, globals := 3, closure := [], defaults := Value.none, kwdefaults := Value.none, pyModule := Value.str (Str.ofString "law_ov0042_01") 349, code := Value.ref 162 } }) ::
   (nat_lit 164, { cls := Value.type "tuple", data := Data.seq #[] }) ::
   (nat_lit 166, { cls := Value.type "tuple", data := Data.seq #[Value.str (Str.ofString "name") 399] }) ::
   (nat_lit 167, { cls := Value.type "tuple", data := Data.seq #[] }) ::
   (nat_lit 169, { cls := Value.type "code", data := Data.fields #[Value.str (Str.ofString "_law_with_letter") 396, Value.str (Str.ofString "_law_with_letter") 397, Value.str (Str.ofString "/claim/cut.py") 398, Value.int 140 0, Value.int 1 0, Value.int 0 0, Value.int 0 0, Value.int 3 0, Value.ref 164, Value.bool true, Value.int 181 0, Value.ref 165, Value.none, Value.ref 166, Value.ref 167, Value.ref 168, Value.int 400 0, Value.int 140 0, Value.str (Str.ofString "/claim/cut.py") 401] }) ::
   (nat_lit 170, { cls := Value.type "function", data := Data.func { name := Str.ofString "_law_with_letter", qualname := Str.ofString "_law_with_letter", params := p17, body := FuncBody.stmts b17, scope := c17, globals := 3, closure := [], defaults := Value.none, kwdefaults := Value.none, pyModule := Value.str (Str.ofString "law_ov0042_01") 349, code := Value.ref 169 } }) ::
   (nat_lit 171, { cls := Value.type "tuple", data := Data.seq #[] }) ::
   (nat_lit 174, { cls := Value.type "code", data := Data.fields #[Value.str (Str.ofString "_law_same_with_letter") 403, Value.str (Str.ofString "_law_same_with_letter") 404, Value.str (Str.ofString "/claim/cut.py") 405, Value.int 144 0, Value.int 2 0, Value.int 0 0, Value.int 0 0, Value.int 3 0, Value.ref 171, Value.bool true, Value.int 181 0, Value.ref 172, Value.none, Value.none, Value.none, Value.ref 173, Value.int 406 0, Value.int 144 0, Value.str (Str.ofString "/claim/cut.py") 407] }) ::
   (nat_lit 175, { cls := Value.type "function", data := Data.func { name := Str.ofString "_law_same_with_letter", qualname := Str.ofString "_law_same_with_letter", params := p18, body := FuncBody.stmts b18, scope := c18, globals := 3, closure := [], defaults := Value.none, kwdefaults := Value.none, pyModule := Value.str (Str.ofString "law_ov0042_01") 349, code := Value.ref 174 } }) ::
   (nat_lit 176, { cls := Value.type "tuple", data := Data.seq #[] }) ::
   (nat_lit 178, { cls := Value.type "tuple", data := Data.seq #[Value.str (Str.ofString "jar") 412, Value.str (Str.ofString "formals") 413, Value.str (Str.ofString "args") 414, Value.str (Str.ofString "mixed") 415] }) ::
   (nat_lit 179, { cls := Value.type "tuple", data := Data.seq #[] }) ::
   (nat_lit 181, { cls := Value.type "code", data := Data.fields #[Value.str (Str.ofString "_law_all") 409, Value.str (Str.ofString "_law_all") 410, Value.str (Str.ofString "/claim/cut.py") 411, Value.int 158 0, Value.int 3 0, Value.int 0 0, Value.int 0 0, Value.int 3 0, Value.ref 176, Value.bool true, Value.int 181 0, Value.ref 177, Value.none, Value.ref 178, Value.ref 179, Value.ref 180, Value.int 416 0, Value.int 158 0, Value.str (Str.ofString "/claim/cut.py") 417] }) ::
   (nat_lit 182, { cls := Value.type "function", data := Data.func { name := Str.ofString "_law_all", qualname := Str.ofString "_law_all", params := p19, body := FuncBody.stmts b19, scope := c19, globals := 3, closure := [], defaults := Value.none, kwdefaults := Value.none, pyModule := Value.str (Str.ofString "law_ov0042_01") 349, code := Value.ref 181 } }) ::
   (nat_lit 183, { cls := Value.type "tuple", data := Data.seq #[] }) ::
   (nat_lit 185, { cls := Value.type "tuple", data := Data.seq #[Value.str (Str.ofString "script") 422, Value.str (Str.ofString "jar") 423, Value.str (Str.ofString "pool") 424, Value.str (Str.ofString "formals") 425, Value.str (Str.ofString "step") 426, Value.str (Str.ofString "args") 427, Value.str (Str.ofString "tag") 428, Value.str (Str.ofString "pair") 429, Value.str (Str.ofString "places") 430] }) ::
   (nat_lit 186, { cls := Value.type "tuple", data := Data.seq #[] }) ::
   (nat_lit 188, { cls := Value.type "code", data := Data.fields #[Value.str (Str.ofString "law") 419, Value.str (Str.ofString "law") 420, Value.str (Str.ofString "/claim/cut.py") 421, Value.int 161 0, Value.int 1 0, Value.int 0 0, Value.int 0 0, Value.int 3 0, Value.ref 183, Value.bool true, Value.int 181 0, Value.ref 184, Value.none, Value.ref 185, Value.ref 186, Value.ref 187, Value.int 431 0, Value.int 161 0, Value.str (Str.ofString "/claim/cut.py") 432] }) ::
   (nat_lit 189, { cls := Value.type "function", data := Data.func { name := Str.ofString "law", qualname := Str.ofString "law", params := p20, body := FuncBody.stmts b20, scope := c20, globals := 3, closure := [], defaults := Value.none, kwdefaults := Value.none, pyModule := Value.str (Str.ofString "law_ov0042_01") 349, code := Value.ref 188 } }) :: [])
  (by conv => lhs; whnf) (by conv => lhs; whnf) (by conv => lhs; whnf) (by conv => lhs; whnf) (by conv => lhs; whnf) (by conv => lhs; whnf) (by conv => lhs; whnf) (by conv => lhs; whnf) (by conv => lhs; whnf) (by conv => lhs; whnf) (by conv => lhs; whnf) (by conv => lhs; whnf) (by conv => lhs; whnf) (by conv => lhs; whnf) (by conv => lhs; whnf) (by conv => lhs; whnf) (by conv => lhs; whnf) (by conv => lhs; whnf) (by conv => lhs; whnf) (by conv => lhs; whnf) (by conv => lhs; whnf) (by conv => lhs; whnf) (by conv => lhs; whnf) (by conv => lhs; whnf) (by conv => lhs; whnf) (by conv => lhs; whnf) (by conv => lhs; whnf) (by conv => lhs; whnf) (by conv => lhs; whnf) (by conv => lhs; whnf) (by conv => lhs; whnf) (by conv => lhs; whnf) (by conv => lhs; whnf) (by conv => lhs; whnf) (by conv => lhs; whnf) (by conv => lhs; whnf) (by conv => lhs; whnf) (by conv => lhs; whnf) (by conv => lhs; whnf) (by conv => lhs; whnf) (by conv => lhs; whnf) (by conv => lhs; whnf) (by conv => lhs; whnf) (by conv => lhs; whnf) (by conv => lhs; whnf) (by conv => lhs; whnf) (by conv => lhs; whnf) (by conv => lhs; whnf) (by conv => lhs; whnf) (by conv => lhs; whnf) (by conv => lhs; whnf) (by conv => lhs; whnf) (by conv => lhs; whnf) (by conv => lhs; whnf) (by conv => lhs; whnf) (by conv => lhs; whnf) (by conv => lhs; whnf) (by conv => lhs; whnf) (by conv => lhs; whnf) (by conv => lhs; whnf) (by conv => lhs; whnf) (by conv => lhs; whnf) (by conv => lhs; whnf)
noncomputable def view_39 : Program := (fun {s1 : Stmt} {s2 : Stmt} {s4 : Stmt} {s5 : Stmt} {s6 : Stmt} {s7 : Stmt} {s10 : Stmt} {s11 : Stmt} {s12 : Stmt} {s13 : Stmt} {s14 : Stmt} {s15 : Stmt} {s16 : Stmt} {s17 : Stmt} {s18 : Stmt} (_ : nth top 1 = s1) (_ : nth top 2 = s2) (_ : nth top 4 = s4) (_ : nth top 5 = s5) (_ : nth top 6 = s6) (_ : nth top 7 = s7) (_ : nth top 10 = s10) (_ : nth top 11 = s11) (_ : nth top 12 = s12) (_ : nth top 13 = s13) (_ : nth top 14 = s14) (_ : nth top 15 = s15) (_ : nth top 16 = s16) (_ : nth top 17 = s17) (_ : nth top 18 = s18) =>
 ({ PySem.Challenge.rw_ov0042_01.row.toRowW.prog with main := { PySem.Challenge.rw_ov0042_01.row.toRowW.prog.main with body := [s1, s2, s4, s5, s6, s7, s10, s11, s12, s13, s14, s15, s16, s17, s18] } } : Program))
  (by conv => lhs; whnf) (by conv => lhs; whnf) (by conv => lhs; whnf) (by conv => lhs; whnf) (by conv => lhs; whnf) (by conv => lhs; whnf) (by conv => lhs; whnf) (by conv => lhs; whnf) (by conv => lhs; whnf) (by conv => lhs; whnf) (by conv => lhs; whnf) (by conv => lhs; whnf) (by conv => lhs; whnf) (by conv => lhs; whnf) (by conv => lhs; whnf)
noncomputable def lawD : DefRec := (fun {p : Arguments} {b : List Stmt} {c : Scope} (_ : parsOf (nth top 18) = p) (_ : bodyOf (nth top 18) = b) (_ : scopeOf (nth top 18) = c) =>
  ({ name := Str.ofString "law", params := p, body := b, scope := c, pos := { line := 161, col := 0, endLine := 177, endCol := 120 } } : DefRec)) (by conv => lhs; whnf) (by conv => lhs; whnf) (by conv => lhs; whnf)
noncomputable def o_43 : Params → Obj := fun P => { cls := Value.type "tuple", data := Data.seq #[] }
noncomputable def o_45 : Params → Obj := fun P => { cls := Value.type "code", data := Data.fields #[Value.str (Str.ofString "<module>") 182, Value.str (Str.ofString "<module>") 183, Value.str (Str.ofString "/claim/cut.py") 184, Value.int 1 0, Value.int 0 0, Value.int 0 0, Value.int 0 0, Value.int 0 0, Value.ref 11, Value.bool false, Value.int 181 0, Value.ref 12, Value.none, Value.none, Value.none, Value.none, Value.int 185 0, Value.int 1 0, Value.str (Str.ofString "/claim/cut.py") 186] }
noncomputable def o_44 : Params → Obj := fun P => { cls := Value.none, data := Data.fields #[] }
noncomputable def o_46 : Params → Obj := fun P => { cls := Value.type "frame", slots := #[some (Value.ref 13), some (Value.ref 3), some (Value.ref 3), none, some (Value.str (Str.ofString "__main__") 164), none, some (Value.ref 0)] }
noncomputable def o_50 : Params → Obj := fun P => { cls := Value.type "dict", data := Data.dict #[{ hash := PyData.keyHash P (Str.ofString "__name__"), key := Value.str (Str.ofString "__name__") 165, val := Value.str (Str.ofString "vectorcove.errors") 187 }, { hash := PyData.keyHash P (Str.ofString "__doc__"), key := Value.str (Str.ofString "__doc__") 166, val := Value.none }, { hash := PyData.keyHash P (Str.ofString "__package__"), key := Value.str (Str.ofString "__package__") 167, val := Value.none }, { hash := PyData.keyHash P (Str.ofString "__loader__"), key := Value.str (Str.ofString "__loader__") 168, val := Value.builtin "__main__.__loader__#opaque" }, { hash := PyData.keyHash P (Str.ofString "__spec__"), key := Value.str (Str.ofString "__spec__") 169, val := Value.none }, { hash := PyData.keyHash P (Str.ofString "__annotations__"), key := Value.str (Str.ofString "__annotations__") 170, val := Value.ref 6 }, { hash := PyData.keyHash P (Str.ofString "__builtins__"), key := Value.str (Str.ofString "__builtins__") 171, val := Value.ref 4 }, { hash := PyData.keyHash P (Str.ofString "__file__"), key := Value.str (Str.ofString "__file__") 173, val := Value.str (Str.ofString "/claim/cut.py") 172 }, { hash := PyData.keyHash P (Str.ofString "__cached__"), key := Value.str (Str.ofString "__cached__") 174, val := Value.none }, { hash := PyData.keyHash P (Str.ofString "CoveError"), key := Value.str (Str.ofString "CoveError") 208, val := Value.ref 24 }] 10 }
noncomputable def o_52 : Params → Obj := fun P => { cls := Value.type "tuple", data := Data.seq #[Value.type "Exception"] }
noncomputable def o_60 : Params → Obj := fun P => { cls := Value.type "dict", data := Data.dict #[{ hash := PyData.keyHash P (Str.ofString "__module__"), key := Value.str (Str.ofString "__module__") 196, val := Value.str (Str.ofString "vectorcove.errors") 187 }, { hash := PyData.keyHash P (Str.ofString "__firstlineno__"), key := Value.str (Str.ofString "__firstlineno__") 200, val := Value.int 2 199 }, { hash := PyData.keyHash P (Str.ofString "__static_attributes__"), key := Value.str (Str.ofString "__static_attributes__") 201, val := Value.ref 22 }, { hash := PyData.keyHash P (Str.ofString "__weakref__"), key := Value.str (Str.ofString "__weakref__") 203, val := Value.ref 25 }, { hash := PyData.keyHash P (Str.ofString "__doc__"), key := Value.str (Str.ofString "__doc__") 204, val := Value.none }] 3 }
noncomputable def o_56 : Params → Obj := fun P => { cls := Value.none, data := Data.fields #[] }
noncomputable def o_64 : Params → Obj := fun P => { cls := Value.type "builtin_function_or_method", data := Data.fields #[Value.builtin "object.__init_subclass__", Value.ref 24] }
noncomputable def o_54 : Params → Obj := fun P => { cls := Value.type "dict", data := Data.dict #[{ hash := PyData.keyHash P (Str.ofString "__module__"), key := Value.str (Str.ofString "__module__") 196, val := Value.str (Str.ofString "vectorcove.errors") 187 }, { hash := PyData.keyHash P (Str.ofString "__qualname__"), key := Value.str (Str.ofString "__qualname__") 198, val := Value.str (Str.ofString "CoveError") 197 }, { hash := PyData.keyHash P (Str.ofString "__firstlineno__"), key := Value.str (Str.ofString "__firstlineno__") 200, val := Value.int 2 199 }, { hash := PyData.keyHash P (Str.ofString "__static_attributes__"), key := Value.str (Str.ofString "__static_attributes__") 201, val := Value.ref 22 }] 4 }
noncomputable def o_62 : Params → Obj := fun P => { cls := Value.type "getset_descriptor", data := Data.fields #[Value.str (Str.ofString "__weakref__") 202, Value.ref 24, Value.builtin "ExceptionGroup.__weakref__", Value.none] }
noncomputable def o_58 : Params → Obj := fun P => { cls := Value.type "frame", slots := #[some (Value.ref 20), some (Value.ref 3), some (Value.ref 17), none, some (Value.str (Str.ofString "vectorcove.errors") 187), none, some (Value.ref 0)] }
noncomputable def o_49 : Params → Obj := fun P => { cls := Value.none, data := Data.dict #[{ hash := PyData.keyHash P (Str.ofString "type.__subclasses__.Exception.0"), key := Value.str (Str.ofString "type.__subclasses__.Exception.0") 205, val := Value.int 24 0 }, { hash := PyData.keyHash P (Str.ofString "type.__subclasses__.Exception.n"), key := Value.str (Str.ofString "type.__subclasses__.Exception.n") 206, val := Value.int 1 0 }] 2 }
noncomputable def o_53 : Params → Obj := fun P => { cls := Value.type "builtin_function_or_method", data := Data.fields #[Value.builtin "type.__prepare__", Value.type "type"] }
noncomputable def o_61 : Params → Obj := fun P => { cls := Value.type "type", data := Data.cls { name := Str.ofString "CoveError", bases := [Value.type "Exception"], mro := [Value.ref 24, Value.type "Exception", Value.type "BaseException", Value.type "object"], ns := 23, qualname := Str.ofString "CoveError" }, slots := #[some (Value.ref 15), none, some (Value.str (Str.ofString "CoveError") 189), some (Value.str (Str.ofString "CoveError") 197), some (Value.builtin "Exception.__new__"), some (Value.bool true)] }
noncomputable def o_51 : Params → Obj := fun P => { cls := Value.none, data := Data.fields #[Value.int 2 0, Value.int 0 0, Value.ref 20] }
noncomputable def o_57 : Params → Obj := fun P => { cls := Value.type "code", data := Data.fields #[Value.str (Str.ofString "CoveError") 191, Value.str (Str.ofString "CoveError") 192, Value.str (Str.ofString "/claim/cut.py") 193, Value.int 2 0, Value.int 0 0, Value.int 0 0, Value.int 0 0, Value.int 0 0, Value.ref 18, Value.bool false, Value.int 181 0, Value.ref 19, Value.none, Value.none, Value.none, Value.none, Value.int 194 0, Value.int 2 0, Value.str (Str.ofString "/claim/cut.py") 195] }
noncomputable def o_55 : Params → Obj := fun P => { cls := Value.type "tuple", data := Data.seq #[] }
noncomputable def o_63 : Params → Obj := fun P => { cls := Value.type "super", data := Data.fields #[Value.ref 24, Value.ref 24, Value.ref 24] }
noncomputable def o_59 : Params → Obj := fun P => { cls := Value.type "tuple", data := Data.seq #[] }
noncomputable def o_65 : Params → Obj := fun P => { cls := Value.type "dict", data := Data.dict #[{ hash := PyData.keyHash P (Str.ofString "__name__"), key := Value.str (Str.ofString "__name__") 165, val := Value.str (Str.ofString "vectorcove.callargs") 234 }, { hash := PyData.keyHash P (Str.ofString "__doc__"), key := Value.str (Str.ofString "__doc__") 166, val := Value.none }, { hash := PyData.keyHash P (Str.ofString "__package__"), key := Value.str (Str.ofString "__package__") 167, val := Value.none }, { hash := PyData.keyHash P (Str.ofString "__loader__"), key := Value.str (Str.ofString "__loader__") 168, val := Value.builtin "__main__.__loader__#opaque" }, { hash := PyData.keyHash P (Str.ofString "__spec__"), key := Value.str (Str.ofString "__spec__") 169, val := Value.none }, { hash := PyData.keyHash P (Str.ofString "__annotations__"), key := Value.str (Str.ofString "__annotations__") 170, val := Value.ref 6 }, { hash := PyData.keyHash P (Str.ofString "__builtins__"), key := Value.str (Str.ofString "__builtins__") 171, val := Value.ref 4 }, { hash := PyData.keyHash P (Str.ofString "__file__"), key := Value.str (Str.ofString "__file__") 173, val := Value.str (Str.ofString "/claim/cut.py") 172 }, { hash := PyData.keyHash P (Str.ofString "__cached__"), key := Value.str (Str.ofString "__cached__") 174, val := Value.none }, { hash := PyData.keyHash P (Str.ofString "CoveError"), key := Value.str (Str.ofString "CoveError") 208, val := Value.ref 24 }, { hash := PyData.keyHash P (Str.ofString "Refusal"), key := Value.str (Str.ofString "Refusal") 233, val := Value.ref 44 }] 11 }
noncomputable def o_71 : Params → Obj := fun P => { cls := Value.type "tuple", data := Data.seq #[] }
noncomputable def o_79 : Params → Obj := fun P => { cls := Value.none, data := Data.func { name := Str.ofString "__init__", qualname := Str.ofString "Refusal.__init__", params := parsOf (nth (inClass (nth top 2)) 0), body := FuncBody.stmts (bodyOf (nth (inClass (nth top 2)) 0)), scope := scopeOf (nth (inClass (nth top 2)) 0), globals := 0, closure := [], defaults := Value.none, kwdefaults := Value.none } }
noncomputable def o_75 : Params → Obj := fun P => { cls := Value.type "tuple", data := Data.seq #[] }
noncomputable def o_83 : Params → Obj := fun P => { cls := Value.type "dict", data := Data.dict #[{ hash := PyData.keyHash P (Str.ofString "__module__"), key := Value.str (Str.ofString "__module__") 216, val := Value.str (Str.ofString "vectorcove.errors") 187 }, { hash := PyData.keyHash P (Str.ofString "__firstlineno__"), key := Value.str (Str.ofString "__firstlineno__") 220, val := Value.int 4 219 }, { hash := PyData.keyHash P (Str.ofString "__init__"), key := Value.str (Str.ofString "__init__") 228, val := Value.ref 41 }, { hash := PyData.keyHash P (Str.ofString "__static_attributes__"), key := Value.str (Str.ofString "__static_attributes__") 230, val := Value.ref 42 }, { hash := PyData.keyHash P (Str.ofString "__doc__"), key := Value.str (Str.ofString "__doc__") 231, val := Value.none }] 2 }
noncomputable def o_73 : Params → Obj := fun P => { cls := Value.type "code", data := Data.fields #[Value.str (Str.ofString "Refusal") 211, Value.str (Str.ofString "Refusal") 212, Value.str (Str.ofString "/claim/cut.py") 213, Value.int 4 0, Value.int 0 0, Value.int 0 0, Value.int 0 0, Value.int 0 0, Value.ref 31, Value.bool false, Value.int 181 0, Value.ref 32, Value.none, Value.none, Value.none, Value.none, Value.int 214 0, Value.int 4 0, Value.str (Str.ofString "/claim/cut.py") 215] }
noncomputable def o_81 : Params → Obj := fun P => { cls := Value.type "function", data := Data.func { name := Str.ofString "__init__", qualname := Str.ofString "Refusal.__init__", params := parsOf (nth (inClass (nth top 2)) 0), body := FuncBody.stmts (bodyOf (nth (inClass (nth top 2)) 0)), scope := scopeOf (nth (inClass (nth top 2)) 0), globals := 3, closure := [], defaults := Value.none, kwdefaults := Value.none, pyModule := Value.str (Str.ofString "vectorcove.errors") 187, code := Value.ref 40 } }
noncomputable def o_77 : Params → Obj := fun P => { cls := Value.type "tuple", data := Data.seq #[Value.str (Str.ofString "self") 224, Value.str (Str.ofString "message") 225] }
noncomputable def o_69 : Params → Obj := fun P => { cls := Value.type "builtin_function_or_method", data := Data.fields #[Value.builtin "type.__prepare__", Value.type "type"] }
noncomputable def o_85 : Params → Obj := fun P => { cls := Value.type "super", data := Data.fields #[Value.ref 44, Value.ref 44, Value.ref 44] }
noncomputable def o_72 : Params → Obj := fun P => { cls := Value.none, data := Data.fields #[Value.int 6 0, Value.int 4 0, Value.ref 40] }
noncomputable def o_67 : Params → Obj := fun P => { cls := Value.type "type", data := Data.cls { name := Str.ofString "CoveError", bases := [Value.type "Exception"], mro := [Value.ref 24, Value.type "Exception", Value.type "BaseException", Value.type "object"], ns := 23, qualname := Str.ofString "CoveError", subclasses := [Value.ref 44] }, slots := #[some (Value.ref 15), none, some (Value.str (Str.ofString "CoveError") 189), some (Value.str (Str.ofString "CoveError") 197), some (Value.builtin "Exception.__new__"), some (Value.bool true)] }
noncomputable def o_80 : Params → Obj := fun P => { cls := Value.type "code", data := Data.fields #[Value.str (Str.ofString "__init__") 221, Value.str (Str.ofString "Refusal.__init__") 222, Value.str (Str.ofString "/claim/cut.py") 223, Value.int 6 0, Value.int 2 0, Value.int 0 0, Value.int 0 0, Value.int 3 0, Value.ref 35, Value.bool true, Value.int 181 0, Value.ref 36, Value.none, Value.ref 37, Value.ref 38, Value.ref 39, Value.int 226 0, Value.int 6 0, Value.str (Str.ofString "/claim/cut.py") 227] }
noncomputable def o_66 : Params → Obj := fun P => { cls := Value.none, data := Data.fields #[Value.int 2 0, Value.int 0 0, Value.ref 20, Value.int 4 0, Value.int 0 0, Value.ref 33] }
noncomputable def o_76 : Params → Obj := fun P => { cls := Value.none, data := Data.fields #[] }
noncomputable def o_68 : Params → Obj := fun P => { cls := Value.type "tuple", data := Data.seq #[Value.ref 24] }
noncomputable def o_84 : Params → Obj := fun P => { cls := Value.type "type", data := Data.cls { name := Str.ofString "Refusal", bases := [Value.ref 24], mro := [Value.ref 44, Value.ref 24, Value.type "Exception", Value.type "BaseException", Value.type "object"], ns := 43, qualname := Str.ofString "Refusal" }, slots := #[some (Value.ref 28), none, some (Value.str (Str.ofString "Refusal") 209), some (Value.str (Str.ofString "Refusal") 217), some (Value.builtin "Exception.__new__"), some (Value.bool true)] }
noncomputable def o_74 : Params → Obj := fun P => { cls := Value.type "frame", slots := #[some (Value.ref 33), some (Value.ref 3), some (Value.ref 30), none, some (Value.str (Str.ofString "vectorcove.errors") 187), none, some (Value.ref 0)] }
noncomputable def o_82 : Params → Obj := fun P => { cls := Value.type "tuple", data := Data.seq #[Value.str (Str.ofString "message") 229] }
noncomputable def o_78 : Params → Obj := fun P => { cls := Value.type "tuple", data := Data.seq #[] }
noncomputable def o_70 : Params → Obj := fun P => { cls := Value.type "dict", data := Data.dict #[{ hash := PyData.keyHash P (Str.ofString "__module__"), key := Value.str (Str.ofString "__module__") 216, val := Value.str (Str.ofString "vectorcove.errors") 187 }, { hash := PyData.keyHash P (Str.ofString "__qualname__"), key := Value.str (Str.ofString "__qualname__") 218, val := Value.str (Str.ofString "Refusal") 217 }, { hash := PyData.keyHash P (Str.ofString "__firstlineno__"), key := Value.str (Str.ofString "__firstlineno__") 220, val := Value.int 4 219 }, { hash := PyData.keyHash P (Str.ofString "__init__"), key := Value.str (Str.ofString "__init__") 228, val := Value.ref 41 }, { hash := PyData.keyHash P (Str.ofString "__static_attributes__"), key := Value.str (Str.ofString "__static_attributes__") 230, val := Value.ref 42 }] 5 }
noncomputable def o_86 : Params → Obj := fun P => { cls := Value.type "builtin_function_or_method", data := Data.fields #[Value.builtin "object.__init_subclass__", Value.ref 44] }
noncomputable def o_87 : Params → Obj := fun P => { cls := Value.type "dict", data := Data.dict #[{ hash := PyData.keyHash P (Str.ofString "__name__"), key := Value.str (Str.ofString "__name__") 165, val := Value.str (Str.ofString "vectorcove.callargs") 234 }, { hash := PyData.keyHash P (Str.ofString "__doc__"), key := Value.str (Str.ofString "__doc__") 166, val := Value.none }, { hash := PyData.keyHash P (Str.ofString "__package__"), key := Value.str (Str.ofString "__package__") 167, val := Value.none }, { hash := PyData.keyHash P (Str.ofString "__loader__"), key := Value.str (Str.ofString "__loader__") 168, val := Value.builtin "__main__.__loader__#opaque" }, { hash := PyData.keyHash P (Str.ofString "__spec__"), key := Value.str (Str.ofString "__spec__") 169, val := Value.none }, { hash := PyData.keyHash P (Str.ofString "__annotations__"), key := Value.str (Str.ofString "__annotations__") 170, val := Value.ref 6 }, { hash := PyData.keyHash P (Str.ofString "__builtins__"), key := Value.str (Str.ofString "__builtins__") 171, val := Value.ref 4 }, { hash := PyData.keyHash P (Str.ofString "__file__"), key := Value.str (Str.ofString "__file__") 173, val := Value.str (Str.ofString "/claim/cut.py") 172 }, { hash := PyData.keyHash P (Str.ofString "__cached__"), key := Value.str (Str.ofString "__cached__") 174, val := Value.none }, { hash := PyData.keyHash P (Str.ofString "CoveError"), key := Value.str (Str.ofString "CoveError") 208, val := Value.ref 24 }, { hash := PyData.keyHash P (Str.ofString "Refusal"), key := Value.str (Str.ofString "Refusal") 233, val := Value.ref 44 }, { hash := PyData.keyHash P (Str.ofString "Matching"), key := Value.str (Str.ofString "Matching") 318, val := Value.ref 103 }] 12 }
noncomputable def o_105 : Params → Obj := fun P => { cls := Value.type "tuple", data := Data.seq #[Value.str (Str.ofString "self") 260, Value.str (Str.ofString "name") 261, Value.str (Str.ofString "place") 262] }
noncomputable def o_137 : Params → Obj := fun P => { cls := Value.type "function", data := Data.func { name := Str.ofString "is_free", qualname := Str.ofString "Matching.is_free", params := parsOf (nth (inClass (nth top 4)) 5), body := FuncBody.stmts (bodyOf (nth (inClass (nth top 4)) 5)), scope := scopeOf (nth (inClass (nth top 4)) 5), globals := 3, closure := [], defaults := Value.none, kwdefaults := Value.none, pyModule := Value.str (Str.ofString "vectorcove.callargs") 234, code := Value.ref 94 } }
noncomputable def o_89 : Params → Obj := fun P => { cls := Value.type "tuple", data := Data.seq #[] }
noncomputable def o_121 : Params → Obj := fun P => { cls := Value.none, data := Data.func { name := Str.ofString "partial_of", qualname := Str.ofString "Matching.partial_of", params := parsOf (nth (inClass (nth top 4)) 3), body := FuncBody.stmts (bodyOf (nth (inClass (nth top 4)) 3)), scope := scopeOf (nth (inClass (nth top 4)) 3), globals := 0, closure := [], defaults := Value.none, kwdefaults := Value.none } }
noncomputable def o_113 : Params → Obj := fun P => { cls := Value.type "tuple", data := Data.seq #[] }
noncomputable def o_145 : Params → Obj := fun P => { cls := Value.type "type", data := Data.cls { name := Str.ofString "Matching", bases := [Value.type "object"], mro := [Value.ref 103, Value.type "object"], ns := 102, qualname := Str.ofString "Matching" }, slots := #[none, none, some (Value.str (Str.ofString "Matching") 236), some (Value.str (Str.ofString "Matching") 244), some (Value.builtin "object.__new__"), some (Value.bool true)] }
noncomputable def o_97 : Params → Obj := fun P => { cls := Value.none, data := Data.fields #[] }
noncomputable def o_129 : Params → Obj := fun P => { cls := Value.type "code", data := Data.fields #[Value.str (Str.ofString "positional") 284, Value.str (Str.ofString "Matching.positional") 285, Value.str (Str.ofString "/claim/cut.py") 286, Value.int 45 0, Value.int 1 0, Value.int 0 0, Value.int 0 0, Value.int 3 0, Value.ref 82, Value.bool true, Value.int 181 0, Value.ref 83, Value.none, Value.ref 84, Value.ref 85, Value.ref 86, Value.int 290 0, Value.int 45 0, Value.str (Str.ofString "/claim/cut.py") 291] }
noncomputable def o_109 : Params → Obj := fun P => { cls := Value.type "function", data := Data.func { name := Str.ofString "exact", qualname := Str.ofString "Matching.exact", params := parsOf (nth (inClass (nth top 4)) 1), body := FuncBody.stmts (bodyOf (nth (inClass (nth top 4)) 1)), scope := scopeOf (nth (inClass (nth top 4)) 1), globals := 3, closure := [], defaults := Value.none, kwdefaults := Value.none, pyModule := Value.str (Str.ofString "vectorcove.callargs") 234, code := Value.ref 66 } }
noncomputable def o_141 : Params → Obj := fun P => { cls := Value.type "code", data := Data.fields #[Value.str (Str.ofString "rest") 301, Value.str (Str.ofString "Matching.rest") 302, Value.str (Str.ofString "/claim/cut.py") 303, Value.int 60 0, Value.int 1 0, Value.int 0 0, Value.int 0 0, Value.int 3 0, Value.ref 96, Value.bool true, Value.int 181 0, Value.ref 97, Value.none, Value.none, Value.none, Value.ref 98, Value.int 304 0, Value.int 60 0, Value.str (Str.ofString "/claim/cut.py") 305] }
noncomputable def o_93 : Params → Obj := fun P => { cls := Value.none, data := Data.fields #[Value.int 11 0, Value.int 4 0, Value.ref 59, Value.int 17 0, Value.int 4 0, Value.ref 66, Value.int 27 0, Value.int 4 0, Value.ref 73, Value.int 34 0, Value.int 4 0, Value.ref 80, Value.int 45 0, Value.int 4 0, Value.ref 87, Value.int 57 0, Value.int 4 0, Value.ref 94, Value.int 60 0, Value.int 4 0, Value.ref 99] }
noncomputable def o_125 : Params → Obj := fun P => { cls := Value.none, data := Data.fields #[] }
noncomputable def o_117 : Params → Obj := fun P => { cls := Value.type "tuple", data := Data.seq #[] }
noncomputable def o_149 : Params → Obj := fun P => { cls := Value.type "builtin_function_or_method", data := Data.fields #[Value.builtin "object.__init_subclass__", Value.ref 103] }
noncomputable def o_101 : Params → Obj := fun P => { cls := Value.type "code", data := Data.fields #[Value.str (Str.ofString "__init__") 248, Value.str (Str.ofString "Matching.__init__") 249, Value.str (Str.ofString "/claim/cut.py") 250, Value.int 11 0, Value.int 3 0, Value.int 0 0, Value.int 0 0, Value.int 3 0, Value.ref 54, Value.bool true, Value.int 181 0, Value.ref 55, Value.none, Value.ref 56, Value.ref 57, Value.ref 58, Value.int 254 0, Value.int 11 0, Value.str (Str.ofString "/claim/cut.py") 255] }
noncomputable def o_133 : Params → Obj := fun P => { cls := Value.type "tuple", data := Data.seq #[Value.str (Str.ofString "self") 296, Value.str (Str.ofString "place") 297] }
noncomputable def o_107 : Params → Obj := fun P => { cls := Value.none, data := Data.func { name := Str.ofString "exact", qualname := Str.ofString "Matching.exact", params := parsOf (nth (inClass (nth top 4)) 1), body := FuncBody.stmts (bodyOf (nth (inClass (nth top 4)) 1)), scope := scopeOf (nth (inClass (nth top 4)) 1), globals := 0, closure := [], defaults := Value.none, kwdefaults := Value.none } }
noncomputable def o_139 : Params → Obj := fun P => { cls := Value.none, data := Data.fields #[] }
noncomputable def o_91 : Params → Obj := fun P => { cls := Value.type "dict", data := Data.dict #[{ hash := PyData.keyHash P (Str.ofString "__module__"), key := Value.str (Str.ofString "__module__") 243, val := Value.str (Str.ofString "vectorcove.callargs") 234 }, { hash := PyData.keyHash P (Str.ofString "__qualname__"), key := Value.str (Str.ofString "__qualname__") 245, val := Value.str (Str.ofString "Matching") 244 }, { hash := PyData.keyHash P (Str.ofString "__firstlineno__"), key := Value.str (Str.ofString "__firstlineno__") 247, val := Value.int 9 246 }, { hash := PyData.keyHash P (Str.ofString "__init__"), key := Value.str (Str.ofString "__init__") 256, val := Value.ref 60 }, { hash := PyData.keyHash P (Str.ofString "exact"), key := Value.str (Str.ofString "exact") 265, val := Value.ref 67 }, { hash := PyData.keyHash P (Str.ofString "partial"), key := Value.str (Str.ofString "partial") 273, val := Value.ref 74 }, { hash := PyData.keyHash P (Str.ofString "partial_of"), key := Value.str (Str.ofString "partial_of") 283, val := Value.ref 81 }, { hash := PyData.keyHash P (Str.ofString "positional"), key := Value.str (Str.ofString "positional") 292, val := Value.ref 88 }, { hash := PyData.keyHash P (Str.ofString "is_free"), key := Value.str (Str.ofString "is_free") 300, val := Value.ref 95 }, { hash := PyData.keyHash P (Str.ofString "rest"), key := Value.str (Str.ofString "rest") 306, val := Value.ref 100 }, { hash := PyData.keyHash P (Str.ofString "__static_attributes__"), key := Value.str (Str.ofString "__static_attributes__") 311, val := Value.ref 101 }] 11 }
noncomputable def o_123 : Params → Obj := fun P => { cls := Value.type "function", data := Data.func { name := Str.ofString "partial_of", qualname := Str.ofString "Matching.partial_of", params := parsOf (nth (inClass (nth top 4)) 3), body := FuncBody.stmts (bodyOf (nth (inClass (nth top 4)) 3)), scope := scopeOf (nth (inClass (nth top 4)) 3), globals := 3, closure := [], defaults := Value.none, kwdefaults := Value.none, pyModule := Value.str (Str.ofString "vectorcove.callargs") 234, code := Value.ref 80 } }
noncomputable def o_115 : Params → Obj := fun P => { cls := Value.type "code", data := Data.fields #[Value.str (Str.ofString "partial") 266, Value.str (Str.ofString "Matching.partial") 267, Value.str (Str.ofString "/claim/cut.py") 268, Value.int 27 0, Value.int 1 0, Value.int 0 0, Value.int 0 0, Value.int 3 0, Value.ref 68, Value.bool true, Value.int 181 0, Value.ref 69, Value.none, Value.ref 70, Value.ref 71, Value.ref 72, Value.int 271 0, Value.int 27 0, Value.str (Str.ofString "/claim/cut.py") 272] }
noncomputable def o_147 : Params → Obj := fun P => { cls := Value.type "getset_descriptor", data := Data.fields #[Value.str (Str.ofString "__weakref__") 314, Value.ref 103, Value.builtin "ExceptionGroup.__weakref__", Value.none] }
noncomputable def o_99 : Params → Obj := fun P => { cls := Value.type "tuple", data := Data.seq #[] }
noncomputable def o_131 : Params → Obj := fun P => { cls := Value.type "tuple", data := Data.seq #[] }
noncomputable def o_111 : Params → Obj := fun P => { cls := Value.none, data := Data.fields #[] }
noncomputable def o_143 : Params → Obj := fun P => { cls := Value.type "tuple", data := Data.seq #[Value.str (Str.ofString "formals") 307, Value.str (Str.ofString "places") 308, Value.str (Str.ofString "tags") 309, Value.str (Str.ofString "used") 310] }
noncomputable def o_95 : Params → Obj := fun P => { cls := Value.type "frame", slots := #[some (Value.ref 52), some (Value.ref 3), some (Value.ref 49), none, some (Value.str (Str.ofString "vectorcove.callargs") 234), none, some (Value.ref 0)] }
noncomputable def o_127 : Params → Obj := fun P => { cls := Value.type "tuple", data := Data.seq #[] }
noncomputable def o_119 : Params → Obj := fun P => { cls := Value.type "tuple", data := Data.seq #[Value.str (Str.ofString "self") 277, Value.str (Str.ofString "name") 278, Value.str (Str.ofString "place") 279, Value.str (Str.ofString "tag") 280] }
noncomputable def o_103 : Params → Obj := fun P => { cls := Value.type "tuple", data := Data.seq #[] }
noncomputable def o_135 : Params → Obj := fun P => { cls := Value.none, data := Data.func { name := Str.ofString "is_free", qualname := Str.ofString "Matching.is_free", params := parsOf (nth (inClass (nth top 4)) 5), body := FuncBody.stmts (bodyOf (nth (inClass (nth top 4)) 5)), scope := scopeOf (nth (inClass (nth top 4)) 5), globals := 0, closure := [], defaults := Value.none, kwdefaults := Value.none } }
noncomputable def o_106 : Params → Obj := fun P => { cls := Value.type "tuple", data := Data.seq #[] }
noncomputable def o_138 : Params → Obj := fun P => { cls := Value.type "tuple", data := Data.seq #[] }
noncomputable def o_90 : Params → Obj := fun P => { cls := Value.type "builtin_function_or_method", data := Data.fields #[Value.builtin "type.__prepare__", Value.type "type"] }
noncomputable def o_122 : Params → Obj := fun P => { cls := Value.type "code", data := Data.fields #[Value.str (Str.ofString "partial_of") 274, Value.str (Str.ofString "Matching.partial_of") 275, Value.str (Str.ofString "/claim/cut.py") 276, Value.int 34 0, Value.int 2 0, Value.int 0 0, Value.int 0 0, Value.int 3 0, Value.ref 75, Value.bool true, Value.int 181 0, Value.ref 76, Value.none, Value.ref 77, Value.ref 78, Value.ref 79, Value.int 281 0, Value.int 34 0, Value.str (Str.ofString "/claim/cut.py") 282] }
noncomputable def o_114 : Params → Obj := fun P => { cls := Value.none, data := Data.func { name := Str.ofString "partial", qualname := Str.ofString "Matching.partial", params := parsOf (nth (inClass (nth top 4)) 2), body := FuncBody.stmts (bodyOf (nth (inClass (nth top 4)) 2)), scope := scopeOf (nth (inClass (nth top 4)) 2), globals := 0, closure := [], defaults := Value.none, kwdefaults := Value.none } }
noncomputable def o_146 : Params → Obj := fun P => { cls := Value.type "getset_descriptor", data := Data.fields #[Value.str (Str.ofString "__dict__") 312, Value.ref 103, Value.builtin "function.__dict__", Value.builtin "function.__dict__#set"] }
noncomputable def o_98 : Params → Obj := fun P => { cls := Value.type "tuple", data := Data.seq #[Value.str (Str.ofString "self") 251, Value.str (Str.ofString "formals") 252, Value.str (Str.ofString "tags") 253] }
noncomputable def o_130 : Params → Obj := fun P => { cls := Value.type "function", data := Data.func { name := Str.ofString "positional", qualname := Str.ofString "Matching.positional", params := parsOf (nth (inClass (nth top 4)) 4), body := FuncBody.stmts (bodyOf (nth (inClass (nth top 4)) 4)), scope := scopeOf (nth (inClass (nth top 4)) 4), globals := 3, closure := [], defaults := Value.none, kwdefaults := Value.none, pyModule := Value.str (Str.ofString "vectorcove.callargs") 234, code := Value.ref 87 } }
noncomputable def o_88 : Params → Obj := fun P => { cls := Value.none, data := Data.fields #[Value.int 2 0, Value.int 0 0, Value.ref 20, Value.int 4 0, Value.int 0 0, Value.ref 33, Value.int 9 0, Value.int 0 0, Value.ref 52] }
noncomputable def o_110 : Params → Obj := fun P => { cls := Value.type "tuple", data := Data.seq #[] }
noncomputable def o_142 : Params → Obj := fun P => { cls := Value.type "function", data := Data.func { name := Str.ofString "rest", qualname := Str.ofString "Matching.rest", params := parsOf (nth (inClass (nth top 4)) 6), body := FuncBody.stmts (bodyOf (nth (inClass (nth top 4)) 6)), scope := scopeOf (nth (inClass (nth top 4)) 6), globals := 3, closure := [], defaults := Value.none, kwdefaults := Value.none, pyModule := Value.str (Str.ofString "vectorcove.callargs") 234, code := Value.ref 99 } }
noncomputable def o_94 : Params → Obj := fun P => { cls := Value.type "code", data := Data.fields #[Value.str (Str.ofString "Matching") 238, Value.str (Str.ofString "Matching") 239, Value.str (Str.ofString "/claim/cut.py") 240, Value.int 9 0, Value.int 0 0, Value.int 0 0, Value.int 0 0, Value.int 0 0, Value.ref 50, Value.bool false, Value.int 181 0, Value.ref 51, Value.none, Value.none, Value.none, Value.none, Value.int 241 0, Value.int 9 0, Value.str (Str.ofString "/claim/cut.py") 242] }
noncomputable def o_126 : Params → Obj := fun P => { cls := Value.type "tuple", data := Data.seq #[Value.str (Str.ofString "self") 287, Value.str (Str.ofString "place") 288, Value.str (Str.ofString "name") 289] }
noncomputable def o_118 : Params → Obj := fun P => { cls := Value.none, data := Data.fields #[] }
noncomputable def o_102 : Params → Obj := fun P => { cls := Value.type "function", data := Data.func { name := Str.ofString "__init__", qualname := Str.ofString "Matching.__init__", params := parsOf (nth (inClass (nth top 4)) 0), body := FuncBody.stmts (bodyOf (nth (inClass (nth top 4)) 0)), scope := scopeOf (nth (inClass (nth top 4)) 0), globals := 3, closure := [], defaults := Value.none, kwdefaults := Value.none, pyModule := Value.str (Str.ofString "vectorcove.callargs") 234, code := Value.ref 59 } }
noncomputable def o_134 : Params → Obj := fun P => { cls := Value.type "tuple", data := Data.seq #[] }
noncomputable def o_108 : Params → Obj := fun P => { cls := Value.type "code", data := Data.fields #[Value.str (Str.ofString "exact") 257, Value.str (Str.ofString "Matching.exact") 258, Value.str (Str.ofString "/claim/cut.py") 259, Value.int 17 0, Value.int 1 0, Value.int 0 0, Value.int 0 0, Value.int 3 0, Value.ref 61, Value.bool true, Value.int 181 0, Value.ref 62, Value.none, Value.ref 63, Value.ref 64, Value.ref 65, Value.int 263 0, Value.int 17 0, Value.str (Str.ofString "/claim/cut.py") 264] }
noncomputable def o_140 : Params → Obj := fun P => { cls := Value.none, data := Data.func { name := Str.ofString "rest", qualname := Str.ofString "Matching.rest", params := parsOf (nth (inClass (nth top 4)) 6), body := FuncBody.stmts (bodyOf (nth (inClass (nth top 4)) 6)), scope := scopeOf (nth (inClass (nth top 4)) 6), globals := 0, closure := [], defaults := Value.none, kwdefaults := Value.none } }
noncomputable def o_92 : Params → Obj := fun P => { cls := Value.type "tuple", data := Data.seq #[] }
noncomputable def o_124 : Params → Obj := fun P => { cls := Value.type "tuple", data := Data.seq #[] }
noncomputable def o_116 : Params → Obj := fun P => { cls := Value.type "function", data := Data.func { name := Str.ofString "partial", qualname := Str.ofString "Matching.partial", params := parsOf (nth (inClass (nth top 4)) 2), body := FuncBody.stmts (bodyOf (nth (inClass (nth top 4)) 2)), scope := scopeOf (nth (inClass (nth top 4)) 2), globals := 3, closure := [], defaults := Value.none, kwdefaults := Value.none, pyModule := Value.str (Str.ofString "vectorcove.callargs") 234, code := Value.ref 73 } }
noncomputable def o_148 : Params → Obj := fun P => { cls := Value.type "super", data := Data.fields #[Value.ref 103, Value.ref 103, Value.ref 103] }
noncomputable def o_100 : Params → Obj := fun P => { cls := Value.none, data := Data.func { name := Str.ofString "__init__", qualname := Str.ofString "Matching.__init__", params := parsOf (nth (inClass (nth top 4)) 0), body := FuncBody.stmts (bodyOf (nth (inClass (nth top 4)) 0)), scope := scopeOf (nth (inClass (nth top 4)) 0), globals := 0, closure := [], defaults := Value.none, kwdefaults := Value.none } }
noncomputable def o_132 : Params → Obj := fun P => { cls := Value.none, data := Data.fields #[] }
noncomputable def o_112 : Params → Obj := fun P => { cls := Value.type "tuple", data := Data.seq #[Value.str (Str.ofString "self") 269, Value.str (Str.ofString "name") 270] }
noncomputable def o_144 : Params → Obj := fun P => { cls := Value.type "dict", data := Data.dict #[{ hash := PyData.keyHash P (Str.ofString "__module__"), key := Value.str (Str.ofString "__module__") 243, val := Value.str (Str.ofString "vectorcove.callargs") 234 }, { hash := PyData.keyHash P (Str.ofString "__firstlineno__"), key := Value.str (Str.ofString "__firstlineno__") 247, val := Value.int 9 246 }, { hash := PyData.keyHash P (Str.ofString "__init__"), key := Value.str (Str.ofString "__init__") 256, val := Value.ref 60 }, { hash := PyData.keyHash P (Str.ofString "exact"), key := Value.str (Str.ofString "exact") 265, val := Value.ref 67 }, { hash := PyData.keyHash P (Str.ofString "partial"), key := Value.str (Str.ofString "partial") 273, val := Value.ref 74 }, { hash := PyData.keyHash P (Str.ofString "partial_of"), key := Value.str (Str.ofString "partial_of") 283, val := Value.ref 81 }, { hash := PyData.keyHash P (Str.ofString "positional"), key := Value.str (Str.ofString "positional") 292, val := Value.ref 88 }, { hash := PyData.keyHash P (Str.ofString "is_free"), key := Value.str (Str.ofString "is_free") 300, val := Value.ref 95 }, { hash := PyData.keyHash P (Str.ofString "rest"), key := Value.str (Str.ofString "rest") 306, val := Value.ref 100 }, { hash := PyData.keyHash P (Str.ofString "__static_attributes__"), key := Value.str (Str.ofString "__static_attributes__") 311, val := Value.ref 101 }, { hash := PyData.keyHash P (Str.ofString "__dict__"), key := Value.str (Str.ofString "__dict__") 313, val := Value.ref 104 }, { hash := PyData.keyHash P (Str.ofString "__weakref__"), key := Value.str (Str.ofString "__weakref__") 315, val := Value.ref 105 }, { hash := PyData.keyHash P (Str.ofString "__doc__"), key := Value.str (Str.ofString "__doc__") 316, val := Value.none }] 4 }
noncomputable def o_96 : Params → Obj := fun P => { cls := Value.type "tuple", data := Data.seq #[] }
noncomputable def o_128 : Params → Obj := fun P => { cls := Value.none, data := Data.func { name := Str.ofString "positional", qualname := Str.ofString "Matching.positional", params := parsOf (nth (inClass (nth top 4)) 4), body := FuncBody.stmts (bodyOf (nth (inClass (nth top 4)) 4)), scope := scopeOf (nth (inClass (nth top 4)) 4), globals := 0, closure := [], defaults := Value.none, kwdefaults := Value.none } }
noncomputable def o_120 : Params → Obj := fun P => { cls := Value.type "tuple", data := Data.seq #[] }
noncomputable def o_104 : Params → Obj := fun P => { cls := Value.none, data := Data.fields #[] }
noncomputable def o_136 : Params → Obj := fun P => { cls := Value.type "code", data := Data.fields #[Value.str (Str.ofString "is_free") 293, Value.str (Str.ofString "Matching.is_free") 294, Value.str (Str.ofString "/claim/cut.py") 295, Value.int 57 0, Value.int 2 0, Value.int 0 0, Value.int 0 0, Value.int 3 0, Value.ref 89, Value.bool true, Value.int 181 0, Value.ref 90, Value.none, Value.ref 91, Value.ref 92, Value.ref 93, Value.int 298 0, Value.int 57 0, Value.str (Str.ofString "/claim/cut.py") 299] }
noncomputable def o_150 : Params → Obj := fun P => { cls := Value.type "dict", data := Data.dict #[{ hash := PyData.keyHash P (Str.ofString "__name__"), key := Value.str (Str.ofString "__name__") 165, val := Value.str (Str.ofString "law_ov0042_01") 349 }, { hash := PyData.keyHash P (Str.ofString "__doc__"), key := Value.str (Str.ofString "__doc__") 166, val := Value.none }, { hash := PyData.keyHash P (Str.ofString "__package__"), key := Value.str (Str.ofString "__package__") 167, val := Value.none }, { hash := PyData.keyHash P (Str.ofString "__loader__"), key := Value.str (Str.ofString "__loader__") 168, val := Value.builtin "__main__.__loader__#opaque" }, { hash := PyData.keyHash P (Str.ofString "__spec__"), key := Value.str (Str.ofString "__spec__") 169, val := Value.none }, { hash := PyData.keyHash P (Str.ofString "__annotations__"), key := Value.str (Str.ofString "__annotations__") 170, val := Value.ref 6 }, { hash := PyData.keyHash P (Str.ofString "__builtins__"), key := Value.str (Str.ofString "__builtins__") 171, val := Value.ref 4 }, { hash := PyData.keyHash P (Str.ofString "__file__"), key := Value.str (Str.ofString "__file__") 173, val := Value.str (Str.ofString "/claim/cut.py") 172 }, { hash := PyData.keyHash P (Str.ofString "__cached__"), key := Value.str (Str.ofString "__cached__") 174, val := Value.none }, { hash := PyData.keyHash P (Str.ofString "CoveError"), key := Value.str (Str.ofString "CoveError") 208, val := Value.ref 24 }, { hash := PyData.keyHash P (Str.ofString "Refusal"), key := Value.str (Str.ofString "Refusal") 233, val := Value.ref 44 }, { hash := PyData.keyHash P (Str.ofString "Matching"), key := Value.str (Str.ofString "Matching") 318, val := Value.ref 103 }, { hash := PyData.keyHash P (Str.ofString "doubled_text"), key := Value.str (Str.ofString "doubled_text") 325, val := Value.ref 114 }, { hash := PyData.keyHash P (Str.ofString "argument_text"), key := Value.str (Str.ofString "argument_text") 336, val := Value.ref 121 }, { hash := PyData.keyHash P (Str.ofString "unused_text"), key := Value.str (Str.ofString "unused_text") 342, val := Value.ref 126 }, { hash := PyData.keyHash P (Str.ofString "match_names"), key := Value.str (Str.ofString "match_names") 348, val := Value.ref 132 }, { hash := PyData.keyHash P (Str.ofString "_law_pick"), key := Value.str (Str.ofString "_law_pick") 362, val := Value.ref 139 }, { hash := PyData.keyHash P (Str.ofString "_law_answer"), key := Value.str (Str.ofString "_law_answer") 373, val := Value.ref 146 }, { hash := PyData.keyHash P (Str.ofString "_law_mixed"), key := Value.str (Str.ofString "_law_mixed") 379, val := Value.ref 151 }, { hash := PyData.keyHash P (Str.ofString "_law_given"), key := Value.str (Str.ofString "_law_given") 389, val := Value.ref 158 }, { hash := PyData.keyHash P (Str.ofString "_law_same_in_order"), key := Value.str (Str.ofString "_law_same_in_order") 395, val := Value.ref 163 }, { hash := PyData.keyHash P (Str.ofString "_law_with_letter"), key := Value.str (Str.ofString "_law_with_letter") 402, val := Value.ref 170 }, { hash := PyData.keyHash P (Str.ofString "_law_same_with_letter"), key := Value.str (Str.ofString "_law_same_with_letter") 408, val := Value.ref 175 }, { hash := PyData.keyHash P (Str.ofString "_law_all"), key := Value.str (Str.ofString "_law_all") 418, val := Value.ref 182 }, { hash := PyData.keyHash P (Str.ofString "law"), key := Value.str (Str.ofString "law") 433, val := Value.ref 189 }] 25 }
noncomputable def o_171 : Params → Obj := fun P => { cls := Value.type "tuple", data := Data.seq #[Value.none] }
noncomputable def o_203 : Params → Obj := fun P => { cls := Value.type "tuple", data := Data.seq #[] }
noncomputable def o_187 : Params → Obj := fun P => { cls := Value.type "tuple", data := Data.seq #[] }
noncomputable def o_155 : Params → Obj := fun P => { cls := Value.type "tuple", data := Data.seq #[] }
noncomputable def o_219 : Params → Obj := fun P => { cls := Value.type "function", data := Data.func { name := Str.ofString "_law_same_with_letter", qualname := Str.ofString "_law_same_with_letter", params := parsOf (nth top 16), body := FuncBody.stmts (bodyOf (nth top 16)), scope := scopeOf (nth top 16), globals := 3, closure := [], defaults := Value.none, kwdefaults := Value.none, pyModule := Value.str (Str.ofString "law_ov0042_01") 349, code := Value.ref 174 } }
noncomputable def o_179 : Params → Obj := fun P => { cls := Value.type "tuple", data := Data.seq #[Value.str (Str.ofString "jar") 354, Value.str (Str.ofString "count") 355, Value.str (Str.ofString "at") 356, Value.str (Str.ofString "cell") 357, Value.str (Str.ofString "low") 358, Value.str (Str.ofString "got") 359] }
noncomputable def o_211 : Params → Obj := fun P => { cls := Value.type "tuple", data := Data.seq #[] }
noncomputable def o_195 : Params → Obj := fun P => { cls := Value.type "function", data := Data.func { name := Str.ofString "_law_mixed", qualname := Str.ofString "_law_mixed", params := parsOf (nth top 12), body := FuncBody.stmts (bodyOf (nth top 12)), scope := scopeOf (nth top 12), globals := 3, closure := [], defaults := Value.none, kwdefaults := Value.none, pyModule := Value.str (Str.ofString "law_ov0042_01") 349, code := Value.ref 150 } }
noncomputable def o_163 : Params → Obj := fun P => { cls := Value.none, data := Data.func { name := Str.ofString "argument_text", qualname := Str.ofString "argument_text", params := parsOf (nth top 6), body := FuncBody.stmts (bodyOf (nth top 6)), scope := scopeOf (nth top 6), globals := 0, closure := [], defaults := Value.none, kwdefaults := Value.none } }
noncomputable def o_227 : Params → Obj := fun P => { cls := Value.type "tuple", data := Data.seq #[] }
noncomputable def o_175 : Params → Obj := fun P => { cls := Value.type "code", data := Data.fields #[Value.str (Str.ofString "match_names") 343, Value.str (Str.ofString "match_names") 344, Value.str (Str.ofString "/claim/cut.py") 345, Value.int 79 0, Value.int 3 0, Value.int 0 0, Value.int 0 0, Value.int 3 0, Value.ref 128, Value.bool true, Value.int 181 0, Value.ref 129, Value.none, Value.none, Value.none, Value.ref 130, Value.int 346 0, Value.int 79 0, Value.str (Str.ofString "/claim/cut.py") 347] }
noncomputable def o_207 : Params → Obj := fun P => { cls := Value.type "function", data := Data.func { name := Str.ofString "_law_same_in_order", qualname := Str.ofString "_law_same_in_order", params := parsOf (nth top 14), body := FuncBody.stmts (bodyOf (nth top 14)), scope := scopeOf (nth top 14), globals := 3, closure := [], defaults := Value.none, kwdefaults := Value.none, pyModule := Value.str (Str.ofString "law_ov0042_01") 349, code := Value.ref 162 } }
noncomputable def o_191 : Params → Obj := fun P => { cls := Value.type "tuple", data := Data.seq #[] }
noncomputable def o_159 : Params → Obj := fun P => { cls := Value.type "tuple", data := Data.seq #[] }
noncomputable def o_223 : Params → Obj := fun P => { cls := Value.type "tuple", data := Data.seq #[] }
noncomputable def o_183 : Params → Obj := fun P => { cls := Value.type "function", data := Data.func { name := Str.ofString "_law_pick", qualname := Str.ofString "_law_pick", params := parsOf (nth top 10), body := FuncBody.stmts (bodyOf (nth top 10)), scope := scopeOf (nth top 10), globals := 3, closure := [], defaults := Value.none, kwdefaults := Value.none, pyModule := Value.str (Str.ofString "law_ov0042_01") 349, code := Value.ref 138 } }
noncomputable def o_215 : Params → Obj := fun P => { cls := Value.type "tuple", data := Data.seq #[] }
noncomputable def o_199 : Params → Obj := fun P => { cls := Value.type "tuple", data := Data.seq #[] }
noncomputable def o_167 : Params → Obj := fun P => { cls := Value.none, data := Data.fields #[] }
noncomputable def o_231 : Params → Obj := fun P => { cls := Value.none, data := Data.func { name := Str.ofString "law", qualname := Str.ofString "law", params := parsOf (nth top 18), body := FuncBody.stmts (bodyOf (nth top 18)), scope := scopeOf (nth top 18), globals := 0, closure := [], defaults := Value.none, kwdefaults := Value.none } }
noncomputable def o_173 : Params → Obj := fun P => { cls := Value.none, data := Data.fields #[] }
noncomputable def o_205 : Params → Obj := fun P => { cls := Value.none, data := Data.func { name := Str.ofString "_law_same_in_order", qualname := Str.ofString "_law_same_in_order", params := parsOf (nth top 14), body := FuncBody.stmts (bodyOf (nth top 14)), scope := scopeOf (nth top 14), globals := 0, closure := [], defaults := Value.none, kwdefaults := Value.none } }
noncomputable def o_189 : Params → Obj := fun P => { cls := Value.type "code", data := Data.fields #[Value.str (Str.ofString "_law_answer") 363, Value.str (Str.ofString "_law_answer") 364, Value.str (Str.ofString "/claim/cut.py") 365, Value.int 102 0, Value.int 2 0, Value.int 0 0, Value.int 0 0, Value.int 3 0, Value.ref 140, Value.bool true, Value.int 181 0, Value.ref 141, Value.none, Value.ref 142, Value.ref 143, Value.ref 144, Value.int 371 0, Value.int 102 0, Value.str (Str.ofString "/claim/cut.py") 372] }
noncomputable def o_157 : Params → Obj := fun P => { cls := Value.type "code", data := Data.fields #[Value.str (Str.ofString "doubled_text") 319, Value.str (Str.ofString "doubled_text") 320, Value.str (Str.ofString "/claim/cut.py") 321, Value.int 62 0, Value.int 1 0, Value.int 0 0, Value.int 0 0, Value.int 3 0, Value.ref 108, Value.bool true, Value.int 181 0, Value.ref 109, Value.none, Value.ref 110, Value.ref 111, Value.ref 112, Value.int 323 0, Value.int 62 0, Value.str (Str.ofString "/claim/cut.py") 324] }
noncomputable def o_221 : Params → Obj := fun P => { cls := Value.none, data := Data.fields #[] }
noncomputable def o_181 : Params → Obj := fun P => { cls := Value.none, data := Data.func { name := Str.ofString "_law_pick", qualname := Str.ofString "_law_pick", params := parsOf (nth top 10), body := FuncBody.stmts (bodyOf (nth top 10)), scope := scopeOf (nth top 10), globals := 0, closure := [], defaults := Value.none, kwdefaults := Value.none } }
noncomputable def o_213 : Params → Obj := fun P => { cls := Value.type "code", data := Data.fields #[Value.str (Str.ofString "_law_with_letter") 396, Value.str (Str.ofString "_law_with_letter") 397, Value.str (Str.ofString "/claim/cut.py") 398, Value.int 140 0, Value.int 1 0, Value.int 0 0, Value.int 0 0, Value.int 3 0, Value.ref 164, Value.bool true, Value.int 181 0, Value.ref 165, Value.none, Value.ref 166, Value.ref 167, Value.ref 168, Value.int 400 0, Value.int 140 0, Value.str (Str.ofString "/claim/cut.py") 401] }
noncomputable def o_197 : Params → Obj := fun P => { cls := Value.none, data := Data.fields #[] }
noncomputable def o_165 : Params → Obj := fun P => { cls := Value.type "function", data := Data.func { name := Str.ofString "argument_text", qualname := Str.ofString "argument_text", params := parsOf (nth top 6), body := FuncBody.stmts (bodyOf (nth top 6)), scope := scopeOf (nth top 6), globals := 3, closure := [], defaults := Value.none, kwdefaults := Value.none, pyModule := Value.str (Str.ofString "vectorcove.callargs") 234, code := Value.ref 120 } }
noncomputable def o_229 : Params → Obj := fun P => { cls := Value.type "tuple", data := Data.seq #[Value.str (Str.ofString "script") 422, Value.str (Str.ofString "jar") 423, Value.str (Str.ofString "pool") 424, Value.str (Str.ofString "formals") 425, Value.str (Str.ofString "step") 426, Value.str (Str.ofString "args") 427, Value.str (Str.ofString "tag") 428, Value.str (Str.ofString "pair") 429, Value.str (Str.ofString "places") 430] }
noncomputable def o_177 : Params → Obj := fun P => { cls := Value.type "tuple", data := Data.seq #[] }
noncomputable def o_209 : Params → Obj := fun P => { cls := Value.none, data := Data.fields #[] }
noncomputable def o_193 : Params → Obj := fun P => { cls := Value.none, data := Data.func { name := Str.ofString "_law_mixed", qualname := Str.ofString "_law_mixed", params := parsOf (nth top 12), body := FuncBody.stmts (bodyOf (nth top 12)), scope := scopeOf (nth top 12), globals := 0, closure := [], defaults := Value.none, kwdefaults := Value.none } }
noncomputable def o_161 : Params → Obj := fun P => { cls := Value.type "tuple", data := Data.seq #[Value.str (Str.ofString "args") 329, Value.str (Str.ofString "place") 330, Value.str (Str.ofString "show") 331, Value.str (Str.ofString "tag") 332, Value.str (Str.ofString "value") 333] }
noncomputable def o_225 : Params → Obj := fun P => { cls := Value.type "code", data := Data.fields #[Value.str (Str.ofString "_law_all") 409, Value.str (Str.ofString "_law_all") 410, Value.str (Str.ofString "/claim/cut.py") 411, Value.int 158 0, Value.int 3 0, Value.int 0 0, Value.int 0 0, Value.int 3 0, Value.ref 176, Value.bool true, Value.int 181 0, Value.ref 177, Value.none, Value.ref 178, Value.ref 179, Value.ref 180, Value.int 416 0, Value.int 158 0, Value.str (Str.ofString "/claim/cut.py") 417] }
noncomputable def o_185 : Params → Obj := fun P => { cls := Value.none, data := Data.fields #[] }
noncomputable def o_153 : Params → Obj := fun P => { cls := Value.none, data := Data.fields #[] }
noncomputable def o_217 : Params → Obj := fun P => { cls := Value.none, data := Data.func { name := Str.ofString "_law_same_with_letter", qualname := Str.ofString "_law_same_with_letter", params := parsOf (nth top 16), body := FuncBody.stmts (bodyOf (nth top 16)), scope := scopeOf (nth top 16), globals := 0, closure := [], defaults := Value.none, kwdefaults := Value.none } }
noncomputable def o_201 : Params → Obj := fun P => { cls := Value.type "code", data := Data.fields #[Value.str (Str.ofString "_law_given") 380, Value.str (Str.ofString "_law_given") 381, Value.str (Str.ofString "/claim/cut.py") 382, Value.int 118 0, Value.int 2 0, Value.int 0 0, Value.int 0 0, Value.int 3 0, Value.ref 152, Value.bool true, Value.int 181 0, Value.ref 153, Value.none, Value.ref 154, Value.ref 155, Value.ref 156, Value.int 387 0, Value.int 118 0, Value.str (Str.ofString "/claim/cut.py") 388] }
noncomputable def o_169 : Params → Obj := fun P => { cls := Value.type "code", data := Data.fields #[Value.str (Str.ofString "unused_text") 337, Value.str (Str.ofString "unused_text") 338, Value.str (Str.ofString "/claim/cut.py") 339, Value.int 73 0, Value.int 3 0, Value.int 0 0, Value.int 0 0, Value.int 3 0, Value.ref 122, Value.bool true, Value.int 181 0, Value.ref 123, Value.none, Value.none, Value.none, Value.ref 124, Value.int 340 0, Value.int 73 0, Value.str (Str.ofString "/claim/cut.py") 341] }
noncomputable def o_233 : Params → Obj := fun P => { cls := Value.type "function", data := Data.func { name := Str.ofString "law", qualname := Str.ofString "law", params := parsOf (nth top 18), body := FuncBody.stmts (bodyOf (nth top 18)), scope := scopeOf (nth top 18), globals := 3, closure := [], defaults := Value.none, kwdefaults := Value.none, pyModule := Value.str (Str.ofString "law_ov0042_01") 349, code := Value.ref 188 } }
noncomputable def o_172 : Params → Obj := fun P => { cls := Value.type "tuple", data := Data.seq #[] }
noncomputable def o_204 : Params → Obj := fun P => { cls := Value.none, data := Data.fields #[] }
noncomputable def o_188 : Params → Obj := fun P => { cls := Value.none, data := Data.func { name := Str.ofString "_law_answer", qualname := Str.ofString "_law_answer", params := parsOf (nth top 11), body := FuncBody.stmts (bodyOf (nth top 11)), scope := scopeOf (nth top 11), globals := 0, closure := [], defaults := Value.none, kwdefaults := Value.none } }
noncomputable def o_156 : Params → Obj := fun P => { cls := Value.none, data := Data.func { name := Str.ofString "doubled_text", qualname := Str.ofString "doubled_text", params := parsOf (nth top 5), body := FuncBody.stmts (bodyOf (nth top 5)), scope := scopeOf (nth top 5), globals := 0, closure := [], defaults := Value.none, kwdefaults := Value.none } }
noncomputable def o_220 : Params → Obj := fun P => { cls := Value.type "tuple", data := Data.seq #[] }
noncomputable def o_180 : Params → Obj := fun P => { cls := Value.type "tuple", data := Data.seq #[] }
noncomputable def o_212 : Params → Obj := fun P => { cls := Value.none, data := Data.func { name := Str.ofString "_law_with_letter", qualname := Str.ofString "_law_with_letter", params := parsOf (nth top 15), body := FuncBody.stmts (bodyOf (nth top 15)), scope := scopeOf (nth top 15), globals := 0, closure := [], defaults := Value.none, kwdefaults := Value.none } }
noncomputable def o_196 : Params → Obj := fun P => { cls := Value.type "tuple", data := Data.seq #[] }
noncomputable def o_164 : Params → Obj := fun P => { cls := Value.type "code", data := Data.fields #[Value.str (Str.ofString "argument_text") 326, Value.str (Str.ofString "argument_text") 327, Value.str (Str.ofString "/claim/cut.py") 328, Value.int 64 0, Value.int 3 0, Value.int 0 0, Value.int 0 0, Value.int 3 0, Value.ref 115, Value.bool true, Value.int 181 0, Value.ref 116, Value.none, Value.ref 117, Value.ref 118, Value.ref 119, Value.int 334 0, Value.int 64 0, Value.str (Str.ofString "/claim/cut.py") 335] }
noncomputable def o_228 : Params → Obj := fun P => { cls := Value.none, data := Data.fields #[] }
noncomputable def o_151 : Params → Obj := fun P => { cls := Value.none, data := Data.fields #[Value.int 2 0, Value.int 0 0, Value.ref 20, Value.int 4 0, Value.int 0 0, Value.ref 33, Value.int 9 0, Value.int 0 0, Value.ref 52, Value.int 62 0, Value.int 0 0, Value.ref 113, Value.int 64 0, Value.int 0 0, Value.ref 120, Value.int 73 0, Value.int 0 0, Value.ref 125, Value.int 79 0, Value.int 0 0, Value.ref 131, Value.int 89 0, Value.int 0 0, Value.ref 138, Value.int 102 0, Value.int 0 0, Value.ref 145, Value.int 108 0, Value.int 0 0, Value.ref 150, Value.int 118 0, Value.int 0 0, Value.ref 157, Value.int 123 0, Value.int 0 0, Value.ref 162, Value.int 140 0, Value.int 0 0, Value.ref 169, Value.int 144 0, Value.int 0 0, Value.ref 174, Value.int 158 0, Value.int 0 0, Value.ref 181, Value.int 161 0, Value.int 0 0, Value.ref 188] }
noncomputable def o_176 : Params → Obj := fun P => { cls := Value.type "function", data := Data.func { name := Str.ofString "match_names", qualname := Str.ofString "match_names", params := parsOf (nth top 8), body := FuncBody.stmts (bodyOf (nth top 8)), scope := scopeOf (nth top 8), globals := 3, closure := [], defaults := Value.ref 127, kwdefaults := Value.none, pyModule := Value.str (Str.ofString "vectorcove.callargs") 234, code := Value.ref 131 } }
noncomputable def o_208 : Params → Obj := fun P => { cls := Value.type "tuple", data := Data.seq #[] }
noncomputable def o_192 : Params → Obj := fun P => { cls := Value.none, data := Data.fields #[] }
noncomputable def o_160 : Params → Obj := fun P => { cls := Value.none, data := Data.fields #[] }
noncomputable def o_224 : Params → Obj := fun P => { cls := Value.none, data := Data.func { name := Str.ofString "_law_all", qualname := Str.ofString "_law_all", params := parsOf (nth top 17), body := FuncBody.stmts (bodyOf (nth top 17)), scope := scopeOf (nth top 17), globals := 0, closure := [], defaults := Value.none, kwdefaults := Value.none } }
noncomputable def o_184 : Params → Obj := fun P => { cls := Value.type "tuple", data := Data.seq #[] }
noncomputable def o_152 : Params → Obj := fun P => { cls := Value.type "tuple", data := Data.seq #[] }
noncomputable def o_216 : Params → Obj := fun P => { cls := Value.none, data := Data.fields #[] }
noncomputable def o_200 : Params → Obj := fun P => { cls := Value.none, data := Data.func { name := Str.ofString "_law_given", qualname := Str.ofString "_law_given", params := parsOf (nth top 13), body := FuncBody.stmts (bodyOf (nth top 13)), scope := scopeOf (nth top 13), globals := 0, closure := [], defaults := Value.none, kwdefaults := Value.none } }
noncomputable def o_168 : Params → Obj := fun P => { cls := Value.none, data := Data.func { name := Str.ofString "unused_text", qualname := Str.ofString "unused_text", params := parsOf (nth top 7), body := FuncBody.stmts (bodyOf (nth top 7)), scope := scopeOf (nth top 7), globals := 0, closure := [], defaults := Value.none, kwdefaults := Value.none } }
noncomputable def o_232 : Params → Obj := fun P => { cls := Value.type "code", data := Data.fields #[Value.str (Str.ofString "law") 419, Value.str (Str.ofString "law") 420, Value.str (Str.ofString "/claim/cut.py") 421, Value.int 161 0, Value.int 1 0, Value.int 0 0, Value.int 0 0, Value.int 3 0, Value.ref 183, Value.bool true, Value.int 181 0, Value.ref 184, Value.none, Value.ref 185, Value.ref 186, Value.ref 187, Value.int 431 0, Value.int 161 0, Value.str (Str.ofString "/claim/cut.py") 432] }
noncomputable def o_174 : Params → Obj := fun P => { cls := Value.none, data := Data.func { name := Str.ofString "match_names", qualname := Str.ofString "match_names", params := parsOf (nth top 8), body := FuncBody.stmts (bodyOf (nth top 8)), scope := scopeOf (nth top 8), globals := 0, closure := [], defaults := Value.none, kwdefaults := Value.none } }
noncomputable def o_206 : Params → Obj := fun P => { cls := Value.type "code", data := Data.fields #[Value.str (Str.ofString "_law_same_in_order") 390, Value.str (Str.ofString "_law_same_in_order") 391, Value.str (Str.ofString "/claim/cut.py") 392, Value.int 123 0, Value.int 3 0, Value.int 0 0, Value.int 0 0, Value.int 3 0, Value.ref 159, Value.bool true, Value.int 181 0, Value.ref 160, Value.none, Value.none, Value.none, Value.ref 161, Value.int 393 0, Value.int 123 0, Value.str (Str.ofString "/claim/cut.py") 394] }
noncomputable def o_190 : Params → Obj := fun P => { cls := Value.type "function", data := Data.func { name := Str.ofString "_law_answer", qualname := Str.ofString "_law_answer", params := parsOf (nth top 11), body := FuncBody.stmts (bodyOf (nth top 11)), scope := scopeOf (nth top 11), globals := 3, closure := [], defaults := Value.none, kwdefaults := Value.none, pyModule := Value.str (Str.ofString "law_ov0042_01") 349, code := Value.ref 145 } }
noncomputable def o_158 : Params → Obj := fun P => { cls := Value.type "function", data := Data.func { name := Str.ofString "doubled_text", qualname := Str.ofString "doubled_text", params := parsOf (nth top 5), body := FuncBody.stmts (bodyOf (nth top 5)), scope := scopeOf (nth top 5), globals := 3, closure := [], defaults := Value.none, kwdefaults := Value.none, pyModule := Value.str (Str.ofString "vectorcove.callargs") 234, code := Value.ref 113 } }
noncomputable def o_222 : Params → Obj := fun P => { cls := Value.type "tuple", data := Data.seq #[Value.str (Str.ofString "jar") 412, Value.str (Str.ofString "formals") 413, Value.str (Str.ofString "args") 414, Value.str (Str.ofString "mixed") 415] }
noncomputable def o_182 : Params → Obj := fun P => { cls := Value.type "code", data := Data.fields #[Value.str (Str.ofString "_law_pick") 351, Value.str (Str.ofString "_law_pick") 352, Value.str (Str.ofString "/claim/cut.py") 353, Value.int 89 0, Value.int 2 0, Value.int 0 0, Value.int 0 0, Value.int 3 0, Value.ref 133, Value.bool true, Value.int 181 0, Value.ref 134, Value.none, Value.ref 135, Value.ref 136, Value.ref 137, Value.int 360 0, Value.int 89 0, Value.str (Str.ofString "/claim/cut.py") 361] }
noncomputable def o_214 : Params → Obj := fun P => { cls := Value.type "function", data := Data.func { name := Str.ofString "_law_with_letter", qualname := Str.ofString "_law_with_letter", params := parsOf (nth top 15), body := FuncBody.stmts (bodyOf (nth top 15)), scope := scopeOf (nth top 15), globals := 3, closure := [], defaults := Value.none, kwdefaults := Value.none, pyModule := Value.str (Str.ofString "law_ov0042_01") 349, code := Value.ref 169 } }
noncomputable def o_198 : Params → Obj := fun P => { cls := Value.type "tuple", data := Data.seq #[Value.str (Str.ofString "args") 383, Value.str (Str.ofString "places") 384, Value.str (Str.ofString "given_to") 385, Value.str (Str.ofString "name") 386] }
noncomputable def o_166 : Params → Obj := fun P => { cls := Value.type "tuple", data := Data.seq #[] }
noncomputable def o_230 : Params → Obj := fun P => { cls := Value.type "tuple", data := Data.seq #[] }
noncomputable def o_178 : Params → Obj := fun P => { cls := Value.none, data := Data.fields #[] }
noncomputable def o_210 : Params → Obj := fun P => { cls := Value.type "tuple", data := Data.seq #[Value.str (Str.ofString "name") 399] }
noncomputable def o_194 : Params → Obj := fun P => { cls := Value.type "code", data := Data.fields #[Value.str (Str.ofString "_law_mixed") 374, Value.str (Str.ofString "_law_mixed") 375, Value.str (Str.ofString "/claim/cut.py") 376, Value.int 108 0, Value.int 2 0, Value.int 0 0, Value.int 0 0, Value.int 3 0, Value.ref 147, Value.bool true, Value.int 181 0, Value.ref 148, Value.none, Value.none, Value.none, Value.ref 149, Value.int 377 0, Value.int 108 0, Value.str (Str.ofString "/claim/cut.py") 378] }
noncomputable def o_162 : Params → Obj := fun P => { cls := Value.type "tuple", data := Data.seq #[] }
noncomputable def o_226 : Params → Obj := fun P => { cls := Value.type "function", data := Data.func { name := Str.ofString "_law_all", qualname := Str.ofString "_law_all", params := parsOf (nth top 17), body := FuncBody.stmts (bodyOf (nth top 17)), scope := scopeOf (nth top 17), globals := 3, closure := [], defaults := Value.none, kwdefaults := Value.none, pyModule := Value.str (Str.ofString "law_ov0042_01") 349, code := Value.ref 181 } }
noncomputable def o_186 : Params → Obj := fun P => { cls := Value.type "tuple", data := Data.seq #[Value.str (Str.ofString "formals") 366, Value.str (Str.ofString "args") 367, Value.str (Str.ofString "places") 368, Value.str (Str.ofString "rest") 369, Value.str (Str.ofString "fault") 370] }
noncomputable def o_154 : Params → Obj := fun P => { cls := Value.type "tuple", data := Data.seq #[Value.str (Str.ofString "name") 322] }
noncomputable def o_218 : Params → Obj := fun P => { cls := Value.type "code", data := Data.fields #[Value.str (Str.ofString "_law_same_with_letter") 403, Value.str (Str.ofString "_law_same_with_letter") 404, Value.str (Str.ofString "/claim/cut.py") 405, Value.int 144 0, Value.int 2 0, Value.int 0 0, Value.int 0 0, Value.int 3 0, Value.ref 171, Value.bool true, Value.int 181 0, Value.ref 172, Value.none, Value.none, Value.none, Value.ref 173, Value.int 406 0, Value.int 144 0, Value.str (Str.ofString "/claim/cut.py") 407] }
noncomputable def o_202 : Params → Obj := fun P => { cls := Value.type "function", data := Data.func { name := Str.ofString "_law_given", qualname := Str.ofString "_law_given", params := parsOf (nth top 13), body := FuncBody.stmts (bodyOf (nth top 13)), scope := scopeOf (nth top 13), globals := 3, closure := [], defaults := Value.none, kwdefaults := Value.none, pyModule := Value.str (Str.ofString "law_ov0042_01") 349, code := Value.ref 157 } }
noncomputable def o_170 : Params → Obj := fun P => { cls := Value.type "function", data := Data.func { name := Str.ofString "unused_text", qualname := Str.ofString "unused_text", params := parsOf (nth top 7), body := FuncBody.stmts (bodyOf (nth top 7)), scope := scopeOf (nth top 7), globals := 3, closure := [], defaults := Value.none, kwdefaults := Value.none, pyModule := Value.str (Str.ofString "vectorcove.callargs") 234, code := Value.ref 125 } }
noncomputable def tree_47 : Params → BT := fun P => BT.node (boot_o_0 P) (BT.node (boot_o_1 P) (BT.node (boot_o_3 P) (BT.node (boot_o_7 P) BT.nil BT.nil) (BT.node (o_43 P) BT.nil BT.nil)) (BT.node (boot_o_5 P) (BT.node (boot_o_9 P) BT.nil BT.nil) (BT.node (o_45 P) BT.nil BT.nil))) (BT.node (boot_o_2 P) (BT.node (boot_o_4 P) (BT.node (boot_o_8 P) BT.nil BT.nil) (BT.node (o_44 P) BT.nil BT.nil)) (BT.node (boot_o_6 P) (BT.node (boot_o_10 P) BT.nil BT.nil) (BT.node (o_46 P) BT.nil BT.nil)))
noncomputable def tree_64 : Params → BT := fun P => BT.node (boot_o_0 P) (BT.node (boot_o_1 P) (BT.node (o_50 P) (BT.node (boot_o_7 P) (BT.node (o_52 P) BT.nil BT.nil) (BT.node (o_60 P) BT.nil BT.nil)) (BT.node (o_43 P) (BT.node (o_56 P) BT.nil BT.nil) (BT.node (o_64 P) BT.nil BT.nil))) (BT.node (boot_o_5 P) (BT.node (boot_o_9 P) (BT.node (o_54 P) BT.nil BT.nil) (BT.node (o_62 P) BT.nil BT.nil)) (BT.node (o_45 P) (BT.node (o_58 P) BT.nil BT.nil) BT.nil))) (BT.node (o_49 P) (BT.node (boot_o_4 P) (BT.node (boot_o_8 P) (BT.node (o_53 P) BT.nil BT.nil) (BT.node (o_61 P) BT.nil BT.nil)) (BT.node (o_51 P) (BT.node (o_57 P) BT.nil BT.nil) BT.nil)) (BT.node (boot_o_6 P) (BT.node (boot_o_10 P) (BT.node (o_55 P) BT.nil BT.nil) (BT.node (o_63 P) BT.nil BT.nil)) (BT.node (o_46 P) (BT.node (o_59 P) BT.nil BT.nil) BT.nil)))
noncomputable def tree_86 : Params → BT := fun P => BT.node (boot_o_0 P) (BT.node (boot_o_1 P) (BT.node (o_65 P) (BT.node (boot_o_7 P) (BT.node (o_52 P) (BT.node (o_71 P) BT.nil BT.nil) BT.nil) (BT.node (o_60 P) (BT.node (o_79 P) BT.nil BT.nil) BT.nil)) (BT.node (o_43 P) (BT.node (o_56 P) (BT.node (o_75 P) BT.nil BT.nil) BT.nil) (BT.node (o_64 P) (BT.node (o_83 P) BT.nil BT.nil) BT.nil))) (BT.node (boot_o_5 P) (BT.node (boot_o_9 P) (BT.node (o_54 P) (BT.node (o_73 P) BT.nil BT.nil) BT.nil) (BT.node (o_62 P) (BT.node (o_81 P) BT.nil BT.nil) BT.nil)) (BT.node (o_45 P) (BT.node (o_58 P) (BT.node (o_77 P) BT.nil BT.nil) BT.nil) (BT.node (o_69 P) (BT.node (o_85 P) BT.nil BT.nil) BT.nil)))) (BT.node (o_49 P) (BT.node (boot_o_4 P) (BT.node (boot_o_8 P) (BT.node (o_53 P) (BT.node (o_72 P) BT.nil BT.nil) BT.nil) (BT.node (o_67 P) (BT.node (o_80 P) BT.nil BT.nil) BT.nil)) (BT.node (o_66 P) (BT.node (o_57 P) (BT.node (o_76 P) BT.nil BT.nil) BT.nil) (BT.node (o_68 P) (BT.node (o_84 P) BT.nil BT.nil) BT.nil))) (BT.node (boot_o_6 P) (BT.node (boot_o_10 P) (BT.node (o_55 P) (BT.node (o_74 P) BT.nil BT.nil) BT.nil) (BT.node (o_63 P) (BT.node (o_82 P) BT.nil BT.nil) BT.nil)) (BT.node (o_46 P) (BT.node (o_59 P) (BT.node (o_78 P) BT.nil BT.nil) BT.nil) (BT.node (o_70 P) (BT.node (o_86 P) BT.nil BT.nil) BT.nil))))
noncomputable def tree_149 : Params → BT := fun P => BT.node (boot_o_0 P) (BT.node (boot_o_1 P) (BT.node (o_87 P) (BT.node (boot_o_7 P) (BT.node (o_52 P) (BT.node (o_71 P) (BT.node (o_105 P) BT.nil BT.nil) (BT.node (o_137 P) BT.nil BT.nil)) (BT.node (o_89 P) (BT.node (o_121 P) BT.nil BT.nil) BT.nil)) (BT.node (o_60 P) (BT.node (o_79 P) (BT.node (o_113 P) BT.nil BT.nil) (BT.node (o_145 P) BT.nil BT.nil)) (BT.node (o_97 P) (BT.node (o_129 P) BT.nil BT.nil) BT.nil))) (BT.node (o_43 P) (BT.node (o_56 P) (BT.node (o_75 P) (BT.node (o_109 P) BT.nil BT.nil) (BT.node (o_141 P) BT.nil BT.nil)) (BT.node (o_93 P) (BT.node (o_125 P) BT.nil BT.nil) BT.nil)) (BT.node (o_64 P) (BT.node (o_83 P) (BT.node (o_117 P) BT.nil BT.nil) (BT.node (o_149 P) BT.nil BT.nil)) (BT.node (o_101 P) (BT.node (o_133 P) BT.nil BT.nil) BT.nil)))) (BT.node (boot_o_5 P) (BT.node (boot_o_9 P) (BT.node (o_54 P) (BT.node (o_73 P) (BT.node (o_107 P) BT.nil BT.nil) (BT.node (o_139 P) BT.nil BT.nil)) (BT.node (o_91 P) (BT.node (o_123 P) BT.nil BT.nil) BT.nil)) (BT.node (o_62 P) (BT.node (o_81 P) (BT.node (o_115 P) BT.nil BT.nil) (BT.node (o_147 P) BT.nil BT.nil)) (BT.node (o_99 P) (BT.node (o_131 P) BT.nil BT.nil) BT.nil))) (BT.node (o_45 P) (BT.node (o_58 P) (BT.node (o_77 P) (BT.node (o_111 P) BT.nil BT.nil) (BT.node (o_143 P) BT.nil BT.nil)) (BT.node (o_95 P) (BT.node (o_127 P) BT.nil BT.nil) BT.nil)) (BT.node (o_69 P) (BT.node (o_85 P) (BT.node (o_119 P) BT.nil BT.nil) BT.nil) (BT.node (o_103 P) (BT.node (o_135 P) BT.nil BT.nil) BT.nil))))) (BT.node (o_49 P) (BT.node (boot_o_4 P) (BT.node (boot_o_8 P) (BT.node (o_53 P) (BT.node (o_72 P) (BT.node (o_106 P) BT.nil BT.nil) (BT.node (o_138 P) BT.nil BT.nil)) (BT.node (o_90 P) (BT.node (o_122 P) BT.nil BT.nil) BT.nil)) (BT.node (o_67 P) (BT.node (o_80 P) (BT.node (o_114 P) BT.nil BT.nil) (BT.node (o_146 P) BT.nil BT.nil)) (BT.node (o_98 P) (BT.node (o_130 P) BT.nil BT.nil) BT.nil))) (BT.node (o_88 P) (BT.node (o_57 P) (BT.node (o_76 P) (BT.node (o_110 P) BT.nil BT.nil) (BT.node (o_142 P) BT.nil BT.nil)) (BT.node (o_94 P) (BT.node (o_126 P) BT.nil BT.nil) BT.nil)) (BT.node (o_68 P) (BT.node (o_84 P) (BT.node (o_118 P) BT.nil BT.nil) BT.nil) (BT.node (o_102 P) (BT.node (o_134 P) BT.nil BT.nil) BT.nil)))) (BT.node (boot_o_6 P) (BT.node (boot_o_10 P) (BT.node (o_55 P) (BT.node (o_74 P) (BT.node (o_108 P) BT.nil BT.nil) (BT.node (o_140 P) BT.nil BT.nil)) (BT.node (o_92 P) (BT.node (o_124 P) BT.nil BT.nil) BT.nil)) (BT.node (o_63 P) (BT.node (o_82 P) (BT.node (o_116 P) BT.nil BT.nil) (BT.node (o_148 P) BT.nil BT.nil)) (BT.node (o_100 P) (BT.node (o_132 P) BT.nil BT.nil) BT.nil))) (BT.node (o_46 P) (BT.node (o_59 P) (BT.node (o_78 P) (BT.node (o_112 P) BT.nil BT.nil) (BT.node (o_144 P) BT.nil BT.nil)) (BT.node (o_96 P) (BT.node (o_128 P) BT.nil BT.nil) BT.nil)) (BT.node (o_70 P) (BT.node (o_86 P) (BT.node (o_120 P) BT.nil BT.nil) BT.nil) (BT.node (o_104 P) (BT.node (o_136 P) BT.nil BT.nil) BT.nil)))))
noncomputable def tree_233 : Params → BT := fun P => BT.node (boot_o_0 P) (BT.node (boot_o_1 P) (BT.node (o_150 P) (BT.node (boot_o_7 P) (BT.node (o_52 P) (BT.node (o_71 P) (BT.node (o_105 P) (BT.node (o_171 P) BT.nil BT.nil) BT.nil) (BT.node (o_137 P) (BT.node (o_203 P) BT.nil BT.nil) BT.nil)) (BT.node (o_89 P) (BT.node (o_121 P) (BT.node (o_187 P) BT.nil BT.nil) BT.nil) (BT.node (o_155 P) (BT.node (o_219 P) BT.nil BT.nil) BT.nil))) (BT.node (o_60 P) (BT.node (o_79 P) (BT.node (o_113 P) (BT.node (o_179 P) BT.nil BT.nil) BT.nil) (BT.node (o_145 P) (BT.node (o_211 P) BT.nil BT.nil) BT.nil)) (BT.node (o_97 P) (BT.node (o_129 P) (BT.node (o_195 P) BT.nil BT.nil) BT.nil) (BT.node (o_163 P) (BT.node (o_227 P) BT.nil BT.nil) BT.nil)))) (BT.node (o_43 P) (BT.node (o_56 P) (BT.node (o_75 P) (BT.node (o_109 P) (BT.node (o_175 P) BT.nil BT.nil) BT.nil) (BT.node (o_141 P) (BT.node (o_207 P) BT.nil BT.nil) BT.nil)) (BT.node (o_93 P) (BT.node (o_125 P) (BT.node (o_191 P) BT.nil BT.nil) BT.nil) (BT.node (o_159 P) (BT.node (o_223 P) BT.nil BT.nil) BT.nil))) (BT.node (o_64 P) (BT.node (o_83 P) (BT.node (o_117 P) (BT.node (o_183 P) BT.nil BT.nil) BT.nil) (BT.node (o_149 P) (BT.node (o_215 P) BT.nil BT.nil) BT.nil)) (BT.node (o_101 P) (BT.node (o_133 P) (BT.node (o_199 P) BT.nil BT.nil) BT.nil) (BT.node (o_167 P) (BT.node (o_231 P) BT.nil BT.nil) BT.nil))))) (BT.node (boot_o_5 P) (BT.node (boot_o_9 P) (BT.node (o_54 P) (BT.node (o_73 P) (BT.node (o_107 P) (BT.node (o_173 P) BT.nil BT.nil) BT.nil) (BT.node (o_139 P) (BT.node (o_205 P) BT.nil BT.nil) BT.nil)) (BT.node (o_91 P) (BT.node (o_123 P) (BT.node (o_189 P) BT.nil BT.nil) BT.nil) (BT.node (o_157 P) (BT.node (o_221 P) BT.nil BT.nil) BT.nil))) (BT.node (o_62 P) (BT.node (o_81 P) (BT.node (o_115 P) (BT.node (o_181 P) BT.nil BT.nil) BT.nil) (BT.node (o_147 P) (BT.node (o_213 P) BT.nil BT.nil) BT.nil)) (BT.node (o_99 P) (BT.node (o_131 P) (BT.node (o_197 P) BT.nil BT.nil) BT.nil) (BT.node (o_165 P) (BT.node (o_229 P) BT.nil BT.nil) BT.nil)))) (BT.node (o_45 P) (BT.node (o_58 P) (BT.node (o_77 P) (BT.node (o_111 P) (BT.node (o_177 P) BT.nil BT.nil) BT.nil) (BT.node (o_143 P) (BT.node (o_209 P) BT.nil BT.nil) BT.nil)) (BT.node (o_95 P) (BT.node (o_127 P) (BT.node (o_193 P) BT.nil BT.nil) BT.nil) (BT.node (o_161 P) (BT.node (o_225 P) BT.nil BT.nil) BT.nil))) (BT.node (o_69 P) (BT.node (o_85 P) (BT.node (o_119 P) (BT.node (o_185 P) BT.nil BT.nil) BT.nil) (BT.node (o_153 P) (BT.node (o_217 P) BT.nil BT.nil) BT.nil)) (BT.node (o_103 P) (BT.node (o_135 P) (BT.node (o_201 P) BT.nil BT.nil) BT.nil) (BT.node (o_169 P) (BT.node (o_233 P) BT.nil BT.nil) BT.nil)))))) (BT.node (o_49 P) (BT.node (boot_o_4 P) (BT.node (boot_o_8 P) (BT.node (o_53 P) (BT.node (o_72 P) (BT.node (o_106 P) (BT.node (o_172 P) BT.nil BT.nil) BT.nil) (BT.node (o_138 P) (BT.node (o_204 P) BT.nil BT.nil) BT.nil)) (BT.node (o_90 P) (BT.node (o_122 P) (BT.node (o_188 P) BT.nil BT.nil) BT.nil) (BT.node (o_156 P) (BT.node (o_220 P) BT.nil BT.nil) BT.nil))) (BT.node (o_67 P) (BT.node (o_80 P) (BT.node (o_114 P) (BT.node (o_180 P) BT.nil BT.nil) BT.nil) (BT.node (o_146 P) (BT.node (o_212 P) BT.nil BT.nil) BT.nil)) (BT.node (o_98 P) (BT.node (o_130 P) (BT.node (o_196 P) BT.nil BT.nil) BT.nil) (BT.node (o_164 P) (BT.node (o_228 P) BT.nil BT.nil) BT.nil)))) (BT.node (o_151 P) (BT.node (o_57 P) (BT.node (o_76 P) (BT.node (o_110 P) (BT.node (o_176 P) BT.nil BT.nil) BT.nil) (BT.node (o_142 P) (BT.node (o_208 P) BT.nil BT.nil) BT.nil)) (BT.node (o_94 P) (BT.node (o_126 P) (BT.node (o_192 P) BT.nil BT.nil) BT.nil) (BT.node (o_160 P) (BT.node (o_224 P) BT.nil BT.nil) BT.nil))) (BT.node (o_68 P) (BT.node (o_84 P) (BT.node (o_118 P) (BT.node (o_184 P) BT.nil BT.nil) BT.nil) (BT.node (o_152 P) (BT.node (o_216 P) BT.nil BT.nil) BT.nil)) (BT.node (o_102 P) (BT.node (o_134 P) (BT.node (o_200 P) BT.nil BT.nil) BT.nil) (BT.node (o_168 P) (BT.node (o_232 P) BT.nil BT.nil) BT.nil))))) (BT.node (boot_o_6 P) (BT.node (boot_o_10 P) (BT.node (o_55 P) (BT.node (o_74 P) (BT.node (o_108 P) (BT.node (o_174 P) BT.nil BT.nil) BT.nil) (BT.node (o_140 P) (BT.node (o_206 P) BT.nil BT.nil) BT.nil)) (BT.node (o_92 P) (BT.node (o_124 P) (BT.node (o_190 P) BT.nil BT.nil) BT.nil) (BT.node (o_158 P) (BT.node (o_222 P) BT.nil BT.nil) BT.nil))) (BT.node (o_63 P) (BT.node (o_82 P) (BT.node (o_116 P) (BT.node (o_182 P) BT.nil BT.nil) BT.nil) (BT.node (o_148 P) (BT.node (o_214 P) BT.nil BT.nil) BT.nil)) (BT.node (o_100 P) (BT.node (o_132 P) (BT.node (o_198 P) BT.nil BT.nil) BT.nil) (BT.node (o_166 P) (BT.node (o_230 P) BT.nil BT.nil) BT.nil)))) (BT.node (o_46 P) (BT.node (o_59 P) (BT.node (o_78 P) (BT.node (o_112 P) (BT.node (o_178 P) BT.nil BT.nil) BT.nil) (BT.node (o_144 P) (BT.node (o_210 P) BT.nil BT.nil) BT.nil)) (BT.node (o_96 P) (BT.node (o_128 P) (BT.node (o_194 P) BT.nil BT.nil) BT.nil) (BT.node (o_162 P) (BT.node (o_226 P) BT.nil BT.nil) BT.nil))) (BT.node (o_70 P) (BT.node (o_86 P) (BT.node (o_120 P) (BT.node (o_186 P) BT.nil BT.nil) BT.nil) (BT.node (o_154 P) (BT.node (o_218 P) BT.nil BT.nil) BT.nil)) (BT.node (o_104 P) (BT.node (o_136 P) (BT.node (o_202 P) BT.nil BT.nil) BT.nil) (BT.node (o_170 P) BT.nil BT.nil))))))
noncomputable def heap_46 : Params → Heap := fun P => { objs := { toList := [boot_o_0 P, boot_o_1 P, boot_o_2 P, boot_o_3 P, boot_o_4 P, boot_o_5 P, boot_o_6 P, boot_o_7 P, boot_o_8 P, boot_o_9 P, boot_o_10 P, o_43 P, o_44 P, o_45 P, o_46 P] } }
noncomputable def heap_234 : Params → Heap := fun P => { objs := { toList := [boot_o_0 P, boot_o_1 P, o_49 P, o_150 P, boot_o_4 P, boot_o_5 P, boot_o_6 P, boot_o_7 P, boot_o_8 P, boot_o_9 P, boot_o_10 P, o_43 P, o_151 P, o_45 P, o_46 P, o_52 P, o_53 P, o_54 P, o_55 P, o_56 P, o_57 P, o_58 P, o_59 P, o_60 P, o_67 P, o_62 P, o_63 P, o_64 P, o_68 P, o_69 P, o_70 P, o_71 P, o_72 P, o_73 P, o_74 P, o_75 P, o_76 P, o_77 P, o_78 P, o_79 P, o_80 P, o_81 P, o_82 P, o_83 P, o_84 P, o_85 P, o_86 P, o_89 P, o_90 P, o_91 P, o_92 P, o_93 P, o_94 P, o_95 P, o_96 P, o_97 P, o_98 P, o_99 P, o_100 P, o_101 P, o_102 P, o_103 P, o_104 P, o_105 P, o_106 P, o_107 P, o_108 P, o_109 P, o_110 P, o_111 P, o_112 P, o_113 P, o_114 P, o_115 P, o_116 P, o_117 P, o_118 P, o_119 P, o_120 P, o_121 P, o_122 P, o_123 P, o_124 P, o_125 P, o_126 P, o_127 P, o_128 P, o_129 P, o_130 P, o_131 P, o_132 P, o_133 P, o_134 P, o_135 P, o_136 P, o_137 P, o_138 P, o_139 P, o_140 P, o_141 P, o_142 P, o_143 P, o_144 P, o_145 P, o_146 P, o_147 P, o_148 P, o_149 P, o_152 P, o_153 P, o_154 P, o_155 P, o_156 P, o_157 P, o_158 P, o_159 P, o_160 P, o_161 P, o_162 P, o_163 P, o_164 P, o_165 P, o_166 P, o_167 P, o_168 P, o_169 P, o_170 P, o_171 P, o_172 P, o_173 P, o_174 P, o_175 P, o_176 P, o_177 P, o_178 P, o_179 P, o_180 P, o_181 P, o_182 P, o_183 P, o_184 P, o_185 P, o_186 P, o_187 P, o_188 P, o_189 P, o_190 P, o_191 P, o_192 P, o_193 P, o_194 P, o_195 P, o_196 P, o_197 P, o_198 P, o_199 P, o_200 P, o_201 P, o_202 P, o_203 P, o_204 P, o_205 P, o_206 P, o_207 P, o_208 P, o_209 P, o_210 P, o_211 P, o_212 P, o_213 P, o_214 P, o_215 P, o_216 P, o_217 P, o_218 P, o_219 P, o_220 P, o_221 P, o_222 P, o_223 P, o_224 P, o_225 P, o_226 P, o_227 P, o_228 P, o_229 P, o_230 P, o_231 P, o_232 P, o_233 P] } }
noncomputable abbrev pE : Program := PySem.Challenge.rw_ov0042_01.row.toRowW.prog
noncomputable def env_41 : Env := { scope := pE.main.scope, locals := mainNs, globals := mainNs, cells := [], code := Value.ref 13, frame := some 14 }
noncomputable def cE : Code := Code.body (behindTheImports pE) env_41
noncomputable abbrev q0 : Pos := { line := 0, col := 0, endLine := 0, endCol := 0 }
noncomputable abbrev q1 : Pos := { line := 2, col := 0, endLine := 3, endCol := 8 }
noncomputable abbrev q2 : Pos := { line := 8, col := 0, endLine := 8, endCol := 8 }
noncomputable abbrev q3 : Pos := { line := 9, col := 0, endLine := 61, endCol := 82 }
noncomputable abbrev q4 : Pos := { line := 161, col := 0, endLine := 177, endCol := 120 }
noncomputable def sts_1 : List Stmt := [nth top 0, nth top 1]
noncomputable def sts_2 : List Stmt := [nth top 2, nth top 3]
noncomputable def sts_3 : List Stmt := [nth top 4]
noncomputable def sts_4 : List Stmt := [nth top 5, nth top 6, nth top 7, nth top 8, nth top 9, nth top 10, nth top 11, nth top 12, nth top 13, nth top 14, nth top 15, nth top 16, nth top 17, nth top 18]
theorem cut : behindTheImports pE = sts_1 ++ (sts_2 ++ (sts_3 ++ (sts_4 ++ []))) := by kernel_rfl
theorem pre (w : World) : (fun os : OsState => topGo treeTable pE w 11 (some (Value.ref 6)) 12 ⟨boot_heap w.params, #[], boot_drawn, boot_toks, os⟩ (topStub pE)) = fun os => some (⟨heap_46 w.params, #[], {}, 187, os⟩, ⟨denote treeTable cE, cE, q0, [topFrame q0]⟩) := by kernel_rfl
theorem block (w : World) : (fun os : OsState => segRun treeTable pE w 11 (some (Value.ref 6)) 1 1 ⟨heap_46 w.params, #[], {}, 187, os⟩ (blockOf (behindTheImports pE) env_41 cE q0 [topFrame q0])) = fun os => some (.next, SharedT.abs ⟨tree_47 w.params, 15, {}, #[], {}, 187, os⟩, cE, q0) := by kernel_rfl
theorem run_sts_1 (w : World) : (fun os : OsState => segRunT treeTable pE w 11 (some (Value.ref 6)) 1 206 ⟨tree_47 w.params, 15, {}, #[], {}, 187, os⟩ (piecesOf sts_1 env_41 cE q0 [topFrame q0])) = fun os => some (.next, ⟨tree_64 w.params, 28, {}, #[], {}, 209, os⟩, cE, q1) := by
  rw [Fast.te10110043849684766642, Fast.te14364793385576792824]
  kernel_rfl
theorem run_sts_2 (w : World) : (fun os : OsState => segRunT treeTable pE w 11 (some (Value.ref 6)) 1 255 ⟨tree_64 w.params, 28, {}, #[], {}, 209, os⟩ (piecesOf sts_2 env_41 cE q1 [topFrame q0])) = fun os => some (.next, ⟨tree_86 w.params, 47, {}, #[], {}, 236, os⟩, cE, q2) := by
  rw [Fast.te10110043849684766642, Fast.te14364793385576792824]
  kernel_rfl
theorem run_sts_3 (w : World) : (fun os : OsState => segRunT treeTable pE w 11 (some (Value.ref 6)) 1 419 ⟨tree_86 w.params, 47, {}, #[], {}, 236, os⟩ (piecesOf sts_3 env_41 cE q2 [topFrame q0])) = fun os => some (.next, ⟨tree_149 w.params, 108, {}, #[], {}, 319, os⟩, cE, q3) := by
  rw [Fast.te10110043849684766642, Fast.te14364793385576792824]
  kernel_rfl
theorem run_sts_4 (w : World) : (fun os : OsState => segRunT treeTable pE w 11 (some (Value.ref 6)) 1 400 ⟨tree_149 w.params, 108, {}, #[], {}, 319, os⟩ (piecesOf sts_4 env_41 cE q3 [topFrame q0])) = fun os => some (.next, ⟨tree_233 w.params, 190, {}, #[], {}, 434, os⟩, cE, q4) := by
  rw [Fast.te10110043849684766642, Fast.te14364793385576792824]
  kernel_rfl
theorem fin (w : World) : (fun os : OsState => topRun treeTable pE w 11 (some (Value.ref 6)) 2 (SharedT.abs ⟨tree_233 w.params, 190, {}, #[], {}, 434, os⟩) ⟨doneF .next, cE, q4, [topFrame q0]⟩) = fun os => some ⟨heap_234 w.params, #[], {}, 434, os⟩ := by kernel_rfl
theorem runs (w : World) (os : OsState) : topRun treeTable pE w 11 (some (Value.ref 6)) (12 + (1 + (206 + (255 + (419 + (400 + 2)))))) ⟨boot_heap w.params, #[], boot_drawn, boot_toks, os⟩ (topStub pE) = some ⟨heap_234 w.params, #[], {}, 434, os⟩ := by
  refine go_top (congrFun (pre w) os) ?_
  refine piece_block (congrFun (block w) os) ?_
  rw [cut]
  refine piece_app (segRun_of (congrFun (run_sts_1 w) os)) ?_
  refine piece_app (segRun_of (congrFun (run_sts_2 w) os)) ?_
  refine piece_app (segRun_of (congrFun (run_sts_3 w) os)) ?_
  refine piece_app (segRun_of (congrFun (run_sts_4 w) os)) ?_
  exact piece_nil (congrFun (fin w) os)
theorem opens : opening pE = plainProg pE.main.scope.names := by kernel_rfl
theorem fence (s : Shared) : fenceModules? pE s = some s := by kernel_rfl
theorem sized (w : World) : ((boot_heap w.params).isNs mainGlobals && (#[] : Array GenState).size == 0, (boot_heap w.params).objs.size, (boot_heap w.params).nsMap mainGlobals "__annotations__") = (true, 11, some (Value.ref 6)) := by kernel_rfl
noncomputable abbrev hook : Hook := (kHook heap_39 (nat_lit 2 :: nat_lit 3 :: nat_lit 15 :: nat_lit 22 :: nat_lit 23 :: nat_lit 24 :: nat_lit 25 :: nat_lit 28 :: nat_lit 35 :: nat_lit 37 :: nat_lit 38 :: nat_lit 40 :: nat_lit 41 :: nat_lit 42 :: nat_lit 43 :: nat_lit 44 :: nat_lit 54 :: nat_lit 56 :: nat_lit 57 :: nat_lit 59 :: nat_lit 60 :: nat_lit 61 :: nat_lit 63 :: nat_lit 64 :: nat_lit 66 :: nat_lit 67 :: nat_lit 68 :: nat_lit 70 :: nat_lit 71 :: nat_lit 73 :: nat_lit 74 :: nat_lit 75 :: nat_lit 77 :: nat_lit 78 :: nat_lit 80 :: nat_lit 81 :: nat_lit 82 :: nat_lit 84 :: nat_lit 85 :: nat_lit 87 :: nat_lit 88 :: nat_lit 89 :: nat_lit 91 :: nat_lit 92 :: nat_lit 94 :: nat_lit 95 :: nat_lit 96 :: nat_lit 99 :: nat_lit 100 :: nat_lit 101 :: nat_lit 102 :: nat_lit 103 :: nat_lit 104 :: nat_lit 105 :: nat_lit 108 :: nat_lit 110 :: nat_lit 111 :: nat_lit 113 :: nat_lit 114 :: nat_lit 115 :: nat_lit 117 :: nat_lit 118 :: nat_lit 120 :: nat_lit 121 :: nat_lit 122 :: nat_lit 125 :: nat_lit 126 :: nat_lit 127 :: nat_lit 128 :: nat_lit 131 :: nat_lit 132 :: nat_lit 133 :: nat_lit 135 :: nat_lit 136 :: nat_lit 138 :: nat_lit 139 :: nat_lit 140 :: nat_lit 142 :: nat_lit 143 :: nat_lit 145 :: nat_lit 146 :: nat_lit 147 :: nat_lit 150 :: nat_lit 151 :: nat_lit 152 :: nat_lit 154 :: nat_lit 155 :: nat_lit 157 :: nat_lit 158 :: nat_lit 159 :: nat_lit 162 :: nat_lit 163 :: nat_lit 164 :: nat_lit 166 :: nat_lit 167 :: nat_lit 169 :: nat_lit 170 :: nat_lit 171 :: nat_lit 174 :: nat_lit 175 :: nat_lit 176 :: nat_lit 178 :: nat_lit 179 :: nat_lit 181 :: nat_lit 182 :: nat_lit 183 :: nat_lit 185 :: nat_lit 186 :: nat_lit 188 :: nat_lit 189 :: []) (fun _ => by kernel_rfl))
theorem left : LeftO pE view_39 [Str.ofString "match_names"] (fun s => xlAt view_39 [] s && recOk (RowW.records PySem.Challenge.rw_ov0042_01.row.toRowW) s) hook.obs hook.val 2678 := by
  refine LeftO.of_pieces (boot_open opens (by decide) fence) sized runs (by decide) fun w => funext fun os => looks_pair ?_ (looks_pair ?_ ?_)
  · (as_aux_lemma => kernel_rfl)
  · delta openSeen openGood
    dsimp only
    refine looks_pair ?_ (looks_pair ?_ (looks_pair ?_ (looks_pair ?_ (looks_pair ?_ (looks_pair ?_ (looks_pair ?_ (looks_pair ?_ ?_)))))))
    all_goals (as_aux_lemma => kernel_rfl)
  · (as_aux_lemma => kernel_rfl)
theorem said : PySem.Challenge.rw_ov0042_01.wellSaid = true := by
  delta OpenLaw.wellSaid
  repeat' (with_reducible refine look_both ?_ ?_)
  all_goals (try delta OpenRow.wellSaid)
  all_goals (repeat' (with_reducible refine look_both ?_ ?_))
  all_goals (try delta OpenRow.partSaid)
  all_goals (repeat' (with_reducible refine look_both ?_ ?_))
  all_goals (try delta looksOpen)
  all_goals (repeat' (with_reducible refine look_both ?_ ?_))
  all_goals decide +kernel
end Mine.hd
namespace Mine
theorem hd : WalkO hd.view_39 [Str.ofString "match_names"] (XL hd.view_39 []) (kHook hd.heap_39 (nat_lit 2 :: nat_lit 3 :: nat_lit 15 :: nat_lit 22 :: nat_lit 23 :: nat_lit 24 :: nat_lit 25 :: nat_lit 28 :: nat_lit 35 :: nat_lit 37 :: nat_lit 38 :: nat_lit 40 :: nat_lit 41 :: nat_lit 42 :: nat_lit 43 :: nat_lit 44 :: nat_lit 54 :: nat_lit 56 :: nat_lit 57 :: nat_lit 59 :: nat_lit 60 :: nat_lit 61 :: nat_lit 63 :: nat_lit 64 :: nat_lit 66 :: nat_lit 67 :: nat_lit 68 :: nat_lit 70 :: nat_lit 71 :: nat_lit 73 :: nat_lit 74 :: nat_lit 75 :: nat_lit 77 :: nat_lit 78 :: nat_lit 80 :: nat_lit 81 :: nat_lit 82 :: nat_lit 84 :: nat_lit 85 :: nat_lit 87 :: nat_lit 88 :: nat_lit 89 :: nat_lit 91 :: nat_lit 92 :: nat_lit 94 :: nat_lit 95 :: nat_lit 96 :: nat_lit 99 :: nat_lit 100 :: nat_lit 101 :: nat_lit 102 :: nat_lit 103 :: nat_lit 104 :: nat_lit 105 :: nat_lit 108 :: nat_lit 110 :: nat_lit 111 :: nat_lit 113 :: nat_lit 114 :: nat_lit 115 :: nat_lit 117 :: nat_lit 118 :: nat_lit 120 :: nat_lit 121 :: nat_lit 122 :: nat_lit 125 :: nat_lit 126 :: nat_lit 127 :: nat_lit 128 :: nat_lit 131 :: nat_lit 132 :: nat_lit 133 :: nat_lit 135 :: nat_lit 136 :: nat_lit 138 :: nat_lit 139 :: nat_lit 140 :: nat_lit 142 :: nat_lit 143 :: nat_lit 145 :: nat_lit 146 :: nat_lit 147 :: nat_lit 150 :: nat_lit 151 :: nat_lit 152 :: nat_lit 154 :: nat_lit 155 :: nat_lit 157 :: nat_lit 158 :: nat_lit 159 :: nat_lit 162 :: nat_lit 163 :: nat_lit 164 :: nat_lit 166 :: nat_lit 167 :: nat_lit 169 :: nat_lit 170 :: nat_lit 171 :: nat_lit 174 :: nat_lit 175 :: nat_lit 176 :: nat_lit 178 :: nat_lit 179 :: nat_lit 181 :: nat_lit 182 :: nat_lit 183 :: nat_lit 185 :: nat_lit 186 :: nat_lit 188 :: nat_lit 189 :: []) (fun _ => by kernel_rfl)).says
    PySem.Challenge.rw_ov0042_01.row.toRowW hd.lawD [] (fun f vs => PySem.call f vs) → PySem.Challenge.rw_ov0042_01.Holds := fun hc => by
  refine holds_law ?ok fun said => ?_
  · exact hd.said
  · refine holds_open (q := hd.view_39) (N := 2678) hd.left (Hook.of _) (Hook.keeps _) (fun s e => xl_of s (Bool.and_eq_true_iff.mp e).1) XL.keeps (by kernel_rfl) (by kernel_rfl) (by kernel_rfl)
      (fun s e => recFacts_of (Bool.and_eq_true_iff.mp e).2) (by rfl) said (by decide +kernel) ⟨rfl, rfl, rfl, rfl, rfl, by decide +kernel⟩ ?hw hc
    w_witness2
end Mine
end
section
open PySem PySem.W PySem.Calls PyProof.Rows
set_option maxRecDepth 100000
set_option maxHeartbeats 4000000
namespace Mine
/-- all but W is kept -/
noncomputable def Kept (W : List Addr) (h h' : Heap) : Prop := ∀ b o, b ∉ W → h.get? b = some o → h'.get? b = some o
theorem Kept.refl (W : List Addr) (h : Heap) : Kept W h h := fun _ _ _ e => e
theorem Kept.trans {W : List Addr} {a b c : Heap} (x : Kept W a b) (y : Kept W b c) : Kept W a c := fun d o n e => y d o n (x d o n e)
theorem Kept.mono {W W' : List Addr} {a b : Heap} (x : Kept W a b) (s : ∀ d ∈ W, d ∈ W') : Kept W' a b := fun d o n e => x d o (fun m => n (s d m)) e
/-- what a contract asks of the place of its call -/
structure At (w : World) (A : Around) (s : Shared) (dp un : Nat) (A₀ : Around) (base g : Heap) (env : Env) (outer : List Env) (L : Addr) (m mg mb : Str → Option Value) (mean : ExcName → Option Value) : Prop where
  B : Below A₀ base outer g
  F : Fr g L s.heap m
  X : (Mine.hd.heap_39 w.params).In g
  T : Top Mine.hd.view_39 (looseW Mine.hd.view_39 [Str.ofString "match_names"]) mean mg mb g
  hA : A.frames = some (env :: outer)
  hf : env.frame = some L
  hk : env.scope.kind = .function
  hd : A.depth + dp < recursionLimit
  hu : A.units + un < cLine
  hh : A.handled = none
section
variable {w : World} {A A₀ : Around} {s : Shared} {base g : Heap} {outer : List Env} {L : Addr} {m mg mb : Str → Option Value} {mean : ExcName → Option Value} {env : Env} {led : List (Addr × Obj)} {dp un : Nat}
  {R : Result → Shared → Prop} {name qual : Str} {params : Arguments} {body : List Stmt} {scope : Scope} {dV kV doc pm cdv ct oc : Value} {an od : Option Addr} {osl : Array (Option Value)} {f : Addr} {args : Args} {binds : List (Str × Value)}
/-- a call of one of the text's own defs: the owned objects stand in the ledger, all else in the ground -/
theorem enter (Z : At w A s dp un A₀ base g env outer L m mg mb mean) (N : News g L s.heap led)
    (ho : (Mine.hd.heap_39 w.params).lookup f = some ⟨oc, od, .func (fnOf name qual params body scope dV kV doc pm an cdv ct), osl⟩) (hcd : codeIn (Mine.hd.heap_39 w.params) cdv qual = true)
    (hdp : 0 < dp)
    (hbind : BindsTo s (fnOf name qual params body scope dV kV doc pm an cdv ct) args binds) (hloc : ∀ y ∈ binds, scope.names.lookup y.1 = some .local)
    (h : ∀ G L' h₁, Fr G L' h₁ (fun y => binds.reverse.lookup y) → News G L' h₁ led → Below A base (env :: outer) G → (Mine.hd.heap_39 w.params).In G → Top Mine.hd.view_39 (looseW Mine.hd.view_39 [Str.ofString "match_names"]) mean mg mb G →
      (∀ b o, s.heap.get? b = some o → b ∉ led.map (·.1) → G.get? b = some o) → (∀ b o, G.get? b = some o → s.heap.get? b = some o) → s.heap.get? L' = none → (∀ p ∈ led, p.1 < L') →
      wpAny (model PySem.Challenge.rw_ov0042_01.row.prog w) (A.deeper (envOf qual scope L' f cdv)) (execs body (envOf qual scope L' f cdv))
        (fun fl s' => R (.ok (.ret (match fl with | .ret v => v | _ => .none))) s')
        (fun e s' => wpAny (model PySem.Challenge.rw_ov0042_01.row.prog w) (A.deeper (envOf qual scope L' f cdv)) (leaving (envOf qual scope L' f cdv) e) (fun _ s'' => R (.error e) s'') (fun e' s'' => R (.error e') s'') s')
        { s with heap := h₁, toks := s.toks + binds.length })
    (hco : scope.isCoroutine = false) (hgen : scope.isGenerator = false) (hk : scope.kind = .function)
    (hcell : ∀ x ∈ scope.names, x.2 ≠ .cell) : codeAny (model PySem.Challenge.rw_ov0042_01.row.prog w) A (.call (.ref f) args) R s := by
  obtain ⟨B, F, X, T, hA, hf, hke, hd, hu, hh⟩ := Z
  obtain ⟨FG, BG, st, lv⟩ := groundX (R := R) B F N hA hf hke
  refine codeAny_call_def (fd := fnOf name qual params body scope dV kV doc pm an cdv ct) (body := body) (binds := binds) (by omega) ((X.keeps F.keep) _ _ ho) rfl (T.nolimit.keeps F.keep) (codeRec_of (X.keeps F.keep) hcd) rfl hbind hcell hloc (fun h₁ hns hk₁ => ?_) hco hgen hk
  have up : ∀ b o, (hideAll s.heap (led.map (·.1))).get? b = some o → s.heap.get? b = some o := fun b o e => of_hideAll _ e
  refine h _ s.heap.objs.size h₁ ⟨hns, fun b o e => hk₁ b o (up b o e), Nat.le_of_eq (hideAll_size _ _)⟩ (fun p hp => ⟨hk₁ _ _ (N p hp).1, Nat.ne_of_lt (Heap.lt_size (N p hp).1), hideAll_none _ (List.mem_map_of_mem hp)⟩) BG
    (X.keeps st) (T.keeps st) (fun b o e n => hideAll_get _ e n) up ?_ fun p hp => Heap.lt_size (N p hp).1
  cases q : s.heap.get? s.heap.objs.size with
  | none => rfl
  | some o => exact absurd (Heap.lt_size q) (Nat.lt_irrefl _)
/-- what a finished call leaves: from the ground at its end -/
theorem kept_of {G h' : Heap} {W : List Addr} (hG : ∀ b o, s.heap.get? b = some o → b ∉ W → G.get? b = some o) (hk : ∀ b o, G.get? b = some o → h'.get? b = some o) : Kept W s.heap h' := fun b o n e => hk b o (hG b o e n)
/-- behind a call that kept all but W, the caller's frame and ledger stand -/
theorem fr_after {h' : Heap} {W : List Addr} (F : Fr g L s.heap m) (hW : ∀ b ∈ W, b ≠ L ∧ g.get? b = none) (k : Kept W s.heap h') : Fr g L h' m := by
  refine ⟨?_, fun b o e => k b o (fun n => ?_) (F.keep b o e), F.above⟩
  · obtain ⟨o, es, ep, ho, r⟩ := F.ns
    exact ⟨o, es, ep, k L o (fun n => (hW L n).1 rfl) ho, r⟩
  · rw [(hW b n).2] at e; cases e
end
end Mine
end
section
open PySem PySem.W PySem.Calls PyProof.Rows
set_option maxRecDepth 100000
set_option maxHeartbeats 4000000
namespace Mine
/-- a list's object -/
noncomputable def LstO (o : Obj) (vs : List Value) : Prop := o.cls = .type "list" ∧ ∃ n, o.data = .seq vs.toArray n
theorem LstO.isList {h : Heap} {a : Addr} {o : Obj} {vs : List Value} (x : LstO o vs) (e : h.get? a = some o) : h.IsList a vs.toArray := ⟨o, e, x.1, x.2⟩
theorem lstO_of {h : Heap} {a : Addr} {vs : List Value} (x : h.IsList a vs.toArray) : ∃ o, h.get? a = some o ∧ LstO o vs := let ⟨o, e, c, d⟩ := x; ⟨o, e, c, d⟩
section
variable {M : Model} {prog : Program} {w : World} {A : Around} {E : Value → Shared → Prop} {s : Shared} {g h' : Heap} {L a d : Addr} {m : Str → Option Value} {news : List (Addr × Obj)} {o o' : Obj} {f : Obj → List (Addr × Obj)}
  {kvs : List (Str × Value)} {x : Str} {t : Tok} {v : Value} {vs : List Value} {k : Int} {value slice : Expr}
theorem led_upd (F : Fr g L s.heap m) (N : News g L s.heap news) (U : UpdF a o news f) (hs : Heap.SameBut a s.heap h') (ho' : h'.get? a = some o') : Fr g L h' m ∧ News g L h' (f o') := by
  obtain ⟨pre, post, rfl, hg, h1, h2⟩ := U.split
  have hmem := N (a, o) (List.mem_append_right _ (.head _))
  refine ⟨⟨F.ns.sameBut hs (Ne.symm hmem.2.1), fun b ob e => (hs.2 b (fun q => ?_)).trans (F.keep b ob e), F.above⟩, hg o' ▸ N.setAt h1 h2 hs ho'⟩
  rw [q, hmem.2.2] at e; cases e
theorem get_D {Q : Value → Shared → Prop} (N : News g L s.heap news) (hm : (d, o) ∈ news) (hd : o.IsDictOf (strKind prog w) kvs) (hv : valueAt kvs x = some v) (h : Q v { s with toks := s.toks + 1 }) :
    wpAny (model prog w) A (getItem (.ref d) (.str x t)) Q E s :=
  wpAny_getItem_of (strKind_is prog w x t) (Heap.dictOf_iff.mpr ⟨o, N.get hm, hd⟩ : s.heap.DictOf (strKind prog w) d kvs).mapOf hv h
theorem tail_D {Q : Value → Shared → Prop} (N : News g L s.heap news) (hm : (d, o) ∈ news) (hd : o.IsDictOf (strKind prog w) kvs) (hv : valueAt kvs x = some v) (h : Q v { s with toks := s.toks + 1 })
    (hs : subscripted slice false (.ref d) (.str x t) = operate [.ref d, .str x t] (getItem (.ref d) (.str x t)) := by with_unfolding_all rfl) :
    wpAny (model prog w) A (subscriptTail value slice (.ref d) (.str x t)) Q E s :=
  have hD : s.heap.DictOf (strKind prog w) d kvs := Heap.dictOf_iff.mpr ⟨o, N.get hm, hd⟩
  tail_any hD.typeIs slot_dict_getitem.lookup (get_D N hm hd hv h) hs
theorem set_D {Q : Unit → Shared → Prop} (F : Fr g L s.heap m) (N : News g L s.heap news) (U : UpdF d o news f) (hd : o.IsDictOf (strKind prog w) kvs) (hz : kvs.length ≤ 1000)
    (h : ∀ h' o', Fr g L h' m → News g L h' (f o') → o'.IsDictOf (strKind prog w) (stored kvs x v) → Q () { s with heap := h', toks := s.toks + 1 }) :
    wpAny (model prog w) A (setItem (.ref d) (.str x t) v) Q E s := by
  obtain ⟨pre, post, e, _⟩ := U.split
  have hm : (d, o) ∈ news := e ▸ List.mem_append_right _ (.head _)
  refine wpAny_setItem_pairs (strKind_is prog w x t) (Heap.dictOf_iff.mpr ⟨o, N.get hm, hd⟩ : s.heap.DictOf (strKind prog w) d kvs) (fun h' hD hs => ?_) (Nat.le_trans hz (by decide))
  obtain ⟨o', ho', hd'⟩ := Heap.dictOf_iff.mp hD
  obtain ⟨F', N'⟩ := led_upd F N U hs ho'
  exact h h' o' F' N' hd'
theorem in_D {Q : Value → Shared → Prop} (N : News g L s.heap news) (hm : (d, o) ∈ news) (lo : (d == sysModules) = false) (hd : o.IsDictOf (strKind prog w) kvs) (h : Q (.bool (valueAt kvs x).isSome) { s with toks := s.toks + 1 }) :
    wpAny (model prog w) A (compareOp .In (.str x t) (.ref d)) Q E s :=
  wpAny_in_of (strKind_is prog w x t) lo (Heap.dictOf_iff.mpr ⟨o, N.get hm, hd⟩ : s.heap.DictOf (strKind prog w) d kvs).mapOf h
theorem notIn_D {Q : Value → Shared → Prop} (N : News g L s.heap news) (hm : (d, o) ∈ news) (lo : (d == sysModules) = false) (hd : o.IsDictOf (strKind prog w) kvs) (h : Q (.bool !(valueAt kvs x).isSome) { s with toks := s.toks + 1 }) :
    wpAny (model prog w) A (compareOp .NotIn (.str x t) (.ref d)) Q E s :=
  wpAny_notIn_of (strKind_is prog w x t) lo (Heap.dictOf_iff.mpr ⟨o, N.get hm, hd⟩ : s.heap.DictOf (strKind prog w) d kvs).mapOf h
theorem in_Db {Q : Value → Shared → Prop} {b : Bool} (N : News g L s.heap news) (hm : (d, o) ∈ news) (lo : (d == sysModules) = false) (hd : o.IsDictOf (strKind prog w) kvs) (hb : (valueAt kvs x).isSome = b) (h : Q (.bool b) { s with toks := s.toks + 1 }) :
    wpAny (model prog w) A (compareOp .In (.str x t) (.ref d)) Q E s := in_D N hm lo hd (hb ▸ h)
theorem notIn_Db {Q : Value → Shared → Prop} {b : Bool} (N : News g L s.heap news) (hm : (d, o) ∈ news) (lo : (d == sysModules) = false) (hd : o.IsDictOf (strKind prog w) kvs) (hb : (valueAt kvs x).isSome = b) (h : Q (.bool !b) { s with toks := s.toks + 1 }) :
    wpAny (model prog w) A (compareOp .NotIn (.str x t) (.ref d)) Q E s := notIn_D N hm lo hd (hb ▸ h)
theorem len_L {Q : Value → Shared → Prop} {n : Nat} (hl : s.heap.IsList a vs.toArray) (hn : vs.length = n) (hfit : n ≤ 100000) (h : ∀ t tk, Q (.int (n : Int) t) { s with toks := tk }) : wpAny (model prog w) A (call (.builtin "len") [.ref a]) Q E s := by
  subst hn
  have hz : vs.toArray.size = vs.length := by simp
  refine len_list hl (by rw [hz]; omega) ?_
  simpa using h (s.toks + 1) (s.toks + 1 + 1)
theorem tail_L {Q : Value → Shared → Prop} (hl : s.heap.IsList a vs.toArray) (h0 : 0 ≤ k) (hfit : k < 2 ^ 63) (hx : vs[k.toNat]? = some v) (h : Q v s)
    (hs : subscripted slice false (.ref a) (.int k t) = operate [.ref a, .int k t] (getItem (.ref a) (.int k t)) := by with_unfolding_all rfl) :
    wpAny (model prog w) A (subscriptTail value slice (.ref a) (.int k t)) Q E s :=
  tail_any hl.typeIs slot_list_getitem.lookup (wpAny_getItem_list hl h0 hfit (by simpa using hx) h) hs
theorem set_L {Q : Unit → Shared → Prop} (F : Fr g L s.heap m) (N : News g L s.heap news) (U : UpdF a o news f) (hl : LstO o vs) (h0 : 0 ≤ k) (hfit : k < 2 ^ 63) (hn : k.toNat < vs.length)
    (h : ∀ h' o', Fr g L h' m → News g L h' (f o') → LstO o' (vs.set k.toNat v) → Q () { s with heap := h' }) :
    wpAny (model prog w) A (setItem (.ref a) (.int k t) v) Q E s := by
  obtain ⟨pre, post, e, _⟩ := U.split
  have hm : (a, o) ∈ news := e ▸ List.mem_append_right _ (.head _)
  refine wpAny_setItem_list (hl.isList (N.get hm)) h0 hfit (by simp only [List.size_toArray]; omega) fun h' hL hs => ?_
  have hL' : h'.IsList a (vs.set k.toNat v).toArray := by simpa using hL
  obtain ⟨o', ho', hl'⟩ := lstO_of hL'
  obtain ⟨F', N'⟩ := led_upd F N U hs ho'
  exact h h' o' F' N' hl'
theorem LstO.at {hl : LstO o vs} (N : News g L s.heap news) (hm : (a, o) ∈ news) : s.heap.IsList a vs.toArray := hl.isList (N.get hm)
theorem isList_G {G : Heap} (F : Fr G L s.heap m) (hl : G.IsList a vs.toArray) : s.heap.IsList a vs.toArray := let ⟨o, e, r⟩ := hl; ⟨o, F.keep _ _ e, r⟩
end
end Mine
namespace Mine
theorem qb {Q : Value → Shared → Prop} {b b' : Bool} {s : Shared} (h : Q (.bool b') s) (e : b = b') : Q (.bool b) s := e ▸ h
/-- all but W is kept by a call whose ledger at the end bears what the ledger at its start bore elsewhere -/
theorem kept_led {g G h' : Heap} {s : Shared} {L L' : Addr} {led led' : List (Addr × Obj)} {W : List Addr} (hG : ∀ b o, s.heap.get? b = some o → b ∉ led.map (·.1) → G.get? b = some o)
    (N : News g L s.heap led) {m : Str → Option Value} (F : Fr G L' h' m) (N' : News G L' h' led') (hs : ∀ p ∈ led, p.1 ∉ W → p ∈ led') : Kept W s.heap h' := by
  intro b o n e
  by_cases hb : b ∈ led.map (·.1)
  · obtain ⟨p, hp, rfl⟩ := List.mem_map.mp hb
    have e2 := (N p hp).1
    rw [e] at e2; cases e2
    exact (N' p (hs p hp n)).1
  · exact F.keep b o (hG b o e hb)
theorem news_kept {g h' : Heap} {s : Shared} {L : Addr} {led : List (Addr × Obj)} {W : List Addr} (N : News g L s.heap led) (hW : ∀ p ∈ led, p.1 ∉ W) (k : Kept W s.heap h') : News g L h' led :=
  fun p hp => ⟨k p.1 p.2 (hW p hp) (N p hp).1, (N p hp).2⟩
theorem news_sub {g h : Heap} {L : Addr} {led l : List (Addr × Obj)} (N : News g L h led) (h1 : ∀ p ∈ l, p ∈ led) : News g L h l := fun p hp => N p (h1 p hp)
end Mine
end
section
open PySem PySem.W PySem.Calls PyProof.Rows
set_option maxRecDepth 100000
set_option maxHeartbeats 8000000
namespace Mine
theorem say_MPick_1 : True := by
  k_with_none
  exact trivial
theorem va_hit {k : Str} {v : Value} {r : List (Str × Value)} : valueAt ((k, v) :: r) k = some v := by simp [valueAt]
theorem va_miss {a k : Str} {v : Value} {r : List (Str × Value)} (h : a ≠ k) : valueAt ((a, v) :: r) k = valueAt r k := by simp [valueAt, h]
noncomputable def jarK (c : Addr) (at_ : Int) (t2 : Tok) (held : Int) (t3 : Tok) : List (Str × Value) := [(Str.ofString "cells", .ref c), (Str.ofString "at", .int at_ t2), (Str.ofString "held", .int held t3)]
section
variable {c : Addr} {at_ : Int} {t2 : Tok} {held : Int} {t3 : Tok} {i : Int} {t : Tok}
theorem ne_ca : Str.ofString "cells" ≠ Str.ofString "at" := by decide
theorem ne_ch : Str.ofString "cells" ≠ Str.ofString "held" := by decide
theorem ne_ah : Str.ofString "at" ≠ Str.ofString "held" := by decide
theorem jar_cells : valueAt (jarK c at_ t2 held t3) (Str.ofString "cells") = some (.ref c) := va_hit
theorem jar_at : valueAt (jarK c at_ t2 held t3) (Str.ofString "at") = some (.int at_ t2) := (va_miss ne_ca).trans va_hit
theorem jar_held : valueAt (jarK c at_ t2 held t3) (Str.ofString "held") = some (.int held t3) := (va_miss ne_ch).trans ((va_miss ne_ah).trans va_hit)
theorem jar_set_at : stored (jarK c at_ t2 held t3) (Str.ofString "at") (.int i t) = jarK c i t held t3 := by
  have a := ne_ca; have b := ne_ah
  simp [stored, jarK, a, Ne.symm b]
theorem jar_set_held : stored (jarK c at_ t2 held t3) (Str.ofString "held") (.int i t) = jarK c at_ t2 i t := by
  have a := ne_ch; have b := ne_ah
  simp [stored, jarK, a, b]
end
theorem say_MPick_2 : True := by
  k_with_none
  (k_with "subscriptTail" => (k_here; (with_reducible show wpAny _ _ (subscriptTail _ _ (Value.ref _) (Value.str _ _)) _ _ _); k_dflt (refine' tail_D (by k_asm) (by k_mem) (by assumption) (by first | exact jar_cells | exact jar_at | exact jar_held) ?_ (by with_unfolding_all rfl);  k_whole)))
  exact trivial
theorem pick_lo_a (c : Int) : ¬ (3000 + c.fmod (10 ^ Int.toNat 62) < 3000) := by
  have h : (0 : Int) < 10 ^ Int.toNat 62 := by decide
  have := Int.fmod_nonneg_of_pos c h
  omega
theorem pick_hi_a (c : Int) : 3000 + c.fmod (10 ^ Int.toNat 62) ≤ 10 ^ 66 := by
  have h : (0 : Int) < 10 ^ Int.toNat 62 := by decide
  have h1 := Int.fmod_lt_of_pos c h
  have h2 : (10 : Int) ^ Int.toNat 62 + 3000 ≤ 10 ^ 66 := by decide
  omega
theorem low_nn (c : Int) {a : Int} (h : 0 ≤ a) : 0 ≤ c.fmod 777767777 + 90001 * a := by
  have := Int.fmod_nonneg_of_pos c (show (0 : Int) < 777767777 by decide)
  omega
theorem pick_lo_b (c : Int) {a : Int} (h : 0 ≤ a) : ¬ (3000 + (c.fmod 777767777 + 90001 * a) * (c.fmod 777767777 + 90001 * a + 12289) * 31337 + a < 3000) := by
  have h1 := low_nn c h
  generalize c.fmod 777767777 + 90001 * a = l at h1
  have h2 : 0 ≤ l * (l + 12289) := Int.mul_nonneg h1 (by omega)
  omega
theorem pick_hi_b (c : Int) {a : Int} (h : 0 ≤ a) (h' : a ≤ 100000) : 3000 + (c.fmod 777767777 + 90001 * a) * (c.fmod 777767777 + 90001 * a + 12289) * 31337 + a ≤ 10 ^ 66 := by
  have h1 := low_nn c h
  have h3 : c.fmod 777767777 + 90001 * a ≤ 10 ^ 10 := by
    have := Int.fmod_lt_of_pos c (show (0 : Int) < 777767777 by decide)
    omega
  generalize c.fmod 777767777 + 90001 * a = l at h1 h3
  have h2 : l * (l + 12289) ≤ 10 ^ 10 * (10 ^ 10 + 12289) := Int.mul_le_mul h3 (by omega) (by omega) (by decide)
  have h4 : (10 : Int) ^ 10 * (10 ^ 10 + 12289) * 31337 + 103000 ≤ 10 ^ 66 := by decide
  omega
theorem div_hi {x c : Int} (h : 0 ≤ x) (h2 : x ≤ 10 ^ 66) (hc : 0 < c) : 0 ≤ x.fdiv c ∧ x.fdiv c ≤ 10 ^ 66 := by
  rw [Int.fdiv_eq_ediv_of_nonneg x (by omega)]
  refine ⟨Int.ediv_nonneg h (by omega), Int.le_trans (Int.ediv_le_self c h) h2⟩
theorem mod_hi {x c : Int} (hc : 0 < c) : 0 ≤ x.fmod c ∧ x.fmod c < c := ⟨Int.fmod_nonneg_of_pos x hc, Int.fmod_lt_of_pos x hc⟩
section
variable {w : World} {A A₀ : Around} {s : Shared} {base g : Heap} {outer : List Env} {L : Addr} {m mg mb : Str → Option Value} {mean : ExcName → Option Value} {env : Env}
  {Q : Value → Shared → Prop} {E : Value → Shared → Prop}
/-- the jar at j -/
theorem say_MPick_3 : True := by
  k_with_none
  (k_with "subscriptTail" => (k_here; (with_reducible show wpAny _ _ (subscriptTail _ _ (Value.ref _) (Value.str _ _)) _ _ _); k_dflt (refine' tail_D (by k_asm) (by k_mem) (by assumption) (by first | exact jar_cells | exact jar_at | exact jar_held) ?_ (by with_unfolding_all rfl);  k_whole)))
  (k_with "WhlIf" => (first | (refine WhlIf.yes (decide_eq_true (by omega)) ?_) | (refine WhlIf.no (decide_eq_false (by omega)) ?_) | (refine WhlIf.no (decide_eq_false (pick_lo_a _)) ?_) | (refine WhlIf.no (decide_eq_false (pick_lo_b _ (by assumption))) ?_)))
  (k_with "setItem" => (k_here; (with_reducible show wpAny _ _ (setItem (Value.ref _) (Value.str _ _) _) _ _ _); k_dflt (refine' set_D (by k_asm) (by k_asm) (by k_updF) (by assumption) (by decide) ?_;  k_whole); intro _ _ _ _ hd'; (first | rw [jar_set_at] at hd' | rw [jar_set_held] at hd')))
  exact trivial
noncomputable def JarAt (w : World) (h : Heap) (j c : Addr) (at_ held : Int) : Prop := ∃ t2 t3, h.DictOf (strKind PySem.Challenge.rw_ov0042_01.row.prog w) j (jarK c at_ t2 held t3)
theorem pick_spec {j c : Addr} {tc : Tok} {at_ held count : Int} {vs : List Value} {cells : List Int} (Z : At w A s 2 8 A₀ base g env outer L m mg mb mean)
   (hj : JarAt w s.heap j c at_ held) (hjL : j ≠ L) (hjg : g.get? j = none)
   (hc : s.heap.IsList c vs.toArray) (hcj : c ≠ j) (hI : IntsAre vs cells) (hl : 0 < cells.length) (hl2 : cells.length ≤ 40)
   (h1 : 0 ≤ at_) (h2 : at_ ≤ 100000) (h3 : 0 ≤ held) (h4 : held ≤ 10 ^ 66) (h5 : 0 < count) (h6 : count ≤ 100)
   (hQ : ∀ h' tk' t at' held' got, Kept [j] s.heap h' → JarAt w h' j c at' held' → at_ ≤ at' → at' ≤ at_ + 1 → 0 ≤ held' → held' ≤ 10 ^ 66 → 0 ≤ got → got < count →
      Q (.int got t) { s with heap := h', toks := tk' }) :
   wpAny (model PySem.Challenge.rw_ov0042_01.row.prog w) A (call (.ref 139) [.ref j, .int count tc]) Q E s := by
  have hX := Z.X; revert hX; k_fill; intro hX
  obtain ⟨t2, t3, hjd⟩ := hj
  obtain ⟨oj, hoj, hdj⟩ := Heap.dictOf_iff.mp hjd
  have N : News g L s.heap [(j, oj)] := fun p hp => by
    rcases List.mem_singleton.mp hp with rfl
    exact ⟨hoj, hjL, hjg⟩
  refine wpAny_call ?_
  refine enter (binds := [(Str.ofString "jar", .ref j), (Str.ofString "count", .int count tc)]) Z N rfl rfl (by decide) (BindsTo.of_eq rfl) (locs rfl) (fun G L' h₁ F' N' B' X' T' hG hG2 hL hlt => ?_) rfl rfl rfl (by decide)
  dsimp only
  k_fold
  have hcG : G.IsList c vs.toArray := by
    obtain ⟨o, ho, r⟩ := hc
    exact ⟨o, hG c o ho (by simpa using hcj), r⟩
  by_cases h0 : held < 3000
  all_goals (k_steps; all_goals (try dsimp only); all_goals (try k_unfold); all_goals (try dsimp only))
  all_goals (
    rename Fr _ _ _ _ => Fz
    rename News _ _ _ _ => Nz
    rename Obj.IsDictOf _ _ _ => dz
    refine hQ _ _ _ _ _ _ (kept_of (W := [j]) (fun b o e n => hG b o e (by simpa using n)) Fz.keep) ⟨_, _, Heap.dictOf_iff.mpr ⟨_, Nz.get (.head _), dz⟩⟩ ?_ ?_ ?_ ?_ (mod_hi h5).1 (mod_hi h5).2
    · omega
    · omega
    · first | exact (div_hi h3 h4 h5).1 | exact (div_hi (by have := pick_lo_a (cells.getD (at_.fmod ↑cells.length).toNat 0); omega) (pick_hi_a _) h5).1 | exact (div_hi (by have := pick_lo_b (cells.getD (at_.fmod ↑cells.length).toNat 0) h1; omega) (pick_hi_b _ h1 h2) h5).1
    · first | exact (div_hi h3 h4 h5).2 | exact (div_hi (by have := pick_lo_a (cells.getD (at_.fmod ↑cells.length).toNat 0); omega) (pick_hi_a _) h5).2 | exact (div_hi (by have := pick_lo_b (cells.getD (at_.fmod ↑cells.length).toNat 0) h1; omega) (pick_hi_b _ h1 h2) h5).2)
end
end Mine
end
section
open PySem PySem.W PySem.Calls PyProof.Rows
set_option maxRecDepth 100000
set_option maxHeartbeats 8000000
namespace Mine
noncomputable abbrev Tag := Option Str
/-- a tag's value -/
theorem say_MFree_4 : True := by
  k_with_none
  exact trivial
noncomputable def TagV (v : Value) : Tag → Prop
  | none => v = .none
  | some x => ∃ t, v = .str x t
/-- the tags' values -/
structure TagsAre (vs : List Value) (tags : List Tag) : Prop where
  len : vs.length = tags.length
  at_ : ∀ (i : Nat) (tg : Tag), tags[i]? = some tg → ∃ v, vs[i]? = some v ∧ TagV v tg
noncomputable abbrev selfL (P : Params) (k1 k2 k3 k4 : Tok) (f t u p : Addr) : List DictEntry :=
  [⟨PyData.keyHash P (Str.ofString "formals"), .str (Str.ofString "formals") k1, .ref f⟩, ⟨PyData.keyHash P (Str.ofString "tags"), .str (Str.ofString "tags") k2, .ref t⟩,
   ⟨PyData.keyHash P (Str.ofString "used"), .str (Str.ofString "used") k3, .ref u⟩, ⟨PyData.keyHash P (Str.ofString "places"), .str (Str.ofString "places") k4, .ref p⟩]
section
variable {w : World} {A A₀ : Around} {s : Shared} {base g : Heap} {outer : List Env} {L : Addr} {m mg mb : Str → Option Value} {mean : ExcName → Option Value} {env : Env}
  {Q : Value → Shared → Prop} {E : Value → Shared → Prop}
theorem say_MFree_5 : True := by
  k_with_none
  (k_with "subscriptTail" => (k_here; (with_reducible show wpAny _ _ (subscriptTail _ _ (Value.ref _) (Value.int _ _)) _ _ _); k_dflt (refine' tail_L (by exact isList_G (by k_asm) (by assumption)) (by omega) (by omega) (by assumption) ?_ (by with_unfolding_all rfl);  k_whole)))
  exact trivial
theorem free_spec {x dx f t u p : Addr} {k1 k2 k3 k4 tc : Tok} {n : Nat} {tvs uvs : List Value} {i : Nat} {tv : Value} {tg : Tag} {ui : Int} {tu : Tok} (Z : At w A s 2 8 A₀ base g env outer L m mg mb mean)
   (N : News g L s.heap [(x, instObj 103 dx), (dx, dictOf (selfL w.params k1 k2 k3 k4 f t u p) n)]) (hxd : @Ne Nat x dx)
   (ht : s.heap.IsList t tvs.toArray) (hu : s.heap.IsList u uvs.toArray) (ht2 : t ≠ x ∧ t ≠ dx) (hu2 : u ≠ x ∧ u ≠ dx)
   (hi : i < 1000) (htv : tvs[i]? = some tv) (hut : uvs[i]? = some (.int ui tu)) (htg : TagV tv tg)
   (hQ : ∀ h' tk', Kept [] s.heap h' → Q (.bool (decide (ui = 0) && (tg.isNone || decide (tg = some (Str.ofString ""))))) { s with heap := h', toks := tk' }) :
   wpAny (model PySem.Challenge.rw_ov0042_01.row.prog w) A (call (.ref 95) [.ref x, .int i tc]) Q E s := by
  have hX := Z.X; revert hX; k_fill; intro hX
  refine wpAny_call ?_
  refine enter (binds := [(Str.ofString "self", .ref x), (Str.ofString "place", .int i tc)]) Z N rfl rfl (by decide) (BindsTo.of_eq rfl) (locs rfl) (fun G L' h₁ F' N' B' X' T' hG hG2 hL hlt => ?_) rfl rfl rfl (by decide)
  dsimp only
  k_fold
  have htG : G.IsList t tvs.toArray := by
    obtain ⟨o, ho, r⟩ := ht
    exact ⟨o, hG t o ho (by simpa using ht2), r⟩
  have huG : G.IsList u uvs.toArray := by
    obtain ⟨o, ho, r⟩ := hu
    exact ⟨o, hG u o ho (by simpa using hu2), r⟩
  have hi0 : (0 : Int) ≤ i := by omega
  have hin : ((i : Int)).toNat = i := by omega
  rw [← hin] at htv hut
  rcases tg with _ | tg
  · cases htg
    k_steps
    all_goals (dsimp only; try k_unfold; try dsimp only)
    all_goals (
      rename Fr _ _ _ _ => Fz
      rename News _ _ _ _ => Nz
      refine qb (hQ _ _ (kept_led hG N Fz Nz (fun p hp _ => hp))) ?_
      first | (simp_all; done) | (simp_all; rw [Bool.eq_iff_iff]; simp))
  · obtain ⟨tt, rfl⟩ := htg
    k_steps
    all_goals (dsimp only; try k_unfold; try dsimp only)
    all_goals (
      rename Fr _ _ _ _ => Fz
      rename News _ _ _ _ => Nz
      refine qb (hQ _ _ (kept_led hG N Fz Nz (fun p hp _ => hp))) ?_
      first | (simp_all; done) | (simp_all; rw [Bool.eq_iff_iff]; simp))
end
end Mine
end
section
open PySem PySem.W PySem.Calls PyProof.Rows
set_option maxRecDepth 100000
set_option maxHeartbeats 4000000
namespace Mine
section
variable {prog : Program} {w : World} {A : Around} {E : Value → Shared → Prop} {s : Shared} {env : Env} {g : Heap} {x : Str} {body : List Stmt} {Q : Flow → Shared → Prop}
/-- a loop by a word over its turn's number, the frame's map and the ledger; what it walks lies in the ground -/
theorem loop_core {I : Addr} {fp : List Addr} {n : Nat} {P : Nat → Value → Prop} {St : Nat → Heap → Prop} {m₀ : Str → Option Value} {news : List (Addr × Obj)} (J : Nat → (Str → Option Value) → List (Addr × Obj) → Prop)
    (W : Walks prog w A I fp [I] n P St) (hfp : ∀ b ∈ fp, b = I ∨ ∃ o, g.get? b = some o) (hIL : I ≠ env.locals) (hIg : g.get? I = none) (hIn : ∀ p ∈ news, p.1 ≠ I) (hst : St 0 s.heap)
    (F : Fr g env.locals s.heap m₀) (N : News g env.locals s.heap news) (hj : J 0 m₀ news)
    (turn : ∀ i v m₁ news₁ h tk own, i < n → P i v → news₁.map (·.1) = news.map (·.1) → OwnOff own (news.map (·.1)) → J i m₁ news₁ → Fr g env.locals h (fun y => if y = x then some v else m₁ y) → News g env.locals h (news₁ ++ own) →
      wpAny (model prog w) A (execs body env) (InvPostN g env.locals (J (i + 1)) own (news.map (·.1)) { s with heap := h, toks := tk } Q) E { s with heap := h, toks := tk })
    (done : ∀ m₁ news₁ h tk, news₁.map (·.1) = news.map (·.1) → J n m₁ news₁ → Fr g env.locals h m₁ → News g env.locals h news₁ → Q .next { s with heap := h, toks := tk }) :
    LoopAtV prog w A g env x body Q E (.ref I) s := by
  refine ⟨I, fp, [I], n, P, St, m₀, news, fun i m₁ news₁ => news₁.map (·.1) = news.map (·.1) ∧ J i m₁ news₁, rfl, W, ?_, ?_, ?_, hst, F, N, ⟨rfl, hj⟩, ?_, ?_⟩
  · intro hm
    rcases hfp _ hm with e | ⟨o, e⟩
    · exact hIL e.symm
    · exact absurd (Nat.lt_of_lt_of_le (Heap.lt_size e) F.above) (Nat.lt_irrefl _)
  · intro b hb; rw [List.mem_singleton.mp hb]; exact hIg
  · intro p hp hq; exact hIn p hp (List.mem_singleton.mp hq)
  · rintro i v m₁ news₁ s₁ own ⟨h, tk, rfl⟩ hi hP ⟨hadr, hJ⟩ hoff hown _ _ _ F₁ N₁
    have off : OwnOff own (news.map (·.1)) := by
      intro p hp b hb e
      rw [← hadr] at hb
      obtain ⟨q, hq, rfl⟩ := List.mem_map.mp hb
      rcases hfp _ (hown p hp) with e2 | ⟨o, e2⟩
      · exact hoff q hq (List.mem_singleton.mpr (e.symm.trans e2))
      · have := (N₁ q (List.mem_append_right _ hq)).2.2
        rw [← e, e2] at this; cases this
    have N₂ : News g env.locals h (news₁ ++ own) := fun p hp => N₁ p ((List.mem_append.mp hp).elim (List.mem_append_right _) (List.mem_append_left _))
    refine wpAny_mono (turn i v m₁ news₁ h tk own hi hP hadr off hJ F₁ N₂) (fun f s₂ p => ?_) fun _ _ e => e
    have fin : InvEndN g env.locals (J (i + 1)) own (news.map (·.1)) { s with heap := h, toks := tk } s₂ →
        LoopStepU g env.locals [I] own (fun m₁ news₁ => news₁.map (·.1) = news.map (·.1) ∧ J (i + 1) m₁ news₁) { s with heap := h, toks := tk } .next s₂ := by
      rintro ⟨h', tk', m', news', nx, e, F', N', hn, ho, ha, hm⟩
      refine ⟨rfl, h', tk', m', nx, e, F', fun p hp => N' p ((List.mem_append.mp hp).elim (ho p) (hn p)), fun p hp hq => ?_, ha, hm⟩
      have h1 : p.1 ∈ nx.map (·.1) := List.mem_map_of_mem hp
      rw [ha, ← hadr] at h1
      obtain ⟨q, hq1, hq2⟩ := List.mem_map.mp h1
      exact hoff q hq1 (by rw [hq2]; exact hq)
    cases f with
    | ret v => exact .ret p
    | brk => exact .brk p
    | next => exact .next (fin p)
    | cont => exact .cont (fin p)
  · rintro h' tk m' news' F' N' _ ⟨ha, hJ⟩
    exact done m' news' h' tk ha hJ F' N'
/-- over a list of the ground -/
theorem loop_list {l : Addr} {vs : List Value} {m₀ : Str → Option Value} {news : List (Addr × Obj)} (J : Nat → (Str → Option Value) → List (Addr × Obj) → Prop)
    (hh : A.handled = none) (hl : g.IsList l vs.toArray) (F : Fr g env.locals s.heap m₀) (N : News g env.locals s.heap news) (hj : J 0 m₀ news)
    (turn : ∀ i v m₁ news₁ h tk own, vs[i]? = some v → news₁.map (·.1) = news.map (·.1) → OwnOff own (news.map (·.1)) → J i m₁ news₁ → Fr g env.locals h (fun y => if y = x then some v else m₁ y) → News g env.locals h (news₁ ++ own) →
      wpAny (model prog w) A (execs body env) (InvPostN g env.locals (J (i + 1)) own (news.map (·.1)) { s with heap := h, toks := tk } Q) E { s with heap := h, toks := tk })
    (done : ∀ m₁ news₁ h tk, news₁.map (·.1) = news.map (·.1) → J vs.length m₁ news₁ → Fr g env.locals h m₁ → News g env.locals h news₁ → Q .next { s with heap := h, toks := tk }) :
    wpAny (model prog w) A (pyIter (.ref l)) (fun it s₂ => LoopAtV prog w A g env x body Q E it s₂) E s := by
  have hls : s.heap.IsList l vs.toArray := isList_G F hl
  obtain ⟨ol, hol, _⟩ := id hl
  have hlt : l < g.objs.size := Heap.lt_size hol
  have hlL : l < env.locals := Nat.lt_of_lt_of_le hlt F.above
  have hL := F.ns.lt
  refine wpAny_pyIter_list hls ?_
  have W := Walks.list (prog := prog) (w := w) hh s.heap.objs.size l (Nat.ne_of_lt (Nat.lt_trans hlL hL)) vs.toArray
  refine loop_core (s := { s with heap := s.heap.push _ }) J W ?_ (Nat.ne_of_gt hL) (next_is_new F) (fun p hp => Nat.ne_of_lt (Heap.lt_size (N p hp).1)) ⟨⟨_, Heap.get?_push_size _ rfl, rfl, rfl⟩, hls.at fun o e => Heap.get?_push_of_some _ e⟩
    (F.push _) (fun p hp => ⟨Heap.get?_push_of_some _ (N p hp).1, (N p hp).2⟩) hj ?_ ?_
  · intro b hb
    rcases List.mem_cons.mp hb with e | hb
    · exact .inl e
    · rw [List.mem_singleton.mp hb]; exact .inr ⟨ol, hol⟩
  · intro i v m₁ news₁ h tk own _ hP
    exact turn i v m₁ news₁ h tk own (by simpa using hP)
  · intro m₁ news₁ h tk ha hJ
    exact done m₁ news₁ h tk ha (by simpa using hJ)
/-- over range(n) -/
theorem loop_range {r : Addr} {n : Nat} {t₀ u₀ v₀ : Tok} {m₀ : Str → Option Value} {news : List (Addr × Obj)} (J : Nat → (Str → Option Value) → List (Addr × Obj) → Prop)
    (hh : A.handled = none) (hr : IsRange s.heap r 0 n 1 t₀ u₀ v₀) (hn : n ≤ 100000) (F : Fr g env.locals s.heap m₀) (N : News g env.locals s.heap news) (hj : J 0 m₀ news)
    (turn : ∀ i t m₁ news₁ h tk own, i < n → news₁.map (·.1) = news.map (·.1) → OwnOff own (news.map (·.1)) → J i m₁ news₁ → Fr g env.locals h (fun y => if y = x then some (.int (i : Int) t) else m₁ y) → News g env.locals h (news₁ ++ own) →
      wpAny (model prog w) A (execs body env) (InvPostN g env.locals (J (i + 1)) own (news.map (·.1)) { s with heap := h, toks := tk } Q) E { s with heap := h, toks := tk })
    (done : ∀ m₁ news₁ h tk, news₁.map (·.1) = news.map (·.1) → J n m₁ news₁ → Fr g env.locals h m₁ → News g env.locals h news₁ → Q .next { s with heap := h, toks := tk }) :
    wpAny (model prog w) A (pyIter (.ref r)) (fun it s₂ => LoopAtV prog w A g env x body Q E it s₂) E s := by
  have hsmall : Builtin.Range.small 0 (n : Int) 1 = true := small_one (by decide) (by decide) (by omega) (by omega)
  have hsz : Builtin.Range.rangeSize 0 (n : Int) 1 = (n : Int) := by rw [rangeSize_nat]; omega
  have hL := F.ns.lt
  refine wpAny_pyIter_range hr hsmall ?_
  refine loop_core (s := { s with heap := s.heap.push _ }) J (Walks.range (prog := prog) (w := w) hh s.heap.objs.size 0 1 n) (fun b hb => .inl (List.mem_singleton.mp hb)) (Nat.ne_of_gt hL) (next_is_new F) (fun p hp => Nat.ne_of_lt (Heap.lt_size (N p hp).1)) ?_
    (F.push _) (fun p hp => ⟨Heap.get?_push_of_some _ (N p hp).1, (N p hp).2⟩) hj ?_ done
  · show IsRangeIter _ _ _ _ _
    rw [hsz]; simpa using Heap.get?_push_size _ rfl
  · intro i v m₁ news₁ h tk own hi ⟨t, hv⟩
    have : v = .int (i : Int) t := by rw [hv]; simp
    subst this
    exact turn i t m₁ news₁ h tk own hi
end
section
variable {prog : Program} {w : World} {A : Around} {E : Value → Shared → Prop} {s : Shared} {env : Env} {test : PySem.Expr} {body : List Stmt} {Q : Flow → Shared → Prop}
noncomputable def WStep (I : Nat → Shared → Prop) (d : Nat) (Q : Flow → Shared → Prop) (f : Flow) (s : Shared) : Prop :=
  match f with
  | .next => ∃ d', d' < d ∧ I d' s
  | .cont => ∃ d', d' < d ∧ I d' s
  | .brk => Q .next s
  | .ret v => Q (.ret v) s
theorem while_rest (hE : PassesOwn (model prog w) A env E) (I : Nat → Shared → Prop)
    (turn : ∀ d s, I d s → wpAny (model prog w) A (isTrue test env (eval test env)) (fun b s₂ => WhlIf b (wpAny (model prog w) A (execs body env) (WStep I d Q) E s₂) (wpAny (model prog w) A (execs [] env) Q E s₂)) E s) :
    ∀ k d s, d < k → I d s → WhlRest prog w A E env test body [] Q k s := by
  intro k
  induction k with
  | zero => intro d s h; exact absurd h (Nat.not_lt_zero _)
  | succ k ih =>
    intro d s hd h
    refine whl_turn hE (wpAny_mono (turn d s h) (fun b s₂ h₂ => ?_) fun _ _ e => e)
    cases b with
    | false =>
      refine WhlIf.no rfl ?_
      unfold WhlIf at h₂
      rwa [if_neg Bool.false_ne_true] at h₂
    | true =>
      refine WhlIf.yes rfl ?_
      unfold WhlIf at h₂
      rw [if_pos rfl] at h₂
      refine wpAny_mono h₂ (fun f s₃ h₃ => ?_) fun _ _ e => e
      cases f with
      | next => obtain ⟨d', hd', hI⟩ := h₃; exact ih d' s₃ (by omega) hI
      | cont => obtain ⟨d', hd', hI⟩ := h₃; exact ih d' s₃ (by omega) hI
      | brk => exact h₃
      | ret v => exact h₃
/-- a while by a word and a measure -/
theorem while_ind {pos : Pos} (hE : PassesOwn (model prog w) A env E) (I : Nat → Shared → Prop) {d : Nat} (h : I d s)
    (turn : ∀ d s, I d s → wpAny (model prog w) A (isTrue test env (eval test env)) (fun b s₂ => WhlIf b (wpAny (model prog w) A (execs body env) (WStep I d Q) E s₂) (wpAny (model prog w) A (execs [] env) Q E s₂)) E s) :
    wpAny (model prog w) A (exec (.While test body [] pos) env) Q E s := whl_start (d + 1) (while_rest hE I turn (d + 1) d s (Nat.lt_succ_self d) h)
end
section
variable {w : World} {A A₀ : Around} {s s' : Shared} {base g G : Heap} {outer : List Env} {L L' f : Addr} {m m' mg mb : Str → Option Value} {mean : ExcName → Option Value} {env : Env} {dp un dp' un' : Nat} {qual : Str} {scope : Scope} {cdv : Value}
theorem at_in (Z : At w A s dp un A₀ base g env outer L m mg mb mean) (B : Below A base (env :: outer) G) (F : Fr G L' s'.heap m') (X : (Mine.hd.heap_39 w.params).In G)
    (T : Top Mine.hd.view_39 (looseW Mine.hd.view_39 [Str.ofString "match_names"]) mean mg mb G) (h1 : dp' + 1 ≤ dp) (h2 : un' + 3 ≤ un) (hk : scope.kind = .function) :
    At w (A.deeper (envOf qual scope L' f cdv)) s' dp' un' A base G (envOf qual scope L' f cdv) (env :: outer) L' m' mg mb mean := by
  refine ⟨B, F, X, T, Around.frames_deeper B.stack, rfl, hk, ?_, ?_, Z.hh⟩
  · have := Z.hd; show A.depth + 1 + dp' < _; omega
  · have := Z.hu; show A.units + 3 + un' < _; omega
end
end Mine
end
section
open PySem PySem.W PySem.Calls PyProof.Rows
namespace Mine
/-- a frame's map by its names -/
noncomputable def lk : List (Str × Option Value) → Str → Option Value
  | [], _ => none
  | p :: r, y => if y = p.1 then p.2 else lk r y
theorem lk_none {l : List (Str × Option Value)} {y : Str} (h : ∀ p ∈ l, p.1 ≠ y) : lk l y = none := by
  induction l with
  | nil => rfl
  | cons p r ih =>
    have h1 : y ≠ p.1 := fun e => h p (.head _) e.symm
    simp only [lk, if_neg h1]
    exact ih fun q hq => h q (.tail _ hq)
theorem lk_ext {l1 l2 : List (Str × Option Value)} (ns : List Str) (h1 : l1.map (·.1) ⊆ ns) (h2 : l2.map (·.1) ⊆ ns) (h : ∀ n ∈ ns, lk l1 n = lk l2 n) : lk l1 = lk l2 := by
  funext y
  by_cases hy : y ∈ ns
  · exact h y hy
  · have a : lk l1 y = none := lk_none fun p hp e => hy (by rw [← e]; exact h1 (List.mem_map_of_mem hp))
    have b : lk l2 y = none := lk_none fun p hp e => hy (by rw [← e]; exact h2 (List.mem_map_of_mem hp))
    rw [a, b]
theorem lookup_lk (l : List (Str × Value)) : (fun y => l.lookup y) = lk (l.map fun p => (p.1, some p.2)) := by
  funext y
  induction l with
  | nil => rfl
  | cons p r ih =>
    obtain ⟨k, v⟩ := p
    simp only [List.map_cons, lk, List.lookup_cons]
    by_cases h : y = k
    · simp [h]
    · simp only [beq_eq_false_iff_ne.mpr h, if_neg h]; exact ih
noncomputable abbrev St := List Int × List (Str × Nat)
noncomputable def dots : Str := Str.ofString "..."
noncomputable def inP (ps : List (Str × Nat)) (n : Str) : Bool := ps.any fun q => decide (q.1 = n)
noncomputable def dbl (n : Str) : Str := Str.ofString "formal argument \"" ++ n ++ Str.ofString "\" matched by multiple actual arguments"
noncomputable def multi (i : Nat) : Str := Str.ofString "argument " ++ Str.ofString (toString ((i : Int) + 1)) ++ Str.ofString " matches multiple formal arguments"
/-- an argument without a tag that isn't taken -/
noncomputable def freeB (tags : List Tag) (used : List Int) (i : Nat) : Bool := decide (used.getD i 0 = 0) && ((tags.getD i none).isNone || decide (tags.getD i none = some (Str.ofString "")))
noncomputable def skipF (tags : List Tag) (used : List Int) : Nat → Nat → Nat
  | 0, place => place
  | k + 1, place => if freeB tags used place = false then skipF tags used k (place + 1) else place
noncomputable def skipTo (tags : List Tag) (used : List Int) (n place : Nat) : Nat := skipF tags used (n - place) place
noncomputable def posAll (tags : List Tag) : List Str → Nat → St → St
  | [], _, st => st
  | name :: r, place, st =>
    if name = dots then st
    else if inP st.2 name then posAll tags r place st
    else if skipTo tags st.1 tags.length place < tags.length then posAll tags r (skipTo tags st.1 tags.length place) (st.1.set (skipTo tags st.1 tags.length place) 2, st.2 ++ [(name, skipTo tags st.1 tags.length place)])
    else posAll tags r (skipTo tags st.1 tags.length place) st
theorem skipTo_stop {tags : List Tag} {used : List Int} {n pl : Nat} (h : ¬ (pl < n ∧ freeB tags used pl = false)) : skipTo tags used n pl = pl := by
  show skipF tags used (n - pl) pl = pl
  cases e : n - pl with
  | zero => rfl
  | succ k => exact if_neg fun q => h ⟨by omega, q⟩
theorem skipTo_step {tags : List Tag} {used : List Int} {n pl : Nat} (h1 : pl < n) (h2 : freeB tags used pl = false) : skipTo tags used n pl = skipTo tags used n (pl + 1) := by
  show skipF tags used (n - pl) pl = skipF tags used (n - (pl + 1)) (pl + 1)
  rw [show n - pl = n - (pl + 1) + 1 by omega]
  exact if_pos h2
/-- the ints' values -/
structure IntsV (vs : List Value) (us : List Int) : Prop where
  len : vs.length = us.length
  at_ : ∀ (i : Nat) (k : Int), us[i]? = some k → ∃ t, vs[i]? = some (.int k t)
theorem IntsV.set {vs : List Value} {us : List Int} (h : IntsV vs us) (i : Nat) (k : Int) (t : Tok) : IntsV (vs.set i (.int k t)) (us.set i k) := by
  refine ⟨by simp [h.len], fun j q hj => ?_⟩
  rw [List.getElem?_set] at hj ⊢
  by_cases e : i = j
  · subst e
    rw [h.len]
    simp only [if_true] at hj ⊢
    split at hj
    · rename_i hl; rw [if_pos hl]; cases hj; exact ⟨t, rfl⟩
    · cases hj
  · simp only [e, if_false] at hj ⊢
    exact h.at_ j q hj
/-- the places' dict -/
structure PlacesK (kvs : List (Str × Value)) (ps : List (Str × Nat)) : Prop where
  keys : kvs.map (·.1) = ps.map (·.1)
  at_ : ∀ (i : Nat) (q : Str × Nat), ps[i]? = some q → ∃ t, kvs[i]? = some (q.1, .int (q.2 : Int) t)
theorem PlacesK.nil : PlacesK [] [] := ⟨rfl, fun _ _ h => by simp at h⟩
theorem PlacesK.isSome {kvs : List (Str × Value)} {ps : List (Str × Nat)} (h : PlacesK kvs ps) (n : Str) : (valueAt kvs n).isSome = inP ps n := by
  have e1 : (valueAt kvs n).isSome = (kvs.map (·.1)).any fun k => decide (k = n) := by
    unfold valueAt
    rw [Option.isSome_map, List.any_map, List.isSome_find?]; rfl
  rw [e1, h.keys, List.any_map]; rfl
theorem PlacesK.snoc {kvs : List (Str × Value)} {ps : List (Str × Nat)} (h : PlacesK kvs ps) {n : Str} (hn : inP ps n = false) (i : Nat) (t : Tok) : PlacesK (stored kvs n (.int (i : Int) t)) (ps ++ [(n, i)]) := by
  have e : kvs.any (fun kv => kv.1 = n) = false := by
    have := h.isSome n
    rw [hn] at this
    unfold valueAt at this
    rw [Option.isSome_map] at this
    rw [Bool.eq_false_iff]; intro q
    rw [List.any_eq_true] at q
    obtain ⟨x, hx, hx2⟩ := q
    have := (List.find?_isSome (p := fun kv : Str × Value => decide (kv.1 = n))).mpr ⟨x, hx, hx2⟩
    simp_all
  unfold stored
  rw [e]
  have hl : kvs.length = ps.length := by have := congrArg List.length h.keys; simpa using this
  refine ⟨by simp [h.keys], fun j q hj => ?_⟩
  rcases Nat.lt_trichotomy j ps.length with hj2 | hj2 | hj2
  · rw [List.getElem?_append_left hj2] at hj
    simp only [Bool.false_eq_true, if_false]
    rw [List.getElem?_append_left (by omega)]
    exact h.at_ j q hj
  · subst hj2
    simp at hj; subst hj
    refine ⟨t, ?_⟩
    simp [← hl]
  · rw [List.getElem?_eq_none (by simp; omega)] at hj; cases hj
end Mine
end
section
open PySem PySem.W PySem.Calls PyProof.Rows
set_option maxRecDepth 100000
set_option maxHeartbeats 8000000
namespace Mine
theorem say_MPos_6 : True := by
  k_with_none
  exact trivial
noncomputable def Halt (P : Prop) : Prop := P
theorem halt {P : Prop} (h : Halt P) : P := h
structure StrsV (vs : List Value) (xs : List Str) : Prop where
  len : vs.length = xs.length
  at_ : ∀ (i : Nat) (x : Str), xs[i]? = some x → ∃ t, vs[i]? = some (.str x t)
/-- where a Matching stands -/
structure MAt where
  x : Addr
  dx : Addr
  f : Addr
  t : Addr
  u : Addr
  p : Addr
  k1 : Tok
  k2 : Tok
  k3 : Tok
  k4 : Tok
  n : Nat
structure MAt.Apart (a : MAt) : Prop where
  xd : @Ne Nat a.x a.dx
  xu : @Ne Nat a.x a.u
  xp : @Ne Nat a.x a.p
  du : @Ne Nat a.dx a.u
  dp : @Ne Nat a.dx a.p
  up : @Ne Nat a.u a.p
  fx : a.f ≠ a.x ∧ a.f ≠ a.dx ∧ a.f ≠ a.u ∧ a.f ≠ a.p
  tx : a.t ≠ a.x ∧ a.t ≠ a.dx ∧ a.t ≠ a.u ∧ a.t ≠ a.p
  lo : (a.p == sysModules) = false
noncomputable abbrev MAt.led (a : MAt) (P : Params) (ou op : Obj) : List (Addr × Obj) := [(a.x, instObj 103 a.dx), (a.dx, dictOf (selfL P a.k1 a.k2 a.k3 a.k4 a.f a.t a.u a.p) a.n), (a.u, ou), (a.p, op)]
structure MIs (w : World) (ou op : Obj) (st : St) (uvs : List Value) (kvs : List (Str × Value)) : Prop where
  lst : LstO ou uvs
  its : IntsV uvs st.1
  dct : op.IsDictOf (strKind PySem.Challenge.rw_ov0042_01.row.prog w) kvs
  plc : PlacesK kvs st.2
section
variable {w : World} {A A₀ : Around} {s : Shared} {base g : Heap} {outer : List Env} {L : Addr} {m mg mb : Str → Option Value} {mean : ExcName → Option Value} {env : Env}
  {Q : Value → Shared → Prop} {E : Value → Shared → Prop}
inductive JP2 (s : Shared) (G : Heap) (L' : Addr) (w : World) (x dx f t u p : Addr) (k1 k2 k3 k4 : Tok) (n : Nat) (tags : List Tag) (st' : St) (ou' op' : Obj) (own : List (Addr × Obj)) (nm : Str) (tv : Tok) (place : Nat) (d : Nat) (s' : Shared) : Prop
  | mk (pl : Nat) (tp : Tok) (m : Str → Option Value) (h : Heap) (tk : Nat) (h1 : s' = { s with heap := h, toks := tk }) (h2 : d = tags.length - pl) (h3 : pl ≤ tags.length) (h4 : m (Str.ofString "self") = some (.ref x)) (h5 : m (Str.ofString "place") = some (.int (pl : Int) tp)) (h6 : m (Str.ofString "name") = some (.str nm tv)) (h7 : skipTo tags st'.1 tags.length pl = skipTo tags st'.1 tags.length place) (h8 : Fr G L' h m) (h9 : News G L' h ((x, instObj 103 dx) :: (dx, dictOf (selfL w.params k1 k2 k3 k4 f t u p) n) :: (u, ou') :: (p, op') :: own)) : JP2 s G L' w x dx f t u p k1 k2 k3 k4 n tags st' ou' op' own nm tv place d s'
inductive JP1 (w : World) (x dx f t u p : Addr) (k1 k2 k3 k4 : Tok) (n : Nat) (tags : List Tag) (formals : List Str) (st : St) (i : Nat) (m₁ : Str → Option Value) (led : List (Addr × Obj)) : Prop
  | mk (place : Nat) (tk : Tok) (st' : St) (ou op : Obj) (uvs : List Value) (kvs : List (Str × Value)) (h1 : m₁ (Str.ofString "self") = some (.ref x)) (h2 : m₁ (Str.ofString "place") = some (.int (place : Int) tk)) (h3 : led = [(x, instObj 103 dx), (dx, dictOf (selfL w.params k1 k2 k3 k4 f t u p) n), (u, ou), (p, op)]) (h4 : MIs w ou op st' uvs kvs) (h5 : place ≤ tags.length) (h6 : st'.1.length = tags.length) (h7 : st'.2.length ≤ st.2.length + i) (h8 : posAll tags (formals.drop i) place st' = posAll tags formals 0 st) : JP1 w x dx f t u p k1 k2 k3 k4 n tags formals st i m₁ led
theorem say_MPos_7 : True := by
  k_with_none
  (k_with "subscriptTail" => (k_here; (with_reducible show wpAny _ _ (subscriptTail _ _ (Value.ref _) (Value.int _ _)) _ _ _); k_dflt (refine' tail_L (by exact isList_G (by k_asm) (by assumption)) (by omega) (by omega) (by assumption) ?_ (by with_unfolding_all rfl);  k_whole)))
  (k_with "eval Name" => (k_here; k_dflt (refine' nameX_L (by k_asm) (by first | rfl | assumption) ?_ (by rfl) (by rfl);  k_whole)))
  (k_with "own iter" => ((with_reducible show wpAny _ _ (pyIter (Value.ref _)) (fun it s₂ => LoopAtV _ _ _ _ _ _ _ _ _ it s₂) _ _); refine halt ?_))
  (k_with "exec While BoolOp" => (refine halt ?_))
  (k_with "InvEndN" => (refine halt ?_))
  (k_with "compareOp NotIn str ref" => (k_dflt (refine' notIn_Db (by k_asm) (by k_mem) (by assumption) (by assumption) (by exact PlacesK.isSome (by assumption) _) ?_;  k_whole)))
  (k_with "compareOp In str ref" => (k_dflt (refine' in_Db (by k_asm) (by k_mem) (by assumption) (by assumption) (by exact PlacesK.isSome (by assumption) _) ?_;  k_whole)))
  (k_with "call builtin:len" => (k_here; k_dflt (refine' len_L (by exact isList_G (by k_asm) (by assumption)) (by first | exact TagsAre.len (by assumption) | exact IntsV.len (by assumption) | exact StrsV.len (by assumption)) (by omega) ?_); intro _ _))
  (k_with "setItem" => (k_here; (with_reducible show wpAny _ _ (setItem (Value.ref _) (Value.str _ _) _) _ _ _); k_dflt (refine' set_D (by k_asm) (by k_asm) (by k_updF) (by assumption) (by first | decide | omega) ?_;  k_whole); intro _ _ _ _ _))
  (k_with "setItem" => (k_here; (with_reducible show wpAny _ _ (setItem (Value.ref _) (Value.int _ _) _) _ _ _); k_dflt (refine' set_L (by k_asm) (by k_asm) (by k_updF) (by assumption) (by omega) (by omega) (by omega) ?_;  k_whole); intro _ _ _ _ _))
  (k_with "loadName" => (k_here; k_dflt (refine' ldn (by k_asm) (by first | rfl | assumption) ?_ (by rfl) (by rfl);  k_whole)))
  (k_with "memall" => ((repeat (refine List.forall_mem_cons.mpr ⟨by k_mem, ?_⟩)); exact List.forall_mem_nil _))
  (k_with "WStep" => (refine halt ?_))
  (k_with "WhlIf" => (first | (refine WhlIf.yes rfl ?_) | (refine WhlIf.no rfl ?_)))
  (k_with "call ref" => (k_here; (with_reducible show wpAny _ _ (call (Value.ref 95) _ _) _ _ _); refine halt ?_))
  exact trivial
theorem positional_spec {a : MAt} {ou op : Obj} {st : St} {uvs tvs fvs : List Value} {kvs : List (Str × Value)} {tags : List Tag} {formals : List Str} (Z : At w A s 4 20 A₀ base g env outer L m mg mb mean)
   (N : News g L s.heap (a.led w.params ou op)) (hap : a.Apart) (hI : MIs w ou op st uvs kvs)
   (ht : s.heap.IsList a.t tvs.toArray) (hT : TagsAre tvs tags) (hf : s.heap.IsList a.f fvs.toArray) (hF : StrsV fvs formals) (hl1 : tags.length ≤ 500) (hl2 : formals.length ≤ 100) (hl3 : st.2.length ≤ 800) (hl4 : st.1.length = tags.length)
   (hQ : ∀ h' tk' ou' op' uvs' kvs', Kept [a.u, a.p] s.heap h' → h'.get? a.u = some ou' → h'.get? a.p = some op' → MIs w ou' op' (posAll tags formals 0 st) uvs' kvs' → Q .none { s with heap := h', toks := tk' }) :
   wpAny (model PySem.Challenge.rw_ov0042_01.row.prog w) A (call (.ref 88) [.ref a.x]) Q E s := by
  have hX := Z.X; revert hX; k_fill; intro hX
  obtain ⟨x, dx, f, t, u, p, k1, k2, k3, k4, n⟩ := a
  obtain ⟨xd, xu, xp, du, dp, up, fx, tx, lo⟩ := hap
  dsimp only [MAt.led] at *
  refine wpAny_call ?_
  refine enter (binds := [(Str.ofString "self", .ref x)]) Z N rfl rfl (by decide) (BindsTo.of_eq rfl) (locs rfl) (fun G L' h₁ F' N' B' X' T' hG hG2 hL hlt => ?_) rfl rfl rfl (by decide)
  dsimp only
  k_fold
  have htG : G.IsList t tvs.toArray := by
    obtain ⟨o, ho, r⟩ := ht
    exact ⟨o, hG t o ho (by simpa using tx), r⟩
  have hfG : G.IsList f fvs.toArray := by
    obtain ⟨o, ho, r⟩ := hf
    exact ⟨o, hG f o ho (by simpa using fx), r⟩
  k_steps
  rename Fr _ _ _ _ => Fz
  rename News _ _ _ _ => Nz
  unfold Halt
  refine loop_list (JP1 w x dx f t u p k1 k2 k3 k4 n tags formals st) Z.hh hfG Fz Nz ?_ ?_ ?_
  · exact ⟨0, _, st, ou, op, uvs, kvs, rfl, rfl, rfl, hI, Nat.zero_le _, hl4, by omega, rfl⟩
  · rintro i v m₁ news₁ h tk own hv _ hoff ⟨place, tp, st', ou', op', uvs', kvs', hself, hplace, rfl, ⟨hlst, hits, hdct, hplc⟩, hpl, hs1, hs2, hpos⟩ F₁ N₁
    simp only [List.map_cons, List.map_nil] at hoff
    dsimp only [List.cons_append, List.nil_append] at N₁
    have hi : i < formals.length := by
      have := (List.getElem?_eq_some_iff.mp hv).1
      rw [hF.len] at this; exact this
    obtain ⟨tv, hv'⟩ := hF.at_ i formals[i] (by simp [hi])
    rw [hv] at hv'; cases hv'
    rw [List.drop_eq_getElem_cons hi] at hpos
    generalize formals[i] = nm at hpos F₁
    clear hv Fz Nz
    try k_fold
    k_steps
    · rename (nm == Str.ofString "...") = true => hnd
      rw [posAll, if_pos (by simpa [dots] using hnd)] at hpos
      refine hQ _ _ ou' op' uvs' kvs' (kept_led hG N F₁ N₁ ?_) (N₁.get (by simp)) (N₁.get (by simp)) (hpos ▸ ⟨hlst, hits, hdct, hplc⟩)
      intro q hq hn
      simp only [List.mem_cons, List.not_mem_nil, or_false] at hq hn ⊢
      rcases hq with rfl | rfl | rfl | rfl <;> simp_all
    · unfold Halt
      rename (nm == Str.ofString "...") = false => hnd
      rename inP st'.2 nm = true => hnp
      rw [posAll, if_neg (by simpa [dots] using hnd), if_pos hnp] at hpos
      exact InvEndN.intro F₁ N₁ ⟨place, tp, st', ou', op', uvs', kvs', hself, hplace, rfl, ⟨hlst, hits, hdct, hplc⟩, hpl, hs1, by omega, hpos⟩ rfl (by walk_at "memall") (fun q hq => by simp [hq])
    · unfold Halt
      rename (nm == Str.ofString "...") = false => hnd
      rename inP st'.2 nm = false => hnp
      refine while_ind (by passes_own) (JP2 s G L' w x dx f t u p k1 k2 k3 k4 n tags st' ou' op' own nm tv place) (d := tags.length - place) ?_ ?_
      · exact ⟨place, tp, fun y => if y = Str.ofString "name" then some (Value.str nm tv) else m₁ y, h, _, rfl, rfl, hpl, hself, hplace, rfl, rfl, F₁, N₁⟩
      · clear F₁ N₁ hself hplace
        rintro d s₁ ⟨pl, tp, m₂, h, tk, rfl, rfl, hpl2, hself, hplace, hname, hsk, F₂, N₂⟩
        by_cases hlt2 : pl < tags.length
        · obtain ⟨tgv, htv, htg⟩ := hT.at_ pl tags[pl] (by simp [hlt2])
          obtain ⟨tu, hut⟩ := hits.at_ pl (st'.1[pl]'(by omega)) (by simp [hs1, hlt2])
          have hkl : kvs'.length ≤ 1000 := by
            have := congrArg List.length hplc.keys
            simp only [List.length_map] at this
            omega
          have hul : uvs'.length = tags.length := by rw [hits.len, hs1]
          k_steps
          unfold Halt
          rename Fr G L' _ _ => F3
          rename News G L' _ _ => N3
          refine free_spec (at_in Z B' F3 X' T' (by decide) (by decide) rfl) (news_sub N3 (by walk_at "memall")) xd (isList_G F3 htG) (hlst.isList (N3.get (by simp))) ⟨tx.1, tx.2.1⟩ ⟨Ne.symm xu, Ne.symm du⟩ (by omega) htv hut htg ?_
          intro h9 tk9 k9
          replace F3 := fr_after (W := []) F3 (by simp) k9
          replace N3 := news_kept (W := []) N3 (by simp) k9
          have hb : (decide (st'.1[pl]'(by omega) = 0) && (tags[pl].isNone || decide (tags[pl] = some (Str.ofString "")))) = freeB tags st'.1 pl := by simp [freeB, hs1, hlt2]
          rw [hb]
          clear k9
          cases hfb : freeB tags st'.1 pl with
          | false =>
            k_steps
            unfold Halt
            rename Fr G L' _ _ => F4
            rename News G L' _ _ => N4
            refine ⟨tags.length - (pl + 1), by omega, pl + 1, ?tp, _, _, _, rfl, rfl, by omega, ?sf, ?pc, ?nm, (skipTo_step hlt2 hfb).symm.trans hsk, F4, N4⟩
            case sf => exact hself
            case nm => exact hname
            case pc => rw [show ((pl + 1 : Nat) : Int) = (pl : Int) + 1 by omega]; rfl
          | true =>
            have hsk2 : skipTo tags st'.1 tags.length place = pl := by rw [← hsk]; exact skipTo_stop (by simp [hfb])
            have hpos2 := hpos
            rw [posAll, if_neg (by simpa [dots] using hnd), if_neg (by simp [hnp]), hsk2, if_pos hlt2] at hpos2
            k_steps
            unfold Halt
            rename Fr G L' _ _ => F4
            rename News G L' _ _ => N4
            rename LstO _ _ => hl4
            rename Obj.IsDictOf _ _ _ => hd4
            have hn : ((pl : Int)).toNat = pl := by omega
            rw [hn] at hl4
            exact InvEndN.intro F4 N4 ⟨pl, tp, (st'.1.set pl 2, st'.2 ++ [(nm, pl)]), _, _, _, _, hself, hplace, rfl, ⟨hl4, hits.set pl 2 _, hd4, hplc.snoc hnp pl _⟩, hpl2, by simp [hs1], by simp; omega, hpos2⟩ rfl (by walk_at "memall") (fun q hq => by simp [hq])
        · have hsk2 : skipTo tags st'.1 tags.length place = pl := by rw [← hsk]; exact skipTo_stop (by simp [hlt2])
          have hpos2 := hpos
          rw [posAll, if_neg (by simpa [dots] using hnd), if_neg (by simp [hnp]), hsk2, if_neg hlt2] at hpos2
          k_steps
          unfold Halt
          rename Fr G L' _ _ => F3
          rename News G L' _ _ => N3
          exact InvEndN.intro F3 N3 ⟨pl, tp, st', ou', op', uvs', kvs', hself, hplace, rfl, ⟨hlst, hits, hdct, hplc⟩, hpl2, hs1, by omega, hpos2⟩ rfl (by walk_at "memall") (fun q hq => by simp [hq])
  · rintro m₁ news₁ h tk _ ⟨place, tp, st', ou', op', uvs', kvs', hself, hplace, rfl, hI', hpl, hs1, hs2, hpos⟩ F₁ N₁
    rw [hF.len, List.drop_length] at hpos
    clear Fz Nz
    dsimp only
    k_steps
    refine hQ _ _ ou' op' uvs' kvs' (kept_led hG N F₁ N₁ ?_) (N₁.get (by simp)) (N₁.get (by simp)) (hpos ▸ hI')
    intro q hq hn
    simp only [List.mem_cons, List.not_mem_nil, or_false] at hq hn ⊢
    rcases hq with rfl | rfl | rfl | rfl <;> simp_all
end
end Mine
end
section
open PySem PySem.W PySem.Calls PyProof.Rows
set_option maxRecDepth 100000
set_option maxHeartbeats 4000000
namespace Mine
noncomputable abbrev exMro : List Value := [.type "Exception", .type "BaseException", .type "object"]
noncomputable abbrev excObj (t : Addr) : Obj := { cls := .ref 44, data := .fields #[.ref t, .none, .none, .none, .bool false, .none] }
noncomputable abbrev tupObj (vs : List Value) : Obj := { cls := .type "tuple", data := .seq vs.toArray }
section
variable {prog : Program} {w : World} {A : Around} {R : Result → Shared → Prop} {h : Heap} {g : Array GenState} {d : Drawn} {t : Nat} {os : OsState}
theorem cls44 (X : (Mine.hd.heap_39 w.params).In h) : h.get? 44 = some (excClassObj (Str.ofString "Refusal") (Str.ofString "Refusal") 44 43 [.ref 24] (.ref 24 :: exMro) true [] [] false none none (some (.ref 28)) none
    (some (.str (Str.ofString "Refusal") 209)) (some (.str (Str.ofString "Refusal") 217)) (some (.bool true)) "Exception.__new__") := X 44 _ rfl
theorem tail44 (X : (Mine.hd.heap_39 w.params).In h) : OwnTail h exMro (.ref 24 :: exMro) := tail_of_in X (by kernel_rfl)
theorem new_refusal (X : (Mine.hd.heap_39 w.params).In h) {msg : Value}
    (hq : codeAny (model prog w) (A.under (.builtin "type.__call__" ⟨[.ref 44, msg], []⟩)) (.call (.ref 41) ⟨[.ref (h.objs.size + 1), msg], []⟩) (InitBack (h.objs.size + 1) R) ⟨(h.push (tupObj [msg])).push (excObj h.objs.size), g, d, t, os⟩) :
    codeAny (model prog w) A (.call (.ref 44) ⟨[msg], []⟩) R ⟨h, g, d, t, os⟩ := by
  have hC := cls44 X
  have F := PySem.F.excBase_Exception
  have call : Looks (model prog w) h (specialOf (.ref 44) "__call__") (some (.builtin "type.__call__")) := looks_specialIn X (by kernel_rfl)
  have typ : Looks (model prog w) h (isInstance (.ref 44) (.type "type")) true := looks_instIn X (by kernel_rfl)
  have hm : Looks (model prog w) h (mroOf (.ref 44)) (.ref 44 :: .ref 24 :: exMro) := ((Looks.ld (part := none) hC).andThen .now).andThen .now
  have made : Looks (model prog w) h (Bind.madeBy (.ref 44)) (some "Exception.__new__") := by
    intro A Q E s k q
    obtain ⟨hp, g, d, tk, os⟩ := s
    exact wpAny_madeBy_exc (k _ _ hC) q
  have self : Looks (model prog w) h (isSubtype (.ref 44) (.ref 44)) true := looks_mroIn X (by kernel_rfl)
  have hi : Looks (model prog w) h (typeLookup (.ref 44) "__init__") (some (.ref 41)) := looks_findIn X (by kernel_rfl)
  have hb : ∀ self, Looks (model prog w) h (bindSpecial (.ref 41) self) (.ref 41, [self]) := fun self => bind_fn X self (by kernel_rfl)
  refine codeAny_of_tree ?_
  show wpAny _ _ (callAny (.ref 44) _) _ _ _
  refine nd_load hC ?_
  show wpAny _ _ (callAny.viaDunder (.ref 44) _) _ _ _
  unfold callAny.viaDunder
  refine wpAny_bind (call.at ?_)
  dsimp only
  rw [tc_bind]
  refine wpAny_bind (wpAny_pure (wpAny_bind (wpAny_pure ?_)))
  refine wpAny_pure (a := Fin.again (.call (.builtin "type.__call__") ⟨[.ref 44, msg], []⟩)) (And.intro rfl ?_)
  refine codeAny_call_builtin_at (Code.quiet_builtin _ (by decide +kernel)) entry_typeCall (check_slot tc_kind tc_split typ (tc_args _ _ _) ?_)
  unfold Builtin.«type.__call__»
  repeat (first | with_reducible refine wpAny_call ?_ | lk)
  refine codeAny_call_builtin_code (Code.quiet_builtin _ F.quiet) (wpAny_check_new_subT F (tail44 X) hC ?_)
  refine codeAny_exc_new_subT F (tail44 X) hC ?_ (by show 1 ≤ sizeLine; decide)
  have k : ∀ b o, h.get? b = some o → ((h.push (tupObj [msg])).push (excObj h.objs.size)).get? b = some o := fun b o e => Heap.get?_push_of_some _ (Heap.get?_push_of_some _ e)
  have hx : ((h.push (tupObj [msg])).push (excObj h.objs.size)).get? (h.objs.size + 1) = some (excObj h.objs.size) := by heap_get
  have t1 : Looks (model prog w) ((h.push (tupObj [msg])).push (excObj h.objs.size)) (typeOf (.ref (h.objs.size + 1))) (.ref 44) := (Looks.ld hx).andThen .now
  have s1 := self.keeps k
  have i1 := hi.keeps k
  have b1 := (hb (.ref (h.objs.size + 1))).keeps k
  unfold isInstance callSpecial? specialOf
  repeat (first | with_reducible refine wpAny_call ?_ | lk)
  refine codeAny_mono hq fun r s' z => ?_
  rcases r with e | (v | _ | _ | _) <;> first | exact z | exact z.elim | skip
  obtain ⟨rfl, z⟩ := z
  exact wpAny_pure (wpAny_pure z)
end
end Mine
namespace Mine
open Builtin Builtin.ObjectAttr
noncomputable abbrev msgDict (P : Params) (v : Value) (t : Tok) : Obj := dictOf [⟨PyData.keyHash P (Str.ofString "message"), .str (Str.ofString "message") t, v⟩] 1
section
variable {prog : Program} {w : World} {A : Around} {E : Value → Shared → Prop} {s : Shared} {x : Addr} {vs : Array Value} {sl : Array (Option Value)} {v : Value} {Q : Unit → Shared → Prop}
theorem store_msg (X : (Mine.hd.heap_39 w.params).In s.heap) (I : InstAt s.heap x ⟨.ref 44, none, .fields vs, sl⟩ 44 none)
    (hq : ∀ h' tk' t, h'.get? x = some ⟨.ref 44, some s.heap.objs.size, .fields vs, sl⟩ → h'.get? s.heap.objs.size = some (msgDict w.params v t) → (∀ b o, b ≠ x → s.heap.get? b = some o → h'.get? b = some o) → Q () { s with heap := h', toks := tk' }) :
    wpAny (model prog w) A (setAttr (.ref x) (Str.ofString "message") v) Q E s := by
  refine set_plain X I (by kernel_rfl) ?_
  generalize s.toks = tk0
  obtain ⟨h, g, d, t, os⟩ := s
  dsimp only at *
  have SF := PySem.F.store_object
  have sub : Looks (model prog w) h (isInstance (.ref x) (.type "object")) true := I.type.andThen (looks_mroIn X (by kernel_rfl))
  have hm : Looks (model prog w) h (mroOf (.ref 44)) (.ref 44 :: .ref 24 :: exMro) := ((Looks.ld (part := none) (cls44 X)).andThen .now).andThen .now
  have ha : Looks (model prog w) h (typeLookup (.ref 44) "message") none := looks_findIn X (by kernel_rfl)
  refine codeAny_call_builtin SF.slot.plain SF.entry (@check_slot (model prog w) _ _ _ "object.__setattr__" "object" "__setattr__" (.ref x) [.str (Str.ofString "message") tk0, v] [] _ SF.kind SF.split sub (SF.args (.ref x) (.str (Str.ofString "message") tk0) v) ?_)
  rw [osa_eq, refuse_eq]
  refine wpAny_bind (wpAny_bind (I.type.here (wpAny_bind (hm.here ?_))))
  rw [refuseLoop_ref, refuseLoop_ref, PySem.F.store_Exception.passes]
  refine wpAny_pure (wpAny_bind (I.type.here (wpAny_bind (ha.here ?_))))
  refine wpAny_bind (wpAny_pure ?_)
  have hx := I.at_
  show wpAny _ _ (storeInOwnDict (.ref x) (.ref 44) _ _ _ _) _ _ _
  unfold storeInOwnDict
  have hcl : clsIn (Mine.hd.heap_39 w.params) 44 = some { name := Str.ofString "Refusal", bases := [.ref 24], mro := .ref 44 :: .ref 24 :: exMro, ns := 43, qualname := Str.ofString "Refusal" } := by rfl
  refine wpAny_bind (wpAny_pure (wpAny_bind (wpAny_bind (wpAny_loadPart hx (wpAny_bind ((looks_clsIn X hcl).here ?_))))))
  have hxs : x ≠ h.objs.size := Nat.ne_of_lt (Heap.lt_size hx)
  have hx₁ : (h.push { cls := .type "dict", data := .dict #[] }).get? x = some ⟨.ref 44, none, .fields vs, sl⟩ := Heap.get?_push_of_some _ hx
  refine wpAny_bind (wpAny_alloc (wpAny_bind (wpAny_update hx₁ ?_)))
  refine wpAny_pure ?_
  show wpAny _ _ (storeInDict h.objs.size _ _ _) _ _ _
  unfold storeInDict newKeyGuard nsSet
  have hgd : ((h.push { cls := .type "dict", data := .dict #[] }).update x fun o => { o with dict := some h.objs.size }).get? h.objs.size = some (dictOf [] 0) :=
    (Heap.get?_update_ne _ _ _ _ hxs.symm).trans (Heap.get?_push_at rfl rfl)
  refine wpAny_bind (wpAny_pure (wpAny_bind ?_))
  refine wpAny_bind (wpAny_bind (wpAny_askSetting (wpAny_pure (wpAny_bind (wpAny_mkText (wpAny_bind (wpAny_loadPart hgd ?_)))))))
  dsimp only
  rw [show aRefKeyMayBeTheName (Str.ofString "message") #[] = false from by rw [aRefKeyMayBeTheName_at]; simp, if_neg Bool.false_ne_true]
  refine wpAny_updatePart hgd ?_
  have hd2 := Heap.get?_update_self (Obj.putName (Str.ofString "message") (PyData.keyHash w.params (Str.ofString "message")) (.str (Str.ofString "message") (tk0 + 1)) v) hgd (by rw [putName_dict]; rfl)
  rw [putName_dict] at hd2
  refine wpAny_bind (wpAny_lookBehind hd2 (pastItsLine_dict (show 1 ≤ sizeLine + 1 by decide)) ?_)
  refine wpAny_pure (hq _ _ (tk0 + 1) ?_ hd2 fun b o hb e => ?_)
  · refine (Heap.get?_update_ne _ _ _ _ hxs).trans ?_
    exact Heap.get?_update_self _ hx₁ rfl
  · rw [Heap.get?_update_ne _ _ _ _ (Nat.ne_of_lt (Heap.lt_size e)), Heap.get?_update_ne _ _ _ _ hb]
    exact Heap.get?_push_of_some _ e
end
end Mine
end
section
open PySem PySem.W PySem.Calls PyProof.Rows
set_option maxRecDepth 100000
set_option maxHeartbeats 4000000
namespace Mine
section
variable {w : World} {A A₀ : Around} {s s' : Shared} {base g : Heap} {outer : List Env} {L : Addr} {m mg mb : Str → Option Value} {mean : ExcName → Option Value} {env : Env} {dp un dp' un' : Nat}
  {Q : Value → Shared → Prop} {E : Value → Shared → Prop}
theorem say_MExc2_8 : True := by
  k_with_none
  (k_with "setAttr ref" => (refine halt ?_))
  exact trivial
theorem at_cls (Z : At w A s dp un A₀ base g env outer L m mg mb mean) {C : Addr} {vals : List Value} {m' : Str → Option Value} (F : Fr g L s'.heap m') (h1 : dp' + 1 ≤ dp) (h2 : un' + 3 ≤ un) :
    At w (A.under (.builtin "type.__call__" ⟨.ref C :: vals, []⟩)) s' dp' un' A₀ base g env outer L m' mg mb mean := by
  refine ⟨Z.B, F, Z.X, Z.T, ?_, Z.hf, Z.hk, ?_, ?_, Z.hh⟩
  · exact Z.hA
  · have := Z.hd; show A.depth + 1 + dp' < _; omega
  · have := Z.hu
    have e : (Code.builtin "type.__call__" ⟨.ref C :: vals, []⟩).cUnits = 1 := rfl
    show A.units + (Code.builtin "type.__call__" ⟨.ref C :: vals, []⟩).cUnits + un' < _
    omega
theorem refusal_spec {msg : Str} {tm0 : Tok} (Z : At w A s 4 20 A₀ base g env outer L m mg mb mean)
    (hQ : ∀ h' tk' x dx t tt tm, Kept [] s.heap h' → s.heap.get? x = none → s.heap.get? dx = none → s.heap.get? t = none → x ≠ dx → h'.get? x = some ⟨.ref 44, some dx, .fields #[.ref t, .none, .none, .none, .bool false, .none], #[]⟩ →
      h'.get? dx = some (msgDict w.params (.str msg tm) tt) → h'.get? t = some (tupObj [.str msg tm0]) → Q (.ref x) { s with heap := h', toks := tk' }) :
    wpAny (model PySem.Challenge.rw_ov0042_01.row.prog w) A (call (.ref 44) [.str msg tm0]) Q E s := by
  have hX := Z.X; revert hX; k_fill; intro hX
  obtain ⟨h, gs, d, tks, os⟩ := s
  dsimp only at *
  have Xh : (Mine.hd.heap_39 w.params).In h := hX.keeps Z.F.keep
  refine wpAny_call (new_refusal Xh ?_)
  have F1 : Fr g L ((h.push (tupObj [.str msg tm0])).push (excObj h.objs.size)) m := (Z.F.push _).push _
  have none_ : ∀ a, h.objs.size ≤ a → h.get? a = none := fun a ha => Heap.get?_none_of_le ha
  have gnone : ∀ a, h.objs.size ≤ a → g.get? a = none := fun a ha => by
    cases q : g.get? a with
    | none => rfl
    | some o => exact absurd (Heap.lt_size (Z.F.keep _ _ q)) (Nat.not_lt.mpr ha)
  have hL := Z.F.ns.lt
  have N1 : News g L ((h.push (tupObj [.str msg tm0])).push (excObj h.objs.size)) [(h.objs.size + 1, excObj h.objs.size), (h.objs.size, tupObj [.str msg tm0])] := by
    have := ((News.nil (h₀ := g) (L := L) (h := h)).push Z.F (tupObj [.str msg tm0])).push (Z.F.push _) (excObj h.objs.size)
    rwa [Heap.size_push] at this
  refine enter (s := ⟨(h.push (tupObj [.str msg tm0])).push (excObj h.objs.size), gs, d, tks, os⟩) (binds := [(Str.ofString "self", .ref (h.objs.size + 1)), (Str.ofString "message", .str msg tm0)]) (at_cls (s' := ⟨(h.push (tupObj [.str msg tm0])).push (excObj h.objs.size), gs, d, tks, os⟩) (dp' := 2) (un' := 8) Z F1 (by decide) (by decide)) N1 rfl rfl (by decide) (BindsTo.of_eq rfl) (locs rfl) (fun G L' h₁ F' N' B' X' T' hG hG2 hLn hlt => ?_) rfl rfl rfl (by decide)
  dsimp only
  k_fold
  k_steps
  unfold Halt
  have hx1 : h₁.get? (h.objs.size + 1) = some (excObj h.objs.size) := N'.get (by simp)
  have ht1 : h₁.get? h.objs.size = some (tupObj [.str msg tm0]) := N'.get (by simp)
  have hlt1 := Heap.lt_size hx1
  refine store_msg (X'.keeps F'.keep) ⟨hx1, rfl, rfl, trivial⟩ ?_
  intro h2 tk2 t2 hx2 hd2 hk2
  have e0 : ∀ b, b < h.objs.size → b ≠ h.objs.size + 1 ∧ b ≠ h.objs.size := fun b hb => ⟨Nat.ne_of_lt (Nat.lt_succ_of_lt hb), Nat.ne_of_lt hb⟩
  dsimp only
  k_steps
  refine ⟨rfl, hQ h2 _ _ h₁.objs.size _ t2 tm0 (fun b o _ e => ?_) (none_ _ (Nat.le_succ _)) (none_ _ (Nat.le_of_lt (Nat.lt_trans (Nat.lt_succ_self _) hlt1))) (none_ _ (Nat.le_refl _)) (Nat.ne_of_lt hlt1) hx2 hd2 (hk2 _ _ (Nat.ne_of_lt (Nat.lt_succ_self _)) ht1)⟩
  have hb := Heap.lt_size e
  refine hk2 b o (e0 b hb).1 (F'.keep b o (hG b o (Heap.get?_push_of_some _ (Heap.get?_push_of_some _ e)) ?_))
  simp only [List.map_cons, List.map_nil, List.mem_cons, List.not_mem_nil, or_false, not_or]
  exact e0 b hb
end
end Mine
namespace Mine
/-- a Refusal as an object: its dict, what its record holds -/
noncomputable abbrev refObj (dx t : Addr) : Obj := ⟨.ref 44, some dx, .fields #[.ref t, .none, .none, .none, .bool false, .none], #[]⟩
section
variable {prog : Program} {w : World} {A : Around} {E : Value → Shared → Prop} {s : Shared} {env : Env} {Q : Flow → Shared → Prop}
theorem say_MExc2_9 : True := by
  k_with_none
  exact trivial
theorem raise_stmt {x : Sem Value} (hh : A.handled = none)
    (h : wpAny (model prog w) A x (fun v s₁ => ∃ e dx t, v = .ref e ∧ (Mine.hd.heap_39 w.params).In s₁.heap ∧ s₁.heap.get? e = some (refObj dx t) ∧ E (.ref e) s₁) E s) :
    wpAny (model prog w) A (raiseStmt env (some x) none) Q E s := by
  have hcB : (Value.ref 44 :: .ref 24 :: exMro).contains (.type "BaseException") = true := by decide
  unfold raiseStmt
  refine wpAny_bind (wpAny_mono h (fun v s₁ h₁ => ?_) fun _ _ x => x)
  obtain ⟨e, dx, t, rfl, X, he, hE⟩ := h₁
  have hC := cls44 X
  obtain ⟨hp, g, d, tk, os⟩ := s₁
  dsimp only at *
  repeat (first | with_reducible refine wpAny_loadPart_at he ?_ | with_reducible refine wpAny_loadPart_at hC ?_ | (with_reducible refine wpAny_isSubtype_exc hC ?_; rw [hcB]) | wp_step)
  exact wpAny_raiseNew_none hh hE
theorem exec_raise {f : Expr} {args : List Expr} {cpos pos : Pos} (hh : A.handled = none)
    (h : wpAny (model prog w) A (eval (.Call f args [] cpos) env) (fun v s₁ => ∃ e dx t, v = .ref e ∧ (Mine.hd.heap_39 w.params).In s₁.heap ∧ s₁.heap.get? e = some (refObj dx t) ∧ E (.ref e) s₁) E s) :
    wpAny (model prog w) A (exec (.Raise (some (.Call f args [] cpos)) none pos) env) Q E s := by
  rw [arm_exec_Raise]
  simp only [evalOpt, Option.map]
  refine wpAny_bind (wpAny_standAt (raise_stmt hh (wpAny_bind (wpAny_mono h (fun v s₃ h₃ => wpAny_bind (wpAny_standAt (wpAny_pure h₃))) fun _ _ x => x))))
end
end Mine
end
section
open PySem PySem.W PySem.Calls PyProof.Rows
set_option maxRecDepth 100000
set_option maxHeartbeats 4000000
namespace Mine
/-- kept up to the slots of S, but for X -/
noncomputable def Upd (S X : List Addr) (h h' : Heap) : Prop := ∀ b o, h.get? b = some o → b ∉ X → ∃ sl, h'.get? b = some { o with slots := sl } ∧ (b ∉ S → sl = o.slots)
theorem Upd.refl (S X : List Addr) (h : Heap) : Upd S X h h := fun _ o e _ => ⟨o.slots, e, fun _ => rfl⟩
theorem Upd.of_kept {S X : List Addr} {h h' : Heap} (k : Kept X h h') : Upd S X h h' := fun b o e n => ⟨o.slots, k b o n e, fun _ => rfl⟩
theorem Upd.trans {S X : List Addr} {a b c : Heap} (x : Upd S X a b) (y : Upd S X b c) : Upd S X a c := fun d o e n => by
  obtain ⟨sl, h1, h2⟩ := x d o e n
  obtain ⟨sl', h3, h4⟩ := y d _ h1 n
  exact ⟨sl', h3, fun m => (h4 m).trans (h2 m)⟩
theorem Upd.mono {S S' X X' : List Addr} {a b : Heap} (x : Upd S X a b) (h1 : ∀ d ∈ S, d ∈ S') (h2 : ∀ d ∈ X, d ∈ X') : Upd S' X' a b := fun d o e n => by
  obtain ⟨sl, e1, e2⟩ := x d o e fun m => n (h2 d m)
  exact ⟨sl, e1, fun m => e2 fun k => m (h1 d k)⟩
theorem Upd.exact {S X : List Addr} {a b : Heap} (x : Upd S X a b) {d : Addr} {o : Obj} (e : a.get? d = some o) (n1 : d ∉ X) (n2 : d ∉ S) : b.get? d = some o := by
  obtain ⟨sl, e1, e2⟩ := x d o e n1
  rw [e2 n2] at e1; exact e1
theorem Upd.frames {S X : List Addr} {a b B : Heap} {l : List Env} (x : Upd S X a b) (hl : a.FunFrames B l) (hX : ∀ d ∈ X, ∀ o, a.get? d = some o → ∃ vs, o.data = .fields vs) : b.FunFrames B l :=
  hl.of_keeps fun d o e hn => by
    obtain ⟨sl, e1, _⟩ := x d o e fun m => by obtain ⟨vs, q⟩ := hX d m o e; exact hn vs q
    exact ⟨_, e1, rfl⟩
noncomputable abbrev fsOf (l : List Env) : List Addr := l.filterMap (·.frame)
/-- no object -/
noncomputable abbrev noHeap : Heap := { objs := #[] }
theorem noHeap_get (b : Addr) : noHeap.get? b = none := by
  cases q : noHeap.get? b with
  | none => rfl
  | some o => exact absurd (Heap.lt_size q) (Nat.not_lt_zero _)
noncomputable abbrev exAt (dx : Addr) (vs : Array Value) : Obj := ⟨.ref 44, some dx, .fields vs, #[]⟩
noncomputable abbrev tbAt (ts : Array Value) : Obj := ⟨.type "traceback", none, .fields ts, #[]⟩
section
variable {M : Model} {A : Around} {E : Value → Shared → Prop} {s : Shared} {env : Env} {outer : List Env} {L e dx T : Addr} {vs ts : Array Value} {head : Value} {hadNext : Bool} {Q : Unit → Shared → Prop} {fl : Value}
/-- the exception e and its first traceback -/
structure Fly (h : Heap) (e dx T : Addr) (vs ts : Array Value) (fl : Value) : Prop where
  ex : h.get? e = some (exAt dx vs)
  at1 : vs[1]? = some (.ref T)
  tb : h.get? T = some (tbAt ts)
  at3 : ts[3]? = some fl
theorem Fly.ne {h : Heap} (x : Fly h e dx T vs ts fl) : T ≠ e := fun q => by
  have := x.tb; rw [q, x.ex] at this; cases this
theorem entry (hfr : A.frames = some (env :: outer)) (hl : s.heap.FunFrames noHeap (env :: outer)) (hf : env.frame = some L) (he : s.heap.get? e = some (exAt dx vs)) (hsz : 1 < vs.size)
    (h : ∀ h' T vs' ts, Fly h' e dx T vs' ts (rawInt L) → s.heap.get? T = none → Upd (fsOf (env :: outer)) [e] s.heap h' → Q () { s with heap := h' }) :
    wpAny M A (do let a ← frameOf env; let pl ← entryPlaceOf L hadNext; let b ← EntryCells.newEntry head a .none (rawInt L) .none pl; setField (.ref e) 1 b) Q E s := by
  have hene : e ∉ (env :: outer).filterMap (·.frame) := fun hm => by
    obtain ⟨_, o, ho, hnf⟩ := hl.mem hm
    rw [he] at ho; injection ho with ho; subst ho; exact hnf vs rfl
  refine wpAny_bind (wpAny_frameOf_fun hfr hl hf fun h₁ hs₁ => ?_)
  refine wpAny_bind (wpAny_entryPlaceOf fun pl hpl => ?_)
  unfold EntryCells.newEntry newFields
  refine wpAny_bind (wpAny_newObj_type ?_ (hpl.sizeOk5 _ _ _ _ _))
  have he₁ : h₁.get? e = some (exAt dx vs) := (hs₁.2.1 e hene).trans he
  generalize hts : ([head, .ref L, .none, rawInt L, .none] ++ (if pl.isEmpty then List.replicate 6 Value.none else pl)).toArray = ts
  have h3 : ts[3]? = some (rawInt L) := by subst hts; simp
  have he₂ := Heap.get?_push_of_some (h := h₁) (tbAt ts) he₁
  have hTe : e ≠ h₁.objs.size := Nat.ne_of_lt (Heap.lt_size he₁)
  refine wpAny_setField he₂ rfl hsz (h _ h₁.objs.size (vs.setIfInBounds 1 (Value.ref h₁.objs.size)) ts ⟨?_, ?_, ?_, h3⟩ ?_ ?_)
  · exact Heap.get?_update_self (Obj.mapFields (·.setIfInBounds 1 (Value.ref h₁.objs.size))) he₂ rfl
  · simp [hsz]
  · exact (Heap.get?_update_other _ _ hTe).trans (Heap.get?_push_size h₁ rfl)
  · exact Heap.get?_none_of_le (Nat.le_of_eq hs₁.1.symm)
  · intro b o hb hbe
    have hbe : b ≠ e := fun q => hbe (by simp [q])
    obtain ⟨sl, hs⟩ := hs₁.2.2 b o hb
    refine ⟨sl, (Heap.get?_update_other _ _ (Ne.symm hbe)).trans (Heap.get?_push_of_some _ hs), fun n => ?_⟩
    have e2 := hs₁.2.1 b n
    rw [hs, hb] at e2
    injection e2 with e2
    exact congrArg Obj.slots e2
theorem note_first (hfr : A.frames = some (env :: outer)) (hl : s.heap.FunFrames noHeap (env :: outer)) (hf : env.frame = some L) (he : s.heap.get? e = some (exAt dx vs)) (h1 : vs[1]? = some .none)
    (h : ∀ h' T vs' ts, Fly h' e dx T vs' ts (rawInt L) → s.heap.get? T = none → Upd (fsOf (env :: outer)) [e] s.heap h' → Q () { s with heap := h' }) :
    wpAny M A (noteFrame (.ref e) env) Q E s := by
  unfold noteFrame
  simp only [hf]
  refine wpAny_bind (wpAny_field he rfl h1 ?_)
  rw [if_neg (by decide)]
  exact entry hfr hl hf he (Array.getElem?_eq_some_iff.mp h1).1 h
theorem wp_fl {k : Nat} {x : Value} (hT : s.heap.get? T = some (tbAt ts)) (hk : k < ts.size)
    (h : ∀ h', h'.get? T = some (tbAt (ts.setIfInBounds k x)) → (∀ b, b ≠ T → h'.get? b = s.heap.get? b) → Q () { s with heap := h' }) : wpAny M A (setField (.ref T) k x) Q E s := by
  refine wpAny_setField hT rfl hk (h _ ?_ fun b hb => Heap.get?_update_other _ _ (Ne.symm hb))
  exact Heap.get?_update_self (Obj.mapFields (·.setIfInBounds k x)) hT rfl
theorem note_next (hfr : A.frames = some (env :: outer)) (hl : s.heap.FunFrames noHeap (env :: outer)) (hf : env.frame = some L) (x : Fly s.heap e dx T vs ts .none)
    (h : ∀ h' T' vs' ts', Fly h' e dx T' vs' ts' (rawInt L) → s.heap.get? T' = none → Upd (fsOf (env :: outer)) [e, T] s.heap h' → Q () { s with heap := h' }) :
    wpAny M A (noteFrame (.ref e) env) Q E s := by
  have hTe := x.ne
  obtain ⟨he, h1, hT, h3⟩ := x
  unfold noteFrame
  simp only [hf]
  refine wpAny_bind (wpAny_field he rfl h1 ?_)
  rw [if_pos (show (Value.ref T != Value.none) = true from by simp)]
  refine wpAny_bind (wpAny_field hT rfl h3 ?_)
  rw [if_neg (show ¬ ((Value.none == rawInt L) = true) from by simp [rawInt])]
  refine wpAny_bind (wp_fl hT (Array.getElem?_eq_some_iff.mp h3).1 fun h1 hT1 ho => ?_)
  have U : Upd [] [T] s.heap h1 := fun b o e n => ⟨o.slots, (ho b fun q => n (by simp [q])).trans e, fun _ => rfl⟩
  have hX : ∀ d ∈ [T], ∀ o, s.heap.get? d = some o → ∃ vs, o.data = .fields vs := fun d hd o e => by
    rw [List.mem_singleton.mp hd, hT] at e; cases e; exact ⟨_, rfl⟩
  refine entry (s := { s with heap := h1 }) hfr (U.frames hl hX) hf ((ho e (Ne.symm hTe)).trans he) (Array.getElem?_eq_some_iff.mp ‹vs[1]? = _›).1 fun h' T' vs' ts' F n U' => ?_
  have n : h1.get? T' = none := n
  refine h h' T' vs' ts' F ?_ ((U.mono (by simp) (by simp)).trans (U'.mono (fun _ m => m) (by simp)))
  by_cases q : T' = T
  · rw [q, hT1] at n; cases n
  · rw [← ho T' q]; exact n
theorem note_again (hf : env.frame = some L) (x : Fly s.heap e dx T vs ts (rawInt L)) (h : Q () s) : wpAny M A (noteFrame (.ref e) env) Q E s := by
  unfold noteFrame
  simp only [hf]
  refine wpAny_bind (wpAny_field x.ex rfl x.at1 ?_)
  rw [if_pos (show (Value.ref T != Value.none) = true from by simp)]
  refine wpAny_bind (wpAny_field x.tb rfl x.at3 ?_)
  rw [if_pos (show (rawInt L == rawInt L) = true from by simp)]
  exact wpAny_pure h
theorem land (x : Fly s.heap e dx T vs ts fl) (h : ∀ h' ts', Fly h' e dx T vs ts' .none → Upd [] [T] s.heap h' → Q () { s with heap := h' }) : wpAny M A (setFlight (.ref e) none) Q E s := by
  unfold setFlight
  refine wpAny_bind (wpAny_field x.ex rfl x.at1 ?_)
  rw [if_pos (show (Value.ref T != Value.none) = true from by simp)]
  have h3 := (Array.getElem?_eq_some_iff.mp x.at3).1
  refine wp_fl x.tb h3 fun h1 hT1 ho => h h1 _ ⟨(ho e (Ne.symm x.ne)).trans x.ex, x.at1, hT1, by simp [h3]⟩ fun b o e n => ⟨o.slots, (ho b fun q => n (by simp [q])).trans e, fun _ => rfl⟩
theorem leave_first (hfr : A.frames = some (env :: outer)) (hl : s.heap.FunFrames noHeap (env :: outer)) (hf : env.frame = some L) (he : s.heap.get? e = some (exAt dx vs)) (h1 : vs[1]? = some .none)
    (h : ∀ h' T vs' ts, Fly h' e dx T vs' ts .none → s.heap.get? T = none → Upd (fsOf (env :: outer)) [e] s.heap h' → Q () { s with heap := h' }) :
    wpAny M A (leaving env (.ref e)) Q E s := by
  unfold leaving
  refine wpAny_bind (note_first hfr hl hf he h1 fun h1 T vs' ts F n U => ?_)
  refine land (s := { s with heap := h1 }) F fun h2 ts' F' U' => h h2 T vs' ts' F' n fun b o e hb => ?_
  obtain ⟨sl, e1, e2⟩ := U b o e hb
  exact ⟨sl, U'.exact e1 (fun m => by rw [List.mem_singleton.mp m, n] at e; cases e) (by simp), e2⟩
theorem leave_next (hfr : A.frames = some (env :: outer)) (hl : s.heap.FunFrames noHeap (env :: outer)) (hf : env.frame = some L) (x : Fly s.heap e dx T vs ts .none)
    (h : ∀ h' T' vs' ts, Fly h' e dx T' vs' ts .none → s.heap.get? T' = none → Upd (fsOf (env :: outer)) [e, T] s.heap h' → Q () { s with heap := h' }) :
    wpAny M A (leaving env (.ref e)) Q E s := by
  unfold leaving
  refine wpAny_bind (note_next hfr hl hf x fun h1 T' vs' ts F n U => ?_)
  refine land (s := { s with heap := h1 }) F fun h2 ts' F' U' => h h2 T' vs' ts' F' n fun b o e hb => ?_
  obtain ⟨sl, e1, e2⟩ := U b o e hb
  exact ⟨sl, U'.exact e1 (fun m => by rw [List.mem_singleton.mp m, n] at e; cases e) (by simp), e2⟩
end
/-- what a call that raised leaves: the exception in flight with its message; all else kept, up to the frames' slots -/
structure Rsd (w : World) (W : List Addr) (l : List Env) (h h' : Heap) (e : Addr) (msg : Str) (dx T : Addr) (vs ts : Array Value) (tt tm : Tok) : Prop where
  fly : Fly h' e dx T vs ts .none
  dct : h'.get? dx = some (msgDict w.params (.str msg tm) tt)
  kept : Upd (fsOf l) W h h'
  ne : h.get? e = none
  nd : h.get? dx = none
  nT : h.get? T = none
  there : ∀ b ∈ W, ∃ o, h'.get? b = some o
section
variable {w : World} {A A₀ : Around} {s s' : Shared} {base g G h₁ : Heap} {outer : List Env} {L L' f : Addr} {m m' mg mb : Str → Option Value} {mean : ExcName → Option Value} {env : Env} {dp un : Nat}
  {Q : Unit → Shared → Prop} {E : Value → Shared → Prop} {W : List Addr} {qual : Str} {scope : Scope} {cdv : Value} {msg : Str} {e dx t T : Addr} {vs ts : Array Value} {tt tm : Tok} {M : Model} {A' : Around}
theorem frames_no {h B : Heap} {l : List Env} (x : h.FunFrames B l) : h.FunFrames noHeap l := by
  induction l with
  | nil => trivial
  | cons a r ih =>
    obtain ⟨h1, ⟨L, o, h2, h3, h4, h5⟩, h6⟩ := x
    exact ⟨h1, ⟨L, o, h2, noHeap_get L, h4, h5⟩, ih h6⟩
theorem frames_up {h h' B : Heap} {l : List Env} (x : h.FunFrames B l) (k : ∀ b o, h.get? b = some o → h'.get? b = some o) : h'.FunFrames B l := x.of_keeps fun b o e _ => ⟨o, k b o e, rfl⟩
/-- the frames of a callee at a heap that keeps its ground -/
theorem frames_at (B' : Below A base (env :: outer) G) (F' : Fr G L' s'.heap m') (hk : scope.kind = .function) : s'.heap.FunFrames noHeap (envOf qual scope L' f cdv :: env :: outer) := by
  have h1 := frames_up (frames_no B'.frames) F'.keep
  obtain ⟨o, es, ep, ho, hd, _⟩ := F'.ns
  exact ⟨by show scope.kind ≠ _; rw [hk]; decide, ⟨L', o, rfl, noHeap_get _, ho, fun vs q => by rw [hd] at q; cases q⟩, h1⟩
theorem fs_some (B' : Below A base (env :: outer) G) (hG2 : ∀ b o, G.get? b = some o → s.heap.get? b = some o) {b : Addr} (hb : b ∈ fsOf (env :: outer)) : ∃ o, s.heap.get? b = some o := by
  obtain ⟨_, o, ho, _⟩ := B'.frames.mem hb
  exact ⟨o, hG2 b o ho⟩
theorem fs_cons {b : Addr} (hb : b ∈ fsOf (envOf qual scope L' f cdv :: env :: outer)) : b = L' ∨ b ∈ fsOf (env :: outer) := by
  rw [fsOf, List.filterMap_cons] at hb
  exact List.mem_cons.mp hb
/-- a raise in the def itself leaves it -/
theorem leave_made (B' : Below A base (env :: outer) G) (F' : Fr G L' s'.heap m') (hG2 : ∀ b o, G.get? b = some o → s.heap.get? b = some o) (hk : scope.kind = .function)
    (he : s'.heap.get? e = some (refObj dx t)) (hd : s'.heap.get? dx = some (msgDict w.params (.str msg tm) tt)) (hW : Kept W s.heap s'.heap) (hWs : ∀ b ∈ W, ∃ o, s'.heap.get? b = some o) (ne : s.heap.get? e = none) (nd : s.heap.get? dx = none) (nL : s.heap.get? L' = none) (hdL : dx ≠ L')
    (h : ∀ h' T vs ts, Rsd w W (env :: outer) s.heap h' e msg dx T vs ts tt tm → Q () { s' with heap := h' }) :
    wpAny M (A.deeper (envOf qual scope L' f cdv)) (leaving (envOf qual scope L' f cdv) (.ref e)) Q E s' := by
  refine leave_first (Around.frames_deeper B'.stack) (frames_at B' F' hk) rfl he rfl fun h' T vs' ts F n U => h h' T vs' ts ⟨F, ?_, fun b o eb hb => ?_, ne, nd, ?_, fun b hb => ?_⟩
  · refine U.exact hd (fun m => by rw [List.mem_singleton.mp m, he] at hd; cases hd) fun m => ?_
    rcases fs_cons m with q | q
    · exact hdL q
    · obtain ⟨o, ho⟩ := fs_some (s := s) B' hG2 q
      rw [nd] at ho; cases ho
  · obtain ⟨sl, e1, e2⟩ := U b o (hW b o hb eb) (fun m => by rw [List.mem_singleton.mp m, ne] at eb; cases eb)
    refine ⟨sl, e1, fun m => e2 fun q => ?_⟩
    rcases fs_cons q with q | q
    · rw [q, nL] at eb; cases eb
    · exact m q
  · cases q : s.heap.get? T with
    | none => rfl
    | some o =>
      by_cases hT : T ∈ W
      · obtain ⟨o', ho'⟩ := hWs T hT
        rw [n] at ho'; cases ho'
      · have := hW T o hT q; rw [n] at this; cases this
  · by_cases q : b = e
    · exact ⟨_, q ▸ F.ex⟩
    · obtain ⟨o, ho⟩ := hWs b hb
      obtain ⟨sl, e1, _⟩ := U b o ho (by simp [q])
      exact ⟨_, e1⟩
/-- a raise of a call in the def leaves it -/
theorem leave_on {W₁ : List Addr} {s₁ : Shared} (B' : Below A base (env :: outer) G) (F' : Fr G L' s₁.heap m') (hG2 : ∀ b o, G.get? b = some o → s.heap.get? b = some o) (hk : scope.kind = .function)
    (R : Rsd w W₁ (envOf qual scope L' f cdv :: env :: outer) s₁.heap s'.heap e msg dx T vs ts tt tm) (hW : Kept W s.heap s₁.heap) (hWs : ∀ b ∈ W, ∃ o, s₁.heap.get? b = some o) (hWW : ∀ b o, s.heap.get? b = some o → b ∈ W₁ → b ∈ W) (hfW : ∀ b ∈ W₁, b ∉ fsOf (envOf qual scope L' f cdv :: env :: outer)) (nL : s.heap.get? L' = none)
    (h : ∀ h' T vs ts, Rsd w W (env :: outer) s.heap h' e msg dx T vs ts tt tm → Q () { s' with heap := h' }) :
    wpAny M (A.deeper (envOf qual scope L' f cdv)) (leaving (envOf qual scope L' f cdv) (.ref e)) Q E s' := by
  obtain ⟨F, hd, U, ne, nd, nT, th⟩ := R
  have sub : ∀ b, s₁.heap.get? b = none → s.heap.get? b = none := fun b n => by
    cases q : s.heap.get? b with
    | none => rfl
    | some o =>
      by_cases hT : b ∈ W
      · obtain ⟨o', ho'⟩ := hWs b hT
        rw [n] at ho'; cases ho'
      · have := hW b o hT q; rw [n] at this; cases this
  have hl : s'.heap.FunFrames noHeap (envOf qual scope L' f cdv :: env :: outer) := by
    have f1 := frames_at (qual := qual) (f := f) (cdv := cdv) B' F' hk
    have hh : ∀ (l : List Env), (∀ b ∈ fsOf l, b ∉ W₁) → s₁.heap.FunFrames noHeap l → s'.heap.FunFrames noHeap l := by
      intro l
      induction l with
      | nil => exact fun _ _ => trivial
      | cons a r ih =>
        rintro hn ⟨h1, ⟨L, o, h2, h3, h4, h5⟩, h6⟩
        rw [fsOf, List.filterMap_cons, h2] at hn
        obtain ⟨sl, e1, _⟩ := U L o h4 (hn L (.head _))
        exact ⟨h1, ⟨L, _, h2, h3, e1, h5⟩, ih (fun b hb => hn b (.tail _ hb)) h6⟩
    exact hh _ (fun b hb m => hfW b m hb) f1
  refine leave_next (s := s') (Around.frames_deeper B'.stack) hl rfl F fun h' T' vs' ts' F2 n U2 => h h' T' vs' ts' ⟨F2, ?_, fun b o eb hb => ?_, sub e ne, sub dx nd, ?_, fun b hb => ?_⟩
  · refine U2.exact hd (fun m => ?_) fun m => ?_
    · simp only [List.mem_cons, List.not_mem_nil, or_false] at m
      rcases m with m | m
      · rw [m, F.ex] at hd; cases hd
      · rw [m, F.tb] at hd; exact absurd (congrArg Obj.cls (Option.some.inj hd)) (by simp)
    · obtain ⟨_, o, ho, _⟩ := (frames_at (qual := qual) (f := f) (cdv := cdv) B' F' hk).mem m
      rw [nd] at ho; cases ho
  · have e0 := hW b o hb eb
    obtain ⟨sl, e1, e2⟩ := U b o e0 (fun m => hb (hWW b o eb m))
    obtain ⟨sl', e3, e4⟩ := U2 b _ e1 (fun m => by
      simp only [List.mem_cons, List.not_mem_nil, or_false] at m
      rcases m with m | m
      · rw [m, ne] at e0; cases e0
      · rw [m, nT] at e0; cases e0)
    refine ⟨sl', e3, fun m => ?_⟩
    have : b ∉ fsOf (envOf qual scope L' f cdv :: env :: outer) := fun q => by
      rcases fs_cons q with q | q
      · rw [q, nL] at eb; cases eb
      · exact m q
    exact (e4 this).trans (e2 this)
  · refine sub T' ?_
    cases q : s₁.heap.get? T' with
    | none => rfl
    | some o =>
      by_cases hT : T' ∈ W₁
      · obtain ⟨o', ho'⟩ := th T' hT
        rw [n] at ho'; cases ho'
      · obtain ⟨sl, e1, _⟩ := U T' o q hT
        rw [n] at e1; cases e1
  · by_cases q1 : b = e
    · exact ⟨_, q1 ▸ F2.ex⟩
    · obtain ⟨o, ho⟩ := hWs b hb
      have hs : ∃ o, s'.heap.get? b = some o := by
        by_cases q : b ∈ W₁
        · exact th b q
        · obtain ⟨sl, e1, _⟩ := U b o ho q; exact ⟨_, e1⟩
      obtain ⟨o', ho'⟩ := hs
      by_cases q2 : b = T
      · rw [q2, nT] at ho; cases ho
      · obtain ⟨sl, e1, _⟩ := U2 b o' ho' (by simp [q1, q2])
        exact ⟨_, e1⟩
end
end Mine
end
section
open PySem PySem.W PySem.Calls PyProof.Rows
set_option maxRecDepth 100000
set_option maxHeartbeats 8000000
namespace Mine
theorem say_MEx_10 : True := by
  k_with_none
  exact trivial
theorem own_app {rst own own2 : List (Addr × Obj)} {l l2 : List Addr} (e : rst = own ++ own2) (h1 : OwnOff own l) (h2 : OwnOff own2 l2) (hs : ∀ b ∈ l, b ∈ l2) : OwnOff rst l := by
  subst e
  intro p hp b hb
  rcases List.mem_append.mp hp with h | h
  · exact h1 p h b hb
  · exact h2 p h b (hs b hb)
theorem sub4 {α : Type} {a b c d : α} {rst own own2 : List α} (e : rst = own ++ own2) : ∀ q ∈ a :: b :: c :: d :: own, q ∈ a :: b :: c :: d :: rst := by
  subst e
  intro q hq
  simp only [List.mem_cons, List.mem_append] at hq ⊢
  rcases hq with h | h | h | h | h <;> simp [h]
theorem own4 {α : Type} {a b c d : α} {rst own own2 : List α} (e : rst = own ++ own2) : ∀ q ∈ own2, q ∈ a :: b :: c :: d :: rst := by
  subst e
  intro q hq
  simp [hq]
theorem dbl_len {n : Str} (h : n.length ≤ 100) : (dbl n).length ≤ 1000 := by
  have e1 : (Str.ofString "formal argument \"").length = 17 := by decide
  have e2 : (Str.ofString "\" matched by multiple actual arguments").length = 38 := by decide
  show (Str.ofString "formal argument \"" ++ n ++ Str.ofString "\" matched by multiple actual arguments").length ≤ 1000
  simp only [Str.length_append, e1, e2]
  omega
/-- one turn of exact -/
noncomputable def exTurn (tags : List Tag) (name : Str) (i : Nat) (st : St) : Except Str St :=
  if tags.getD i none = some name ∧ st.1.getD i 0 = 0 then (if inP st.2 name then .error (dbl name) else .ok (st.1.set i 2, st.2 ++ [(name, i)])) else .ok st
noncomputable def uptoF (turn : Nat → St → Except Str St) : Nat → Nat → St → Except Str St
  | 0, _, st => .ok st
  | k + 1, i, st => (turn i st).bind (uptoF turn k (i + 1))
noncomputable def upto (turn : Nat → St → Except Str St) (n i : Nat) : St → Except Str St := uptoF turn (n - i) i
theorem upto_stop {turn : Nat → St → Except Str St} {n i : Nat} {st : St} (h : ¬ i < n) : upto turn n i st = .ok st := by
  show uptoF turn (n - i) i st = _
  rw [show n - i = 0 by omega]; rfl
theorem upto_step {turn : Nat → St → Except Str St} {n i : Nat} {st : St} (h : i < n) : upto turn n i st = (turn i st).bind (upto turn n (i + 1)) := by
  show uptoF turn (n - i) i st = (turn i st).bind (uptoF turn (n - (i + 1)) (i + 1))
  rw [show n - i = n - (i + 1) + 1 by omega]; rfl
noncomputable def exAll (tags : List Tag) : List Str → St → Except Str St
  | [], st => .ok st
  | name :: r, st => if name = dots then exAll tags r st else (upto (exTurn tags name) tags.length 0 st).bind (exAll tags r)
section
variable {w : World} {A A₀ : Around} {s : Shared} {base g : Heap} {outer : List Env} {L : Addr} {m mg mb : Str → Option Value} {mean : ExcName → Option Value} {env : Env}
  {Q : Value → Shared → Prop} {E : Value → Shared → Prop}
theorem say_MEx_11 : True := by
  k_with_none
  (k_with "call ref" => (k_here; (with_reducible show wpAny _ _ (call (Value.ref _) _ _) _ _ _); refine halt ?_))
  exact trivial
theorem doubled_spec {x : Str} {t0 : Tok} (Z : At w A s 1 6 A₀ base g env outer L m mg mb mean) (hx : x.length ≤ 100)
   (hQ : ∀ h' tk' t', Kept [] s.heap h' → Q (.str (dbl x) t') { s with heap := h', toks := tk' }) :
   wpAny (model PySem.Challenge.rw_ov0042_01.row.prog w) A (call (.ref 114) [.str x t0]) Q E s := by
  have hX := Z.X; revert hX; k_fill; intro hX
  refine wpAny_call ?_
  refine enter (led := []) (binds := [(Str.ofString "name", .str x t0)]) Z News.nil rfl rfl (by decide) (BindsTo.of_eq rfl) (locs rfl) (fun G L' h₁ F' N' B' X' T' hG hG2 hL hlt => ?_) rfl rfl rfl (by decide)
  dsimp only
  k_fold
  k_steps
  rename Fr _ _ _ _ => Fz
  dsimp only
  refine hQ _ _ _ fun b o _ e => Fz.keep b o (hG b o e (by simp))
end
section
variable {w : World} {A A₀ : Around} {s : Shared} {base g : Heap} {outer : List Env} {L : Addr} {m mg mb : Str → Option Value} {mean : ExcName → Option Value} {env : Env}
  {Q : Value → Shared → Prop} {E : Value → Shared → Prop}
theorem say_MEx_12 : True := by
  k_with_none
  (k_with "call ref" => (k_here; (with_reducible show wpAny _ _ (call (Value.ref _) _ _) _ _ _); refine halt ?_))
  (k_with "subscriptTail" => (k_here; (with_reducible show wpAny _ _ (subscriptTail _ _ (Value.ref _) (Value.int _ _)) _ _ _); k_dflt (refine' tail_L (by exact isList_G (by k_asm) (by assumption)) (by omega) (by omega) (by assumption) ?_ (by with_unfolding_all rfl);  k_whole)))
  (k_with "subscriptTail" => (k_here; (with_reducible show wpAny _ _ (subscriptTail _ _ (Value.ref _) (Value.int _ _)) _ _ _); k_dflt (refine' tail_L (by exact LstO.isList (by assumption) (News.get (by k_asm) (by k_mem))) (by omega) (by omega) (by assumption) ?_ (by with_unfolding_all rfl);  k_whole)))
  (k_with "eval Name" => (k_here; k_dflt (refine' nameX_L (by k_asm) (by first | rfl | assumption) ?_ (by rfl) (by rfl);  k_whole)))
  (k_with "own iter" => ((with_reducible show wpAny _ _ (pyIter (Value.ref _)) (fun it s₂ => LoopAtV _ _ _ _ _ _ _ _ _ it s₂) _ _); refine halt ?_))
  (k_with "InvEndN" => (refine halt ?_))
  (k_with "compareOp NotIn str ref" => (k_dflt (refine' notIn_Db (by k_asm) (by k_mem) (by assumption) (by assumption) (by exact PlacesK.isSome (by assumption) _) ?_;  k_whole)))
  (k_with "compareOp In str ref" => (k_dflt (refine' in_Db (by k_asm) (by k_mem) (by assumption) (by assumption) (by exact PlacesK.isSome (by assumption) _) ?_;  k_whole)))
  (k_with "call builtin:len" => (k_here; k_dflt (refine' len_L (by exact isList_G (by k_asm) (by assumption)) (by first | exact TagsAre.len (by assumption) | exact IntsV.len (by assumption) | exact StrsV.len (by assumption)) (by omega) ?_); intro _ _))
  (k_with "setItem" => (k_here; (with_reducible show wpAny _ _ (setItem (Value.ref _) (Value.str _ _) _) _ _ _); k_dflt (refine' set_D (by k_asm) (by k_asm) (by k_updF) (by assumption) (by first | decide | omega) ?_;  k_whole); intro _ _ _ _ _))
  (k_with "setItem" => (k_here; (with_reducible show wpAny _ _ (setItem (Value.ref _) (Value.int _ _) _) _ _ _); k_dflt (refine' set_L (by k_asm) (by k_asm) (by k_updF) (by assumption) (by omega) (by omega) (by omega) ?_;  k_whole); intro _ _ _ _ _))
  (k_with "loadName" => (k_here; k_dflt (refine' ldn (by k_asm) (by first | rfl | assumption) ?_ (by rfl) (by rfl);  k_whole)))
  (k_with "memall" => ((repeat (refine List.forall_mem_cons.mpr ⟨by k_mem, ?_⟩)); exact List.forall_mem_nil _))
  (k_with "exec Raise Call" => (refine halt ?_))
  (k_with "exec Raise" => (refine halt ?_))
  exact trivial
theorem none_back {W : List Addr} {h h' : Heap} {b : Addr} (hW : Kept W h h') (hWs : ∀ b ∈ W, ∃ o, h'.get? b = some o) (n : h'.get? b = none) : h.get? b = none := by
  cases q : h.get? b with
  | none => rfl
  | some o =>
    by_cases hT : b ∈ W
    · obtain ⟨o', ho'⟩ := hWs b hT
      rw [n] at ho'; cases ho'
    · have := hW b o hT q; rw [n] at this; cases this
/-- the end of a raise: the refusal is made, the def is left -/
theorem raise_in {s' : Shared} {G : Heap} {L' f : Addr} {m' : Str → Option Value} {qual : Str} {scope : Scope} {cdv : Value} {dp un : Nat} {W : List Addr} {msg : Str} {tm0 : Tok} {E : Value → Shared → Prop} (Z : At w A s dp un A₀ base g env outer L m mg mb mean)
    (B' : Below A base (env :: outer) G) (F' : Fr G L' s'.heap m') (X' : (Mine.hd.heap_39 w.params).In G) (T' : Top Mine.hd.view_39 (looseW Mine.hd.view_39 [Str.ofString "match_names"]) mean mg mb G)
    (hG2 : ∀ b o, G.get? b = some o → s.heap.get? b = some o) (hL : s.heap.get? L' = none) (h1 : 5 ≤ dp) (h2 : 23 ≤ un) (hk : scope.kind = .function)
    (hW : Kept W s.heap s'.heap) (hWs : ∀ b ∈ W, ∃ o, s'.heap.get? b = some o)
    (hE : ∀ h' tk' e dx T vs ts tt tm, Rsd w W (env :: outer) s.heap h' e msg dx T vs ts tt tm → E (.ref e) { s' with heap := h', toks := tk' }) :
    wpAny (model PySem.Challenge.rw_ov0042_01.row.prog w) (A.deeper (envOf qual scope L' f cdv)) (call (.ref 44) [.str msg tm0])
      (fun v s₁ => ∃ e dx t, v = .ref e ∧ (Mine.hd.heap_39 w.params).In s₁.heap ∧ s₁.heap.get? e = some (refObj dx t) ∧
        wpAny (model PySem.Challenge.rw_ov0042_01.row.prog w) (A.deeper (envOf qual scope L' f cdv)) (leaving (envOf qual scope L' f cdv) (.ref e)) (fun _ s'' => E (.ref e) s'') (fun e' s'' => E e' s'') s₁)
      (fun e s₁ => wpAny (model PySem.Challenge.rw_ov0042_01.row.prog w) (A.deeper (envOf qual scope L' f cdv)) (leaving (envOf qual scope L' f cdv) e) (fun _ s'' => E e s'') (fun e' s'' => E e' s'') s₁) s' := by
  refine refusal_spec (at_in (dp' := 4) (un' := 20) Z B' F' X' T' (by omega) (by omega) hk) ?_
  intro h8 tk8 ex dx8 t8 tt8 tm8 k8 ne nd nt hne hx hd _
  have F4 := fr_after (W := []) F' (by simp) k8
  have k9 : Kept W s.heap h8 := hW.trans (k8.mono (by simp))
  have there : ∀ b ∈ W, ∃ o, h8.get? b = some o := fun b hb => by
    obtain ⟨o, ho⟩ := hWs b hb
    exact ⟨o, k8 b o (by simp) ho⟩
  refine ⟨ex, dx8, t8, rfl, X'.keeps F4.keep, hx, ?_⟩
  refine leave_made (s' := { s' with heap := h8, toks := tk8 }) B' F4 hG2 hk hx hd k9 there (none_back hW hWs ne) (none_back hW hWs nd) hL (fun q => ?_) ?_
  · obtain ⟨o, es, ep, ho, _⟩ := F'.ns
    rw [q, ho] at nd; cases nd
  · intro h' T vs ts R
    exact hE h' tk8 ex dx8 T vs ts tt8 tm8 R
inductive JE2 (w : World) (x dx f t u p : Addr) (k1 k2 k3 k4 : Tok) (n : Nat) (tags : List Tag) (formals : List Str) (st : St) (own : List (Addr × Obj)) (nm : Str) (tv : Tok) (i : Nat) (j : Nat) (m₁ : Str → Option Value) (led : List (Addr × Obj)) : Prop
  | mk (st'' : St) (ou op : Obj) (uvs : List Value) (kvs : List (Str × Value)) (h1 : m₁ (Str.ofString "self") = some (.ref x)) (h2 : m₁ (Str.ofString "name") = some (.str nm tv)) (h3 : led = (x, instObj 103 dx) :: (dx, dictOf (selfL w.params k1 k2 k3 k4 f t u p) n) :: (u, ou) :: (p, op) :: own) (h4 : MIs w ou op st'' uvs kvs) (h5 : st''.1.length = tags.length) (h6 : st''.2.length ≤ i * tags.length + j) (h7 : (upto (exTurn tags nm) tags.length j st'').bind (exAll tags (formals.drop (i + 1))) = exAll tags formals st) : JE2 w x dx f t u p k1 k2 k3 k4 n tags formals st own nm tv i j m₁ led
inductive JE1 (w : World) (x dx f t u p : Addr) (k1 k2 k3 k4 : Tok) (n : Nat) (tags : List Tag) (formals : List Str) (st : St) (i : Nat) (m₁ : Str → Option Value) (led : List (Addr × Obj)) : Prop
  | mk (st' : St) (ou op : Obj) (uvs : List Value) (kvs : List (Str × Value)) (h1 : m₁ (Str.ofString "self") = some (.ref x)) (h2 : led = [(x, instObj 103 dx), (dx, dictOf (selfL w.params k1 k2 k3 k4 f t u p) n), (u, ou), (p, op)]) (h3 : MIs w ou op st' uvs kvs) (h4 : st'.1.length = tags.length) (h5 : st'.2.length ≤ i * tags.length) (h6 : exAll tags (formals.drop i) st' = exAll tags formals st) : JE1 w x dx f t u p k1 k2 k3 k4 n tags formals st i m₁ led
theorem exact_spec {a : MAt} {ou op : Obj} {st : St} {uvs tvs fvs : List Value} {kvs : List (Str × Value)} {tags : List Tag} {formals : List Str} (Z : At w A s 8 40 A₀ base g env outer L m mg mb mean)
   (N : News g L s.heap (a.led w.params ou op)) (hap : a.Apart) (hI : MIs w ou op st uvs kvs)
   (ht : s.heap.IsList a.t tvs.toArray) (hT : TagsAre tvs tags) (hf : s.heap.IsList a.f fvs.toArray) (hF : StrsV fvs formals) (hl1 : tags.length ≤ 20) (hl2 : formals.length ≤ 20) (hl3 : st.2.length = 0) (hl4 : st.1.length = tags.length)
   (hfl : ∀ x ∈ formals, x.length ≤ 100)
   (hQ : ∀ h' tk' ou' op' uvs' kvs' st', exAll tags formals st = .ok st' → Kept [a.u, a.p] s.heap h' → h'.get? a.u = some ou' → h'.get? a.p = some op' → MIs w ou' op' st' uvs' kvs' → st'.1.length = tags.length → st'.2.length ≤ 400 → Q .none { s with heap := h', toks := tk' })
   (hE : ∀ h' tk' e msg dx T vs ts tt tm, exAll tags formals st = .error msg → msg.length ≤ 1000 → Rsd w [a.u, a.p] (env :: outer) s.heap h' e msg dx T vs ts tt tm → E (.ref e) { s with heap := h', toks := tk' }) :
   wpAny (model PySem.Challenge.rw_ov0042_01.row.prog w) A (call (.ref 67) [.ref a.x]) Q E s := by
  have hX := Z.X; revert hX; k_fill; intro hX
  obtain ⟨x, dx, f, t, u, p, k1, k2, k3, k4, n⟩ := a
  obtain ⟨xd, xu, xp, du, dp, up, fx, tx, lo⟩ := hap
  dsimp only [MAt.led] at *
  refine wpAny_call ?_
  refine enter (binds := [(Str.ofString "self", .ref x)]) Z N rfl rfl (by decide) (BindsTo.of_eq rfl) (locs rfl) (fun G L' h₁ F' N' B' X' T' hG hG2 hL hlt => ?_) rfl rfl rfl (by decide)
  dsimp only
  k_fold
  have htG : G.IsList t tvs.toArray := by
    obtain ⟨o, ho, r⟩ := ht
    exact ⟨o, hG t o ho (by simpa using tx), r⟩
  have hfG : G.IsList f fvs.toArray := by
    obtain ⟨o, ho, r⟩ := hf
    exact ⟨o, hG f o ho (by simpa using fx), r⟩
  k_steps
  rename Fr _ _ _ _ => Fz
  rename News _ _ _ _ => Nz
  unfold Halt
  refine loop_list (JE1 w x dx f t u p k1 k2 k3 k4 n tags formals st) Z.hh hfG Fz Nz ?_ ?_ ?_
  · exact ⟨st, ou, op, uvs, kvs, rfl, rfl, hI, hl4, by omega, rfl⟩
  · rintro i v m₁ news₁ h tk own hv _ hoff ⟨st', ou', op', uvs', kvs', hself, rfl, hI', hs1, hs2, hpos⟩ F₁ N₁
    simp only [List.map_cons, List.map_nil] at hoff
    dsimp only [List.cons_append, List.nil_append] at N₁
    have hi : i < formals.length := by
      have := (List.getElem?_eq_some_iff.mp hv).1
      rw [hF.len] at this; exact this
    obtain ⟨tv, hv'⟩ := hF.at_ i formals[i] (by simp [hi])
    rw [hv] at hv'; cases hv'
    have hnl := hfl formals[i] (List.getElem_mem hi)
    rw [List.drop_eq_getElem_cons hi] at hpos
    generalize formals[i] = nm at hpos F₁ hnl
    clear hv Fz Nz
    try k_fold
    k_steps
    all_goals (try unfold Halt)
    · rename Fr _ _ _ _ => Fz
      rename News _ _ _ _ => Nz
      rename IsRange _ _ _ _ _ _ _ _ => hr
      rename (nm != Str.ofString "...") = true => hnd
      rw [exAll, if_neg (by simpa [dots] using hnd)] at hpos
      refine loop_range (JE2 w x dx f t u p k1 k2 k3 k4 n tags formals st own nm tv i) Z.hh hr (by omega) Fz Nz ?_ ?_ ?_
      · exact ⟨st', ou', op', uvs', kvs', hself, rfl, rfl, hI', hs1, by omega, hpos⟩
      · clear Fz Nz hr hself hI' hs1 hs2 hpos
        rintro j tj m₂ news₂ h2 tk2 own2 hj _ hoff2 ⟨st'', ou'', op'', uvs'', kvs'', hself, hname, rfl, ⟨hlst, hits, hdct, hplc⟩, hs1, hs2, hpos⟩ F₂ N₂
        simp only [List.map_cons, List.map_nil] at hoff2
        dsimp only [List.cons_append, List.nil_append] at N₂
        obtain ⟨rst, hrst⟩ : ∃ r, r = own ++ own2 := ⟨_, rfl⟩
        rw [← hrst] at N₂
        have hoffr : OwnOff rst [x, dx, u, p] := own_app hrst hoff hoff2 (by simp)
        rw [upto_step hj] at hpos
        obtain ⟨tgv, htv, htg⟩ := hT.at_ j tags[j] (by simp [hj])
        obtain ⟨tu, hut⟩ := hits.at_ j (st''.1[j]'(by omega)) (by simp [hs1, hj])
        have hkl : kvs''.length ≤ 1000 := by
          have := congrArg List.length hplc.keys
          simp only [List.length_map] at this
          have := Nat.mul_le_mul (Nat.le_of_lt hi) (Nat.le_refl tags.length)
          have := Nat.mul_le_mul hl2 hl1
          omega
        have hul : uvs''.length = tags.length := by rw [hits.len, hs1]
        have hin : ((j : Int)).toNat = j := by omega
        have hj0 : (0 : Int) ≤ j := by omega
        have ht1 : exTurn tags nm j st'' = if tags[j] = some nm ∧ st''.1[j]'(by omega) = 0 then (if inP st''.2 nm then .error (dbl nm) else .ok (st''.1.set j 2, st''.2 ++ [(nm, j)])) else .ok st'' := by
          simp [exTurn, hs1, hj]
        rw [ht1] at hpos
        generalize tags[j] = tg at *
        generalize st''.1[j]'(by omega) = uj at *
        rw [← hin] at htv hut
        try k_fold
        rcases tg with _ | tg
        · cases htg
          k_steps
          all_goals (try unfold Halt)
          rename Fr G L' _ _ => F4
          rename News G L' _ _ => N4
          exact InvEndN.intro F4 N4 ⟨st'', ou'', op'', uvs'', kvs'', hself, hname, rfl, ⟨hlst, hits, hdct, hplc⟩, hs1, by omega, by simpa [Except.bind] using hpos⟩ rfl (sub4 hrst) (own4 hrst)
        · obtain ⟨tt, rfl⟩ := htg
          k_steps
          all_goals (try unfold Halt)
          all_goals (rename Fr G L' _ _ => F4; rename News G L' _ _ => N4)
          · rename (tg == nm) = true => hc1
            rename uj = 0 => hc2
            rename inP st''.2 nm = true => hc3
            obtain rfl : tg = nm := by simpa using hc1
            rw [if_pos ⟨rfl, hc2⟩, if_pos hc3] at hpos
            refine exec_raise Z.hh ?_
            k_steps
            all_goals (try unfold Halt)
            refine doubled_spec (at_in Z B' F4 X' T' (by decide) (by decide) rfl) hnl ?_
            intro h9 tk9 t9 k9
            replace F4 := fr_after (W := []) F4 (by simp) k9
            replace N4 := news_kept (W := []) N4 (by simp) k9
            clear k9
            k_steps
            all_goals (try unfold Halt)
            refine raise_in (W := [u, p]) Z B' F4 X' T' hG2 hL (by decide) (by decide) rfl (kept_led hG N F4 N4 ?_) ?_ fun h' tk' e dx T vs ts tt tm R => hE h' tk' e _ dx T vs ts tt tm hpos.symm (dbl_len hnl) R
            · intro q hq hn
              simp only [List.mem_cons, List.not_mem_nil, or_false] at hq hn ⊢
              rcases hq with rfl | rfl | rfl | rfl <;> simp_all
            · intro b hb
              simp only [List.mem_cons, List.not_mem_nil, or_false] at hb
              rcases hb with rfl | rfl
              · exact ⟨ou'', N4.get (by simp)⟩
              · exact ⟨op'', N4.get (by simp)⟩
          · rename (tg == nm) = true => hc1
            rename uj = 0 => hc2
            rename inP st''.2 nm = false => hc3
            obtain rfl : tg = nm := by simpa using hc1
            rw [if_pos ⟨rfl, hc2⟩, if_neg (by simp [hc3])] at hpos
            rename LstO _ _ => hl4
            rename Obj.IsDictOf _ _ _ => hd4
            rw [hin] at hl4
            exact InvEndN.intro F4 N4 ⟨(st''.1.set j 2, st''.2 ++ [(tg, j)]), _, _, _, _, hself, hname, rfl, ⟨hl4, hits.set j 2 _, hd4, hplc.snoc hc3 j _⟩, by simp [hs1], by simp; omega, hpos⟩ rfl (sub4 hrst) (own4 hrst)
          · rename uj ≠ 0 => hc2
            exact InvEndN.intro F4 N4 ⟨st'', ou'', op'', uvs'', kvs'', hself, hname, rfl, ⟨hlst, hits, hdct, hplc⟩, hs1, by omega, by simpa [Except.bind, hc2] using hpos⟩ rfl (sub4 hrst) (own4 hrst)
          · rename (tg == nm) = false => hc1
            have hc1 : tg ≠ nm := by simpa using hc1
            exact InvEndN.intro F4 N4 ⟨st'', ou'', op'', uvs'', kvs'', hself, hname, rfl, ⟨hlst, hits, hdct, hplc⟩, hs1, by omega, by simpa [Except.bind, hc1] using hpos⟩ rfl (sub4 hrst) (own4 hrst)
      · rintro m₂ news₂ h2 tk2 - ⟨st'', ou'', op'', uvs'', kvs'', hself, hname, rfl, hI2, hs1, hs2, hpos⟩ F₂ N₂
        rw [upto_stop (by omega)] at hpos
        clear Fz Nz hr hI'
        dsimp only
        try k_fold
        k_steps
        all_goals (try unfold Halt)
        rename Fr G L' _ _ => F4
        rename News G L' _ _ => N4
        exact InvEndN.intro F4 N4 ⟨st'', ou'', op'', uvs'', kvs'', hself, rfl, hI2, hs1, by rw [Nat.add_mul]; omega, hpos⟩ rfl (by walk_at "memall") (fun q hq => by simp [hq])
    · exact InvEndN.intro F₁ N₁ ⟨st', ou', op', uvs', kvs', hself, rfl, hI', hs1, by rw [Nat.add_mul]; omega, by rw [exAll, if_pos (by simpa [dots] using ‹(nm != Str.ofString "...") = false›)] at hpos; exact hpos⟩ rfl (by walk_at "memall") (fun q hq => by simp [hq])
  · rintro m₁ news₁ h tk _ ⟨st', ou', op', uvs', kvs', hself, rfl, hI', hs1, hs2, hpos⟩ F₁ N₁
    rw [hF.len, List.drop_length] at hpos
    clear Fz Nz
    dsimp only
    k_steps
    refine hQ _ _ ou' op' uvs' kvs' _ hpos.symm (kept_led hG N F₁ N₁ ?_) (N₁.get (by simp)) (N₁.get (by simp)) hI' hs1 ?_
    · intro q hq hn
      simp only [List.mem_cons, List.not_mem_nil, or_false] at hq hn ⊢
      rcases hq with rfl | rfl | rfl | rfl <;> simp_all
    · rw [hF.len] at hs2
      exact Nat.le_trans hs2 (Nat.mul_le_mul hl2 hl1)
end
end Mine
end
section
open PySem PySem.W PySem.Calls PyProof.Rows
set_option maxRecDepth 100000
set_option maxHeartbeats 3000000
namespace Mine
/-- a tag that begins the name -/
theorem say_MPa_13 : True := by
  k_with_none
  exact trivial
noncomputable def preB (name : Str) : Tag → Bool
  | none => false
  | some t => decide (t ≠ Str.ofString "") && Txt.startswith name t
/-- one turn of partial_of -/
noncomputable def paTurn (tags : List Tag) (name : Str) (i : Nat) (st : St) : Except Str St :=
  if st.1.getD i 0 ≠ 2 ∧ preB name (tags.getD i none) = true then
    (if st.1.getD i 0 = 1 then .error (multi i) else if inP st.2 name then .error (dbl name) else .ok (st.1.set i 1, st.2 ++ [(name, i)]))
  else .ok st
noncomputable def paAll (tags : List Tag) : List Str → St → Except Str St
  | [], st => .ok st
  | name :: r, st => if name = dots then .ok st else if inP st.2 name then paAll tags r st else (upto (paTurn tags name) tags.length 0 st).bind (paAll tags r)
theorem size_le {x : Str} (h : x.length ≤ 100000) : x.length ≤ sizeLine := Nat.le_trans h (by decide)
theorem dig_len : ∀ j : Nat, j < 20 → (Str.ofString (toString ((j : Int) + 1))).length ≤ 10 := by decide
theorem lit_e : Str.empty.length = 0 := by decide
theorem lit_a : (Str.ofString "argument ").length = 9 := by decide
theorem lit_b : (Str.ofString " matches multiple formal arguments").length = 34 := by decide
theorem multi_eq (i : Nat) : multi i = Str.empty ++ Str.ofString "argument " ++ Str.ofString (toString ((i : Int) + 1)) ++ Str.ofString " matches multiple formal arguments" := by
  rw [show Str.empty ++ Str.ofString "argument " = Str.ofString "argument " by decide]; rfl
theorem multi_len {i : Nat} (h : i < 20) : (multi i).length ≤ 1000 := by
  have := dig_len i h
  rw [multi_eq]
  simp only [Str.length_append, lit_e, lit_a, lit_b]; omega
section
variable {w : World} {A A₀ : Around} {s : Shared} {base g : Heap} {outer : List Env} {L : Addr} {m mg mb : Str → Option Value} {mean : ExcName → Option Value} {env : Env}
  {Q : Value → Shared → Prop} {E : Value → Shared → Prop}
inductive JPa (w : World) (x dx f t u p : Addr) (k1 k2 k3 k4 : Tok) (n : Nat) (tags : List Tag) (st : St) (nm : Str) (tv : Tok) (j : Nat) (m₁ : Str → Option Value) (led : List (Addr × Obj)) : Prop
  | mk (st'' : St) (ou op : Obj) (uvs : List Value) (kvs : List (Str × Value)) (h1 : m₁ (Str.ofString "self") = some (.ref x)) (h2 : m₁ (Str.ofString "name") = some (.str nm tv)) (h3 : led = (x, instObj 103 dx) :: (dx, dictOf (selfL w.params k1 k2 k3 k4 f t u p) n) :: (u, ou) :: (p, op) :: []) (h4 : MIs w ou op st'' uvs kvs) (h5 : st''.1.length = tags.length) (h6 : st''.2.length ≤ st.2.length + j) (h7 : upto (paTurn tags nm) tags.length j st'' = upto (paTurn tags nm) tags.length 0 st) : JPa w x dx f t u p k1 k2 k3 k4 n tags st nm tv j m₁ led
theorem say_MPa_14 : True := by
  k_with_none
  (k_with "call ref" => (k_here; (with_reducible show wpAny _ _ (call (Value.ref _) _ _) _ _ _); refine halt ?_))
  (k_with "subscriptTail" => (k_here; (with_reducible show wpAny _ _ (subscriptTail _ _ (Value.ref _) (Value.int _ _)) _ _ _); k_dflt (refine' tail_L (by exact isList_G (by k_asm) (by assumption)) (by omega) (by omega) (by assumption) ?_ (by with_unfolding_all rfl);  k_whole)))
  (k_with "subscriptTail" => (k_here; (with_reducible show wpAny _ _ (subscriptTail _ _ (Value.ref _) (Value.int _ _)) _ _ _); k_dflt (refine' tail_L (by exact LstO.isList (by assumption) (News.get (by k_asm) (by k_mem))) (by omega) (by omega) (by assumption) ?_ (by with_unfolding_all rfl);  k_whole)))
  (k_with "eval Name" => (k_here; k_dflt (refine' nameX_L (by k_asm) (by first | rfl | assumption) ?_ (by rfl) (by rfl);  k_whole)))
  (k_with "own iter" => ((with_reducible show wpAny _ _ (pyIter (Value.ref _)) (fun it s₂ => LoopAtV _ _ _ _ _ _ _ _ _ it s₂) _ _); refine halt ?_))
  (k_with "InvEndN" => (refine halt ?_))
  (k_with "compareOp NotIn str ref" => (k_dflt (refine' notIn_Db (by k_asm) (by k_mem) (by assumption) (by assumption) (by exact PlacesK.isSome (by assumption) _) ?_;  k_whole)))
  (k_with "compareOp In str ref" => (k_dflt (refine' in_Db (by k_asm) (by k_mem) (by assumption) (by assumption) (by exact PlacesK.isSome (by assumption) _) ?_;  k_whole)))
  (k_with "call builtin:len" => (k_here; k_dflt (refine' len_L (by exact isList_G (by k_asm) (by assumption)) (by first | exact TagsAre.len (by assumption) | exact IntsV.len (by assumption) | exact StrsV.len (by assumption)) (by omega) ?_); intro _ _))
  (k_with "setItem" => (k_here; (with_reducible show wpAny _ _ (setItem (Value.ref _) (Value.str _ _) _) _ _ _); k_dflt (refine' set_D (by k_asm) (by k_asm) (by k_updF) (by assumption) (by first | decide | omega) ?_;  k_whole); intro _ _ _ _ _))
  (k_with "setItem" => (k_here; (with_reducible show wpAny _ _ (setItem (Value.ref _) (Value.int _ _) _) _ _ _); k_dflt (refine' set_L (by k_asm) (by k_asm) (by k_updF) (by assumption) (by omega) (by omega) (by omega) ?_;  k_whole); intro _ _ _ _ _))
  (k_with "loadName" => (k_here; k_dflt (refine' ldn (by k_asm) (by first | rfl | assumption) ?_ (by rfl) (by rfl);  k_whole)))
  (k_with "memall" => ((repeat (refine List.forall_mem_cons.mpr ⟨by k_mem, ?_⟩)); exact List.forall_mem_nil _))
  (k_with "exec Raise Call" => (refine halt ?_))
  (k_with "exec Raise" => (refine halt ?_))
  (k_with "And" => ((with_reducible show PySem.Str.length (_ ++ _) ≤ sizeLine ∧ wpAny _ _ (joinParts _ _) _ _ _); refine halt ?_))
  exact trivial
theorem partial_of_spec {a : MAt} {ou op : Obj} {st : St} {uvs tvs : List Value} {kvs : List (Str × Value)} {tags : List Tag} {nm : Str} {tv : Tok} (Z : At w A s 8 40 A₀ base g env outer L m mg mb mean)
   (N : News g L s.heap (a.led w.params ou op)) (hap : a.Apart) (hI : MIs w ou op st uvs kvs)
   (ht : s.heap.IsList a.t tvs.toArray) (hT : TagsAre tvs tags) (hl1 : tags.length ≤ 20) (hl3 : st.2.length ≤ 800) (hl4 : st.1.length = tags.length)
   (hnl : nm.length ≤ 100)
   (hQ : ∀ h' tk' ou' op' uvs' kvs' st', upto (paTurn tags nm) tags.length 0 st = .ok st' → Kept [a.u, a.p] s.heap h' → h'.get? a.u = some ou' → h'.get? a.p = some op' → MIs w ou' op' st' uvs' kvs' → st'.1.length = tags.length → st'.2.length ≤ st.2.length + tags.length → Q .none { s with heap := h', toks := tk' })
   (hE : ∀ h' tk' e msg dx T vs ts tt tm, upto (paTurn tags nm) tags.length 0 st = .error msg → msg.length ≤ 1000 → Rsd w [a.u, a.p] (env :: outer) s.heap h' e msg dx T vs ts tt tm → E (.ref e) { s with heap := h', toks := tk' }) :
   wpAny (model PySem.Challenge.rw_ov0042_01.row.prog w) A (call (.ref 81) [.ref a.x, .str nm tv]) Q E s := by
  have hX := Z.X; revert hX; k_fill; intro hX
  obtain ⟨x, dx, f, t, u, p, k1, k2, k3, k4, n⟩ := a
  obtain ⟨xd, xu, xp, du, dp, up, fx, tx, lo⟩ := hap
  dsimp only [MAt.led] at *
  refine wpAny_call ?_
  refine enter (binds := [(Str.ofString "self", .ref x), (Str.ofString "name", .str nm tv)]) Z N rfl rfl (by decide) (BindsTo.of_eq rfl) (locs rfl) (fun G L' h₁ F' N' B' X' T' hG hG2 hL hlt => ?_) rfl rfl rfl (by decide)
  dsimp only
  k_fold
  have htG : G.IsList t tvs.toArray := by
    obtain ⟨o, ho, r⟩ := ht
    exact ⟨o, hG t o ho (by simpa using tx), r⟩
  k_steps
  rename Fr _ _ _ _ => Fz
  rename News _ _ _ _ => Nz
  rename IsRange _ _ _ _ _ _ _ _ => hr
  unfold Halt
  refine loop_range (JPa w x dx f t u p k1 k2 k3 k4 n tags st nm tv) Z.hh hr (by omega) Fz Nz ?_ ?_ ?_
  · exact ⟨st, ou, op, uvs, kvs, rfl, rfl, rfl, hI, hl4, by omega, rfl⟩
  · clear Fz Nz hr hI
    rintro j tj m₂ news₂ h2 tk2 own2 hj _ hoff2 ⟨st'', ou'', op'', uvs'', kvs'', hself, hname, rfl, ⟨hlst, hits, hdct, hplc⟩, hs1, hs2, hpos⟩ F₂ N₂
    simp only [List.map_cons, List.map_nil] at hoff2
    dsimp only [List.cons_append, List.nil_append] at N₂
    rw [upto_step hj] at hpos
    obtain ⟨tgv, htv, htg⟩ := hT.at_ j tags[j] (by simp [hj])
    obtain ⟨tu, hut⟩ := hits.at_ j (st''.1[j]'(by omega)) (by simp [hs1, hj])
    have hkl : kvs''.length ≤ 1000 := by
      have := congrArg List.length hplc.keys
      simp only [List.length_map] at this
      omega
    have hul : uvs''.length = tags.length := by rw [hits.len, hs1]
    have hin : ((j : Int)).toNat = j := by omega
    have hj0 : (0 : Int) ≤ j := by omega
    have ht1 : paTurn tags nm j st'' = if st''.1[j]'(by omega) ≠ 2 ∧ preB nm tags[j] = true then (if st''.1[j]'(by omega) = 1 then .error (multi j) else if inP st''.2 nm then .error (dbl nm) else .ok (st''.1.set j 1, st''.2 ++ [(nm, j)])) else .ok st'' := by
      simp [paTurn, hs1, hj]
    rw [ht1] at hpos
    generalize tags[j] = tg at *
    generalize st''.1[j]'(by omega) = uj at *
    rw [← hin] at htv hut
    try k_fold
    rcases tg with _ | tg
    · cases htg
      k_steps
      all_goals (try unfold Halt)
      all_goals (
        rename Fr G L' _ _ => F4
        rename News G L' _ _ => N4
        exact InvEndN.intro F4 N4 ⟨st'', ou'', op'', uvs'', kvs'', hself, hname, rfl, ⟨hlst, hits, hdct, hplc⟩, hs1, by omega, by simpa [Except.bind, preB] using hpos⟩ rfl (by walk_at "memall") (fun q hq => by simp [hq]))
    · obtain ⟨tt, rfl⟩ := htg
      have hpre : preB nm (some tg) = ((tg != Str.ofString "") && Txt.startswith nm tg) := by simp [preB, bne, Bool.beq_eq_decide_eq]
      rw [hpre] at hpos
      k_steps
      all_goals (try unfold Halt)
      all_goals (rename Fr G L' _ _ => F4; rename News G L' _ _ => N4)
      · rename uj ≠ 2 => hc1
        rename (tg != Str.ofString "") = true => hc2
        rename Txt.startswith nm tg = true => hc3
        rename uj = 1 => hc4
        rw [if_pos ⟨hc1, by rw [hc2, hc3]; rfl⟩, if_pos hc4, multi_eq] at hpos
        have hml := multi_len (i := j) (by omega)
        rw [multi_eq] at hml
        refine exec_raise Z.hh ?_
        k_steps
        all_goals (try unfold Halt)
        refine ⟨by exact (by decide : (Str.empty ++ Str.ofString "argument ").length ≤ sizeLine), ?_⟩
        k_steps
        all_goals (try unfold Halt)
        have hdg := dig_len j (by omega)
        refine ⟨size_le (by simp only [Str.length_append, lit_e, lit_a]; omega), ?_⟩
        k_steps
        all_goals (try unfold Halt)
        have hsz : (Str.empty ++ Str.ofString "argument " ++ Str.ofString (toString ((j : Int) + 1)) ++ Str.ofString " matches multiple formal arguments").length ≤ sizeLine := size_le (by simp only [Str.length_append, lit_e, lit_a, lit_b]; omega)
        refine ⟨hsz, ?_⟩
        generalize Str.empty ++ Str.ofString "argument " ++ Str.ofString (toString ((j : Int) + 1)) ++ Str.ofString " matches multiple formal arguments" = X at hsz hpos hml ⊢
        refine joinParts_nil ?_ hsz
        k_steps
        all_goals (try unfold Halt)
        refine raise_in (W := [u, p]) Z B' F4 X' T' hG2 hL (by decide) (by decide) rfl (kept_led hG N F4 N4 ?_) ?_ fun h' tk' e dx T vs ts tt tm R => hE h' tk' e _ dx T vs ts tt tm hpos.symm hml R
        · intro q hq hn
          simp only [List.mem_cons, List.not_mem_nil, or_false] at hq hn ⊢
          rcases hq with rfl | rfl | rfl | rfl <;> simp_all
        · intro b hb
          simp only [List.mem_cons, List.not_mem_nil, or_false] at hb
          rcases hb with rfl | rfl
          · exact ⟨ou'', N4.get (by simp)⟩
          · exact ⟨op'', N4.get (by simp)⟩
      · rename uj ≠ 2 => hc1
        rename (tg != Str.ofString "") = true => hc2
        rename Txt.startswith nm tg = true => hc3
        rename uj ≠ 1 => hc4
        rename inP st''.2 nm = true => hc5
        rw [if_pos ⟨hc1, by rw [hc2, hc3]; rfl⟩, if_neg hc4, if_pos hc5] at hpos
        refine exec_raise Z.hh ?_
        k_steps
        all_goals (try unfold Halt)
        refine doubled_spec (at_in Z B' F4 X' T' (by decide) (by decide) rfl) hnl ?_
        intro h9 tk9 t9 k9
        replace F4 := fr_after (W := []) F4 (by simp) k9
        replace N4 := news_kept (W := []) N4 (by simp) k9
        clear k9
        k_steps
        all_goals (try unfold Halt)
        refine raise_in (W := [u, p]) Z B' F4 X' T' hG2 hL (by decide) (by decide) rfl (kept_led hG N F4 N4 ?_) ?_ fun h' tk' e dx T vs ts tt tm R => hE h' tk' e _ dx T vs ts tt tm hpos.symm (dbl_len hnl) R
        · intro q hq hn
          simp only [List.mem_cons, List.not_mem_nil, or_false] at hq hn ⊢
          rcases hq with rfl | rfl | rfl | rfl <;> simp_all
        · intro b hb
          simp only [List.mem_cons, List.not_mem_nil, or_false] at hb
          rcases hb with rfl | rfl
          · exact ⟨ou'', N4.get (by simp)⟩
          · exact ⟨op'', N4.get (by simp)⟩
      · rename uj ≠ 2 => hc1
        rename (tg != Str.ofString "") = true => hc2
        rename Txt.startswith nm tg = true => hc3
        rename uj ≠ 1 => hc4
        rename inP st''.2 nm = false => hc5
        rw [if_pos ⟨hc1, by rw [hc2, hc3]; rfl⟩, if_neg hc4, if_neg (by simp [hc5])] at hpos
        rename LstO _ _ => hl4
        rename Obj.IsDictOf _ _ _ => hd4
        rw [hin] at hl4
        exact InvEndN.intro F4 N4 ⟨(st''.1.set j 1, st''.2 ++ [(nm, j)]), _, _, _, _, hself, hname, rfl, ⟨hl4, hits.set j 1 _, hd4, hplc.snoc hc5 j _⟩, by simp [hs1], by simp; omega, hpos⟩ rfl (by walk_at "memall") (fun q hq => by simp [hq])
      · rename Txt.startswith nm tg = false => hc3
        exact InvEndN.intro F4 N4 ⟨st'', ou'', op'', uvs'', kvs'', hself, hname, rfl, ⟨hlst, hits, hdct, hplc⟩, hs1, by omega, by simpa [Except.bind, hc3] using hpos⟩ rfl (by walk_at "memall") (fun q hq => by simp [hq])
      · rename (tg != Str.ofString "") = false => hc3
        rw [if_neg (by rw [hc3]; simp)] at hpos
        exact InvEndN.intro F4 N4 ⟨st'', ou'', op'', uvs'', kvs'', hself, hname, rfl, ⟨hlst, hits, hdct, hplc⟩, hs1, by omega, by simpa [Except.bind] using hpos⟩ rfl (by walk_at "memall") (fun q hq => by simp [hq])
      · rename uj = 2 => hc3
        rw [if_neg (by rw [hc3]; simp)] at hpos
        exact InvEndN.intro F4 N4 ⟨st'', ou'', op'', uvs'', kvs'', hself, hname, rfl, ⟨hlst, hits, hdct, hplc⟩, hs1, by omega, by simpa [Except.bind] using hpos⟩ rfl (by walk_at "memall") (fun q hq => by simp [hq])
  · rintro m₂ news₂ h2 tk2 - ⟨st'', ou'', op'', uvs'', kvs'', hself, hname, rfl, hI2, hs1, hs2, hpos⟩ F₂ N₂
    rw [upto_stop (by omega)] at hpos
    clear Fz Nz hr hI
    dsimp only
    try k_fold
    k_steps
    all_goals (try unfold Halt)
    refine hQ _ _ ou'' op'' uvs'' kvs'' _ hpos.symm (kept_led hG N F₂ N₂ ?_) (N₂.get (by simp)) (N₂.get (by simp)) hI2 hs1 (by omega)
    intro q hq hn
    simp only [List.mem_cons, List.not_mem_nil, or_false] at hq hn ⊢
    rcases hq with rfl | rfl | rfl | rfl <;> simp_all
end
end Mine
end
section
open PySem PySem.W PySem.Calls PyProof.Rows
set_option maxRecDepth 100000
set_option maxHeartbeats 3000000
namespace Mine
section
variable {w : World} {A A₀ : Around} {s : Shared} {base g : Heap} {outer : List Env} {L : Addr} {m mg mb : Str → Option Value} {mean : ExcName → Option Value} {env : Env}
  {Q : Value → Shared → Prop} {E : Value → Shared → Prop}
/-- the owned are no frames -/
theorem say_MPb_15 : True := by
  k_with_none
  (k_with "call ref" => (k_here; (with_reducible show wpAny _ _ (call (Value.ref _) _ _) _ _ _); refine halt ?_))
  (k_with "subscriptTail" => (k_here; (with_reducible show wpAny _ _ (subscriptTail _ _ (Value.ref _) (Value.int _ _)) _ _ _); k_dflt (refine' tail_L (by exact isList_G (by k_asm) (by assumption)) (by omega) (by omega) (by assumption) ?_ (by with_unfolding_all rfl);  k_whole)))
  (k_with "subscriptTail" => (k_here; (with_reducible show wpAny _ _ (subscriptTail _ _ (Value.ref _) (Value.int _ _)) _ _ _); k_dflt (refine' tail_L (by exact LstO.isList (by assumption) (News.get (by k_asm) (by k_mem))) (by omega) (by omega) (by assumption) ?_ (by with_unfolding_all rfl);  k_whole)))
  (k_with "eval Name" => (k_here; k_dflt (refine' nameX_L (by k_asm) (by first | rfl | assumption) ?_ (by rfl) (by rfl);  k_whole)))
  (k_with "own iter" => ((with_reducible show wpAny _ _ (pyIter (Value.ref _)) (fun it s₂ => LoopAtV _ _ _ _ _ _ _ _ _ it s₂) _ _); refine halt ?_))
  (k_with "InvEndN" => (refine halt ?_))
  (k_with "compareOp NotIn str ref" => (k_dflt (refine' notIn_Db (by k_asm) (by k_mem) (by assumption) (by assumption) (by exact PlacesK.isSome (by assumption) _) ?_;  k_whole)))
  (k_with "compareOp In str ref" => (k_dflt (refine' in_Db (by k_asm) (by k_mem) (by assumption) (by assumption) (by exact PlacesK.isSome (by assumption) _) ?_;  k_whole)))
  (k_with "call builtin:len" => (k_here; k_dflt (refine' len_L (by exact isList_G (by k_asm) (by assumption)) (by first | exact TagsAre.len (by assumption) | exact IntsV.len (by assumption) | exact StrsV.len (by assumption)) (by omega) ?_); intro _ _))
  (k_with "setItem" => (k_here; (with_reducible show wpAny _ _ (setItem (Value.ref _) (Value.str _ _) _) _ _ _); k_dflt (refine' set_D (by k_asm) (by k_asm) (by k_updF) (by assumption) (by first | decide | omega) ?_;  k_whole); intro _ _ _ _ _))
  (k_with "setItem" => (k_here; (with_reducible show wpAny _ _ (setItem (Value.ref _) (Value.int _ _) _) _ _ _); k_dflt (refine' set_L (by k_asm) (by k_asm) (by k_updF) (by assumption) (by omega) (by omega) (by omega) ?_;  k_whole); intro _ _ _ _ _))
  (k_with "loadName" => (k_here; k_dflt (refine' ldn (by k_asm) (by first | rfl | assumption) ?_ (by rfl) (by rfl);  k_whole)))
  (k_with "memall" => ((repeat (refine List.forall_mem_cons.mpr ⟨by k_mem, ?_⟩)); exact List.forall_mem_nil _))
  (k_with "exec Raise Call" => (refine halt ?_))
  (k_with "exec Raise" => (refine halt ?_))
  exact trivial
theorem own_nofr {A : Around} {base G h : Heap} {env : Env} {outer : List Env} {qual : Str} {scope : Scope} {L' f : Addr} {cdv : Value} {led : List (Addr × Obj)} {W : List Addr}
    (B' : Below A base (env :: outer) G) (N' : News G L' h led) (hW : ∀ b ∈ W, ∃ o, (b, o) ∈ led) : ∀ b ∈ W, b ∉ fsOf (envOf qual scope L' f cdv :: env :: outer) := by
  intro b hb hm
  obtain ⟨o, ho⟩ := hW b hb
  have z := N' _ ho
  rcases fs_cons hm with q | q
  · exact z.2.1 q
  · obtain ⟨_, o', ho', _⟩ := B'.frames.mem q
    rw [z.2.2] at ho'; cases ho'
theorem fr_led {G h h' : Heap} {L : Addr} {m : Str → Option Value} {led : List (Addr × Obj)} {W : List Addr} (F : Fr G L h m) (N : News G L h led) (k : Kept W h h') (hW : ∀ b ∈ W, ∃ o, (b, o) ∈ led) : Fr G L h' m := by
  refine ⟨?_, fun b o e => k b o (fun n => ?_) (F.keep b o e), F.above⟩
  · obtain ⟨o, es, ep, ho, r⟩ := F.ns
    exact ⟨o, es, ep, k L o (fun n => by obtain ⟨o', ho'⟩ := hW L n; exact (N _ ho').2.1 rfl) ho, r⟩
  · obtain ⟨o', ho'⟩ := hW b n
    have := (N _ ho').2.2
    rw [e] at this; cases this
theorem news4 {G h h' : Heap} {L x dx u p : Addr} {ox od ou op ou9 op9 : Obj} {own : List (Addr × Obj)} (N : News G L h ((x, ox) :: (dx, od) :: (u, ou) :: (p, op) :: own)) (k : Kept [u, p] h h')
    (hu : h'.get? u = some ou9) (hp : h'.get? p = some op9) (off : OwnOff own [x, dx, u, p]) (xu : @Ne Nat x u) (xp : @Ne Nat x p) (du : @Ne Nat dx u) (dp : @Ne Nat dx p) : News G L h' ((x, ox) :: (dx, od) :: (u, ou9) :: (p, op9) :: own) := by
  intro q hq
  simp only [List.mem_cons] at hq
  rcases hq with rfl | rfl | rfl | rfl | hq
  · have z := N _ (.head _)
    exact ⟨k _ _ (by simpa using ⟨xu, xp⟩) z.1, z.2⟩
  · have z := N _ (.tail _ (.head _))
    exact ⟨k _ _ (by simpa using ⟨du, dp⟩) z.1, z.2⟩
  · exact ⟨hu, (N (u, ou) (by simp)).2⟩
  · exact ⟨hp, (N (p, op) (by simp)).2⟩
  · have z := N q (by simp [hq])
    exact ⟨k _ _ (by simpa using ⟨off q hq u (by simp), off q hq p (by simp)⟩) z.1, z.2⟩
inductive JPb (w : World) (x dx f t u p : Addr) (k1 k2 k3 k4 : Tok) (n : Nat) (tags : List Tag) (formals : List Str) (st : St) (i : Nat) (m₁ : Str → Option Value) (led : List (Addr × Obj)) : Prop
  | mk (st' : St) (ou op : Obj) (uvs : List Value) (kvs : List (Str × Value)) (h1 : m₁ (Str.ofString "self") = some (.ref x)) (h2 : led = [(x, instObj 103 dx), (dx, dictOf (selfL w.params k1 k2 k3 k4 f t u p) n), (u, ou), (p, op)]) (h3 : MIs w ou op st' uvs kvs) (h4 : st'.1.length = tags.length) (h5 : st'.2.length ≤ 400 + i * tags.length) (h6 : paAll tags (formals.drop i) st' = paAll tags formals st) : JPb w x dx f t u p k1 k2 k3 k4 n tags formals st i m₁ led
theorem partial_spec {a : MAt} {ou op : Obj} {st : St} {uvs tvs fvs : List Value} {kvs : List (Str × Value)} {tags : List Tag} {formals : List Str} (Z : At w A s 11 60 A₀ base g env outer L m mg mb mean)
   (N : News g L s.heap (a.led w.params ou op)) (hap : a.Apart) (hI : MIs w ou op st uvs kvs)
   (ht : s.heap.IsList a.t tvs.toArray) (hT : TagsAre tvs tags) (hf : s.heap.IsList a.f fvs.toArray) (hF : StrsV fvs formals) (hl1 : tags.length ≤ 20) (hl2 : formals.length ≤ 20) (hl3 : st.2.length ≤ 400) (hl4 : st.1.length = tags.length)
   (hfl : ∀ x ∈ formals, x.length ≤ 100)
   (hQ : ∀ h' tk' ou' op' uvs' kvs' st', paAll tags formals st = .ok st' → Kept [a.u, a.p] s.heap h' → h'.get? a.u = some ou' → h'.get? a.p = some op' → MIs w ou' op' st' uvs' kvs' → st'.1.length = tags.length → st'.2.length ≤ 800 → Q .none { s with heap := h', toks := tk' })
   (hE : ∀ h' tk' e msg dx T vs ts tt tm, paAll tags formals st = .error msg → msg.length ≤ 1000 → Rsd w [a.u, a.p] (env :: outer) s.heap h' e msg dx T vs ts tt tm → E (.ref e) { s with heap := h', toks := tk' }) :
   wpAny (model PySem.Challenge.rw_ov0042_01.row.prog w) A (call (.ref 74) [.ref a.x]) Q E s := by
  have hX := Z.X; revert hX; k_fill; intro hX
  obtain ⟨x, dx, f, t, u, p, k1, k2, k3, k4, n⟩ := a
  have hap' := hap
  obtain ⟨xd, xu, xp, du, dp, up, fx, tx, lo⟩ := hap
  dsimp only [MAt.led] at *
  refine wpAny_call ?_
  refine enter (binds := [(Str.ofString "self", .ref x)]) Z N rfl rfl (by decide) (BindsTo.of_eq rfl) (locs rfl) (fun G L' h₁ F' N' B' X' T' hG hG2 hL hlt => ?_) rfl rfl rfl (by decide)
  dsimp only
  k_fold
  have htG : G.IsList t tvs.toArray := by
    obtain ⟨o, ho, r⟩ := ht
    exact ⟨o, hG t o ho (by simpa using tx), r⟩
  have hfG : G.IsList f fvs.toArray := by
    obtain ⟨o, ho, r⟩ := hf
    exact ⟨o, hG f o ho (by simpa using fx), r⟩
  k_steps
  rename Fr _ _ _ _ => Fz
  rename News _ _ _ _ => Nz
  unfold Halt
  refine loop_list (JPb w x dx f t u p k1 k2 k3 k4 n tags formals st) Z.hh hfG Fz Nz ?_ ?_ ?_
  · exact ⟨st, ou, op, uvs, kvs, rfl, rfl, hI, hl4, by omega, rfl⟩
  · rintro i v m₁ news₁ h tk own hv _ hoff ⟨st', ou', op', uvs', kvs', hself, rfl, hI', hs1, hs2, hpos⟩ F₁ N₁
    simp only [List.map_cons, List.map_nil] at hoff
    dsimp only [List.cons_append, List.nil_append] at N₁
    have hi : i < formals.length := by
      have := (List.getElem?_eq_some_iff.mp hv).1
      rw [hF.len] at this; exact this
    obtain ⟨tv, hv'⟩ := hF.at_ i formals[i] (by simp [hi])
    rw [hv] at hv'; cases hv'
    have hnl := hfl formals[i] (List.getElem_mem hi)
    rw [List.drop_eq_getElem_cons hi] at hpos
    generalize formals[i] = nm at hpos F₁ hnl
    have hmul := Nat.mul_le_mul (Nat.le_of_lt hi) (Nat.le_refl tags.length)
    have hmul2 := Nat.mul_le_mul hl2 hl1
    clear hv Fz Nz
    obtain ⟨hlst, hits, hdct, hplc⟩ := id hI'
    try k_fold
    k_steps
    all_goals (try unfold Halt)
    all_goals (rename Fr G L' _ _ => F4; rename News G L' _ _ => N4)
    · rename (nm == Str.ofString "...") = true => hnd
      rw [paAll, if_pos (by simpa [dots] using hnd)] at hpos
      refine hQ _ _ ou' op' uvs' kvs' _ hpos.symm (kept_led hG N F4 N4 ?_) (N4.get (by simp)) (N4.get (by simp)) hI' hs1 (by omega)
      intro q hq hn
      simp only [List.mem_cons, List.not_mem_nil, or_false] at hq hn ⊢
      rcases hq with rfl | rfl | rfl | rfl <;> simp_all
    · rename inP st'.2 nm = true => hnp
      rename (nm == Str.ofString "...") = false => hnd
      rw [paAll, if_neg (by simpa [dots] using hnd), if_pos hnp] at hpos
      exact InvEndN.intro F4 N4 ⟨st', ou', op', uvs', kvs', hself, rfl, hI', hs1, by rw [Nat.add_mul]; omega, hpos⟩ rfl (by walk_at "memall") (fun q hq => by simp [hq])
    · rename inP st'.2 nm = false => hnp
      rename (nm == Str.ofString "...") = false => hnd
      rw [paAll, if_neg (by simpa [dots] using hnd), if_neg (by simp [hnp])] at hpos
      have hW : Kept [u, p] s.heap _ := kept_led hG N F4 N4 (by
        intro q hq hn
        simp only [List.mem_cons, List.not_mem_nil, or_false] at hq hn ⊢
        rcases hq with rfl | rfl | rfl | rfl <;> simp_all)
      refine partial_of_spec (a := ⟨x, dx, f, t, u, p, k1, k2, k3, k4, n⟩) (at_in Z B' F4 X' T' (by decide) (by decide) rfl) (news_sub N4 (by walk_at "memall")) hap' hI' (isList_G F4 htG) hT hl1 (by omega) hs1 hnl ?_ ?_
      · intro h9 tk9 ou9 op9 uvs9 kvs9 st9 hok k9 hu9 hp9 hI9 hl9 hl10
        replace F4 := fr_led (W := [u, p]) F4 N4 k9 (by
          intro b hb
          simp only [List.mem_cons, List.not_mem_nil, or_false] at hb
          rcases hb with rfl | rfl
          · exact ⟨ou', by simp⟩
          · exact ⟨op', by simp⟩)
        replace N4 := news4 N4 k9 hu9 hp9 hoff xu xp du dp
        rw [hok] at hpos
        clear hI' hlst hits hdct hplc k9 hW
        k_steps
        all_goals (try unfold Halt)
        exact InvEndN.intro F4 N4 ⟨st9, ou9, op9, uvs9, kvs9, hself, rfl, hI9, hl9, by rw [Nat.add_mul]; omega, hpos⟩ rfl (by walk_at "memall") (fun q hq => by simp [hq])
      · intro h9 tk9 e msg dx9 T9 vs9 ts9 tt9 tm9 herr hml R
        rw [herr] at hpos
        refine leave_on (s₁ := { s with heap := h }) B' F4 hG2 rfl R hW ?_ (fun _ _ _ hb => hb) (own_nofr B' N4 ?_) hL ?_
        · intro b hb
          simp only [List.mem_cons, List.not_mem_nil, or_false] at hb
          rcases hb with rfl | rfl
          · exact ⟨ou', N4.get (by simp)⟩
          · exact ⟨op', N4.get (by simp)⟩
        · intro b hb
          simp only [List.mem_cons, List.not_mem_nil, or_false] at hb
          rcases hb with rfl | rfl
          · exact ⟨ou', by simp⟩
          · exact ⟨op', by simp⟩
        · intro h' T vs ts R'
          exact hE h' tk9 e msg dx9 T vs ts tt9 tm9 hpos.symm hml R'
  · rintro m₁ news₁ h tk _ ⟨st', ou', op', uvs', kvs', hself, rfl, hI', hs1, hs2, hpos⟩ F₁ N₁
    rw [hF.len, List.drop_length] at hpos
    clear Fz Nz
    dsimp only
    k_steps
    refine hQ _ _ ou' op' uvs' kvs' _ hpos.symm (kept_led hG N F₁ N₁ ?_) (N₁.get (by simp)) (N₁.get (by simp)) hI' hs1 ?_
    · intro q hq hn
      simp only [List.mem_cons, List.not_mem_nil, or_false] at hq hn ⊢
      rcases hq with rfl | rfl | rfl | rfl <;> simp_all
    · rw [hF.len] at hs2
      have hmul2 := Nat.mul_le_mul hl2 hl1
      omega
end
end Mine
end
section
open PySem PySem.W PySem.Calls PyProof.Rows PySem.Spec
set_option maxRecDepth 100000
set_option maxHeartbeats 2000000
namespace Mine
open LCg
section
variable {prog : Program} {w : World} {A : Around} {E : Value → Shared → Prop} {s : Shared} {g : Heap} {L : Addr} {m : Str → Option Value} {env : Env}
theorem compEnd_mono {I C D : Addr} {s₁ : Shared} {oI oC oD : Obj} {S : List (Addr × Obj) → Prop} {r r' : Value → List (Addr × Obj) → Prop} {y : Value} {s₂ : Shared} (h : CompEnd g L m s₁ I oI C oC D oD S r y s₂) (k : ∀ y news, r y news → r' y news) :
    CompEnd g L m s₁ I oI C oC D oD S r' y s₂ := let ⟨h', tk, n, a, b, c, d, e, f⟩ := h; ⟨h', tk, n, a, b, c, d, e, k _ _ f⟩
/-- a comprehension's turns by a word -/
theorem restU_ind {elt : Expr} {x : Str} {scope : Scope} {cl : List (Str × Addr)} {S : List (Addr × Obj) → Prop} {P : Nat → Value → Prop} {Fin : List Value → List (Addr × Obj) → Prop} (J : Nat → List Value → List (Addr × Obj) → Prop) (n : Nat)
    (fin : ∀ ys news, J n ys news → Fin ys news)
    (turn : ∀ i ys news, i < n → J i ys news → ∀ v I oI C oC D m₂ h tk (E' : Value → Shared → Prop), P i v → NsObj oC m₂ → m₂ x = some v → Fr g L h m → News g L h ((I, oI) :: (C, oC) :: (D, lst ys) :: news) → Off3 I C D news → ((@Ne Nat I C) ∧ (@Ne Nat I D) ∧ (@Ne Nat C D)) →
      wpAny (model prog w) A (eval elt (compEnvC scope cl C env)) (CompEnd g L m { s with heap := h, toks := tk } I oI C oC D (lst ys) S (fun y news' => J (i + 1) (ys ++ [y]) news')) E' { s with heap := h, toks := tk }) :
    ∀ k i ys news, i + k = n → J i ys news → CompRest prog w A g L m env elt x scope cl s S P Fin k i ys news := by
  intro k
  induction k with
  | zero => intro i ys news hi hj; exact CompRest.zero (fin _ _ (by rw [← hi]; exact hj))
  | succ k ih =>
    intro i ys news hi hj
    refine CompRest.succ fun v I oI C oC D m₂ h tk E' hp hc hm F N o ne => ?_
    exact wpAny_mono (turn i ys news (by omega) hj v I oI C oC D m₂ h tk E' hp hc hm F N o ne) (fun y s₂ q => compEnd_mono q fun y news' hj' => ih (i + 1) _ _ (by omega) hj') fun _ _ e => e
theorem restT_ind {ct elt : Expr} {x : Str} {scope : Scope} {cl : List (Str × Addr)} {S : List (Addr × Obj) → Prop} {P : Nat → Value → Prop} {Fin : List Value → List (Addr × Obj) → Prop} (J : Nat → List Value → List (Addr × Obj) → Prop) (n : Nat)
    (fin : ∀ ys news, J n ys news → Fin ys news)
    (turn : ∀ i ys news, i < n → J i ys news → ∀ v I oI C oC D m₂ h tk (E' : Value → Shared → Prop), P i v → NsObj oC m₂ → m₂ x = some v → Fr g L h m → News g L h ((I, oI) :: (C, oC) :: (D, lst ys) :: news) → Off3 I C D news → ((@Ne Nat I C) ∧ (@Ne Nat I D) ∧ (@Ne Nat C D)) →
      wpAny (model prog w) A (isTrue ct (compEnvC scope cl C env) (eval ct (compEnvC scope cl C env))) (fun ok s' => if ok = true then
        wpAny (model prog w) A (eval elt (compEnvC scope cl C env)) (CompEnd g L m { s with heap := h, toks := tk } I oI C oC D (lst ys) S (fun y news' => J (i + 1) (ys ++ [y]) news')) E' s'
        else CompEnd g L m { s with heap := h, toks := tk } I oI C oC D (lst ys) S (fun _ news' => J (i + 1) ys news') Value.none s') E' { s with heap := h, toks := tk }) :
    ∀ k i ys news, i + k = n → J i ys news → LCt.CompRestT prog w A g L m env ct elt x scope cl s S P Fin k i ys news := by
  intro k
  induction k with
  | zero => intro i ys news hi hj; exact LCt.CompRestT.zero (fin _ _ (by rw [← hi]; exact hj))
  | succ k ih =>
    intro i ys news hi hj
    refine LCt.CompRestT.succ fun v I oI C oC D m₂ h tk E' hp hc hm F N o ne => ?_
    refine wpAny_mono (turn i ys news (by omega) hj v I oI C oC D m₂ h tk E' hp hc hm F N o ne) (fun ok s' q => ?_) fun _ _ e => e
    cases ok with
    | true => exact wpAny_mono q (fun y s₂ q => compEnd_mono q fun y news' hj' => ih (i + 1) _ _ (by omega) hj') fun _ _ e => e
    | false =>
      rw [if_neg Bool.false_ne_true] at q ⊢
      exact compEnd_mono q fun y news' hj' => ih (i + 1) _ _ (by omega) hj'
/-- the tests of a comprehension's turn -/
noncomputable abbrev testsOf (ifs : List Expr) (env : Env) : Sem Bool := forIn ifs true fun c r => if r = true then do let ok ← isTrue c env (eval c env); pure (ForInStep.yield ok) else pure (ForInStep.yield r)
/-- two targets: the loop's turn -/
theorem loop_pair {elt iter : Expr} {ifs : List Expr} {elts : List Expr} {x1} {tp : Pos} {scope : Scope} {pos : Pos} {it acc : Value} {R : Result → Shared → Prop} (I : Nat → Shared → Prop)
    (turn : ∀ n s, I n s → wpAny (model prog w) A (pyNext it) (fun r s₁ => match r with
      | none => R (.ok .next) s₁
      | some v => wpAny (model prog w) A (letOwnedTupleGo (.Tuple elts x1 tp) it v) (fun _ s₁' => wpAny (model prog w) A (assign (.Tuple elts x1 tp) env v) (fun _ s₂ =>
          wpAny (model prog w) A (testsOf ifs env) (fun ok s₃ => if ok = true then
            wpAny (model prog w) A (eval elt env) (fun x s₄ =>
              wpAny (model prog w) A (call (.builtin "list.append") [acc, x]) (fun _ s₅ => ∃ m, m < n ∧ I m s₅) (notedBy (model prog w) A env fun e s' => R (.error e) s') s₄) (notedBy (model prog w) A env fun e s' => R (.error e) s') s₃
            else ∃ m, m < n ∧ I m s₃) (notedBy (model prog w) A env fun e s' => R (.error e) s') s₂)
          (notedBy (model prog w) A env fun e s' => R (.error e) s') s₁') (notedBy (model prog w) A env fun e s' => R (.error e) s') s₁) (notedBy (model prog w) A env fun e s' => R (.error e) s') s)
    (n : Nat) (h : I n s) : codeAny (model prog w) A (.compLoop (.ListComp elt [⟨.Tuple elts x1 tp, iter, ifs, 0⟩] scope pos) 0 it acc env) R s := by
  refine codeAny_loop rfl I (fun n s hI => ?_) n h
  show wpAny _ A ((compTurn (.ListComp elt [⟨.Tuple elts x1 tp, iter, ifs, 0⟩] scope pos) 0 it acc env).onRaise (fun x => do noteFrame x env; theTreesLotGoes x)) _ _ s
  refine wpAny_noted ?_
  rw [compTurn_list]
  refine wpAny_bind (wpAny_standAt (wpAny_bind (wpAny_mono (turn n s hI) (fun r s₁ h₁ => ?_) fun _ _ h' => h')))
  cases r with
  | none => exact wpAny_pure h₁
  | some v =>
    refine wpAny_bind (wpAny_mono h₁ (fun _ s₁' h₁' => ?_) fun _ _ h' => h')
    refine wpAny_bind (wpAny_mono h₁' (fun _ s₂ h₂ => wpAny_bind (wpAny_mono h₂ (fun ok s₃ h₃ => ?_) fun _ _ h' => h')) fun _ _ h' => h')
    cases ok with
    | false => exact wpAny_pure ⟨rfl, h₃⟩
    | true => exact wpAny_bind (wpAny_bind (wpAny_mono h₃ (fun x s₄ h₄ => wpAny_bind (wpAny_mono h₄ (fun _ s₅ h₅ => wpAny_pure (wpAny_pure ⟨rfl, h₅⟩)) fun _ _ h' => h')) fun _ _ h' => h'))
/-- a pair's tuple in the ground -/
noncomputable def PairG (g : Heap) (v v₁ v₂ : Value) : Prop := ∃ t, v = .ref t ∧ IsTup g t #[v₁, v₂]
/-- a turn of a comprehension over pairs -/
noncomputable def PairTurn (prog : Program) (w : World) (A : Around) (g : Heap) (L : Addr) (m : Str → Option Value) (env : Env) (ifs : List Expr) (elt : Expr) (x x₂ : Str) (scope : Scope) (cl : List (Str × Addr)) (s : Shared) (S : List (Addr × Obj) → Prop) (J : Nat → List Value → List (Addr × Obj) → Prop) (its : Array Value) : Prop :=
  ∀ i ys news, i < its.size → J i ys news → ∃ v₁ v₂, PairG g its[i]! v₁ v₂ ∧ ∀ I oI C oC D m₂ h tk (E' : Value → Shared → Prop), NsObj oC m₂ → m₂ x = some v₁ → m₂ x₂ = some v₂ → Fr g L h m → News g L h ((I, oI) :: (C, oC) :: (D, lst ys) :: news) → Off3 I C D news → ((@Ne Nat I C) ∧ (@Ne Nat I D) ∧ (@Ne Nat C D)) →
    wpAny (model prog w) A (testsOf ifs (compEnvC scope cl C env)) (fun ok s' => if ok = true then
        wpAny (model prog w) A (eval elt (compEnvC scope cl C env)) (CompEnd g L m { s with heap := h, toks := tk } I oI C oC D (lst ys) S (fun y news' => J (i + 1) (ys ++ [y]) news')) E' s'
        else CompEnd g L m { s with heap := h, toks := tk } I oI C oC D (lst ys) S (fun _ news' => J (i + 1) ys news') Value.none s') E' { s with heap := h, toks := tk }
theorem block_pair {elt iter : Expr} {ifs : List Expr} {x x₂ : Str} {px px₂ tp : Pos} {tk} {scope : Scope} {cl : List (Str × Addr)} {pos : Pos} {s₂ : Shared} {I ax : Addr} {its : Array Value} {news : List (Addr × Obj)}
    {J : Nat → List Value → List (Addr × Obj) → Prop} {RR : Value → Addr → Result → Shared → Prop}
    (hh : A.handled = none) (hne : ax ≠ I) (hsz : its.size ≤ sizeLine)
    (hcell : ∀ y ∈ scope.names, y.2 ≠ .cell) (hkind : scope.kind = .function) (hx : scope.names.lookup x = some .local) (hx₂ : scope.names.lookup x₂ = some .local) (hxx : x ≠ x₂) (hst : s₂.heap.IsListIter I ax 0 ∧ s₂.heap.IsList ax its)
    (F : Fr g L s₂.heap m) (N : News g L s₂.heap news) (hIL : L ≠ I) (hI₀ : g.get? I = none) (off : ∀ p ∈ news, p.1 ≠ I) (hS : SrcAt g ax its news)
    (hJ : J 0 [] news) (R : PairTurn prog w A g L m env ifs elt x x₂ scope cl s₂ (SrcAt g ax its) J its)
    (hRR : ∀ D C h tk m' ys news', Fr g L h m → News g L h ((D, lst ys) :: news') → Off1 D news' → h.Ns C m' → g.get? C = none → g.get? D = none → C ≠ L → D ≠ L → C ≠ D → (∀ p ∈ news', p.1 ≠ C) → J its.size ys news' → RR (.ref D) C (.ok .next) { s₂ with heap := h, toks := tk }) :
    wpAny (model prog w) A (newList []) (fun acc s₃ => wpAny (model prog w) A (newFunctionEnv scope env.globals cl [] env.qual none .none (some env)) (fun cenv s₄ =>
      codeAny (model prog w) A (.compStart (.ListComp elt [⟨.Tuple [.Name x px, .Name x₂ px₂] tk tp, iter, ifs, 0⟩] scope pos) 0 (.ref I) acc { cenv with scope := relabel scope env }) (RR acc cenv.locals) s₄) E s₃) E s₂ := by
  have W := Walks.list (prog := prog) (w := w) hh I ax hne its
  have hIlt : I < s₂.heap.objs.size := by obtain ⟨_, e, _⟩ := hst.1; exact Heap.lt_size e
  have hAlt : ax < s₂.heap.objs.size := by obtain ⟨_, e, _⟩ := hst.2; exact Heap.lt_size e
  refine wpAny_newObj_type (wpAny_newFunctionEnv hcell (by intro y hy; simp at hy) (fun h₁ hns₁ hsb₁ => ?_) hkind)
  dsimp only at hns₁ hsb₁ ⊢
  generalize hH2 : s₂.heap.push { cls := .type "list", dict := none, data := .seq ([] : List Value).toArray } = H2 at hns₁ hsb₁ ⊢
  have hC : H2.objs.size = s₂.heap.objs.size + 1 := by rw [← hH2, Heap.size_push]
  have hDC : s₂.heap.objs.size ≠ H2.objs.size := by rw [hC]; exact Nat.ne_of_lt (Nat.lt_succ_self _)
  have below : ∀ b, b < s₂.heap.objs.size → b ≠ H2.objs.size ∧ b ≠ s₂.heap.objs.size := fun b hb => ⟨by rw [hC]; exact Nat.ne_of_lt (Nat.lt_succ_of_lt hb), Nat.ne_of_lt hb⟩
  have old : ∀ b o, s₂.heap.get? b = some o → h₁.get? b = some o := fun b o e => hsb₁.extBut b o (below b (Heap.lt_size e)).1 (Heap.get?_push_of_some _ (hH2 ▸ Heap.get?_push_of_some _ e))
  have hacc : h₁.get? s₂.heap.objs.size = some (lst []) := hsb₁.extBut _ _ hDC (Heap.get?_push_of_some _ (hH2 ▸ Heap.get?_push_size _ rfl))
  have hst₁ : h₁.IsListIter I ax 0 ∧ h₁.IsList ax its := W.frame _ _ _ hst fun b _ o e => old b o e
  have fresh : ∀ a, s₂.heap.objs.size ≤ a → s₂.heap.get? a = none := fun a ha => Heap.get?_none_of_le ha
  have fresh₀ : ∀ a, s₂.heap.objs.size ≤ a → g.get? a = none := fun a ha => by
    cases e : g.get? a with
    | none => rfl
    | some o' => have := F.keep a o' e; rw [fresh a ha] at this; cases this
  have hD₀ : g.get? s₂.heap.objs.size = none := fresh₀ _ (Nat.le_refl _)
  have hC₀ : g.get? H2.objs.size = none := fresh₀ _ (by rw [hC]; exact Nat.le_succ _)
  have hLlt : L < s₂.heap.objs.size := F.ns.lt
  have hDL : s₂.heap.objs.size ≠ L := Ne.symm (below L hLlt).2
  have hCL : H2.objs.size ≠ L := Ne.symm (below L hLlt).1
  have hCI : I ≠ H2.objs.size := (below I hIlt).1
  have hDI : I ≠ s₂.heap.objs.size := (below I hIlt).2
  have off₀ : Off3 I H2.objs.size s₂.heap.objs.size news := Off3.of fun p hp => ⟨off p hp, (below _ (Heap.lt_size (N p hp).1)).1, (below _ (Heap.lt_size (N p hp).1)).2⟩
  have notC : ∀ b ∈ [I, ax], b ≠ H2.objs.size := fun b hb => by
    simp only [List.mem_cons, List.not_mem_nil, or_false] at hb
    rcases hb with rfl | rfl
    · exact hCI
    · exact (below _ hAlt).1
  have notD : ∀ b ∈ [I, ax], b ≠ s₂.heap.objs.size := fun b hb => by
    simp only [List.mem_cons, List.not_mem_nil, or_false] at hb
    rcases hb with rfl | rfl
    · exact hDI
    · exact (below _ hAlt).2
  have loop : ∀ s₃ : Shared, s₃ = { s₂ with heap := h₁, toks := s₂.toks + ([] : List (Str × Value)).length } →
      codeAny (model prog w) A (.compLoop (.ListComp elt [⟨.Tuple [.Name x px, .Name x₂ px₂] tk tp, iter, ifs, 0⟩] scope pos) 0 (.ref I) (.ref s₂.heap.objs.size) (compEnvC scope cl H2.objs.size env))
        (RR (.ref s₂.heap.objs.size) H2.objs.size) s₃ := by
    rintro s₃ rfl
    refine loop_pair
      (fun k s' => ∃ h' tk i ys m' news', s' = { s₂ with heap := h', toks := tk } ∧ i ≤ its.size ∧ k = its.size + 1 - i ∧ ys.length ≤ i ∧ (h'.IsListIter I ax i ∧ h'.IsList ax its) ∧ Fr g L h' m ∧ h'.Ns H2.objs.size m' ∧ News g L h' ((s₂.heap.objs.size, lst ys) :: news') ∧
        Off3 I H2.objs.size s₂.heap.objs.size news' ∧ SrcAt g ax its news' ∧ J i ys news') ?_ (its.size + 1)
      ⟨h₁, _, 0, [], _, news, rfl, Nat.zero_le _, rfl, Nat.le_refl _, hst₁, F.keeps old, hns₁, fun p hp => ?_, off₀, hS, hJ⟩
    · rintro k s' ⟨h', tk, i, ys, m', news', rfl, hi, rfl, hyl, hst', F', hn', N', off', hS', hJ'⟩
      by_cases hlt : i < its.size
      · obtain ⟨v₁, v₂, hpg, R'⟩ := R i ys news' hlt hJ'
        refine W.item i _ _ _ hlt hst' fun v h₂ tk₂ hPv hst₂ hk₂ => ?_
        have hv : its[i]! = v := by rw [getElem!_def, hPv]
        rw [hv] at hpg
        obtain ⟨t, rfl, hgt⟩ := hpg
        have off3 := off'.mem
        have F₂ : Fr g L h₂ m := fr_but F' hk₂ hIL hI₀
        have N₂ : News g L h₂ ((s₂.heap.objs.size, lst ys) :: news') := news_but N' hk₂ fun p hp => by
          rcases List.mem_cons.mp hp with rfl | hp
          · exact Ne.symm hDI
          · exact (off3 p hp).1
        have ht : IsTup h₂ t #[v₁, v₂] := by
          obtain ⟨o, ho, r⟩ := hgt
          exact ⟨o, F₂.keep _ _ ho, r⟩
        refine wpAny_letOwnedTupleGo_listiter hst₂.1 ?_
        refine assign_Tuple_tuple hh ht rfl rfl fun h₅ he => ?_
        have he' : ∀ b o, h₂.get? b = some o → h₅.get? b = some o := fun b o e => he b o (Nat.ne_of_lt (Heap.lt_size e)) e
        refine assignInOrder_cons (wpAny_assign_Name (wpAny_storeName_local (lookup_relabel_local hx) ((hn'.at' fun o e => hk₂ _ o (by simpa using Ne.symm hCI) e).at' fun o e => he' _ o e) (fun h₆ hn₆ hs₆ => ?_) (by simp [compEnvC, relabel, hkind])))
        refine assignInOrder_cons (wpAny_assign_Name (wpAny_storeName_local (lookup_relabel_local hx₂) hn₆ (fun h₃ hn₃ hs₃ => ?_) (by simp [compEnvC, relabel, hkind])))
        refine assignInOrder_nil ?_
        have old3 : ∀ b o, b ≠ H2.objs.size → h₂.get? b = some o → h₃.get? b = some o := fun b o hb e => hs₃.extBut b o hb (hs₆.extBut b o hb (he' b o e))
        have hst₃ : h₃.IsListIter I ax (i + 1) ∧ h₃.IsList ax its := W.frame _ _ _ hst₂ fun b hb o e => old3 b o (notC b hb) e
        obtain ⟨oI, heI⟩ : ∃ o, h₃.get? I = some o := by obtain ⟨o, e, _⟩ := hst₃.1; exact ⟨o, e⟩
        obtain ⟨oC, heC, hoC⟩ := ns_obj hn₃
        have F₃ : Fr g L h₃ m := ((F₂.keeps he').change hs₆ hCL hC₀).change hs₃ hCL hC₀
        have N₃ : News g L h₃ ((I, oI) :: (H2.objs.size, oC) :: (s₂.heap.objs.size, lst ys) :: news') := fun p hp => by
          rcases List.mem_cons.mp hp with rfl | hp
          · exact ⟨heI, Ne.symm hIL, hI₀⟩
          · rcases List.mem_cons.mp hp with rfl | hp
            · exact ⟨heC, hCL, hC₀⟩
            · have z := N₂ p hp
              refine ⟨old3 _ _ ?_ z.1, z.2⟩
              rcases List.mem_cons.mp hp with rfl | hp
              · exact hDC
              · exact (off3 p hp).2.1
        refine wpAny_mono (R' I oI H2.objs.size oC s₂.heap.objs.size _ h₃ _ _ hoC (by simp [hxx]) (by simp) F₃ N₃ off' ⟨hCI, hDI, Ne.symm hDC⟩) (fun ok s₄ h₄ => ?_) fun _ _ e => e
        cases ok with
        | false =>
          obtain ⟨h₄, tk₄, news₄, rfl, F₄, N₄, off₄, hS₄, hJ₄⟩ := h₄
          have zI := (N₄ (I, oI) List.mem_cons_self).1
          have zC := (N₄ (H2.objs.size, oC) (List.mem_cons_of_mem _ List.mem_cons_self)).1
          have N₄' : News g L h₄ ((s₂.heap.objs.size, lst ys) :: news₄) := fun p hp => N₄ p (List.mem_cons_of_mem _ (List.mem_cons_of_mem _ hp))
          have hst₄ := list_st _ _ _ _ _ hst₃ heI zI F₄.keep (fun p hp => N₄' p (List.mem_cons_of_mem _ hp)) hS₄
          exact ⟨its.size + 1 - (i + 1), by omega, h₄, tk₄, i + 1, ys, _, news₄, rfl, hlt, rfl, by omega, hst₄, F₄, hoC.ns zC, N₄', off₄, hS₄, hJ₄⟩
        | true =>
          refine wpAny_mono h₄ (fun y s₄ h₄ => ?_) fun _ _ e => e
          obtain ⟨h₄, tk₄, news₄, rfl, F₄, N₄, off₄, hS₄, hJ₄⟩ := h₄
          have zI := (N₄ (I, oI) List.mem_cons_self).1
          have zC := (N₄ (H2.objs.size, oC) (List.mem_cons_of_mem _ List.mem_cons_self)).1
          have zD := (N₄ (s₂.heap.objs.size, lst ys) (List.mem_cons_of_mem _ (List.mem_cons_of_mem _ List.mem_cons_self))).1
          have N₄' : News g L h₄ news₄ := fun p hp => N₄ p (List.mem_cons_of_mem _ (List.mem_cons_of_mem _ (List.mem_cons_of_mem _ hp)))
          have hst₄ := list_st _ _ _ _ _ hst₃ heI zI F₄.keep N₄' hS₄
          refine append_at (hsz := by show ys.toArray.size ≤ sizeLine; rw [List.size_toArray]; exact Nat.le_trans hyl (Nat.le_trans hi hsz)) zD fun h₅ hs₅ hD₅ => ?_
          have off4 := off₄.mem
          refine ⟨its.size + 1 - (i + 1), by omega, h₅, tk₄, i + 1, ys ++ [y], _, news₄, rfl, hlt, rfl, by rw [List.length_append, List.length_singleton]; omega, W.frame _ _ _ hst₄ fun b hb o e => hs₅.extBut b o (notD b hb) e, F₄.change hs₅ hDL hD₀,
            (hoC.ns zC).sameBut hs₅ (Ne.symm hDC), fun p hp => ?_, off₄, hS₄, hJ₄⟩
          rcases List.mem_cons.mp hp with rfl | hp
          · exact ⟨hD₅.trans (congrArg some (lst_snoc ys y)), hDL, hD₀⟩
          · exact ⟨hs₅.extBut _ _ (off4 p hp).2.2 (N₄' p hp).1, (N₄' p hp).2⟩
      · obtain rfl : i = its.size := Nat.le_antisymm hi (Nat.not_lt.mp hlt)
        refine W.done _ _ _ hst' fun h₂ tk₂ hk₂ => ?_
        have off3 := off'.mem
        exact hRR _ _ h₂ tk₂ _ ys news' (fr_but F' hk₂ hIL hI₀) (news_but N' hk₂ fun p hp => by
          rcases List.mem_cons.mp hp with rfl | hp
          · exact Ne.symm hDI
          · exact (off3 p hp).1) off'.one (hn'.at' fun o e => hk₂ _ o (by simpa using Ne.symm hCI) e) hC₀ hD₀ hCL hDL (Ne.symm hDC) (fun p hp => (off3 p hp).2.1) hJ'
    · rcases List.mem_cons.mp hp with rfl | hp
      · exact ⟨hacc, hDL, hD₀⟩
      · exact ⟨old _ _ (N p hp).1, (N p hp).2⟩
  exact codeAny_compStart_list (loop _ rfl) (W.self 0 _ _ _ hst₁ (loop _ rfl))
/-- what the iterable of a comprehension over pairs must give -/
noncomputable def PairSrc (prog : Program) (w : World) (A : Around) (g : Heap) (L : Addr) (m : Str → Option Value) (env : Env) (ifs : List Expr) (elt : Expr) (x x₂ : Str) (scope : Scope) (cl : List (Str × Addr)) (Q : Value → Shared → Prop) (xv : Value) (s₁ : Shared) : Prop :=
  ∃ ax its news J, xv = .ref ax ∧ A.handled = none ∧ Fr g L s₁.heap m ∧ News g L s₁.heap news ∧ SrcAt g ax its news ∧ its.size ≤ sizeLine ∧ J 0 [] news ∧
    ∀ s₂ : Shared, (∃ h, s₂ = { s₁ with heap := h }) → PairTurn prog w A g L m env ifs elt x x₂ scope cl s₂ (SrcAt g ax its) J its ∧
      (∀ ys news' D h tk, J its.size ys news' → Fr g L h m → News g L h ((D, lst ys) :: news') → Off1 D news' → Q (.ref D) { s₂ with heap := h, toks := tk })
theorem pair_comp {elt iter : Expr} {ifs : List Expr} {x x₂ : Str} {px px₂ tp : Pos} {tk} {scope : Scope} {cl : List (Str × Addr)} {pos : Pos} {Q : Value → Shared → Prop}
    (hclos : closureFor scope env = pure cl) (hcell : ∀ y ∈ scope.names, y.2 ≠ .cell) (hkind : scope.kind = .function)
    (hnames : ∀ y ∈ scope.names, y.2 = .local → scope.names.lookup y.1 = some .local) (hx : scope.names.lookup x = some .local) (hx₂ : scope.names.lookup x₂ = some .local) (hxx : x ≠ x₂)
    (h : wpAny (model prog w) A (eval iter env) (PairSrc prog w A g L m env ifs elt x x₂ scope cl Q) E s)
    (hs : ∀ x, foldedSetIterable iter env x = pure x := by intro _; rfl) :
    wpAny (model prog w) A (eval (.ListComp elt [⟨.Tuple [.Name x px, .Name x₂ px₂] tk tp, iter, ifs, 0⟩] scope pos) env) Q E s := by
  rw [eval_ListComp]
  refine wpAny_comprehension_free (use := none) rfl hs hclos hkind hnames (wpAny_mono h (fun xv s₁ h₁ => ?_) fun _ _ e => e)
  obtain ⟨ax, its, news, J, rfl, hh, F, N, S, hsz, hJ, R⟩ := h₁
  have hl := S.list F.keep N
  have hlt : ax < s₁.heap.objs.size := by obtain ⟨_, e, _⟩ := hl; exact Heap.lt_size e
  refine wpAny_pyIter_list hl ?_
  have up : ∀ b o, s₁.heap.get? b = some o → (s₁.heap.push { cls := .type "list_iterator", data := .fields #[.ref ax, .int 0 0] }).get? b = some o := fun b o e => Heap.get?_push_of_some _ e
  obtain ⟨R1, R2⟩ := R _ ⟨_, rfl⟩
  refine block_pair hh (Nat.ne_of_lt hlt) hsz hcell hkind hx hx₂ hxx ⟨⟨_, Heap.get?_push_size _ rfl, rfl, rfl⟩, hl.push _⟩
    (F.keeps up) (N.grown up) (Nat.ne_of_lt F.ns.lt) (next_is_new F) (fun p hp => Nat.ne_of_lt (Heap.lt_size (N p hp).1)) S hJ R1 ?_
  intro D C h tk m' ys news' F' N' o1 hn hC₀ hD₀ hCL hDL hCD offC fin
  refine ⟨m', hn, fun h'' hs'' => R2 ys news' D h'' tk fin (F'.change hs'' hCL hC₀) (fun p hp => ?_) o1⟩
  refine ⟨hs''.extBut _ _ ?_ (N' p hp).1, (N' p hp).2⟩
  rcases List.mem_cons.mp hp with rfl | hp
  · exact Ne.symm hCD
  · exact offC p hp
end
end Mine
end
section
open PySem PySem.W PySem.Calls PyProof.Rows
set_option maxRecDepth 100000
set_option maxHeartbeats 3000000
namespace Mine
section
variable {w : World} {A A₀ : Around} {s : Shared} {base g : Heap} {outer : List Env} {L : Addr} {m mg mb : Str → Option Value} {mean : ExcName → Option Value} {env : Env} {led : List (Addr × Obj)} {dp un : Nat}
  {R : Result → Shared → Prop} {name qual : Str} {params : Arguments} {body : List Stmt} {scope : Scope} {dV kV doc pm cdv ct oc : Value} {an od : Option Addr} {osl : Array (Option Value)} {f : Addr} {args : Args} {binds : List (Str × Value)}
/-- a call of an own def some of whose locals are captured -/
theorem enterC (Z : At w A s dp un A₀ base g env outer L m mg mb mean) (N : News g L s.heap led)
    (ho : (Mine.hd.heap_39 w.params).lookup f = some ⟨oc, od, .func (fnOf name qual params body scope dV kV doc pm an cdv ct), osl⟩) (hcd : codeIn (Mine.hd.heap_39 w.params) cdv qual = true)
    (hdp : 0 < dp)
    (hbind : BindsTo s (fnOf name qual params body scope dV kV doc pm an cdv ct) args binds)
    (hkind : ∀ n, ∀ x ∈ binds, scope.names.lookup x.1 = some .local ∨ (scope.names.lookup x.1 = some .cell ∧ ((cellsFrom n scope.names []).lookup x.1).isSome = true))
    (hnd : ((cellsFrom 0 scope.names []).map (·.1)).Nodup)
    (h : ∀ G L' h₁ tk cells, Fr G L' h₁ (bindL (envOfC qual scope L' f cdv).kindOf binds fun _ => none) → News G L' h₁ (cells ++ led) →
      CellsAre (bindC (envOfC qual scope L' f cdv).kindOf binds fun _ => none) (cellsFrom (L' + 1) scope.names []) cells → Below A base (env :: outer) G → (Mine.hd.heap_39 w.params).In G → Top Mine.hd.view_39 (looseW Mine.hd.view_39 [Str.ofString "match_names"]) mean mg mb G →
      (∀ b o, s.heap.get? b = some o → b ∉ led.map (·.1) → G.get? b = some o) → (∀ b o, G.get? b = some o → s.heap.get? b = some o) → s.heap.get? L' = none → (∀ p ∈ led, p.1 < L') → (∀ p ∈ cells, s.heap.get? p.1 = none) →
      wpAny (model PySem.Challenge.rw_ov0042_01.row.prog w) (A.deeper (envOfC qual scope L' f cdv)) (execs body (envOfC qual scope L' f cdv))
        (fun fl s' => R (.ok (.ret (match fl with | .ret v => v | _ => .none))) s')
        (fun e s' => wpAny (model PySem.Challenge.rw_ov0042_01.row.prog w) (A.deeper (envOfC qual scope L' f cdv)) (leaving (envOfC qual scope L' f cdv) e) (fun _ s'' => R (.error e) s'') (fun e' s'' => R (.error e') s'') s')
        { s with heap := h₁, toks := tk })
    (hco : scope.isCoroutine = false) (hgen : scope.isGenerator = false) (hk : scope.kind = .function) : codeAny (model PySem.Challenge.rw_ov0042_01.row.prog w) A (.call (.ref f) args) R s := by
  obtain ⟨B, F, X, T, hA, hf, hke, hd, hu, hh⟩ := Z
  obtain ⟨FG, BG, st, lv⟩ := groundX (R := R) B F N hA hf hke
  refine codeAny_call_function (by omega) ((X.keeps F.keep) _ _ ho) rfl hco hgen rfl (codeRec_of (X.keeps F.keep) hcd) (hbind _ _ _ _ ?_)
  refine wpAny_newFunctionEnv_cells hk (hkind _) fun env' he s' x => ?_
  subst he
  refine ⟨(T.nolimit.keeps F.keep).keeps x.toInCall.keep, codeAny_func ?_⟩
  obtain ⟨h₁, tk, rfl, _⟩ := x.done
  have hk₁ := x.toInCall.keep
  have up : ∀ b o, (hideAll s.heap (led.map (·.1))).get? b = some o → s.heap.get? b = some o := fun b o e => of_hideAll _ e
  obtain ⟨cells, NC, Y⟩ := Cl.news (h₀ := s.heap) (Nat.le_refl _) fun n c hm => ⟨x.cell n c (lookup_of_mem_nodup (cellsFrom_names scope.names 0 (s.heap.objs.size + 1) [] [] rfl ▸ hnd) hm), x.above n c hm⟩
  refine h _ s.heap.objs.size h₁ tk cells ⟨x.toInCall.ns, fun b o e => hk₁ b o (of_hideAll _ e), Nat.le_of_eq (hideAll_size _ _)⟩ (fun p hp => ?_) Y BG (X.keeps st) (T.keeps st) (fun b o e n => hideAll_get _ e n) up ?_ (fun p hp => Heap.lt_size (N p hp).1) (fun p hp => (NC p hp).2.2)
  · rcases List.mem_append.mp hp with hp | hp
    · refine ⟨(NC p hp).1, (NC p hp).2.1, ?_⟩
      cases q : (hideAll s.heap (led.map (·.1))).get? p.1 with
      | none => rfl
      | some o => have := of_hideAll _ q; rw [(NC p hp).2.2] at this; cases this
    · exact ⟨hk₁ _ _ (N p hp).1, Nat.ne_of_lt (Heap.lt_size (N p hp).1), hideAll_none _ (List.mem_map_of_mem hp)⟩
  · exact Heap.get?_none_of_le (Nat.le_refl _)
end
section
variable {w : World} {A A₀ : Around} {s s' : Shared} {base g G : Heap} {outer : List Env} {L L' f : Addr} {m m' mg mb : Str → Option Value} {mean : ExcName → Option Value} {env : Env} {dp un dp' un' : Nat} {qual : Str} {scope : Scope} {cdv : Value}
theorem at_inC (Z : At w A s dp un A₀ base g env outer L m mg mb mean) (B : Below A base (env :: outer) G) (F : Fr G L' s'.heap m') (X : (Mine.hd.heap_39 w.params).In G)
    (T : Top Mine.hd.view_39 (looseW Mine.hd.view_39 [Str.ofString "match_names"]) mean mg mb G) (h1 : dp' + 1 ≤ dp) (h2 : un' + 3 ≤ un) (hk : scope.kind = .function) :
    At w (A.deeper (envOfC qual scope L' f cdv)) s' dp' un' A base G (envOfC qual scope L' f cdv) (env :: outer) L' m' mg mb mean := by
  refine ⟨B, F, X, T, Around.frames_deeper B.stack, rfl, hk, ?_, ?_, Z.hh⟩
  · have := Z.hd; show A.depth + 1 + dp' < _; omega
  · have := Z.hu; show A.units + 3 + un' < _; omega
/-- a new object on the ledger -/
theorem news_new {h' : Heap} {led : List (Addr × Obj)} {D : Addr} {o : Obj} (F : Fr g L s.heap m) (N : News g L h' led) (hD : h'.get? D = some o) (hn : s.heap.get? D = none) : News g L h' ((D, o) :: led) := by
  intro p hp
  rcases List.mem_cons.mp hp with rfl | hp
  · refine ⟨hD, fun q => ?_, ?_⟩
    · obtain ⟨oL, _, _, hL, _⟩ := F.ns
      have q' : D = L := q
      rw [q', hL] at hn; cases hn
    · cases q : g.get? D with
      | none => rfl
      | some o' => have := F.keep _ _ q; rw [hn] at this; cases this
  · exact N p hp
theorem none_of_led {h' : Heap} {led : List (Addr × Obj)} {D : Addr} {o : Obj} (hG : ∀ b o, s.heap.get? b = some o → b ∉ led.map (·.1) → G.get? b = some o) (N : News G L h' ((D, o) :: led)) (off : ∀ p ∈ led, p.1 ≠ D) : s.heap.get? D = none := by
  cases q : s.heap.get? D with
  | none => rfl
  | some o' =>
    have := hG D o' q fun hm => by
      obtain ⟨p, hp, e⟩ := List.mem_map.mp hm
      exact off p hp e
    rw [(N _ (.head _)).2.2] at this; cases this
end
theorem lst_O (ys : List Value) : LstO (LCg.lst ys) ys := ⟨rfl, ys.length, rfl⟩
/-- the free places, in order -/
noncomputable def restOf (used : List Int) : List Int := ((List.range used.length).filter fun i => decide (used.getD i 0 = 0)).map fun i : Nat => (i : Int)
noncomputable def restUpto (used : List Int) (n : Nat) : List Int := ((List.range n).filter fun i => decide (used.getD i 0 = 0)).map fun i : Nat => (i : Int)
theorem restUpto_succ (used : List Int) (n : Nat) : restUpto used (n + 1) = restUpto used n ++ if used.getD n 0 = 0 then [(n : Int)] else [] := by
  unfold restUpto
  rw [List.range_succ, List.filter_append, List.map_append]
  congr 1
  by_cases h : used.getD n 0 = 0
  · rw [if_pos h, List.filter_cons, if_pos (by simpa using h)]; rfl
  · rw [if_neg h, List.filter_cons, if_neg (by simpa using h)]; rfl
theorem IntsV.nil : IntsV [] [] := ⟨rfl, fun _ _ h => by simp at h⟩
theorem IntsV.snoc {vs : List Value} {us : List Int} (h : IntsV vs us) (k : Int) (t : Tok) : IntsV (vs ++ [.int k t]) (us ++ [k]) := by
  refine ⟨by simp [h.len], fun i q hi => ?_⟩
  rcases Nat.lt_trichotomy i us.length with hj | hj | hj
  · rw [List.getElem?_append_left hj] at hi
    rw [List.getElem?_append_left (by rw [h.len]; exact hj)]
    exact h.at_ i q hi
  · subst hj
    simp at hi; subst hi
    exact ⟨t, by simp [← h.len]⟩
  · rw [List.getElem?_eq_none (by simp; omega)] at hi; cases hi
end Mine
end
section
open PySem PySem.W PySem.Calls PyProof.Rows
set_option maxRecDepth 100000
set_option maxHeartbeats 3000000
namespace Mine
section
variable {w : World} {A A₀ : Around} {s : Shared} {base g : Heap} {outer : List Env} {L : Addr} {m mg mb : Str → Option Value} {mean : ExcName → Option Value} {env : Env}
  {Q : Value → Shared → Prop} {E : Value → Shared → Prop}
theorem say_MRest_16 : True := by
  k_with_none
  (k_with "call ref" => (k_here; (with_reducible show wpAny _ _ (call (Value.ref _) _ _) _ _ _); refine halt ?_))
  (k_with "subscriptTail" => (k_here; (with_reducible show wpAny _ _ (subscriptTail _ _ (Value.ref _) (Value.int _ _)) _ _ _); k_dflt (refine' tail_L (by exact isList_G (by k_asm) (by assumption)) (by omega) (by omega) (by assumption) ?_ (by with_unfolding_all rfl);  k_whole)))
  (k_with "subscriptTail" => (k_here; (with_reducible show wpAny _ _ (subscriptTail _ _ (Value.ref _) (Value.int _ _)) _ _ _); k_dflt (refine' tail_L (by exact LstO.isList (by assumption) (News.get (by k_asm) (by k_mem))) (by omega) (by omega) (by assumption) ?_ (by with_unfolding_all rfl);  k_whole)))
  (k_with "eval Name" => (k_here; k_dflt (refine' nameX_L (by k_asm) (by first | rfl | assumption) ?_ (by rfl) (by rfl);  k_whole)))
  (k_with "own iter" => ((with_reducible show wpAny _ _ (pyIter (Value.ref _)) (fun it s₂ => LoopAtV _ _ _ _ _ _ _ _ _ it s₂) _ _); refine halt ?_))
  (k_with "InvEndN" => (refine halt ?_))
  (k_with "compareOp NotIn str ref" => (k_dflt (refine' notIn_Db (by k_asm) (by k_mem) (by assumption) (by assumption) (by exact PlacesK.isSome (by assumption) _) ?_;  k_whole)))
  (k_with "compareOp In str ref" => (k_dflt (refine' in_Db (by k_asm) (by k_mem) (by assumption) (by assumption) (by exact PlacesK.isSome (by assumption) _) ?_;  k_whole)))
  (k_with "call builtin:len" => (k_here; k_dflt (refine' len_L (by exact isList_G (by k_asm) (by assumption)) (by first | exact TagsAre.len (by assumption) | exact IntsV.len (by assumption) | exact StrsV.len (by assumption)) (by omega) ?_); intro _ _))
  (k_with "setItem" => (k_here; (with_reducible show wpAny _ _ (setItem (Value.ref _) (Value.str _ _) _) _ _ _); k_dflt (refine' set_D (by k_asm) (by k_asm) (by k_updF) (by assumption) (by first | decide | omega) ?_;  k_whole); intro _ _ _ _ _))
  (k_with "setItem" => (k_here; (with_reducible show wpAny _ _ (setItem (Value.ref _) (Value.int _ _) _) _ _ _); k_dflt (refine' set_L (by k_asm) (by k_asm) (by k_updF) (by assumption) (by omega) (by omega) (by omega) ?_;  k_whole); intro _ _ _ _ _))
  (k_with "loadName" => (k_here; k_dflt (refine' ldn (by k_asm) (by first | rfl | assumption) ?_ (by rfl) (by rfl);  k_whole)))
  (k_with "memall" => ((repeat (refine List.forall_mem_cons.mpr ⟨by k_mem, ?_⟩)); exact List.forall_mem_nil _))
  (k_with "exec Raise Call" => (refine halt ?_))
  (k_with "exec Raise" => (refine halt ?_))
  (k_with "CompSrcT" => (refine halt ?_))
  (k_with "CompSrc" => (refine halt ?_))
  (k_with "CompEnd" => (refine halt ?_))
  exact trivial
theorem rest_spec {a : MAt} {ou op : Obj} {st : St} {uvs tvs : List Value} {kvs : List (Str × Value)} {tags : List Tag} (Z : At w A s 4 20 A₀ base g env outer L m mg mb mean)
   (N : News g L s.heap (a.led w.params ou op)) (hap : a.Apart) (hI : MIs w ou op st uvs kvs)
   (ht : s.heap.IsList a.t tvs.toArray) (hT : TagsAre tvs tags) (hl1 : tags.length ≤ 20) (hl4 : st.1.length = tags.length)
   (hQ : ∀ h' tk' D ys, Kept [] s.heap h' → s.heap.get? D = none → h'.get? D = some (LCg.lst ys) → IntsV ys (restOf st.1) → Q (.ref D) { s with heap := h', toks := tk' }) :
   wpAny (model PySem.Challenge.rw_ov0042_01.row.prog w) A (call (.ref 100) [.ref a.x]) Q E s := by
  have hX := Z.X; revert hX; k_fill; intro hX
  obtain ⟨x, dx, f, t, u, p, k1, k2, k3, k4, n⟩ := a
  obtain ⟨xd, xu, xp, du, dp, up, fx, tx, lo⟩ := hap
  dsimp only [MAt.led] at *
  refine wpAny_call ?_
  refine enterC (binds := [(Str.ofString "self", .ref x)]) Z N rfl rfl (by decide) (BindsTo.of_eq rfl) (fun n x hx => by simp only [List.mem_singleton] at hx; subst hx; exact Or.inr ⟨rfl, rfl⟩) (by decide) (fun G L' h₁ tk₁ cells F' N' Y B' X' T' hG hG2 hL hlt hcn => ?_) rfl rfl rfl
  obtain ⟨oc, rfl, hoc⟩ := Y.one
  dsimp only [List.cons_append, List.nil_append] at N'
  have hocd : oc.data = .cell (some (.ref x)) := hoc
  have htG : G.IsList t tvs.toArray := by
    obtain ⟨o, ho, r⟩ := ht
    exact ⟨o, hG t o ho (by simpa using tx), r⟩
  dsimp only
  show wpAny _ _ _ _ _ _
  k_fold
  k_steps
  all_goals (try unfold Halt)
  rename Fr _ _ _ _ => Fz
  rename News _ _ _ _ => Nz
  rename IsRange _ _ _ _ _ _ _ _ => hr
  refine LCt.CompSrcT.range (n := tags.length) Z.hh Fz Nz hr (small_one (by decide) (by decide) (by omega) (by omega)) (by rw [rangeSize_nat]; omega) (Nat.le_trans hl1 (by decide)) ?_
  intro g'
  refine restT_ind (fun i ys news => IntsV ys (restUpto st.1 i) ∧ news = [(L' + 1, oc), (x, instObj 103 dx), (dx, dictOf (selfL w.params k1 k2 k3 k4 f t u p) n), (u, ou), (p, op)]) tags.length ?_ ?_ _ 0 [] _ (by omega) ⟨IntsV.nil, rfl⟩
  · rintro ys news ⟨hys, rfl⟩ D h tk F9 N9 off9
    rw [← hl4] at hys
    have off := off9
    simp only [LCg.Off1, and_true] at off9
    have hD0 : s.heap.get? D = none := by
      cases q : s.heap.get? D with
      | none => rfl
      | some o' =>
        have := hG D o' q (by simp only [List.map_cons, List.map_nil, List.mem_cons, List.not_mem_nil, or_false, not_or]; exact ⟨Ne.symm off9.2.1, Ne.symm off9.2.2.1, Ne.symm off9.2.2.2.1, Ne.symm off9.2.2.2.2⟩)
        rw [(N9 _ (.head _)).2.2] at this; cases this
    exact hQ _ _ D ys (kept_led (W := []) hG N F9 N9 (fun q hq _ => by simp only [List.mem_cons] at hq ⊢; rcases hq with h | h | h | h | h <;> simp_all)) hD0 (N9.get (.head _)) hys
  · rintro i ys news hi ⟨hys, rfl⟩ v I oI C oC D m₂ h tk E' hv hC hx F9 N9 off9 ne9
    obtain ⟨t9, rfl⟩ := hv
    rw [Int.zero_add] at hx
    clear Fz Nz hr
    have off9' := off9
    simp only [LCg.Off3, and_true] at off9
    have hin : ((i : Int)).toNat = i := by omega
    have hi0 : (0 : Int) ≤ i := by omega
    obtain ⟨hlst, hits, _, _⟩ := hI
    obtain ⟨tu, hut⟩ := hits.at_ i (st.1[i]'(by omega)) (by simp [hl4, hi])
    have hsu := restUpto_succ st.1 i
    rw [show st.1.getD i 0 = st.1[i]'(by omega) by simp [hl4, hi]] at hsu
    generalize st.1[i]'(by omega) = ui at *
    rw [← hin] at hut
    k_steps
    all_goals (try unfold Halt)
    all_goals (rename Fr _ _ _ _ => F4; rename News _ _ _ _ => N4)
    · rename ui = 0 => hu0
      rw [if_pos hu0] at hsu
      exact LCg.CompEnd.intro F4 N4 _ (fun q hq => hq) off9' trivial ⟨by rw [hsu]; exact hys.snoc _ _, rfl⟩
    · rename ui ≠ 0 => hu0
      rw [if_neg hu0, List.append_nil] at hsu
      exact LCg.CompEnd.intro F4 N4 _ (fun q hq => hq) off9' trivial ⟨by rw [hsu]; exact hys, rfl⟩
end
end Mine
end
section
open PySem PySem.W PySem.Calls PyProof.Rows
set_option maxRecDepth 100000
set_option maxHeartbeats 3000000
namespace Mine
noncomputable abbrev Entry := Tag × Int
/-- the entries' values: tuples of the heap -/
structure ArgsIs (h : Heap) (vs : List Value) (args : List Entry) : Prop where
  len : vs.length = args.length
  at_ : ∀ (i : Nat) (a : Entry), args[i]? = some a → ∃ t v tk, vs[i]? = some (.ref t) ∧ TagV v a.1 ∧ IsTup h t #[v, .int a.2 tk]
theorem say_MArg_17 : True := by
  k_with_none
  exact trivial
theorem ArgsIs.keeps {h h' : Heap} {vs : List Value} {args : List Entry} (x : ArgsIs h vs args) (k : ∀ b o, h.get? b = some o → h'.get? b = some o) : ArgsIs h' vs args :=
  ⟨x.len, fun i a e => by obtain ⟨t, v, tk, h1, h2, o, ho, r⟩ := x.at_ i a e; exact ⟨t, v, tk, h1, h2, o, k _ _ ho, r⟩⟩
theorem ArgsIs.enter {h G : Heap} {vs : List Value} {args : List Entry} {W : List Addr} (x : ArgsIs h vs args) (k : ∀ b o, h.get? b = some o → b ∉ W → G.get? b = some o) (hW : ∀ b ∈ W, ∀ its, ¬ IsTup h b its) : ArgsIs G vs args :=
  ⟨x.len, fun i a e => by obtain ⟨t, v, tk, h1, h2, o, ho, r⟩ := x.at_ i a e; exact ⟨t, v, tk, h1, h2, o, k _ _ ho (fun m => hW t m _ ⟨o, ho, r⟩), r⟩⟩
noncomputable def numText (i : Nat) : Str := Str.ofString (toString ((i : Int) + 1))
noncomputable def argText (i : Nat) : Tag → Str
  | none => numText i
  | some t => if t = Str.ofString "" then numText i else t
section
variable {w : World} {A A₀ : Around} {s : Shared} {base g : Heap} {outer : List Env} {L : Addr} {m mg mb : Str → Option Value} {mean : ExcName → Option Value} {env : Env}
  {Q : Value → Shared → Prop} {E : Value → Shared → Prop}
theorem say_MArg_18 : True := by
  k_with_none
  (k_with "call ref" => (k_here; (with_reducible show wpAny _ _ (call (Value.ref _) _ _) _ _ _); refine halt ?_))
  (k_with "subscriptTail" => (k_here; (with_reducible show wpAny _ _ (subscriptTail _ _ (Value.ref _) (Value.int _ _)) _ _ _); k_dflt (refine' tail_L (by exact isList_G (by k_asm) (by assumption)) (by omega) (by omega) (by assumption) ?_ (by with_unfolding_all rfl);  k_whole)))
  (k_with "subscriptTail" => (k_here; (with_reducible show wpAny _ _ (subscriptTail _ _ (Value.ref _) (Value.int _ _)) _ _ _); k_dflt (refine' tail_L (by exact LstO.isList (by assumption) (News.get (by k_asm) (by k_mem))) (by omega) (by omega) (by assumption) ?_ (by with_unfolding_all rfl);  k_whole)))
  (k_with "eval Name" => (k_here; k_dflt (refine' nameX_L (by k_asm) (by first | rfl | assumption) ?_ (by rfl) (by rfl);  k_whole)))
  (k_with "own iter" => ((with_reducible show wpAny _ _ (pyIter (Value.ref _)) (fun it s₂ => LoopAtV _ _ _ _ _ _ _ _ _ it s₂) _ _); refine halt ?_))
  (k_with "InvEndN" => (refine halt ?_))
  (k_with "compareOp NotIn str ref" => (k_dflt (refine' notIn_Db (by k_asm) (by k_mem) (by assumption) (by assumption) (by exact PlacesK.isSome (by assumption) _) ?_;  k_whole)))
  (k_with "compareOp In str ref" => (k_dflt (refine' in_Db (by k_asm) (by k_mem) (by assumption) (by assumption) (by exact PlacesK.isSome (by assumption) _) ?_;  k_whole)))
  (k_with "call builtin:len" => (k_here; k_dflt (refine' len_L (by exact isList_G (by k_asm) (by assumption)) (by first | exact TagsAre.len (by assumption) | exact IntsV.len (by assumption) | exact StrsV.len (by assumption)) (by omega) ?_); intro _ _))
  (k_with "setItem" => (k_here; (with_reducible show wpAny _ _ (setItem (Value.ref _) (Value.str _ _) _) _ _ _); k_dflt (refine' set_D (by k_asm) (by k_asm) (by k_updF) (by assumption) (by first | decide | omega) ?_;  k_whole); intro _ _ _ _ _))
  (k_with "setItem" => (k_here; (with_reducible show wpAny _ _ (setItem (Value.ref _) (Value.int _ _) _) _ _ _); k_dflt (refine' set_L (by k_asm) (by k_asm) (by k_updF) (by assumption) (by omega) (by omega) (by omega) ?_;  k_whole); intro _ _ _ _ _))
  (k_with "loadName" => (k_here; k_dflt (refine' ldn (by k_asm) (by first | rfl | assumption) ?_ (by rfl) (by rfl);  k_whole)))
  (k_with "memall" => ((repeat (refine List.forall_mem_cons.mpr ⟨by k_mem, ?_⟩)); exact List.forall_mem_nil _))
  (k_with "exec Raise Call" => (refine halt ?_))
  (k_with "exec Raise" => (refine halt ?_))
  (k_with "assign Tuple" => (k_here; (with_reducible show wpAny _ _ (assign (Expr.Tuple _ _ _) _ (Value.ref _)) _ _ _); k_dflt (refine' unpackN_ (by k_asm) (by k_asm) (by exact IsTup.keeps (by assumption) (Fr.keep (by k_asm))) (by assumption) (by exact rfl) (by exact rfl) ?_); intro _ _ _))
  exact trivial
theorem argtext_spec {aa : Addr} {avs : List Value} {args : List Entry} {i : Nat} {ti : Tok} (Z : At w A s 4 20 A₀ base g env outer L m mg mb mean)
   (ha : s.heap.IsList aa avs.toArray) (hA : ArgsIs s.heap avs args) (hi : i < args.length) (hl1 : args.length ≤ 20)
   (hQ : ∀ h' tk' t', Kept [] s.heap h' → Q (.str (argText i (args[i]'hi).1) t') { s with heap := h', toks := tk' }) :
   wpAny (model PySem.Challenge.rw_ov0042_01.row.prog w) A (call (.ref 121) [.ref aa, .int (i : Int) ti, .none]) Q E s := by
  have hX := Z.X; revert hX; k_fill; intro hX
  refine wpAny_call ?_
  refine enter (led := []) (binds := [(Str.ofString "args", .ref aa), (Str.ofString "place", .int (i : Int) ti), (Str.ofString "show", .none)]) Z News.nil rfl rfl (by decide) (BindsTo.of_eq rfl) (locs rfl) (fun G L' h₁ F' N' B' X' T' hG hG2 hL hlt => ?_) rfl rfl rfl (by decide)
  have haG : G.IsList aa avs.toArray := by
    obtain ⟨o, ho, r⟩ := ha
    exact ⟨o, hG aa o ho (by simp), r⟩
  have hAG : ArgsIs G avs args := hA.enter (W := []) (fun b o e _ => hG b o e (by simp)) (by simp)
  obtain ⟨t, v, tk, hv, htv, htt⟩ := hAG.at_ i args[i] (by simp [hi])
  have hin : ((i : Int)).toNat = i := by omega
  have hi0 : (0 : Int) ≤ i := by omega
  rw [← hin] at hv
  have hh := Z.hh
  generalize args[i] = ar at *
  obtain ⟨tg, th⟩ := ar
  dsimp only at *
  show wpAny _ _ _ _ _ _
  k_fold
  rcases tg with _ | tg
  · cases htv
    k_steps
    all_goals (try unfold Halt)
    rename Fr _ _ _ _ => F4
    exact hQ _ _ _ fun b o _ e => F4.keep b o (hG b o e (by simp))
  · obtain ⟨tt, rfl⟩ := htv
    k_steps
    all_goals (try unfold Halt)
    all_goals (rename Fr _ _ _ _ => F4)
    · rename (tg == Str.ofString "") = true => h1
      have e : argText i (some tg) = numText i := by simp [argText, beq_iff_eq.mp h1]
      rw [e] at hQ
      exact hQ _ _ _ fun b o _ e => F4.keep b o (hG b o e (by simp))
    · rename (tg == Str.ofString "") = false => h1
      have e : argText i (some tg) = tg := by rw [argText, if_neg (by simpa using h1)]
      rw [e] at hQ
      exact hQ _ _ _ fun b o _ e => F4.keep b o (hG b o e (by simp))
end
end Mine
end
section
open PySem PySem.W PySem.Calls PyProof.Rows
set_option maxRecDepth 100000
set_option maxHeartbeats 3000000
namespace Mine
theorem say_MUnu_19 : True := by
  k_with_none
  exact trivial
noncomputable def textsOf (args : List Entry) (rest : List Int) : List Str := rest.map fun k => argText k.toNat (args.getD k.toNat (none, 0)).1
noncomputable def unusedText (texts : List Str) : Str := (if 1 < texts.length then Str.ofString "unused arguments" else Str.ofString "unused argument") ++ Str.ofString " (" ++ Txt.join (Str.ofString ", ") texts ++ Str.ofString ")"
theorem StrsV.nil : StrsV [] [] := ⟨rfl, fun _ _ h => by simp at h⟩
theorem StrsV.snoc {vs : List Value} {xs : List Str} (h : StrsV vs xs) (x : Str) (t : Tok) : StrsV (vs ++ [.str x t]) (xs ++ [x]) := by
  refine ⟨by simp [h.len], fun i q hi => ?_⟩
  rcases Nat.lt_trichotomy i xs.length with hj | hj | hj
  · rw [List.getElem?_append_left hj] at hi
    rw [List.getElem?_append_left (by rw [h.len]; exact hj)]
    exact h.at_ i q hi
  · subst hj
    simp at hi; subst hi
    exact ⟨t, by simp [← h.len]⟩
  · rw [List.getElem?_eq_none (by simp; omega)] at hi; cases hi
theorem StrsV.pairs : ∀ {vs : List Value} {xs : List Str}, StrsV vs xs → ∃ l : List (Str × Tok), vs = strValues l ∧ l.map (·.1) = xs
  | [], [], _ => ⟨[], rfl, rfl⟩
  | [], _ :: _, h => by have := h.len; simp at this
  | _ :: _, [], h => by have := h.len; simp at this
  | v :: vs, x :: xs, h => by
    obtain ⟨t, ht⟩ := h.at_ 0 x rfl
    have : StrsV vs xs := ⟨by have := h.len; simpa using this, fun i q hq => by simpa using h.at_ (i + 1) q (by simpa using hq)⟩
    obtain ⟨l, h1, h2⟩ := this.pairs
    simp at ht; subst ht
    exact ⟨(x, t) :: l, by rw [h1]; rfl, by simp [h2]⟩
theorem say_MUnu_20 : True := by
  k_with_none
  (k_with "call ref" => (k_here; (with_reducible show wpAny _ _ (call (Value.ref _) _ _) _ _ _); refine halt ?_))
  (k_with "subscriptTail" => (k_here; (with_reducible show wpAny _ _ (subscriptTail _ _ (Value.ref _) (Value.int _ _)) _ _ _); k_dflt (refine' tail_L (by exact isList_G (by k_asm) (by assumption)) (by omega) (by omega) (by assumption) ?_ (by with_unfolding_all rfl);  k_whole)))
  (k_with "subscriptTail" => (k_here; (with_reducible show wpAny _ _ (subscriptTail _ _ (Value.ref _) (Value.int _ _)) _ _ _); k_dflt (refine' tail_L (by exact LstO.isList (by assumption) (News.get (by k_asm) (by k_mem))) (by omega) (by omega) (by assumption) ?_ (by with_unfolding_all rfl);  k_whole)))
  (k_with "eval Name" => (k_here; k_dflt (refine' nameX_L (by k_asm) (by first | rfl | assumption) ?_ (by rfl) (by rfl);  k_whole)))
  (k_with "own iter" => ((with_reducible show wpAny _ _ (pyIter (Value.ref _)) (fun it s₂ => LoopAtV _ _ _ _ _ _ _ _ _ it s₂) _ _); refine halt ?_))
  (k_with "InvEndN" => (refine halt ?_))
  (k_with "compareOp NotIn str ref" => (k_dflt (refine' notIn_Db (by k_asm) (by k_mem) (by assumption) (by assumption) (by exact PlacesK.isSome (by assumption) _) ?_;  k_whole)))
  (k_with "compareOp In str ref" => (k_dflt (refine' in_Db (by k_asm) (by k_mem) (by assumption) (by assumption) (by exact PlacesK.isSome (by assumption) _) ?_;  k_whole)))
  (k_with "call builtin:len" => (k_here; k_dflt (refine' len_L (by exact isList_G (by k_asm) (by assumption)) (by first | exact TagsAre.len (by assumption) | exact IntsV.len (by assumption) | exact StrsV.len (by assumption)) (by omega) ?_); intro _ _))
  (k_with "setItem" => (k_here; (with_reducible show wpAny _ _ (setItem (Value.ref _) (Value.str _ _) _) _ _ _); k_dflt (refine' set_D (by k_asm) (by k_asm) (by k_updF) (by assumption) (by first | decide | omega) ?_;  k_whole); intro _ _ _ _ _))
  (k_with "setItem" => (k_here; (with_reducible show wpAny _ _ (setItem (Value.ref _) (Value.int _ _) _) _ _ _); k_dflt (refine' set_L (by k_asm) (by k_asm) (by k_updF) (by assumption) (by omega) (by omega) (by omega) ?_;  k_whole); intro _ _ _ _ _))
  (k_with "loadName" => (k_here; k_dflt (refine' ldn (by k_asm) (by first | rfl | assumption) ?_ (by rfl) (by rfl);  k_whole)))
  (k_with "memall" => ((repeat (refine List.forall_mem_cons.mpr ⟨by k_mem, ?_⟩)); exact List.forall_mem_nil _))
  (k_with "exec Raise Call" => (refine halt ?_))
  (k_with "exec Raise" => (refine halt ?_))
  (k_with "assign Tuple" => (k_here; (with_reducible show wpAny _ _ (assign (Expr.Tuple _ _ _) _ (Value.ref _)) _ _ _); k_dflt (refine' unpackN_ (by k_asm) (by k_asm) (by exact IsTup.keeps (by assumption) (Fr.keep (by k_asm))) (by assumption) (by exact rfl) (by exact rfl) ?_); intro _ _ _))
  (k_with "CompSrcT" => (refine halt ?_))
  (k_with "CompSrc" => (refine halt ?_))
  (k_with "CompEnd" => (refine halt ?_))
  (k_with "call builtin:str.join" => (refine halt ?_))
  (k_with "call builtin:len" => (k_here; k_dflt (refine' len_L (by exact LstO.isList (lst_O _) (News.get (by k_asm) (by k_mem))) (by first | assumption | exact IntsV.len (by assumption) | exact StrsV.len (by assumption)) (by omega) ?_); intro _ _))
  exact trivial
theorem join_len (sep : Str) (B : Nat) : ∀ texts : List Str, (∀ x ∈ texts, x.length ≤ B) → (Str.join sep texts).length ≤ texts.length * (B + sep.length)
  | [], _ => Nat.zero_le _
  | [x], h => by have := h x (.head _); show x.length ≤ _; simp only [List.length_singleton]; omega
  | x :: y :: r, h => by
    have h1 := h x (.head _)
    have h2 := join_len sep B (y :: r) fun z hz => h z (.tail _ hz)
    show (x ++ sep ++ Str.join sep (y :: r)).length ≤ _
    simp only [Str.length_append, List.length_cons, Nat.succ_mul] at h2 ⊢
    omega
theorem txtJoin_len {sep : Str} {B : Nat} {texts : List Str} (h : ∀ x ∈ texts, x.length ≤ B) : (Txt.join sep texts).length ≤ texts.length * (B + sep.length) := by
  rw [Txt.join, StrLaws.glued_eq_join]; exact join_len sep B texts h
section
variable {w : World} {A A₀ : Around} {s : Shared} {base g : Heap} {outer : List Env} {L : Addr} {m mg mb : Str → Option Value} {mean : ExcName → Option Value} {env : Env}
  {Q : Value → Shared → Prop} {E : Value → Shared → Prop}
theorem unused_spec {aa ra : Addr} {avs rvs : List Value} {args : List Entry} {rest : List Int} (Z : At w A s 6 30 A₀ base g env outer L m mg mb mean)
   (ha : s.heap.IsList aa avs.toArray) (hA : ArgsIs s.heap avs args) (hr : s.heap.IsList ra rvs.toArray) (hR : IntsV rvs rest) (hr2 : ∀ k ∈ rest, 0 ≤ k ∧ k < args.length) (hl1 : args.length ≤ 20) (hl2 : rest.length ≤ 20)
   (hal : ∀ x ∈ textsOf args rest, x.length ≤ 100)
   (hQ : ∀ h' tk' t', Kept [] s.heap h' → Q (.str (unusedText (textsOf args rest)) t') { s with heap := h', toks := tk' }) :
   wpAny (model PySem.Challenge.rw_ov0042_01.row.prog w) A (call (.ref 126) [.ref aa, .ref ra, .none]) Q E s := by
  have hX := Z.X; revert hX; k_fill; intro hX
  refine wpAny_call ?_
  refine enterC (led := []) (binds := [(Str.ofString "args", .ref aa), (Str.ofString "rest", .ref ra), (Str.ofString "show", .none)]) Z News.nil rfl rfl (by decide) (BindsTo.of_eq rfl) (fun n x hx => by simp only [List.mem_cons, List.not_mem_nil, or_false] at hx; rcases hx with rfl | rfl | rfl <;> first | exact Or.inr ⟨rfl, rfl⟩ | exact Or.inl rfl) (by decide) (fun G L' h₁ tk₁ cells F' N' Y B' X' T' hG hG2 hL hlt hcn => ?_) rfl rfl rfl
  obtain ⟨oc, oc2, rfl, hoc, hoc2⟩ := Y.two
  dsimp only [List.cons_append, List.nil_append] at N'
  have hocd : oc.data = .cell (some .none) := hoc
  have hocd2 : oc2.data = .cell (some (.ref aa)) := hoc2
  have hG0 : ∀ b o, s.heap.get? b = some o → G.get? b = some o := fun b o e => hG b o e (by simp)
  have haG : G.IsList aa avs.toArray := by
    obtain ⟨o, ho, r⟩ := ha
    exact ⟨o, hG0 aa o ho, r⟩
  have hrG : G.IsList ra rvs.toArray := by
    obtain ⟨o, ho, r⟩ := hr
    exact ⟨o, hG0 ra o ho, r⟩
  have hAG : ArgsIs G avs args := hA.keeps hG0
  have hh := Z.hh
  have hrl := hR.len
  dsimp only
  show wpAny _ _ _ _ _ _
  k_fold
  k_steps
  all_goals (try unfold Halt)
  rename Fr _ _ _ _ => Fz
  rename News _ _ _ _ => Nz
  refine LCg.CompSrc.base Z.hh Fz Nz hrG (by simp only [List.size_toArray, hrl]; exact Nat.le_trans hl2 (by decide)) ?_
  intro g'
  refine restU_ind (fun i ys news => StrsV ys ((textsOf args rest).take i) ∧ news = [(L' + 1 + 1, oc), (L' + 1, oc2)]) _ ?_ ?_ _ 0 [] _ (Nat.zero_add _) ⟨StrsV.nil, rfl⟩
  · rintro ys news ⟨hys, rfl⟩ D h tk F9 N9 off9
    have hyl : ys.length = rest.length := by
      rw [hys.len, List.length_take]
      simp [textsOf, hrl]
    have hys2 : StrsV ys (textsOf args rest) := by
      rwa [List.take_of_length_le (by simp [textsOf, hrl])] at hys
    clear hys Fz Nz
    simp only [LCg.Off1, and_true] at off9
    have hjl := txtJoin_len (sep := Str.ofString ", ") hal
    have hsl : (Str.ofString ", ").length = 2 := by decide
    have htl : (textsOf args rest).length = rest.length := by simp [textsOf]
    have hjk : JoinOk (Str.ofString ", ") (textsOf args rest) = true := by
      unfold JoinOk
      rw [StrLaws.joinFits hal (by rw [htl, hsl]; omega)]; rfl
    rw [htl, hsl] at hjl
    have hjl2 : (Txt.join (Str.ofString ", ") (textsOf args rest)).length ≤ 2040 := by omega
    have hQ2 : ∀ h' tk' t', Kept [] s.heap h' → Q (.str ((if 1 < rest.length then Str.ofString "unused arguments" else Str.ofString "unused argument") ++ Str.ofString " (" ++ Txt.join (Str.ofString ", ") (textsOf args rest) ++ Str.ofString ")") t') { s with heap := h', toks := tk' } := by
      intro h' tk' t' k; have := hQ h' tk' t' k; rwa [unusedText, htl] at this
    clear hQ
    obtain ⟨lp, hys3, hlp⟩ := hys2.pairs
    clear hys2
    k_steps
    all_goals (try unfold Halt)
    all_goals (rename Fr _ _ _ _ => F4; rename News _ _ _ _ => N4)
    all_goals (refine SC.join (l := lp) (hys3 ▸ (lst_O ys).isList (N4.get (by simp))) hlp hjk ?_; intro t8 k8)
    all_goals (clear hjk; generalize Txt.join (Str.ofString ", ") (textsOf args rest) = X at *)
    all_goals k_steps
    all_goals (try unfold Halt)
    all_goals (rename Fr _ _ _ _ => F4)
    · rename (1 : Int) < _ => h1
      have h1' : 1 < rest.length := by omega
      rw [if_pos h1'] at hQ2
      exact hQ2 _ _ _ fun b o _ e => F4.keep b o (hG0 b o e)
    · rename ¬ ((1 : Int) < _) => h1
      have h1' : ¬ 1 < rest.length := by omega
      rw [if_neg h1'] at hQ2
      exact hQ2 _ _ _ fun b o _ e => F4.keep b o (hG0 b o e)
  · rintro i ys news hi ⟨hys, rfl⟩ v I oI C oC D m₂ h tk E' hv hC hx F9 N9 off9 ne9
    have hi2 : i < rest.length := by simpa [hrl] using hi
    obtain ⟨t9, hv2⟩ := hR.at_ i rest[i] (by simp [hi2])
    have hv3 : v = .int rest[i] t9 := by
      rw [List.getElem?_toArray, hv2] at hv; exact (Option.some.inj hv).symm
    subst hv3
    have hk := hr2 rest[i] (List.getElem_mem hi2)
    have htx : (textsOf args rest).take (i + 1) = (textsOf args rest).take i ++ [argText rest[i].toNat (args.getD rest[i].toNat (none, 0)).1] := by
      rw [List.take_succ_eq_append_getElem (by simpa [textsOf] using hi2)]
      simp [textsOf]
    generalize rest[i] = k at *
    obtain ⟨kn, rfl⟩ : ∃ kn : Nat, k = kn := ⟨k.toNat, by omega⟩
    have hkn : kn < args.length := by omega
    clear Fz Nz
    have off9' := off9
    simp only [LCg.Off3, and_true] at off9
    k_steps
    all_goals (try unfold Halt)
    rename Fr _ _ _ _ => F4
    rename News _ _ _ _ => N4
    refine argtext_spec (at_inC Z B' F4 X' T' (by decide) (by decide) rfl) (isList_G F4 haG) (hAG.keeps F4.keep) hkn hl1 ?_
    intro h9 tk9 t10 k9
    replace F4 := fr_after (W := []) F4 (by simp) k9
    replace N4 := news_kept (W := []) N4 (by simp) k9
    have e : (args.getD kn (none, 0)).1 = args[kn].1 := by simp [hkn]
    refine LCg.CompEnd.intro F4 N4 _ (fun q hq => hq) off9' (.inl hrG) ⟨?_, rfl⟩
    rw [htx, Int.toNat_natCast, e]
    exact hys.snoc _ _
end
end Mine
end
section
open PySem PySem.W PySem.Calls PyProof.Rows
set_option maxRecDepth 100000
set_option maxHeartbeats 3000000
namespace Mine
section
variable {w : World} {A A₀ : Around} {s : Shared} {base g : Heap} {outer : List Env} {L : Addr} {m mg mb : Str → Option Value} {mean : ExcName → Option Value} {env : Env}
  {Q : Value → Shared → Prop} {E : Value → Shared → Prop}
theorem say_MMake_21 : True := by
  k_with_none
  (k_with "call ref" => (k_here; (with_reducible show wpAny _ _ (call (Value.ref _) _ _) _ _ _); refine halt ?_))
  (k_with "subscriptTail" => (k_here; (with_reducible show wpAny _ _ (subscriptTail _ _ (Value.ref _) (Value.int _ _)) _ _ _); k_dflt (refine' tail_L (by exact isList_G (by k_asm) (by assumption)) (by omega) (by omega) (by assumption) ?_ (by with_unfolding_all rfl);  k_whole)))
  (k_with "subscriptTail" => (k_here; (with_reducible show wpAny _ _ (subscriptTail _ _ (Value.ref _) (Value.int _ _)) _ _ _); k_dflt (refine' tail_L (by exact LstO.isList (by assumption) (News.get (by k_asm) (by k_mem))) (by omega) (by omega) (by assumption) ?_ (by with_unfolding_all rfl);  k_whole)))
  (k_with "eval Name" => (k_here; k_dflt (refine' nameX_L (by k_asm) (by first | rfl | assumption) ?_ (by rfl) (by rfl);  k_whole)))
  (k_with "own iter" => ((with_reducible show wpAny _ _ (pyIter (Value.ref _)) (fun it s₂ => LoopAtV _ _ _ _ _ _ _ _ _ it s₂) _ _); refine halt ?_))
  (k_with "InvEndN" => (refine halt ?_))
  (k_with "compareOp NotIn str ref" => (k_dflt (refine' notIn_Db (by k_asm) (by k_mem) (by assumption) (by assumption) (by exact PlacesK.isSome (by assumption) _) ?_;  k_whole)))
  (k_with "compareOp In str ref" => (k_dflt (refine' in_Db (by k_asm) (by k_mem) (by assumption) (by assumption) (by exact PlacesK.isSome (by assumption) _) ?_;  k_whole)))
  (k_with "call builtin:len" => (k_here; k_dflt (refine' len_L (by exact isList_G (by k_asm) (by assumption)) (by first | assumption | exact TagsAre.len (by assumption) | exact IntsV.len (by assumption) | exact StrsV.len (by assumption)) (by omega) ?_); intro _ _))
  (k_with "setItem" => (k_here; (with_reducible show wpAny _ _ (setItem (Value.ref _) (Value.str _ _) _) _ _ _); k_dflt (refine' set_D (by k_asm) (by k_asm) (by k_updF) (by assumption) (by first | decide | omega) ?_;  k_whole); intro _ _ _ _ _))
  (k_with "setItem" => (k_here; (with_reducible show wpAny _ _ (setItem (Value.ref _) (Value.int _ _) _) _ _ _); k_dflt (refine' set_L (by k_asm) (by k_asm) (by k_updF) (by assumption) (by omega) (by omega) (by omega) ?_;  k_whole); intro _ _ _ _ _))
  (k_with "loadName" => (k_here; k_dflt (refine' ldn (by k_asm) (by first | rfl | assumption) ?_ (by rfl) (by rfl);  k_whole)))
  (k_with "memall" => ((repeat (refine List.forall_mem_cons.mpr ⟨by k_mem, ?_⟩)); exact List.forall_mem_nil _))
  (k_with "exec Raise Call" => (refine halt ?_))
  (k_with "exec Raise" => (refine halt ?_))
  (k_with "assign Tuple" => (k_here; (with_reducible show wpAny _ _ (assign (Expr.Tuple _ _ _) _ (Value.ref _)) _ _ _); k_dflt (refine' unpackN_ (by k_asm) (by k_asm) (by exact IsTup.keeps (by assumption) (Fr.keep (by k_asm))) (by assumption) (by exact rfl) (by exact rfl) ?_); intro _ _ _))
  (k_with "call builtin:len" => (k_here; k_dflt (refine' len_L (by exact LstO.isList (lst_O _) (News.get (by k_asm) (by k_mem))) (by first | assumption | exact IntsV.len (by assumption) | exact StrsV.len (by assumption)) (by omega) ?_); intro _ _))
  exact trivial
theorem ne_none {h : Heap} {a b : Addr} {o : Obj} (ho : h.get? a = some o) (hn : h.get? b = none) : a ≠ b := fun e => by rw [e, hn] at ho; cases ho
theorem IntsV.zeros (n : Nat) (t : Tok) : IntsV (List.replicate n (.int 0 t)) (List.replicate n 0) := by
  refine ⟨by simp, fun i k hk => ⟨t, ?_⟩⟩
  rw [List.getElem?_replicate] at hk ⊢
  split at hk
  · cases hk; rw [if_pos ‹_›]
  · cases hk
theorem make_spec {fa ta : Addr} {tvs : List Value} {n : Nat} (Z : At w A s 6 30 A₀ base g env outer L m mg mb mean)
   (hf : ∃ o, s.heap.get? fa = some o) (ht : s.heap.IsList ta tvs.toArray) (hn : tvs.length = n) (hn2 : n ≤ 20)
   (hQ : ∀ h' tk' (a : MAt) ou op uvs kvs, a.f = fa → a.t = ta → a.Apart → Kept [] s.heap h' → s.heap.get? a.x = none → s.heap.get? a.dx = none → s.heap.get? a.u = none → s.heap.get? a.p = none →
     (∀ q ∈ a.led w.params ou op, h'.get? q.1 = some q.2) → MIs w ou op (List.replicate n 0, []) uvs kvs → Q (.ref a.x) { s with heap := h', toks := tk' }) :
   wpAny (model PySem.Challenge.rw_ov0042_01.row.prog w) A (call (.ref 103) [.ref fa, .ref ta]) Q E s := by
  have hX := Z.X; revert hX; k_fill; intro hX
  obtain ⟨h, gs, d, tks, os⟩ := s
  dsimp only at *
  have Xh : (Mine.hd.heap_39 w.params).In h := hX.keeps Z.F.keep
  refine wpAny_call (make_core (makes_of Xh (by rfl)) (looks_findIn Xh (by rfl)) (fun self => bind_fn Xh self (by rfl)) (.inl rfl) ?_)
  have F1 : Fr g L ((h.push emptyDict).push (instObj 103 h.objs.size)) m := (Z.F.push _).push _
  have none_ : ∀ a, h.objs.size ≤ a → h.get? a = none := fun a ha => Heap.get?_none_of_le ha
  have N1 : News g L ((h.push emptyDict).push (instObj 103 h.objs.size)) [(h.objs.size + 1, instObj 103 h.objs.size), (h.objs.size, emptyDict)] := by
    have := ((News.nil (h₀ := g) (L := L) (h := h)).push Z.F emptyDict).push (Z.F.push _) (instObj 103 h.objs.size)
    rwa [Heap.size_push] at this
  refine enter (s := ⟨(h.push emptyDict).push (instObj 103 h.objs.size), gs, d, tks, os⟩) (binds := [(Str.ofString "self", .ref (h.objs.size + 1)), (Str.ofString "formals", .ref fa), (Str.ofString "tags", .ref ta)]) (at_cls (s' := ⟨(h.push emptyDict).push (instObj 103 h.objs.size), gs, d, tks, os⟩) (dp' := 4) (un' := 20) Z F1 (by decide) (by decide)) N1 rfl rfl (by decide) (BindsTo.of_eq rfl) (locs rfl) (fun G L' h₁ F' N' B' X' T' hG hG2 hLn hlt => ?_) rfl rfl rfl (by decide)
  have hh := Z.hh
  have hlt_fa : fa < h.objs.size := by obtain ⟨o, ho⟩ := hf; exact Heap.lt_size ho
  have hlt_ta : ta < h.objs.size := by obtain ⟨o, ho, _⟩ := ht; exact Heap.lt_size ho
  have hG0 : ∀ b o, h.get? b = some o → G.get? b = some o := fun b o e => hG b o (Heap.get?_push_of_some _ (Heap.get?_push_of_some _ e)) (by
    have := Heap.lt_size e
    simp only [List.map_cons, List.map_nil, List.mem_cons, List.not_mem_nil, or_false, not_or]
    exact ⟨Nat.ne_of_lt (Nat.lt_succ_of_lt this), Nat.ne_of_lt this⟩)
  have htG : G.IsList ta tvs.toArray := by
    obtain ⟨o, ho, r⟩ := ht
    exact ⟨o, hG0 ta o ho, r⟩
  have hsz : ∀ b, G.get? b = none → h.get? b = none := fun b e => by
    cases q : h.get? b with
    | none => rfl
    | some o => rw [hG0 b o q] at e; cases e
  generalize hdx : h.objs.size = dx at *
  have l3 := hlt
  obtain ⟨x, hx⟩ : ∃ x, x = dx + 1 := ⟨_, rfl⟩
  rw [← hx] at N1 F' N' hG hlt l3 ⊢
  have l2' : @Ne Nat x dx := fun e => absurd (hx.symm.trans e) (Nat.succ_ne_self dx)
  simp only [List.mem_cons, List.not_mem_nil, or_false, forall_eq_or_imp, forall_eq] at l3
  dsimp only
  show wpAny _ _ _ _ _ _
  k_fold
  k_steps
  all_goals (try unfold Halt)
  rename_i D1 hh3 i1 n1 s1 e1 e2 e3 la hh2 d1 hh1 o1 lo1 hs1 fs1 hi1 fi1 lb hh0 F4 N4
  obtain ⟨a1, a2, a3⟩ := la
  obtain ⟨b1, b2, b3, b4⟩ := lb
  have nD := hsz D1 (N4 _ (.tail _ (.head _))).2.2
  have nd := hsz d1 (N4 _ (.head _)).2.2
  have nx := hsz x (N4 _ (.tail _ (.tail _ (.tail _ (.head _))))).2.2
  have ndx := none_ dx (Nat.le_refl _)
  obtain ⟨k1, k2, k3, k4, nn, q2⟩ : ∃ k1 k2 k3 k4 nn, hh0.get? dx = some (dictOf (selfL w.params k1 k2 k3 k4 fa ta D1 d1) nn) := ⟨_, _, _, _, _, (N4 _ (.tail _ (.tail _ (.tail _ (.tail _ (.head _)))))).1⟩
  obtain ⟨t0, q3⟩ : ∃ t0, hh0.get? D1 = some (W.listOf (List.replicate ((n : Int)).toNat [Value.int 0 t0]).flatten.toArray 0) := ⟨_, (N4 _ (.tail _ (.head _))).1⟩
  have q4 := (N4 _ (.head _)).1
  have q5 := (N4 _ (.tail _ (.tail _ (.tail _ (.head _))))).1
  rw [Int.toNat_natCast, List.flatten_replicate_singleton] at q3
  refine ⟨rfl, hQ _ _ ⟨x, dx, fa, ta, D1, d1, k1, k2, k3, k4, nn⟩ (W.listOf (List.replicate n (Value.int 0 t0)).toArray 0) o1 (List.replicate n (Value.int 0 t0)) [] rfl rfl ⟨l2', ?_, ?_, ?_, ?_, ?_, ?_, ?_, lo1⟩ ?_ nx ndx nD nd ?_ ⟨⟨rfl, _, rfl⟩, IntsV.zeros n _, hs1, PlacesK.nil⟩⟩
  · exact Nat.ne_of_lt a2
  · exact Nat.ne_of_lt b3
  · exact Nat.ne_of_lt a3
  · exact Nat.ne_of_lt b4
  · exact Nat.ne_of_lt b1
  · obtain ⟨o, ho⟩ := hf
    exact ⟨ne_none ho nx, ne_none ho ndx, ne_none ho nD, ne_none ho nd⟩
  · obtain ⟨o, ho, _⟩ := ht
    exact ⟨ne_none ho nx, ne_none ho ndx, ne_none ho nD, ne_none ho nd⟩
  · exact fun b o _ e => F4.keep b o (hG0 b o e)
  · intro q hq
    simp only [List.mem_cons, List.not_mem_nil, or_false] at hq
    rcases hq with rfl | rfl | rfl | rfl
    · exact q5
    · exact q2
    · exact q3
    · exact q4
end
end Mine
end
section
open PySem PySem.W PySem.Calls PyProof.Rows
set_option maxRecDepth 100000
set_option maxHeartbeats 3000000
namespace Mine
theorem say_MNames_22 : True := by
  k_with_none
  exact trivial
theorem TagsAre.nil : TagsAre [] [] := ⟨rfl, fun _ _ h => by simp at h⟩
theorem TagsAre.snoc {vs : List Value} {xs : List Tag} (h : TagsAre vs xs) {x : Tag} {v : Value} (hv : TagV v x) : TagsAre (vs ++ [v]) (xs ++ [x]) := by
  refine ⟨by simp [h.len], fun i q hi => ?_⟩
  rcases Nat.lt_trichotomy i xs.length with hj | hj | hj
  · rw [List.getElem?_append_left hj] at hi
    rw [List.getElem?_append_left (by rw [h.len]; exact hj)]
    exact h.at_ i q hi
  · subst hj
    simp at hi; subst hi
    exact ⟨v, by simp [← h.len], hv⟩
  · rw [List.getElem?_eq_none (by simp; omega)] at hi; cases hi
section
variable {w : World} {A A₀ : Around} {s : Shared} {base g : Heap} {outer : List Env} {L : Addr} {m mg mb : Str → Option Value} {mean : ExcName → Option Value} {env : Env}
  {Q : Value → Shared → Prop} {E : Value → Shared → Prop}
theorem say_MNames_23 : True := by
  k_with_none
  (k_with "call ref" => (k_here; (with_reducible show wpAny _ _ (call (Value.ref _) _ _) _ _ _); refine halt ?_))
  (k_with "subscriptTail" => (k_here; (with_reducible show wpAny _ _ (subscriptTail _ _ (Value.ref _) (Value.int _ _)) _ _ _); k_dflt (refine' tail_L (by exact isList_G (by k_asm) (by assumption)) (by omega) (by omega) (by assumption) ?_ (by with_unfolding_all rfl);  k_whole)))
  (k_with "subscriptTail" => (k_here; (with_reducible show wpAny _ _ (subscriptTail _ _ (Value.ref _) (Value.int _ _)) _ _ _); k_dflt (refine' tail_L (by exact LstO.isList (by assumption) (News.get (by k_asm) (by k_mem))) (by omega) (by omega) (by assumption) ?_ (by with_unfolding_all rfl);  k_whole)))
  (k_with "eval Name" => (k_here; k_dflt (refine' nameX_L (by k_asm) (by first | rfl | assumption) ?_ (by rfl) (by rfl);  k_whole)))
  (k_with "own iter" => ((with_reducible show wpAny _ _ (pyIter (Value.ref _)) (fun it s₂ => LoopAtV _ _ _ _ _ _ _ _ _ it s₂) _ _); refine halt ?_))
  (k_with "InvEndN" => (refine halt ?_))
  (k_with "compareOp NotIn str ref" => (k_dflt (refine' notIn_Db (by k_asm) (by k_mem) (by assumption) (by assumption) (by exact PlacesK.isSome (by assumption) _) ?_;  k_whole)))
  (k_with "compareOp In str ref" => (k_dflt (refine' in_Db (by k_asm) (by k_mem) (by assumption) (by assumption) (by exact PlacesK.isSome (by assumption) _) ?_;  k_whole)))
  (k_with "call builtin:len" => (k_here; k_dflt (refine' len_L (by exact isList_G (by k_asm) (by assumption)) (by first | assumption | exact TagsAre.len (by assumption) | exact IntsV.len (by assumption) | exact StrsV.len (by assumption)) (by omega) ?_); intro _ _))
  (k_with "setItem" => (k_here; (with_reducible show wpAny _ _ (setItem (Value.ref _) (Value.str _ _) _) _ _ _); k_dflt (refine' set_D (by k_asm) (by k_asm) (by k_updF) (by assumption) (by first | decide | omega) ?_;  k_whole); intro _ _ _ _ _))
  (k_with "setItem" => (k_here; (with_reducible show wpAny _ _ (setItem (Value.ref _) (Value.int _ _) _) _ _ _); k_dflt (refine' set_L (by k_asm) (by k_asm) (by k_updF) (by assumption) (by omega) (by omega) (by omega) ?_;  k_whole); intro _ _ _ _ _))
  (k_with "loadName" => (k_here; k_dflt (refine' ldn (by k_asm) (by first | rfl | assumption) ?_ (by rfl) (by rfl);  k_whole)))
  (k_with "memall" => ((repeat (refine List.forall_mem_cons.mpr ⟨by k_mem, ?_⟩)); exact List.forall_mem_nil _))
  (k_with "exec Raise Call" => (refine halt ?_))
  (k_with "exec Raise" => (refine halt ?_))
  (k_with "assign Tuple" => (k_here; (with_reducible show wpAny _ _ (assign (Expr.Tuple _ _ _) _ (Value.ref _)) _ _ _); k_dflt (refine' unpackN_ (by k_asm) (by k_asm) (by exact IsTup.keeps (by assumption) (Fr.keep (by k_asm))) (by assumption) (by exact rfl) (by exact rfl) ?_); intro _ _ _))
  (k_with "call builtin:len" => (k_here; k_dflt (refine' len_L (by exact LstO.isList (lst_O _) (News.get (by k_asm) (by k_mem))) (by first | assumption | exact IntsV.len (by assumption) | exact StrsV.len (by assumption)) (by omega) ?_); intro _ _))
  (k_with "subscriptTail" => (k_here; (with_reducible show wpAny _ _ (subscriptTail _ _ (Value.ref _) (Value.int _ _)) _ _ _); k_dflt (refine' item_tupleL (by exact IsTup.keeps (by assumption) (Fr.keep (by k_asm))) (by decide) (by decide) (by rfl) (by rfl) ?_;  k_whole)))
  (k_with "CompSrcT" => (refine halt ?_))
  (k_with "CompSrc" => (refine halt ?_))
  (k_with "CompEnd" => (refine halt ?_))
  (k_with "compareOp NotIn str ref" => (k_here; k_dflt (refine' notin_list_strs (by exact isList_G (by k_asm) (by assumption)) (by assumption) ?_;  k_whole)))
  exact trivial
theorem news_add {g h₀ h' : Heap} {L : Addr} {m : Str → Option Value} {led : List (Addr × Obj)} {D : Addr} {o : Obj} (F : Fr g L h₀ m) (N : News g L h' led) (hD : h'.get? D = some o) (hn : h₀.get? D = none) : News g L h' ((D, o) :: led) := by
  intro p hp
  rcases List.mem_cons.mp hp with rfl | hp
  · refine ⟨hD, fun q => ?_, ?_⟩
    · obtain ⟨oL, _, _, hL, _⟩ := F.ns
      have q' : D = L := q
      rw [q', hL] at hn; cases hn
    · cases q : g.get? D with
      | none => rfl
      | some o' => have := F.keep _ _ q; rw [hn] at this; cases this
  · exact N p hp
theorem posAll_len (tags : List Tag) : ∀ (l : List Str) (pl : Nat) (st : St), (posAll tags l pl st).1.length = st.1.length
  | [], _, _ => rfl
  | n :: r, pl, st => by
    rw [posAll]
    split
    · rfl
    · split
      · exact posAll_len tags r _ _
      · split
        · rw [posAll_len tags r _ _]; simp
        · exact posAll_len tags r _ _
theorem restOf_mem {used : List Int} {k : Int} (h : k ∈ restOf used) : 0 ≤ k ∧ k < used.length := by
  unfold restOf at h
  obtain ⟨i, hi, rfl⟩ := List.mem_map.mp h
  have := List.mem_range.mp (List.mem_filter.mp hi).1
  omega
theorem restOf_len (used : List Int) : (restOf used).length ≤ used.length := by
  unfold restOf
  rw [List.length_map]
  exact Nat.le_trans (List.length_filter_le _ _) (by simp)
theorem StrsV.are : ∀ {vs : List Value} {xs : List Str}, StrsV vs xs → StrsAre vs xs
  | [], [], _ => .nil
  | [], _ :: _, h => by have := h.len; simp at this
  | _ :: _, [], h => by have := h.len; simp at this
  | v :: vs, x :: xs, h => by
    obtain ⟨t, ht⟩ := h.at_ 0 x rfl
    have h2 : StrsV vs xs := ⟨by have := h.len; simpa using this, fun i q hq => by simpa using h.at_ (i + 1) q (by simpa using hq)⟩
    simp at ht; subst ht
    exact .cons x t h2.are
theorem argText_len {i : Nat} {tg : Tag} (hi : i < 20) (h : ∀ t, tg = some t → t.length ≤ 100) : (argText i tg).length ≤ 100 := by
  have hd : (numText i).length ≤ 10 := dig_len i hi
  cases tg with
  | none => exact Nat.le_trans hd (by decide)
  | some t =>
    by_cases e : t = Str.ofString ""
    · rw [show argText i (some t) = numText i by simp [argText, e]]; exact Nat.le_trans hd (by decide)
    · rw [show argText i (some t) = t by simp [argText, e]]; exact h t rfl
theorem unused_len {texts : List Str} (h : ∀ x ∈ texts, x.length ≤ 100) (hl : texts.length ≤ 20) : (unusedText texts).length ≤ 4000 := by
  have h1 := txtJoin_len (sep := Str.ofString ", ") h
  have h2 : (Str.ofString ", ").length = 2 := by decide
  have h3 : (Str.ofString "unused arguments").length = 16 := by decide
  have h4 : (Str.ofString "unused argument").length = 15 := by decide
  have h5 : (Str.ofString " (").length = 2 := by decide
  have h6 : (Str.ofString ")").length = 1 := by decide
  rw [h2] at h1
  have h7 : texts.length * (100 + 2) ≤ 20 * 102 := Nat.mul_le_mul hl (Nat.le_refl _)
  unfold unusedText
  split <;> simp only [Str.length_append, h3, h4, h5, h6] <;> omega
/-- the whole of match_names in plain words -/
noncomputable def mn (formals : List Str) (args : List Entry) : Except Str (List (Str × Nat) × List Int) :=
  (exAll (args.map (·.1)) formals (List.replicate args.length 0, [])).bind fun s1 => (paAll (args.map (·.1)) formals s1).bind fun s2 =>
    if 0 < (restOf (posAll (args.map (·.1)) formals 0 s2).1).length ∧ dots ∉ formals then .error (unusedText (textsOf args (restOf (posAll (args.map (·.1)) formals 0 s2).1)))
    else .ok ((posAll (args.map (·.1)) formals 0 s2).2, restOf (posAll (args.map (·.1)) formals 0 s2).1)
theorem none_up {h h' : Heap} {b : Addr} (k : ∀ b o, h.get? b = some o → h'.get? b = some o) (n : h'.get? b = none) : h.get? b = none := by
  cases q : h.get? b with
  | none => rfl
  | some o => rw [k b o q] at n; cases n
theorem names_spec {fa aa : Addr} {fvs avs : List Value} {args : List Entry} {formals : List Str} (Z : At w A s 20 120 A₀ base g env outer L m mg mb mean)
   (hf : s.heap.IsList fa fvs.toArray) (hF : StrsV fvs formals) (ha : s.heap.IsList aa avs.toArray) (hA : ArgsIs s.heap avs args) (hl1 : args.length ≤ 20) (hl2 : formals.length ≤ 20) (hfl : ∀ x ∈ formals, x.length ≤ 100) (hal2 : ∀ a ∈ args, ∀ t, a.1 = some t → t.length ≤ 100)
   (hQ : ∀ h' tk' T P R op kvs rvs places rest, mn formals args = .ok (places, rest) → Kept [] s.heap h' → s.heap.get? T = none → s.heap.get? P = none → s.heap.get? R = none → IsTup h' T #[.ref P, .ref R] →
     h'.get? P = some op → op.IsDictOf (strKind PySem.Challenge.rw_ov0042_01.row.prog w) kvs → PlacesK kvs places → (P == sysModules) = false → h'.get? R = some (LCg.lst rvs) → IntsV rvs rest → (∀ k ∈ rest, 0 ≤ k ∧ k < args.length) → rest.length ≤ 20 → Q (.ref T) { s with heap := h', toks := tk' })
   (hE : ∀ h' tk' e msg dx T vs ts tt tm, mn formals args = .error msg → msg.length ≤ 4000 → Rsd w [] (env :: outer) s.heap h' e msg dx T vs ts tt tm → E (.ref e) { s with heap := h', toks := tk' }) :
   wpAny (model PySem.Challenge.rw_ov0042_01.row.prog w) A (call (.ref 132) [.ref fa, .ref aa]) Q E s := by
  have hX := Z.X; revert hX; k_fill; intro hX
  refine wpAny_call ?_
  refine enter (led := []) (binds := [(Str.ofString "formals", .ref fa), (Str.ofString "args", .ref aa), (Str.ofString "show", .none)]) Z News.nil rfl rfl (by decide) ?bind (locs rfl) (fun G L' h₁ F' N' B' X' T' hG hG2 hL hlt => ?_) rfl rfl rfl (by decide)
  case bind =>
    refine BindsTo.of_defaults rfl (hX.keeps Z.F.keep _ _ rfl) rfl rfl rfl
  have hG0 : ∀ b o, s.heap.get? b = some o → G.get? b = some o := fun b o e => hG b o e (by simp)
  have haG : G.IsList aa avs.toArray := by
    obtain ⟨o, ho, r⟩ := ha
    exact ⟨o, hG0 aa o ho, r⟩
  have hfG : G.IsList fa fvs.toArray := by
    obtain ⟨o, ho, r⟩ := hf
    exact ⟨o, hG0 fa o ho, r⟩
  have hAG : ArgsIs G avs args := hA.keeps hG0
  have hh := Z.hh
  have hal := hA.len
  dsimp only
  show wpAny _ _ _ _ _ _
  k_fold
  k_steps
  all_goals (try unfold Halt)
  rename Fr _ _ _ _ => Fz
  rename News _ _ _ _ => Nz
  refine LCg.CompSrc.base Z.hh Fz Nz haG (by simp only [List.size_toArray, hal]; exact Nat.le_trans hl1 (by decide)) ?_
  intro g'
  refine restU_ind (fun i ys news => TagsAre ys ((args.map (·.1)).take i) ∧ news = []) _ ?_ ?_ _ 0 [] _ (Nat.zero_add _) ⟨TagsAre.nil, rfl⟩
  · rintro ys news ⟨hys, rfl⟩ D h tk F9 N9 off9
    have hyl : ys.length = args.length := by
      rw [hys.len, List.length_take]
      simp [hal]
    have hys2 : TagsAre ys (args.map (·.1)) := by
      rwa [List.take_of_length_le (by simp [hal])] at hys
    clear hys Fz Nz
    simp only [LCg.Off1, and_true] at off9
    k_steps
    all_goals (try unfold Halt)
    rename Fr _ _ _ _ => F4
    rename News _ _ _ _ => N4
    refine make_spec (at_in Z B' F4 X' T' (by decide) (by decide) rfl) ?_ ((lst_O ys).isList (N4.get (by simp))) hyl hl1 ?_
    · obtain ⟨o, ho, _⟩ := hfG; exact ⟨o, F4.keep _ _ ho⟩
    intro h9 tk9 a ou op uvs kvs haf hat hap k9 nx ndx nu np hled hI
    obtain ⟨x, dx, f, t, u, p, k1, k2, k3, k4, n⟩ := a
    dsimp only at haf hat hled
    subst haf hat
    dsimp only at nx ndx nu np
    have hup : ∀ b o, s.heap.get? b = some o → h.get? b = some o := fun b o e => F4.keep b o (hG0 b o e)
    have N5 := news_kept (W := []) N4 (by simp) k9
    have N6 := news_add F4 (news_add F4 (news_add F4 (news_add F4 N5 (hled (p, op) (by simp)) np) (hled (u, ou) (by simp)) nu) (hled (dx, dictOf (selfL w.params k1 k2 k3 k4 f t u p) n) (by simp)) ndx) (hled (x, instObj 103 dx) (by simp)) nx
    replace F4 := fr_after (W := []) F4 (by simp) k9
    clear N4 N5
    dsimp only at N6
    have hap' := hap
    obtain ⟨xd, xu, xp, du, dp, up, fx, tx, lo⟩ := hap
    clear hled k9
    have off : OwnOff [(t, LCg.lst ys)] [x, dx, u, p] := by
      intro q hq b hb
      simp only [List.mem_cons, List.not_mem_nil, or_false] at hq hb
      subst hq
      rcases hb with rfl | rfl | rfl | rfl
      · exact tx.1
      · exact tx.2.1
      · exact tx.2.2.1
      · exact tx.2.2.2
    have upS : ∀ b, b ∈ [u, p] → s.heap.get? b = none := fun b hb => by
      simp only [List.mem_cons, List.not_mem_nil, or_false] at hb
      rcases hb with rfl | rfl
      · exact none_up hup nu
      · exact none_up hup np
    have htl : (args.map (·.1)).length = args.length := by simp
    have inl2 : ∀ (ou op : Obj) (r : List (Addr × Obj)), ∀ b ∈ [u, p], ∃ o, (b, o) ∈ (x, instObj 103 dx) :: (dx, dictOf (selfL w.params k1 k2 k3 k4 f t u p) n) :: (u, ou) :: (p, op) :: r := by
      intro ou op r b hb
      simp only [List.mem_cons, List.not_mem_nil, or_false] at hb
      rcases hb with rfl | rfl
      · exact ⟨ou, by simp⟩
      · exact ⟨op, by simp⟩
    dsimp only at *
    k_steps
    all_goals (try unfold Halt)
    dsimp only [List.cons_append, List.nil_append]
    rename Fr _ _ _ _ => F4
    rename News _ _ _ _ => N4
    have W0 : Kept [] s.heap _ := fun b o _ e => F4.keep b o (hG0 b o e)
    refine exact_spec (a := ⟨x, dx, f, t, u, p, k1, k2, k3, k4, n⟩) (at_in Z B' F4 X' T' (by decide) (by decide) rfl) (news_sub N4 (by walk_at "memall")) hap' hI ((lst_O ys).isList (N4.get (by simp))) hys2 (isList_G F4 hfG) hF (by omega) hl2 rfl (by simp) hfl ?_ ?_
    rotate_left
    · intro h' tk' e msg dx9 T9 vs9 ts9 tt9 tm9 herr hml R
      refine leave_on (s₁ := { s with heap := _ }) (W := []) B' F4 hG2 rfl R W0 (by simp) (fun b o e hb => by rw [upS b hb] at e; cases e) (own_nofr B' N4 (inl2 _ _ _)) hL ?_
      intro h' T vs ts R'
      exact hE h' _ e msg dx9 T vs ts tt9 tm9 (by rw [mn, herr]; rfl) (by omega) R'
    intro h9 tk9 ou1 op1 uvs1 kvs1 st1 hok1 k9 hu9 hp9 hI1 hs1 hs2
    replace F4 := fr_led (W := [u, p]) F4 N4 k9 (inl2 _ _ _)
    replace N4 := news4 N4 k9 hu9 hp9 off xu xp du dp
    clear k9 hu9 hp9 hI W0
    dsimp only at *
    k_steps
    all_goals (try unfold Halt)
    dsimp only [List.cons_append, List.nil_append]
    rename Fr _ _ _ _ => F4
    rename News _ _ _ _ => N4
    have W0 : Kept [] s.heap _ := fun b o _ e => F4.keep b o (hG0 b o e)
    refine partial_spec (a := ⟨x, dx, f, t, u, p, k1, k2, k3, k4, n⟩) (at_in Z B' F4 X' T' (by decide) (by decide) rfl) (news_sub N4 (by walk_at "memall")) hap' hI1 ((lst_O ys).isList (N4.get (by simp))) hys2 (isList_G F4 hfG) hF (by omega) hl2 (by omega) hs1 hfl ?_ ?_
    rotate_left
    · intro h' tk' e msg dx9 T9 vs9 ts9 tt9 tm9 herr hml R
      refine leave_on (s₁ := { s with heap := _ }) (W := []) B' F4 hG2 rfl R W0 (by simp) (fun b o e hb => by rw [upS b hb] at e; cases e) (own_nofr B' N4 (inl2 _ _ _)) hL ?_
      intro h' T vs ts R'
      exact hE h' _ e msg dx9 T vs ts tt9 tm9 (by simp only [mn, hok1, herr, Except.bind]) (by omega) R'
    intro h9 tk9 ou2 op2 uvs2 kvs2 st2 hok2 k9 hu9 hp9 hI2 hs3 hs4
    replace F4 := fr_led (W := [u, p]) F4 N4 k9 (inl2 _ _ _)
    replace N4 := news4 N4 k9 hu9 hp9 off xu xp du dp
    clear k9 hu9 hp9 hI1 W0
    dsimp only at *
    k_steps
    all_goals (try unfold Halt)
    dsimp only [List.cons_append, List.nil_append]
    rename Fr _ _ _ _ => F4
    rename News _ _ _ _ => N4
    refine positional_spec (a := ⟨x, dx, f, t, u, p, k1, k2, k3, k4, n⟩) (at_in Z B' F4 X' T' (by decide) (by decide) rfl) (news_sub N4 (by walk_at "memall")) hap' hI2 ((lst_O ys).isList (N4.get (by simp))) hys2 (isList_G F4 hfG) hF (by omega) (by omega) (by omega) hs3 ?_
    intro h9 tk9 ou3 op3 uvs3 kvs3 k9 hu9 hp9 hI3
    replace F4 := fr_led (W := [u, p]) F4 N4 k9 (inl2 _ _ _)
    replace N4 := news4 N4 k9 hu9 hp9 off xu xp du dp
    clear k9 hu9 hp9 hI2
    dsimp only at *
    k_steps
    all_goals (try unfold Halt)
    dsimp only [List.cons_append, List.nil_append]
    rename Fr _ _ _ _ => F4
    rename News _ _ _ _ => N4
    have hpl : (posAll (args.map (·.1)) formals 0 st2).1.length = args.length := by rw [posAll_len, hs3, htl]
    refine rest_spec (a := ⟨x, dx, f, t, u, p, k1, k2, k3, k4, n⟩) (at_in Z B' F4 X' T' (by decide) (by decide) rfl) (news_sub N4 (by walk_at "memall")) hap' hI3 ((lst_O ys).isList (N4.get (by simp))) hys2 (by omega) (by rw [hpl, htl]) ?_
    intro h9 tk9 R rvs k9 nR hR hRI
    have hup9 : ∀ b o, s.heap.get? b = some o → _ := fun b o e => F4.keep b o (hG0 b o e)
    have nRs := none_up hup9 nR
    have N5 := news_add F4 (news_kept (W := []) N4 (by simp) k9) hR nR
    replace F4 := fr_after (W := []) F4 (by simp) k9
    clear N4 k9 hup9
    have hrm : ∀ k ∈ restOf (posAll (args.map (·.1)) formals 0 st2).1, 0 ≤ k ∧ k < args.length := fun k hk => hpl ▸ restOf_mem hk
    have hrl : (restOf (posAll (args.map (·.1)) formals 0 st2).1).length ≤ 20 := by have := restOf_len (posAll (args.map (·.1)) formals 0 st2).1; omega
    have hmn : mn formals args = if 0 < (restOf (posAll (args.map (·.1)) formals 0 st2).1).length ∧ dots ∉ formals then .error (unusedText (textsOf args (restOf (posAll (args.map (·.1)) formals 0 st2).1)))
        else .ok ((posAll (args.map (·.1)) formals 0 st2).2, restOf (posAll (args.map (·.1)) formals 0 st2).1) := by
      simp only [mn, hok1, hok2, Except.bind]
    generalize restOf (posAll (args.map (·.1)) formals 0 st2).1 = rest at *
    have hFa := hF.are
    have hrvl := hRI.len
    dsimp only at *
    k_steps
    all_goals (try unfold Halt)
    all_goals (rename Fr _ _ _ _ => F4; rename News _ _ _ _ => N4)
    · rename (formals.any fun x => x == Str.ofString "...") = true => hc
      have hd : ¬ (0 < rest.length ∧ dots ∉ formals) := fun h => h.2 (by
        obtain ⟨y, hy, e⟩ := List.any_eq_true.mp hc
        have : y = dots := by simpa [dots] using e
        exact this ▸ hy)
      rw [if_neg hd] at hmn
      exact hQ _ _ _ p R op3 kvs3 rvs _ _ hmn (fun b o _ e => F4.keep b o (hG0 b o e)) (none_up hG0 (N4 _ (.head _)).2.2) (upS p (by simp)) nRs ⟨_, (N4 _ (.head _)).1, rfl, _, rfl⟩
        (N4.get (by simp)) hI3.dct hI3.plc lo (N4.get (by simp)) hRI hrm hrl
    · rename (formals.any fun x => x == Str.ofString "...") = false => hc
      rename (0 : Int) < _ => hc2
      have hd : 0 < rest.length ∧ dots ∉ formals := ⟨by omega, fun h => by
        have := List.any_eq_false.mp hc dots h
        simp [dots] at this⟩
      rw [if_pos hd] at hmn
      have hul : ∀ x ∈ textsOf args rest, x.length ≤ 100 := by
        intro x hx
        obtain ⟨k, hk, rfl⟩ := List.mem_map.mp hx
        obtain ⟨h1, h2⟩ := hrm k hk
        have hkn : k.toNat < args.length := by omega
        refine argText_len (by omega) fun t ht => ?_
        have e : args.getD k.toNat (none, 0) = args[k.toNat] := by simp [hkn]
        rw [e] at ht
        exact hal2 _ (List.getElem_mem hkn) t ht
      have hul2 := unused_len hul (by simpa [textsOf] using hrl)
      refine exec_raise Z.hh ?_
      k_steps
      all_goals (try unfold Halt)
      refine unused_spec (at_in Z B' F4 X' T' (by decide) (by decide) rfl) (isList_G F4 haG) (hAG.keeps F4.keep) ((lst_O rvs).isList (N4.get (by simp))) hRI hrm hl1 hrl hul ?_
      intro h9 tk9 t9 k9
      replace F4 := fr_after (W := []) F4 (by simp) k9
      replace N4 := news_kept (W := []) N4 (by simp) k9
      clear k9 hul
      generalize unusedText (textsOf args rest) = X at *
      k_steps
      all_goals (try unfold Halt)
      exact raise_in (W := []) Z B' F4 X' T' hG2 hL (by decide) (by decide) rfl (fun b o _ e => F4.keep b o (hG0 b o e)) (by simp) fun h' tk' e dx T vs ts tt tm R => hE h' tk' e _ dx T vs ts tt tm hmn hul2 R
    · rename ¬ ((0 : Int) < _) => hc
      have hd : ¬ (0 < rest.length ∧ dots ∉ formals) := fun h => by have := h.1; omega
      rw [if_neg hd] at hmn
      exact hQ _ _ _ p R op3 kvs3 rvs _ _ hmn (fun b o _ e => F4.keep b o (hG0 b o e)) (none_up hG0 (N4 _ (.head _)).2.2) (upS p (by simp)) nRs ⟨_, (N4 _ (.head _)).1, rfl, _, rfl⟩
        (N4.get (by simp)) hI3.dct hI3.plc lo (N4.get (by simp)) hRI hrm hrl
  · rintro i ys news hi ⟨hys, rfl⟩ v I oI C oC D m₂ h tk E' hv hC hx F9 N9 off9 ne9
    have hi2 : i < args.length := by simpa [hal] using hi
    obtain ⟨t, v1, tk1, hv2, htv, htt⟩ := hAG.at_ i args[i] (by simp [hi2])
    have hv3 : v = .ref t := by
      rw [List.getElem?_toArray, hv2] at hv; exact (Option.some.inj hv).symm
    subst hv3
    have htx : (args.map (·.1)).take (i + 1) = (args.map (·.1)).take i ++ [args[i].1] := by
      rw [List.take_succ_eq_append_getElem (by simpa using hi2)]
      simp
    clear Fz Nz
    have off9' := off9
    simp only [LCg.Off3, and_true] at off9
    k_steps
    all_goals (try unfold Halt)
    rename Fr _ _ _ _ => F4
    rename News _ _ _ _ => N4
    refine LCg.CompEnd.intro F4 N4 _ (fun q hq => hq) off9' (.inl haG) ⟨?_, rfl⟩
    rw [htx]
    exact hys.snoc htv
end
end Mine
end
section
open PySem PySem.W PySem.Calls PyProof.Rows
set_option maxRecDepth 100000
set_option maxHeartbeats 3000000
namespace Mine
theorem Upd.drop {S X : List Addr} {h h' : Heap} (x : Upd S X h h') (n : ∀ b ∈ X, h.get? b = none) : Upd S [] h h' := fun b o e _ => x b o e fun m => by rw [n b m] at e; cases e
section
variable {w : World} {A A₀ : Around} {s s' : Shared} {base g h h' : Heap} {outer : List Env} {L : Addr} {m mg mb : Str → Option Value} {mean : ExcName → Option Value} {env : Env}
/-- a new ground behind a flight that left all as it was, up to the frames' slots -/
theorem reground {S : List Addr} (B : Below A₀ base outer g) (F : Fr g L h m) (U : Upd S [] h h') (hS : ∀ b ∈ S, b = L ∨ b ∈ fsOf outer) :
    ∃ g', KtsTurn (fsOf outer) g g' ∧ Fr g' L h' m ∧ Below A₀ base outer g' ∧ ∀ led, News g L h led → News g' L h' led := by
  have hfs : ∀ b ∈ fsOf outer, ∃ o, g.get? b = some o := fun b hb => by
    obtain ⟨_, o, ho, _⟩ := B.frames.mem hb
    exact ⟨o, ho⟩
  have nL := kts_self F
  obtain ⟨T, up⟩ := kts_turn_at (g := g) (h := h') hfs (fun b o e n => U.exact (F.keep b o e) (by simp) (fun hb => by
    rcases hS b hb with q | q
    · rw [q, nL] at e; cases e
    · exact n q)) (fun b o e hb => by
    obtain ⟨sl, e1, _⟩ := U b o (F.keep b o e) (by simp)
    exact ⟨sl, e1⟩)
  refine ⟨_, T, ⟨?_, up, by rw [T.size]; exact F.above⟩, ⟨B.stack, fun b o e => T.other b o (B.stays b o e) (fun hb => by rw [(B.frames.mem hb).1] at e; cases e), B.frames.of_keeps fun d o e _ => ?_⟩, fun led N p hp => ?_⟩
  · obtain ⟨o, es, ep, ho, r⟩ := F.ns
    obtain ⟨sl, e1, _⟩ := U L o ho (by simp)
    exact ⟨_, es, ep, e1, r⟩
  · obtain ⟨sl, e1⟩ := T.up e
    exact ⟨_, e1, rfl⟩
  · have z := N p hp
    refine ⟨U.exact z.1 (by simp) (fun hb => ?_), z.2.1, T.none_ _ z.2.2⟩
    rcases hS _ hb with q | q
    · exact z.2.1 q
    · obtain ⟨o, ho⟩ := hfs _ q
      rw [z.2.2] at ho; cases ho
theorem fly_store {e dx T L : Addr} {vs ts : Array Value} {fl : Value} (x : Fly h e dx T vs ts fl) (hs : Heap.SameBut L h h') (n1 : e ≠ L) (n2 : T ≠ L) : Fly h' e dx T vs ts fl :=
  ⟨(hs.2 e n1).trans x.ex, x.at1, (hs.2 T n2).trans x.tb, x.at3⟩
section
variable {E : Value → Shared → Prop} {Q : Flow → Shared → Prop} {e dx T f : Addr} {vs ts : Array Value} {tt tm : Tok} {msg : Str} {name : Str} {scope : Scope} {cd : Value} {n : Str} {b₀ : Stmt} {suite : List Stmt} {pos np : Pos} {rest : List ExceptHandler} {led : List (Addr × Obj)}
theorem caught_ref (B : Below A₀ base outer g) (F : Fr g L h m) (N : News g L h led) (R : Rsd w [] (envOf name scope L f cd :: outer) h s'.heap e msg dx T vs ts tt tm)
    (XB : (Mine.hd.heap_39 w.params).In base) (TB : Top Mine.hd.view_39 (looseW Mine.hd.view_39 [Str.ofString "match_names"]) mean mg mb base)
    (k : ∀ h' g' tk vs', KtsTurn (fsOf outer) g g' → Below A₀ base outer g' → (Mine.hd.heap_39 w.params).In g' → Top Mine.hd.view_39 (looseW Mine.hd.view_39 [Str.ofString "match_names"]) mean mg mb g' →
      Fr g' L h' (fun y => if y = n then some (.ref e) else m y) → News g' L h' ((e, exAt dx vs') :: (dx, msgDict w.params (.str msg tm) tt) :: led) →
      wpAny (model PySem.Challenge.rw_ov0042_01.row.prog w) ((A₀.deeper (envOf name scope L f cd)).mark (some (.ref e))) (execs (b₀ :: suite) (envOf name scope L f cd))
        (fun fl s₄ => wpAny (model PySem.Challenge.rw_ov0042_01.row.prog w) (A₀.deeper (envOf name scope L f cd)) (do bindName (envOf name scope L f cd) n .none; unbindBehindTheSuite (envOf name scope L f cd) n pos) (fun _ s₅ => Q fl s₅) E s₄)
        (AsSuiteRaised (model PySem.Challenge.rw_ov0042_01.row.prog w) ((A₀.deeper (envOf name scope L f cd)).mark (some (.ref e))) (envOf name scope L f cd) n pos (notedBy (model PySem.Challenge.rw_ov0042_01.row.prog w) ((A₀.deeper (envOf name scope L f cd)).mark (some (.ref e))) (envOf name scope L f cd) (cameBackBy (model PySem.Challenge.rw_ov0042_01.row.prog w) (A₀.deeper (envOf name scope L f cd)) (envOf name scope L f cd) E)))
        { s' with heap := h', toks := tk })
    (hk : scope.kind = .function := by rfl) (hlo : (envOf name scope L f cd).kindOf n = some .local := by rfl) (hx : (envOf name scope L f cd).kindOf (Str.ofString "Refusal") = some .globalImplicit := by rfl) :
    wpAny (model PySem.Challenge.rw_ov0042_01.row.prog w) (A₀.deeper (envOf name scope L f cd)) (noteFrame (.ref e) (envOf name scope L f cd))
      (fun _ s₂ => wpAny (model PySem.Challenge.rw_ov0042_01.row.prog w) (A₀.deeper (envOf name scope L f cd)) (setFlight (.ref e) none) (fun _ s₃ =>
        wpAny (model PySem.Challenge.rw_ov0042_01.row.prog w) (A₀.deeper (envOf name scope L f cd)) (handleBy (.ref e) (envOf name scope L f cd) (.ExceptHandler (some (.Name (Str.ofString "Refusal") np)) (some n) (b₀ :: suite) pos :: rest)) Q E s₃) E s₂) E s' := by
  obtain ⟨fly, hd, U, ne, nd, nT, _⟩ := R
  have hS : ∀ b ∈ fsOf (envOf name scope L f cd :: outer), b = L ∨ b ∈ fsOf outer := fun b hb => kts_mem hb
  have hl : s'.heap.FunFrames noHeap (envOf name scope L f cd :: outer) := by
    have f1 : h.FunFrames noHeap (envOf name scope L f cd :: outer) := by
      have h1 := frames_up (frames_no B.frames) F.keep
      obtain ⟨o, es, ep, ho, hd', _⟩ := F.ns
      exact ⟨by show scope.kind ≠ _; rw [hk]; decide, ⟨L, o, rfl, noHeap_get _, ho, fun vs q => by rw [hd'] at q; cases q⟩, h1⟩
    exact U.frames f1 (by simp)
  refine note_next (Around.frames_deeper B.stack) hl rfl fly fun h1 T1 vs1 ts1 F1 n1 U1 => ?_
  refine land (s := { s' with heap := h1 }) F1 fun h2 ts2 F2 U2 => ?_
  have none_h : ∀ b, s'.heap.get? b = none → h.get? b = none := fun b q => by
    cases e : h.get? b with
    | none => rfl
    | some o => obtain ⟨sl, e1, _⟩ := U b o e (by simp); rw [q] at e1; cases e1
  have nT1 := none_h T1 n1
  have W2 : Upd (fsOf (envOf name scope L f cd :: outer)) [] h h2 := by
    refine Upd.drop (X := [e, T, T1]) (((U.mono (fun _ m => m) (by simp)).trans (U1.mono (fun _ m => m) (by simp))).trans (U2.mono (by simp) (by simp))) fun b hb => ?_
    simp only [List.mem_cons, List.not_mem_nil, or_false] at hb
    rcases hb with rfl | rfl | rfl
    · exact ne
    · exact nT
    · exact nT1
  obtain ⟨g2, K2, Fr2, B2, N2⟩ := reground B F W2 hS
  have X2 : (Mine.hd.heap_39 w.params).In g2 := XB.keeps B2.stays
  refine wpAny_handleBy_cons (codeAny_handlers_test (name_K (s := { s' with heap := h2 }) Fr2 X2 (topRead_of (TB.keeps B2.stays)) (by rfl) ?_ hk hx)) (by intro q; cases q)
  have hC := cls44 (X2.keeps Fr2.keep)
  refine wpAny_excMatches_sub_self hC F2.ex rfl (by decide) (codeAny_handlers_suite_as ?_)
  refine land (s := { s' with heap := h2 }) F2 fun h3 ts3 F3 U3 => ?_
  have W3 : Upd (fsOf (envOf name scope L f cd :: outer)) [] h h3 := by
    refine Upd.drop (X := [T1]) ((W2.mono (fun _ m => m) (by simp)).trans (U3.mono (by simp) (by simp))) fun b hb => ?_
    simp only [List.mem_cons, List.not_mem_nil, or_false] at hb
    rw [hb]; exact nT1
  obtain ⟨g3, K3, Fr3, B3, N3⟩ := reground B F W3 hS
  have X3 : (Mine.hd.heap_39 w.params).In g3 := XB.keeps B3.stays
  have hdne : dx ≠ e ∧ dx ≠ T ∧ dx ∉ fsOf (envOf name scope L f cd :: outer) := by
    refine ⟨fun q => ?_, fun q => ?_, fun q => ?_⟩
    · rw [q, fly.ex] at hd; cases hd
    · rw [q, fly.tb] at hd; exact absurd (congrArg Obj.cls (Option.some.inj hd)) (by simp)
    · obtain ⟨o, ho⟩ : ∃ o, h.get? dx = some o := by
        rcases hS _ q with q | q
        · obtain ⟨o, _, _, ho, _⟩ := F.ns; exact ⟨o, q ▸ ho⟩
        · obtain ⟨_, o, ho, _⟩ := B.frames.mem q; exact ⟨o, F.keep _ _ ho⟩
      rw [nd] at ho; cases ho
  have hd1 := U1.exact hd (by simp [hdne.1, hdne.2.1]) hdne.2.2
  have hdT1 : dx ≠ T1 := fun q => by rw [q, n1] at hd; cases hd
  have hd3 := U3.exact (U2.exact hd1 (by simp [hdT1]) (by simp)) (by simp [hdT1]) (by simp)
  have N3' : News g3 L h3 ((e, exAt dx vs1) :: (dx, msgDict w.params (.str msg tm) tt) :: led) := fun p hp => by
    rcases List.mem_cons.mp hp with rfl | hp
    · refine ⟨F3.ex, fun q => ?_, K3.none_ _ (kts_none F.keep ne)⟩
      obtain ⟨o, _, _, ho, _⟩ := F.ns
      have q' : e = L := q
      rw [← q', ne] at ho; cases ho
    rcases List.mem_cons.mp hp with rfl | hp
    · refine ⟨hd3, fun q => ?_, K3.none_ _ (kts_none F.keep nd)⟩
      obtain ⟨o, _, _, ho, _⟩ := F.ns
      have q' : dx = L := q
      rw [← q', nd] at ho; cases ho
    · exact N3 led N p hp
  refine stN (s := { s' with heap := h3 }) Fr3 N3' (fun h4 F4 N4 => ?_) hk hlo
  exact k h4 g3 _ vs1 K3 B3 X3 (TB.keeps B3.stays) F4 N4
end
end
end Mine
end
section
open PySem PySem.W PySem.Calls PyProof.Rows
set_option maxRecDepth 100000
set_option maxHeartbeats 1000000
namespace Mine
open Builtin Builtin.ObjectAttr
section
variable {prog : Program} {w : World} {A : Around} {E : Value → Shared → Prop} {s : Shared} {x dx : Addr} {vs : Array Value} {v : Value} {t0 : Tok} {Q : Value → Shared → Prop}
theorem get_msg {expr : Bool} (X : (Mine.hd.heap_39 w.params).In s.heap) (hx : s.heap.get? x = some (exAt dx vs)) (hd : s.heap.get? dx = some (msgDict w.params v t0))
    (hv : handedIn v = true) (hq : Q v { s with toks := s.toks + 1 }) : wpAny (model prog w) A (getAttr (.ref x) (Str.ofString "message") expr) Q E s := by
  obtain ⟨h, g, d, t, os⟩ := s
  dsimp only at *
  have FB := F.attrBase_Exception
  have I : InstAt h x (exAt dx vs) 44 (some (msgDict w.params v t0)) := ⟨hx, rfl, rfl, hd⟩
  have L0 := I.type (M := model prog w)
  have L1 : Looks (model prog w) h (typeLookup (.ref 44) "__getattribute__") (some (.builtin "BaseException.__getattribute__")) := looks_findIn X (by kernel_rfl)
  have L2 : Looks (model prog w) h (typeLookup (.ref 44) "__getattr__") none := looks_findIn X (by kernel_rfl)
  have L3 : Looks (model prog w) h (find (.ref x) (.ref 44) (Str.ofString "message")) (.value v) := looks_find X I (by rfl)
  have L4 : Looks (model prog w) h (isInstance (.ref x) (.type "BaseException")) true := L0.andThen (looks_mroIn X (by kernel_rfl))
  have f3 := FB.ga.bind (.ref x)
  unfold getAttr getAttrBy
  refine wpAny_bind (wpAny_mkText (wpAny_holding (wpAny_bind (L0.at (wpAny_bind (L1.at ?_))))))
  show wpAny _ _ (getAttrByItsOwn _ _ _ _ _ _) _ _ _
  unfold getAttrByItsOwn
  refine wpAny_bind ?_
  show wpAny _ _ (typeLookup (.ref 44) "__getattr__") _ _ _
  refine L2.at ?_
  unfold callGetattribute
  have hx0 : (expr && onTheHeap (Value.builtin "BaseException.__getattribute__")) = false := by cases expr <;> rfl
  rw [hx0, if_neg Bool.false_ne_true]
  unfold boundAndCalled
  refine wpAny_bind (wpAny_attempt (wpAny_holding (wpAny_bind (wpAny_of_eq f3 ?_))))
  have hk : builtinKind "BaseException.__getattribute__" = some .slot := by decide +kernel
  have hsplit : splitId "BaseException.__getattribute__" = some ("BaseException", "__getattribute__") := by decide +kernel
  show wpAny _ _ (call (.builtin "BaseException.__getattribute__") [.ref x, .str (Str.ofString "message") t]) _ _ _
  refine wpAny_call (codeAny_call_builtin FB.ga.plain F.entry_bexc_ga (@check_slot (model prog w) _ _ _ "BaseException.__getattribute__" "BaseException" "__getattribute__" (.ref x) [.str (Str.ofString "message") t] [] _ hk hsplit L4 (F.args_bexc_ga (.ref x) (.str (Str.ofString "message") t)) ?_))
  unfold Builtin.«object.__getattribute__»
  refine wpAny_bind (wpAny_pure (wpAny_bind (wpAny_pure (wpAny_bind (L0.at (wpAny_bind (L3.at (wpAny_pure ?_))))))))
  show wpAny _ _ (handedOut v) _ _ _
  rw [handedOut_of hv]
  exact wpAny_pure hq
end
end Mine
end
section
open PySem PySem.W PySem.Calls PyProof.Rows
set_option maxRecDepth 100000
set_option maxHeartbeats 3000000
namespace Mine
section
variable {w : World} {A A₀ : Around} {s : Shared} {base g : Heap} {outer : List Env} {L : Addr} {m mg mb : Str → Option Value} {mean : ExcName → Option Value} {env : Env}
  {Q : Value → Shared → Prop} {E : Value → Shared → Prop}
theorem say_MAns_24 : True := by
  k_with_none
  (k_with "call ref" => (k_here; (with_reducible show wpAny _ _ (call (Value.ref _) _ _) _ _ _); refine halt ?_))
  (k_with "subscriptTail" => (k_here; (with_reducible show wpAny _ _ (subscriptTail _ _ (Value.ref _) (Value.int _ _)) _ _ _); k_dflt (refine' tail_L (by exact isList_G (by k_asm) (by assumption)) (by omega) (by omega) (by assumption) ?_ (by with_unfolding_all rfl);  k_whole)))
  (k_with "subscriptTail" => (k_here; (with_reducible show wpAny _ _ (subscriptTail _ _ (Value.ref _) (Value.int _ _)) _ _ _); k_dflt (refine' tail_L (by exact LstO.isList (by assumption) (News.get (by k_asm) (by k_mem))) (by omega) (by omega) (by assumption) ?_ (by with_unfolding_all rfl);  k_whole)))
  (k_with "eval Name" => (k_here; k_dflt (refine' nameX_L (by k_asm) (by first | rfl | assumption) ?_ (by rfl) (by rfl);  k_whole)))
  (k_with "own iter" => ((with_reducible show wpAny _ _ (pyIter (Value.ref _)) (fun it s₂ => LoopAtV _ _ _ _ _ _ _ _ _ it s₂) _ _); refine halt ?_))
  (k_with "InvEndN" => (refine halt ?_))
  (k_with "compareOp NotIn str ref" => (k_dflt (refine' notIn_Db (by k_asm) (by k_mem) (by assumption) (by assumption) (by exact PlacesK.isSome (by assumption) _) ?_;  k_whole)))
  (k_with "compareOp In str ref" => (k_dflt (refine' in_Db (by k_asm) (by k_mem) (by assumption) (by assumption) (by exact PlacesK.isSome (by assumption) _) ?_;  k_whole)))
  (k_with "call builtin:len" => (k_here; k_dflt (refine' len_L (by exact isList_G (by k_asm) (by assumption)) (by first | assumption | exact TagsAre.len (by assumption) | exact IntsV.len (by assumption) | exact StrsV.len (by assumption)) (by omega) ?_); intro _ _))
  (k_with "setItem" => (k_here; (with_reducible show wpAny _ _ (setItem (Value.ref _) (Value.str _ _) _) _ _ _); k_dflt (refine' set_D (by k_asm) (by k_asm) (by k_updF) (by assumption) (by first | decide | omega) ?_;  k_whole); intro _ _ _ _ _))
  (k_with "setItem" => (k_here; (with_reducible show wpAny _ _ (setItem (Value.ref _) (Value.int _ _) _) _ _ _); k_dflt (refine' set_L (by k_asm) (by k_asm) (by k_updF) (by assumption) (by omega) (by omega) (by omega) ?_;  k_whole); intro _ _ _ _ _))
  (k_with "loadName" => (k_here; k_dflt (refine' ldn (by k_asm) (by first | rfl | assumption) ?_ (by rfl) (by rfl);  k_whole)))
  (k_with "memall" => ((repeat (refine List.forall_mem_cons.mpr ⟨by k_mem, ?_⟩)); exact List.forall_mem_nil _))
  (k_with "exec Raise Call" => (refine halt ?_))
  (k_with "exec Raise" => (refine halt ?_))
  (k_with "assign Tuple" => (k_here; (with_reducible show wpAny _ _ (assign (Expr.Tuple _ _ _) _ (Value.ref _)) _ _ _); k_dflt (refine' unpackN_ (by k_asm) (by k_asm) (by first | assumption | exact IsTup.keeps (by assumption) (Fr.keep (by k_asm))) (by assumption) (by exact rfl) (by exact rfl) ?_); intro _ _ _))
  (k_with "call builtin:len" => (k_here; k_dflt (refine' len_L (by exact LstO.isList (lst_O _) (News.get (by k_asm) (by k_mem))) (by first | assumption | exact IntsV.len (by assumption) | exact StrsV.len (by assumption)) (by omega) ?_); intro _ _))
  (k_with "call type:list" => (k_here; (with_reducible show wpAny _ _ (call (Value.type _) [Value.ref _]) _ _ _); k_dflt (refine' list_copyK (by k_asm) (by k_asm) (by exact isList_G (by k_asm) (by assumption)) ?_ (by assumption);  k_whole); intro _ _ _ _ _ _))
  exact trivial
theorem kts_back {fs : List Addr} {g g' : Heap} (K : KtsTurn fs g g') {b : Addr} (e : g'.get? b = none) : g.get? b = none := by
  cases q : g.get? b with
  | none => rfl
  | some o => obtain ⟨sl, h⟩ := K.up q; rw [e] at h; cases h
theorem answer_spec {fa aa : Addr} {fvs avs : List Value} {args : List Entry} {formals : List Str} (Z : At w A s 25 150 A₀ base g env outer L m mg mb mean)
   (XB : (Mine.hd.heap_39 w.params).In base) (TB : Top Mine.hd.view_39 (looseW Mine.hd.view_39 [Str.ofString "match_names"]) mean mg mb base)
   (hf : s.heap.IsList fa fvs.toArray) (hF : StrsV fvs formals) (ha : s.heap.IsList aa avs.toArray) (hA : ArgsIs s.heap avs args) (hl1 : args.length ≤ 20) (hl2 : formals.length ≤ 20) (hfl : ∀ x ∈ formals, x.length ≤ 100) (hal2 : ∀ a ∈ args, ∀ t, a.1 = some t → t.length ≤ 100)
   (hQ1 : ∀ h' tk' T t P R op kvs rvs places rest, mn formals args = .ok (places, rest) → Upd (fsOf (env :: outer)) [] s.heap h' → s.heap.get? T = none → s.heap.get? P = none → s.heap.get? R = none → IsTup h' T #[.str (Str.ofString "") t, .ref P, .ref R] →
     h'.get? P = some op → op.IsDictOf (strKind PySem.Challenge.rw_ov0042_01.row.prog w) kvs → PlacesK kvs places → (P == sysModules) = false → h'.get? R = some (LCg.lst rvs) → IntsV rvs rest → (∀ k ∈ rest, 0 ≤ k ∧ k < args.length) → rest.length ≤ 20 → Q (.ref T) { s with heap := h', toks := tk' })
   (hQ2 : ∀ h' tk' T t msg, mn formals args = .error msg → msg.length ≤ 4000 → Upd (fsOf (env :: outer)) [] s.heap h' → s.heap.get? T = none → IsTup h' T #[.str msg t, .none, .none] → Q (.ref T) { s with heap := h', toks := tk' }) :
   wpAny (model PySem.Challenge.rw_ov0042_01.row.prog w) A (call (.ref 146) [.ref fa, .ref aa]) Q E s := by
  have hX := Z.X; revert hX; k_fill; intro hX
  refine wpAny_call ?_
  refine enter (led := []) (binds := [(Str.ofString "formals", .ref fa), (Str.ofString "args", .ref aa)]) Z News.nil rfl rfl (by decide) (BindsTo.of_eq rfl) (locs rfl) (fun G L' h₁ F' N' B' X' T' hG hG2 hL hlt => ?_) rfl rfl rfl (by decide)
  have hG0 : ∀ b o, s.heap.get? b = some o → G.get? b = some o := fun b o e => hG b o e (by simp)
  have haG : G.IsList aa avs.toArray := by
    obtain ⟨o, ho, r⟩ := ha
    exact ⟨o, hG0 aa o ho, r⟩
  have hfG : G.IsList fa fvs.toArray := by
    obtain ⟨o, ho, r⟩ := hf
    exact ⟨o, hG0 fa o ho, r⟩
  have hAG : ArgsIs G avs args := hA.keeps hG0
  have hh := Z.hh
  have hal := hA.len
  have hfl0 := hF.len
  have hz1 : avs.toArray.size ≤ sizeLine := by rw [List.size_toArray, hal]; exact Nat.le_trans hl1 (by decide)
  have hz2 : fvs.toArray.size ≤ sizeLine := by rw [List.size_toArray, hfl0]; exact Nat.le_trans hl2 (by decide)
  dsimp only
  show wpAny _ _ _ _ _ _
  k_fold
  k_steps
  all_goals (try unfold Halt)
  rename Fr _ _ _ _ => F4
  rename News _ _ _ _ => N4
  rename_i D1 c1 h1' F1' N1' l1' D2 c2 h2' l2'
  have il1 : Heap.IsList _ D1 fvs.toArray := News.isList N4 (.tail _ (.head _))
  have il2 : Heap.IsList _ D2 avs.toArray := News.isList N4 (.head _)
  refine names_spec (at_in Z B' F4 X' T' (by decide) (by decide) rfl) il1 hF il2 (hAG.keeps F4.keep) hl1 hl2 hfl hal2 ?_ ?_
  · intro h9 tk9 T P R op kvs rvs places rest hok k9 nT nP nR hT hP hPd hPk lo hR hRI hrm hrl
    have nTs := none_up (h := s.heap) (fun b o e => F4.keep b o (hG0 b o e)) nT
    have nPs := none_up (h := s.heap) (fun b o e => F4.keep b o (hG0 b o e)) nP
    have nRs := none_up (h := s.heap) (fun b o e => F4.keep b o (hG0 b o e)) nR
    have N5 := news_add F4 (news_add F4 (news_kept (W := []) N4 (by simp) k9) hR nR) hP nP
    replace F4 := fr_after (W := []) F4 (by simp) k9
    clear N4 N1' F1' k9
    k_steps
    all_goals (try unfold Halt)
    rename Fr _ _ _ _ => F5
    rename News _ _ _ _ => N6
    exact hQ1 _ _ _ _ P R op kvs rvs places rest hok (Upd.mono (Upd.of_kept (X := []) (S := []) fun b o _ e => F5.keep b o (hG0 b o e)) (by simp) (by simp)) (none_up hG0 (N6 _ (.head _)).2.2) nPs nRs ⟨_, (N6 _ (.head _)).1, rfl, _, rfl⟩
      (N6 _ (.tail _ (.head _))).1 hPd hPk lo (N6 _ (.tail _ (.tail _ (.head _)))).1 hRI hrm hrl
  · intro h9 tk9 e msg dx9 T9 vs9 ts9 tt9 tm9 herr hml R
    refine caught_ref B' F4 N4 R XB TB ?_
    intro h' g' tk vs' K' B2 X2 T2 F2 N2
    clear F4 N4 N1' F1' R
    k_steps
    all_goals (try unfold Halt)
    refine get_msg (X2.keeps F2.keep) (N2 _ (.head _)).1 (N2 _ (.tail _ (.head _))).1 rfl ?_
    k_steps
    all_goals (try unfold Halt)
    rename Fr _ _ _ _ => F5
    rename News _ _ _ _ => N6
    have hU : Upd (fsOf (env :: outer)) [] s.heap _ := fun b o eb _ => by
      by_cases hb : b ∈ fsOf (env :: outer)
      · obtain ⟨sl, e1⟩ := K'.frame b o (hG0 b o eb) hb
        exact ⟨sl, F5.keep _ _ e1, fun n => absurd hb n⟩
      · exact ⟨o.slots, F5.keep _ _ (K'.other b o (hG0 b o eb) hb), fun _ => rfl⟩
    refine hQ2 _ _ _ _ msg herr hml hU (none_up hG0 (kts_back K' (N6 _ (.head _)).2.2)) ⟨_, (N6 _ (.head _)).1, rfl, _, rfl⟩
end
end Mine
end
section
open PySem PySem.W PySem.Calls PyProof.Rows
set_option maxRecDepth 100000
set_option maxHeartbeats 3000000
namespace Mine
section
variable {prog : Program} {w : World} {A : Around} {E : Value → Shared → Prop} {s : Shared} {env : Env} {g : Heap} {x : Str} {body : List Stmt} {Q : Flow → Shared → Prop}
/-- a loop by a word; what it walks lies in the ground, or apart from the ledger -/
theorem say_MLaw1_25 : True := by
  k_with_none
  exact trivial
theorem loop_core2 {I : Addr} {fp : List Addr} {n : Nat} {P : Nat → Value → Prop} {St : Nat → Heap → Prop} {m₀ : Str → Option Value} {news : List (Addr × Obj)} (J : Nat → (Str → Option Value) → List (Addr × Obj) → Prop)
    (W : Walks prog w A I fp [I] n P St) (hfp : ∀ b ∈ fp, b = I ∨ (b ≠ env.locals ∧ b ∉ news.map (·.1))) (hIL : I ≠ env.locals) (hIg : g.get? I = none) (hIn : ∀ p ∈ news, p.1 ≠ I) (hst : St 0 s.heap)
    (F : Fr g env.locals s.heap m₀) (N : News g env.locals s.heap news) (hj : J 0 m₀ news)
    (turn : ∀ i v m₁ news₁ h tk own, i < n → P i v → news₁.map (·.1) = news.map (·.1) → OwnOff own (news.map (·.1)) → (∀ b ∈ fp, g.get? b = none → ∀ o, h.get? b = some o → (b, o) ∈ own) → St (i + 1) h → J i m₁ news₁ → Fr g env.locals h (fun y => if y = x then some v else m₁ y) → News g env.locals h (news₁ ++ own) →
      wpAny (model prog w) A (execs body env) (InvPostN g env.locals (J (i + 1)) own (news.map (·.1)) { s with heap := h, toks := tk } Q) E { s with heap := h, toks := tk })
    (done : ∀ m₁ news₁ h tk, news₁.map (·.1) = news.map (·.1) → J n m₁ news₁ → Fr g env.locals h m₁ → News g env.locals h news₁ → Q .next { s with heap := h, toks := tk }) :
    LoopAtV prog w A g env x body Q E (.ref I) s := by
  refine ⟨I, fp, [I], n, P, St, m₀, news, fun i m₁ news₁ => news₁.map (·.1) = news.map (·.1) ∧ J i m₁ news₁, rfl, W, ?_, ?_, ?_, hst, F, N, ⟨rfl, hj⟩, ?_, ?_⟩
  · intro hm
    rcases hfp _ hm with e | e
    · exact hIL e.symm
    · exact e.1 rfl
  · intro b hb; rw [List.mem_singleton.mp hb]; exact hIg
  · intro p hp hq; exact hIn p hp (List.mem_singleton.mp hq)
  · rintro i v m₁ news₁ s₁ own ⟨h, tk, rfl⟩ hi hP ⟨hadr, hJ⟩ hoff hown _ hcov hst₁ F₁ N₁
    have off : OwnOff own (news.map (·.1)) := by
      intro p hp b hb e
      rcases hfp _ (hown p hp) with e2 | e2
      · rw [← hadr] at hb
        obtain ⟨q, hq, rfl⟩ := List.mem_map.mp hb
        exact hoff q hq (List.mem_singleton.mpr (e.symm.trans e2))
      · exact e2.2 (e ▸ hb)
    have N₂ : News g env.locals h (news₁ ++ own) := fun p hp => N₁ p ((List.mem_append.mp hp).elim (List.mem_append_right _) (List.mem_append_left _))
    refine wpAny_mono (turn i v m₁ news₁ h tk own hi hP hadr off hcov hst₁ hJ F₁ N₂) (fun f s₂ p => ?_) fun _ _ e => e
    have fin : InvEndN g env.locals (J (i + 1)) own (news.map (·.1)) { s with heap := h, toks := tk } s₂ →
        LoopStepU g env.locals [I] own (fun m₁ news₁ => news₁.map (·.1) = news.map (·.1) ∧ J (i + 1) m₁ news₁) { s with heap := h, toks := tk } .next s₂ := by
      rintro ⟨h', tk', m', news', nx, e, F', N', hn, ho, ha, hm⟩
      refine ⟨rfl, h', tk', m', nx, e, F', fun p hp => N' p ((List.mem_append.mp hp).elim (ho p) (hn p)), fun p hp hq => ?_, ha, hm⟩
      have h1 : p.1 ∈ nx.map (·.1) := List.mem_map_of_mem hp
      rw [ha, ← hadr] at h1
      obtain ⟨q, hq1, hq2⟩ := List.mem_map.mp h1
      exact hoff q hq1 (by rw [hq2]; exact hq)
    cases f with
    | ret v => exact .ret p
    | brk => exact .brk p
    | next => exact .next (fin p)
    | cont => exact .cont (fin p)
  · rintro h' tk m' news' F' N' _ ⟨ha, hJ⟩
    exact done m' news' h' tk ha hJ F' N'
/-- over a dict's names -/
theorem loop_names {d : Addr} {kvs : List (Str × Value)} {m₀ : Str → Option Value} {news : List (Addr × Obj)} (J : Nat → (Str → Option Value) → List (Addr × Obj) → Prop)
    (hh : A.handled = none) (lo : (d == sysModules) = false) (hd : s.heap.DictOf (strKind prog w) d kvs) (hdL : d ≠ env.locals) (hdn : d ∉ news.map (·.1)) (F : Fr g env.locals s.heap m₀) (N : News g env.locals s.heap news) (hj : J 0 m₀ news)
    (turn : ∀ i k v t m₁ news₁ h tk own, kvs[i]? = some (k, v) → news₁.map (·.1) = news.map (·.1) → OwnOff own (news.map (·.1)) → (g.get? d = none → ∃ od, (d, od) ∈ own ∧ od.IsDictOf (strKind prog w) kvs) → J i m₁ news₁ → Fr g env.locals h (fun y => if y = x then some (.str k t) else m₁ y) → News g env.locals h (news₁ ++ own) →
      wpAny (model prog w) A (execs body env) (InvPostN g env.locals (J (i + 1)) own (news.map (·.1)) { s with heap := h, toks := tk } Q) E { s with heap := h, toks := tk })
    (done : ∀ m₁ news₁ h tk, news₁.map (·.1) = news.map (·.1) → J kvs.length m₁ news₁ → Fr g env.locals h m₁ → News g env.locals h news₁ → Q .next { s with heap := h, toks := tk }) :
    wpAny (model prog w) A (pyIter (.ref d)) (fun it s₂ => LoopAtV prog w A g env x body Q E it s₂) E s := by
  obtain ⟨ep, hda⟩ := hd.dictAt
  have hlt := hda.lt_size
  have hL := F.ns.lt
  refine wpAny_pyIter_dict lo hda ?_
  have W := Walks.dictKeys (prog := prog) (w := w) (knd := strKind prog w) hh s.heap.objs.size d (Nat.ne_of_lt hlt) kvs ep
  refine loop_core2 (s := { s with heap := s.heap.push _ }) J W ?_ (Nat.ne_of_gt hL) (next_is_new F) (fun p hp => Nat.ne_of_lt (Heap.lt_size (N p hp).1)) ⟨⟨_, Heap.get?_push_size _ rfl, rfl, rfl⟩, hda.push _⟩
    (F.push _) (fun p hp => ⟨Heap.get?_push_of_some _ (N p hp).1, (N p hp).2⟩) hj ?_ ?_
  · intro b hb
    simp only [List.mem_cons, List.not_mem_nil, or_false] at hb
    rcases hb with rfl | rfl
    · exact .inl rfl
    · exact .inr ⟨hdL, hdn⟩
  · rintro i v m₁ news₁ h tk own hi ⟨k, y, hk, hv⟩ hadr hoff hcov hst hJ F₁ N₁
    obtain ⟨t, rfl⟩ := Value.isStrOf_shape hv
    refine turn i k y t m₁ news₁ h tk own hk hadr hoff (fun hg => ?_) hJ F₁ N₁
    obtain ⟨od, ho, hdd⟩ := Heap.dictOf_iff.mp hst.2.dictOf
    exact ⟨od, hcov d (by simp) hg od ho, hdd⟩
  · intro m₁ news₁ h tk ha hJ
    exact done m₁ news₁ h tk ha hJ
end
/-- a dict of ints by names -/
structure IntK (kvs : List (Str × Value)) (ps : List (Str × Int)) : Prop where
  keys : kvs.map (·.1) = ps.map (·.1)
  at_ : ∀ (i : Nat) (q : Str × Int), ps[i]? = some q → ∃ t, kvs[i]? = some (q.1, .int q.2 t)
theorem IntK.nil : IntK [] [] := ⟨rfl, fun _ _ h => by simp at h⟩
theorem IntK.len {kvs : List (Str × Value)} {ps : List (Str × Int)} (h : IntK kvs ps) : kvs.length = ps.length := by have := congrArg List.length h.keys; simpa using this
theorem stored_new {kvs : List (Str × Value)} {n : Str} {v : Value} (hn : n ∉ kvs.map (·.1)) : stored kvs n v = kvs ++ [(n, v)] := by
  have e : kvs.any (fun kv => kv.1 = n) = false := by
    rw [Bool.eq_false_iff]; intro q
    obtain ⟨p, hp, h⟩ := List.any_eq_true.mp q
    exact hn (by rw [← of_decide_eq_true h]; exact List.mem_map_of_mem hp)
  unfold stored
  rw [e]; rfl
theorem IntK.snoc {kvs : List (Str × Value)} {ps : List (Str × Int)} (h : IntK kvs ps) {n : Str} (hn : n ∉ ps.map (·.1)) (i : Int) (t : Tok) : IntK (stored kvs n (.int i t)) (ps ++ [(n, i)]) := by
  rw [stored_new (by rw [h.keys]; exact hn)]
  have hl := h.len
  refine ⟨by simp [h.keys], fun j q hj => ?_⟩
  rcases Nat.lt_trichotomy j ps.length with hj2 | hj2 | hj2
  · rw [List.getElem?_append_left hj2] at hj
    rw [List.getElem?_append_left (by omega)]
    exact h.at_ j q hj
  · subst hj2
    simp at hj; subst hj
    exact ⟨t, by simp [← hl]⟩
  · rw [List.getElem?_eq_none (by simp; omega)] at hj; cases hj
/-- what each formal is given -/
noncomputable def givenOf (args : List Entry) (places : List (Str × Nat)) : List (Str × Int) := places.map fun q => (q.1, (args.getD q.2 (none, 0)).2)
noncomputable def letter : Tag → Tag
  | none => none
  | some x => if x = dots then some x else some (Str.ofString "q" ++ x)
section
variable {w : World} {A A₀ : Around} {s : Shared} {base g : Heap} {outer : List Env} {L : Addr} {m mg mb : Str → Option Value} {mean : ExcName → Option Value} {env : Env}
  {Q : Value → Shared → Prop} {E : Value → Shared → Prop}
theorem say_MLaw1_26 : True := by
  k_with_none
  (k_with "call ref" => (k_here; (with_reducible show wpAny _ _ (call (Value.ref _) _ _) _ _ _); refine halt ?_))
  (k_with "subscriptTail" => (k_here; (with_reducible show wpAny _ _ (subscriptTail _ _ (Value.ref _) (Value.int _ _)) _ _ _); k_dflt (refine' tail_L (by exact isList_G (by k_asm) (by assumption)) (by omega) (by omega) (by assumption) ?_ (by with_unfolding_all rfl);  k_whole)))
  (k_with "subscriptTail" => (k_here; (with_reducible show wpAny _ _ (subscriptTail _ _ (Value.ref _) (Value.int _ _)) _ _ _); k_dflt (refine' tail_L (by exact LstO.isList (by assumption) (News.get (by k_asm) (by k_mem))) (by omega) (by omega) (by assumption) ?_ (by with_unfolding_all rfl);  k_whole)))
  (k_with "eval Name" => (k_here; k_dflt (refine' nameX_L (by k_asm) (by first | rfl | assumption) ?_ (by rfl) (by rfl);  k_whole)))
  (k_with "own iter" => ((with_reducible show wpAny _ _ (pyIter (Value.ref _)) (fun it s₂ => LoopAtV _ _ _ _ _ _ _ _ _ it s₂) _ _); refine halt ?_))
  (k_with "InvEndN" => (refine halt ?_))
  (k_with "compareOp NotIn str ref" => (k_dflt (refine' notIn_Db (by k_asm) (by k_mem) (by assumption) (by assumption) (by exact PlacesK.isSome (by assumption) _) ?_;  k_whole)))
  (k_with "compareOp In str ref" => (k_dflt (refine' in_Db (by k_asm) (by k_mem) (by assumption) (by assumption) (by exact PlacesK.isSome (by assumption) _) ?_;  k_whole)))
  (k_with "call builtin:len" => (k_here; k_dflt (refine' len_L (by exact isList_G (by k_asm) (by assumption)) (by first | assumption | exact TagsAre.len (by assumption) | exact IntsV.len (by assumption) | exact StrsV.len (by assumption)) (by omega) ?_); intro _ _))
  (k_with "setItem" => (k_here; (with_reducible show wpAny _ _ (setItem (Value.ref _) (Value.str _ _) _) _ _ _); k_dflt (refine' set_D (by k_asm) (by k_asm) (by k_updF) (by assumption) (by first | decide | omega) ?_;  k_whole); intro _ _ _ _ _))
  (k_with "setItem" => (k_here; (with_reducible show wpAny _ _ (setItem (Value.ref _) (Value.int _ _) _) _ _ _); k_dflt (refine' set_L (by k_asm) (by k_asm) (by k_updF) (by assumption) (by omega) (by omega) (by omega) ?_;  k_whole); intro _ _ _ _ _))
  (k_with "loadName" => (k_here; k_dflt (refine' ldn (by k_asm) (by first | rfl | assumption) ?_ (by rfl) (by rfl);  k_whole)))
  (k_with "memall" => ((repeat (refine List.forall_mem_cons.mpr ⟨by k_mem, ?_⟩)); exact List.forall_mem_nil _))
  (k_with "exec Raise Call" => (refine halt ?_))
  (k_with "exec Raise" => (refine halt ?_))
  (k_with "assign Tuple" => (k_here; (with_reducible show wpAny _ _ (assign (Expr.Tuple _ _ _) _ (Value.ref _)) _ _ _); k_dflt (refine' unpackN_ (by k_asm) (by k_asm) (by first | assumption | exact IsTup.keeps (by assumption) (Fr.keep (by k_asm))) (by assumption) (by exact rfl) (by exact rfl) ?_); intro _ _ _))
  (k_with "call builtin:len" => (k_here; k_dflt (refine' len_L (by exact LstO.isList (lst_O _) (News.get (by k_asm) (by k_mem))) (by first | assumption | exact IntsV.len (by assumption) | exact StrsV.len (by assumption)) (by omega) ?_); intro _ _))
  (k_with "subscriptTail" => (k_here; (with_reducible show wpAny _ _ (subscriptTail _ _ (Value.ref _) (Value.int _ _)) _ _ _); k_dflt (refine' item_tupleL (by exact IsTup.keeps (by assumption) (Fr.keep (by k_asm))) (by decide) (by decide) (by rfl) (by rfl) ?_;  k_whole)))
  exact trivial
theorem letter_spec {v : Value} {tg : Tag} (Z : At w A s 1 6 A₀ base g env outer L m mg mb mean) (hv : TagV v tg) (hx : ∀ x, tg = some x → x.length ≤ 100)
   (hQ : ∀ h' tk' v', Kept [] s.heap h' → TagV v' (letter tg) → Q v' { s with heap := h', toks := tk' }) :
   wpAny (model PySem.Challenge.rw_ov0042_01.row.prog w) A (call (.ref 170) [v]) Q E s := by
  have hX := Z.X; revert hX; k_fill; intro hX
  refine wpAny_call ?_
  refine enter (led := []) (binds := [(Str.ofString "name", v)]) Z News.nil rfl rfl (by decide) (BindsTo.of_eq rfl) (locs rfl) (fun G L' h₁ F' N' B' X' T' hG hG2 hL hlt => ?_) rfl rfl rfl (by decide)
  have hh := Z.hh
  dsimp only
  show wpAny _ _ _ _ _ _
  k_fold
  rcases tg with _ | tg
  · cases hv
    k_steps
    all_goals (try unfold Halt)
    exact hQ _ _ _ (fun b o _ e => F'.keep b o (hG b o e (by simp))) rfl
  · obtain ⟨tt, rfl⟩ := hv
    have hxl := hx tg rfl
    k_steps
    all_goals (try unfold Halt)
    · rename (tg == Str.ofString "...") = true => h1
      have e : letter (some tg) = some tg := by rw [letter, if_pos (by simpa [dots] using h1)]
      rw [e] at hQ
      exact hQ _ _ _ (fun b o _ e => F'.keep b o (hG b o e (by simp))) ⟨_, rfl⟩
    · rename (tg == Str.ofString "...") = false => h1
      have e : letter (some tg) = some (Str.ofString "q" ++ tg) := by rw [letter, if_neg (by simpa [dots] using h1)]
      rw [e] at hQ
      exact hQ _ _ _ (fun b o _ e => F'.keep b o (hG b o e (by simp))) ⟨_, rfl⟩
theorem getD_g {G : Heap} {d : Addr} {kvs : List (Str × Value)} {m : Str → Option Value} {L : Addr} {s : Shared} {A : Around} {E Q : Value → Shared → Prop} {y : Str} {t : Tok} {v : Value} {value slice : Expr} (F : Fr G L s.heap m)
    (hd : G.DictOf (strKind PySem.Challenge.rw_ov0042_01.row.prog w) d kvs) (hv : valueAt kvs y = some v) (h : Q v { s with toks := s.toks + 1 })
    (hs : subscripted slice false (.ref d) (.str y t) = operate [.ref d, .str y t] (getItem (.ref d) (.str y t)) := by with_unfolding_all rfl) :
    wpAny (model PySem.Challenge.rw_ov0042_01.row.prog w) A (subscriptTail value slice (.ref d) (.str y t)) Q E s := by
  obtain ⟨o, es, ep, ho, r⟩ := hd
  have hD : s.heap.DictOf (strKind PySem.Challenge.rw_ov0042_01.row.prog w) d kvs := ⟨o, es, ep, F.keep _ _ ho, r⟩
  exact tail_any hD.typeIs slot_dict_getitem.lookup (wpAny_getItem_of (strKind_is _ w y t) hD.mapOf hv h) hs
end
section
variable {w : World} {A A₀ : Around} {s : Shared} {base g : Heap} {outer : List Env} {L : Addr} {m mg mb : Str → Option Value} {mean : ExcName → Option Value} {env : Env}
  {Q : Value → Shared → Prop} {E : Value → Shared → Prop}
theorem say_MLaw1_27 : True := by
  k_with_none
  (k_with "call ref" => (k_here; (with_reducible show wpAny _ _ (call (Value.ref _) _ _) _ _ _); refine halt ?_))
  (k_with "subscriptTail" => (k_here; (with_reducible show wpAny _ _ (subscriptTail _ _ (Value.ref _) (Value.int _ _)) _ _ _); k_dflt (refine' tail_L (by exact isList_G (by k_asm) (by assumption)) (by omega) (by omega) (by assumption) ?_ (by with_unfolding_all rfl);  k_whole)))
  (k_with "subscriptTail" => (k_here; (with_reducible show wpAny _ _ (subscriptTail _ _ (Value.ref _) (Value.int _ _)) _ _ _); k_dflt (refine' tail_L (by exact LstO.isList (by assumption) (News.get (by k_asm) (by k_mem))) (by omega) (by omega) (by assumption) ?_ (by with_unfolding_all rfl);  k_whole)))
  (k_with "eval Name" => (k_here; k_dflt (refine' nameX_L (by k_asm) (by first | rfl | assumption) ?_ (by rfl) (by rfl);  k_whole)))
  (k_with "own iter" => ((with_reducible show wpAny _ _ (pyIter (Value.ref _)) (fun it s₂ => LoopAtV _ _ _ _ _ _ _ _ _ it s₂) _ _); refine halt ?_))
  (k_with "InvEndN" => (refine halt ?_))
  (k_with "compareOp NotIn str ref" => (k_dflt (refine' notIn_Db (by k_asm) (by k_mem) (by assumption) (by assumption) (by exact PlacesK.isSome (by assumption) _) ?_;  k_whole)))
  (k_with "compareOp In str ref" => (k_dflt (refine' in_Db (by k_asm) (by k_mem) (by assumption) (by assumption) (by exact PlacesK.isSome (by assumption) _) ?_;  k_whole)))
  (k_with "call builtin:len" => (k_here; k_dflt (refine' len_L (by exact isList_G (by k_asm) (by assumption)) (by first | assumption | exact TagsAre.len (by assumption) | exact IntsV.len (by assumption) | exact StrsV.len (by assumption)) (by omega) ?_); intro _ _))
  (k_with "setItem" => (k_here; (with_reducible show wpAny _ _ (setItem (Value.ref _) (Value.str _ _) _) _ _ _); k_dflt (refine' set_D (by k_asm) (by k_asm) (by k_updF) (by assumption) (by first | decide | omega) ?_;  k_whole); intro _ _ _ _ _))
  (k_with "setItem" => (k_here; (with_reducible show wpAny _ _ (setItem (Value.ref _) (Value.int _ _) _) _ _ _); k_dflt (refine' set_L (by k_asm) (by k_asm) (by k_updF) (by assumption) (by omega) (by omega) (by omega) ?_;  k_whole); intro _ _ _ _ _))
  (k_with "loadName" => (k_here; k_dflt (refine' ldn (by k_asm) (by first | rfl | assumption) ?_ (by rfl) (by rfl);  k_whole)))
  (k_with "memall" => ((repeat (refine List.forall_mem_cons.mpr ⟨by k_mem, ?_⟩)); exact List.forall_mem_nil _))
  (k_with "exec Raise Call" => (refine halt ?_))
  (k_with "exec Raise" => (refine halt ?_))
  (k_with "assign Tuple" => (k_here; (with_reducible show wpAny _ _ (assign (Expr.Tuple _ _ _) _ (Value.ref _)) _ _ _); k_dflt (refine' unpackN_ (by k_asm) (by k_asm) (by first | assumption | exact IsTup.keeps (by assumption) (Fr.keep (by k_asm))) (by assumption) (by exact rfl) (by exact rfl) ?_); intro _ _ _))
  (k_with "call builtin:len" => (k_here; k_dflt (refine' len_L (by exact LstO.isList (lst_O _) (News.get (by k_asm) (by k_mem))) (by first | assumption | exact IntsV.len (by assumption) | exact StrsV.len (by assumption)) (by omega) ?_); intro _ _))
  (k_with "subscriptTail" => (k_here; (with_reducible show wpAny _ _ (subscriptTail _ _ (Value.ref _) (Value.int _ _)) _ _ _); k_dflt (refine' item_tupleL (by exact IsTup.keeps (by assumption) (Fr.keep (by k_asm))) (by decide) (by decide) (by rfl) (by rfl) ?_;  k_whole)))
  (k_with "subscriptTail" => (k_here; (with_reducible show wpAny _ _ (subscriptTail _ _ (Value.ref _) (Value.str _ _)) _ _ _); k_dflt (refine' getD_g (by k_asm) (by assumption) (by assumption) ?_ (by with_unfolding_all rfl);  k_whole)))
  exact trivial
theorem valueAt_at {kvs : List (Str × Value)} (hn : (kvs.map (·.1)).Nodup) {i : Nat} {k : Str} {v : Value} (h : kvs[i]? = some (k, v)) : valueAt kvs k = some v := by
  unfold valueAt
  induction kvs generalizing i with
  | nil => simp at h
  | cons p r ih =>
    rw [List.map_cons, List.nodup_cons] at hn
    cases i with
    | zero => simp at h; subst h; simp
    | succ i =>
      have h' : r[i]? = some (k, v) := by simpa using h
      have hm : (k, v) ∈ r := List.mem_of_getElem? h'
      have : p.1 ≠ k := fun e => hn.1 (by rw [e]; exact List.mem_map_of_mem hm)
      rw [List.find?_cons_of_neg (by simpa using this)]
      exact ih hn.2 h'
theorem given_spec {P aa : Addr} {kvs : List (Str × Value)} {places : List (Str × Nat)} {avs : List Value} {args : List Entry} (Z : At w A s 4 20 A₀ base g env outer L m mg mb mean)
   (lo : (P == sysModules) = false) (hP : s.heap.DictOf (strKind PySem.Challenge.rw_ov0042_01.row.prog w) P kvs) (hPk : PlacesK kvs places) (hb : ∀ q ∈ places, q.2 < args.length) (hpl : places.length ≤ 500) (hl1 : args.length ≤ 20)
   (ha : s.heap.IsList aa avs.toArray) (hA : ArgsIs s.heap avs args)
   (hQ : ∀ h' tk' D od gvs, Kept [] s.heap h' → s.heap.get? D = none → h'.get? D = some od → od.IsDictOf (strKind PySem.Challenge.rw_ov0042_01.row.prog w) gvs → (D == sysModules) = false → IntK gvs (givenOf args places) → Q (.ref D) { s with heap := h', toks := tk' }) :
   wpAny (model PySem.Challenge.rw_ov0042_01.row.prog w) A (call (.ref 158) [.ref aa, .ref P]) Q E s := by
  have hX := Z.X; revert hX; k_fill; intro hX
  refine wpAny_call ?_
  refine enter (led := []) (binds := [(Str.ofString "args", .ref aa), (Str.ofString "places", .ref P)]) Z News.nil rfl rfl (by decide) (BindsTo.of_eq rfl) (locs rfl) (fun G L' h₁ F' N' B' X' T' hG hG2 hL hlt => ?_) rfl rfl rfl (by decide)
  have hG0 : ∀ b o, s.heap.get? b = some o → G.get? b = some o := fun b o e => hG b o e (by simp)
  have haG : G.IsList aa avs.toArray := by
    obtain ⟨o, ho, r⟩ := ha
    exact ⟨o, hG0 aa o ho, r⟩
  have hPG : G.DictOf (strKind PySem.Challenge.rw_ov0042_01.row.prog w) P kvs := by
    obtain ⟨o, es, ep, ho, r⟩ := hP
    exact ⟨o, es, ep, hG0 P o ho, r⟩
  have hAG : ArgsIs G avs args := hA.keeps hG0
  have hnd : (kvs.map (·.1)).Nodup := by obtain ⟨_, _, _, _, _, _, _, _, hn⟩ := hP; exact hn
  have hkl : kvs.length = places.length := by have := congrArg List.length hPk.keys; simpa using this
  have hh := Z.hh
  have hal := hA.len
  have hPL : P ≠ L' := fun e => by
    obtain ⟨o, es, ep, ho, r⟩ := hP
    rw [← e, ho] at hL; cases hL
  dsimp only
  show wpAny _ _ _ _ _ _
  k_fold
  k_steps
  all_goals (try unfold Halt)
  rename (_ == sysModules) = false => loD
  rename Obj.IsDictOf (PySem.strKind _ _) _ [] => hD0
  rename Fr _ _ _ _ => Fz
  rename News _ _ _ _ => Nz
  rename_i D1 hh1 o1 fs1 hi1 fi1 l1 hh2
  clear fs1 hi1 fi1 l1
  refine For_invV G (by rfl) (by rfl) ?_
  k_steps
  all_goals (try unfold Halt)
  have hPh : hh2.DictOf (strKind PySem.Challenge.rw_ov0042_01.row.prog w) P kvs := by
    obtain ⟨o, es, ep, ho, r⟩ := hPG
    exact ⟨o, es, ep, Fz.keep _ _ ho, r⟩
  have hPD : P ≠ D1 := fun e => by
    obtain ⟨o, es, ep, ho, r⟩ := hPG
    have := (Nz _ (.head _)).2.2
    rw [← e, ho] at this; cases this
  refine loop_names (fun i m₁ led => ∃ od gvs, m₁ (Str.ofString "args") = some (.ref aa) ∧ m₁ (Str.ofString "places") = some (.ref P) ∧ m₁ (Str.ofString "given_to") = some (.ref D1) ∧
      led = [(D1, od)] ∧ od.IsDictOf (strKind PySem.Challenge.rw_ov0042_01.row.prog w) gvs ∧ IntK gvs (givenOf args (places.take i))) Z.hh lo hPh hPL (by simpa using hPD) Fz Nz ?_ ?_ ?_
  · exact ⟨o1, [], rfl, rfl, rfl, rfl, hD0, IntK.nil⟩
  · rintro i k v t m₁ news₁ h tk own hk _ hoff _ ⟨od, gvs, hm1, hm2, hm3, rfl, hod, hgi⟩ F₁ N₁
    simp only [List.map_cons, List.map_nil] at hoff
    dsimp only [List.cons_append, List.nil_append] at N₁
    have hi : i < places.length := by
      have := (List.getElem?_eq_some_iff.mp hk).1
      omega
    obtain ⟨tp, hk'⟩ := hPk.at_ i places[i] (by simp [hi])
    rw [hk] at hk'
    have hva := valueAt_at hnd hk
    obtain ⟨e1, e2⟩ : k = places[i].1 ∧ v = .int (places[i].2 : Int) tp := by
      have := Option.some.inj hk'
      exact ⟨congrArg Prod.fst this, congrArg Prod.snd this⟩
    have hpb := hb places[i] (List.getElem_mem hi)
    have htk : givenOf args (places.take (i + 1)) = givenOf args (places.take i) ++ [(places[i].1, (args.getD places[i].2 (none, 0)).2)] := by
      unfold givenOf
      rw [List.take_succ_eq_append_getElem hi, List.map_append]; rfl
    have hnew : places[i].1 ∉ (givenOf args (places.take i)).map (·.1) := by
      intro hm
      simp only [givenOf, List.map_map] at hm
      obtain ⟨q, hq, e⟩ := List.mem_map.mp hm
      have hnp : (places.map (·.1)).Nodup := hPk.keys ▸ hnd
      have hsplit : places.map (·.1) = (places.take i).map (·.1) ++ (places.drop i).map (·.1) := by rw [← List.map_append, List.take_append_drop]
      rw [hsplit] at hnp
      have hd := (List.nodup_append.mp hnp).2.2
      refine hd q.1 (List.mem_map_of_mem hq) places[i].1 (List.mem_map.mpr ⟨places[i], ?_, rfl⟩) e
      rw [List.drop_eq_getElem_cons hi]; exact .head _
    have hgl : gvs.length ≤ 1000 := by
      rw [hgi.len]; simp only [givenOf, List.length_map, List.length_take]; omega
    subst e1 e2
    generalize places[i] = q at *
    obtain ⟨nm, pl⟩ := q
    dsimp only at *
    obtain ⟨t3, v3, tk3, hv3, htv3, htt3⟩ := hAG.at_ pl args[pl] (by simp [hpb])
    have hge : args.getD pl (none, 0) = args[pl] := by simp [hpb]
    rw [hge] at htk
    generalize args[pl] = ent at *
    obtain ⟨tg, th⟩ := ent
    dsimp only at *
    have hpn : ((pl : Int)).toNat = pl := by omega
    have hp0 : (0 : Int) ≤ pl := by omega
    rw [← hpn] at hv3
    clear Fz Nz hk hk'
    k_steps
    all_goals (try unfold Halt)
    rename Fr _ _ _ _ => F4
    rename News _ _ _ _ => N4
    rename Obj.IsDictOf _ _ (stored _ _ _) => hd4
    exact InvEndN.intro F4 N4 ⟨_, _, hm1, hm2, hm3, rfl, hd4, by rw [htk]; exact hgi.snoc hnew th _⟩ rfl (by walk_at "memall") (fun q hq => by simp [hq])
  · rintro m₁ news₁ h tk _ ⟨od, gvs, hm1, hm2, hm3, rfl, hod, hgi⟩ F₁ N₁
    rw [hkl, List.take_length] at hgi
    clear Fz Nz
    dsimp only
    k_steps
    all_goals (try unfold Halt)
    refine hQ _ _ D1 od gvs (fun b o _ e => F₁.keep b o (hG0 b o e)) (none_up hG0 (N₁ _ (.head _)).2.2) (N₁ _ (.head _)).1 hod loD hgi
end
end Mine
end
section
open PySem PySem.W PySem.Calls PyProof.Rows
set_option maxRecDepth 100000
set_option maxHeartbeats 3000000
namespace Mine
/-- the entries' values: the tuples by their things -/
structure ArgsBy (ρ : Int → Addr) (h : Heap) (args : List Entry) : Prop where
  at_ : ∀ a ∈ args, ∃ v tk, TagV v a.1 ∧ IsTup h (ρ a.2) #[v, .int a.2 tk]
noncomputable abbrev refsOf (ρ : Int → Addr) (args : List Entry) : List Value := args.map fun a => .ref (ρ a.2)
theorem ArgsBy.is {ρ : Int → Addr} {h : Heap} {args : List Entry} (x : ArgsBy ρ h args) : ArgsIs h (refsOf ρ args) args := by
  refine ⟨by simp, fun i a e => ?_⟩
  obtain ⟨v, tk, h1, h2⟩ := x.at_ a (List.mem_of_getElem? e)
  exact ⟨ρ a.2, v, tk, by simp [e], h1, h2⟩
theorem ArgsBy.keeps {ρ : Int → Addr} {h h' : Heap} {args : List Entry} (x : ArgsBy ρ h args) (k : ∀ b o, h.get? b = some o → h'.get? b = some o) : ArgsBy ρ h' args :=
  ⟨fun a e => by obtain ⟨v, tk, h1, h2⟩ := x.at_ a e; exact ⟨v, tk, h1, h2.keeps k⟩⟩
theorem ArgsBy.sub {ρ : Int → Addr} {h : Heap} {args args' : List Entry} (x : ArgsBy ρ h args) (k : ∀ a ∈ args', a ∈ args) : ArgsBy ρ h args' := ⟨fun a e => x.at_ a (k a e)⟩
noncomputable def bareE (a : Entry) : Bool := a.1.isNone
section
variable {prog : Program} {w : World} {A : Around} {E Q : Value → Shared → Prop} {s : Shared} {l b : Addr} {vs us : List Value}
theorem ne_nil (hl : s.heap.IsList l vs.toArray) (hb : s.heap.IsList b ([] : List Value).toArray) {r : Bool} (hu : A.units < cLine) (e : (!vs.isEmpty) = r) (h : Q (.bool r) s) : wpAny (model prog w) A (compareOp .NotEq (.ref l) (.ref b)) Q E s := by
  subst e
  cases vs with
  | nil => exact SeqAt.RcNeAt.lists (e := fun _ => true) hl hb rfl hu (fun j h1 => absurd h1 (Nat.not_lt_zero _)) prog w E Q h
  | cons v r => exact SeqAt.RcNeAt.lists_lengths hl hb (by simp) hu prog w E Q h
theorem eq_nil (hl : s.heap.IsList l vs.toArray) (hb : s.heap.IsList b ([] : List Value).toArray) {r : Bool} (hu : A.units < cLine) (e : vs.isEmpty = r) (h : Q (.bool r) s) : wpAny (model prog w) A (compareOp .Eq (.ref l) (.ref b)) Q E s := by
  subst e
  cases vs with
  | nil => exact SeqAt.RcAt.lists (e := fun _ => true) hl hb rfl hu (fun j h1 => absurd h1 (Nat.not_lt_zero _)) prog w E Q h
  | cons v r => exact SeqAt.RcAt.lists_lengths hl hb (by simp) hu prog w E Q h
theorem cut_at : ∀ (l : List Value) (k : Nat) (h : k < l.length), kl_cut l k = some (l.take k, l[k], l.drop (k + 1))
  | x :: r, 0, _ => rfl
  | x :: r, k + 1, h => by
    unfold kl_cut
    rw [cut_at r k (by simpa using h)]
    rfl
theorem pop_L {h₀ : Heap} {L D : Addr} {m : Str → Option Value} {news news' : List (Addr × Obj)} {n : Nat} {k : Nat} {t : Tok} (F : Fr h₀ L s.heap m) (N : News h₀ L s.heap news) (hk : k < vs.length) (hz : vs.length ≤ 1000)
    (U : W.Upd D (listOf vs.toArray n) (listOf (vs.eraseIdx k).toArray (n + 1)) news news') (h : ∀ h', Fr h₀ L h' m → News h₀ L h' news' → Q vs[k] { s with heap := h' }) : wpAny (model prog w) A (call (.builtin "list.pop") [.ref D, .int (k : Int) t]) Q E s := by
  refine kl_popAt (n := n) F N (k := k) ?_ ?_ (cut_at vs k hk) ?_ (by simp only []; exact Nat.le_trans hz (by decide)) h
  · unfold Builtin.List.listFitsIndex
    have : ((2 : Int) ^ 63) = 9223372036854775808 := by decide
    rw [Bool.and_eq_true]; exact ⟨decide_eq_true (by omega), decide_eq_true (by omega)⟩
  · have h1 : ¬ ((k : Int) < 0) := by omega
    have h2 : (k : Int) < (vs.length : Int) := by omega
    simp [seqIndex?, h1, h2]
  · rw [← List.eraseIdx_eq_take_drop_succ]; exact U
end
theorem news_upd1 {G h h' : Heap} {L j : Addr} {oj oj' : Obj} {rest : List (Addr × Obj)} (N : News G L h ((j, oj) :: rest)) (k : Kept [j] h h') (hj : h'.get? j = some oj') (off : ∀ p ∈ rest, p.1 ≠ j) : News G L h' ((j, oj') :: rest) := by
  intro q hq
  rcases List.mem_cons.mp hq with rfl | hq
  · exact ⟨hj, (N (j, oj) (.head _)).2⟩
  · have z := N q (.tail _ hq)
    exact ⟨k _ _ (by simpa using off q hq) z.1, z.2⟩
theorem news_updj {G h h' : Heap} {L j : Addr} {oj' : Obj} {led led' : List (Addr × Obj)} (N : News G L h led) (hjm : ∃ o, (j, o) ∈ led) (k : Kept [j] h h') (hj : h'.get? j = some oj') (hl : ∀ p ∈ led', p = (j, oj') ∨ (p ∈ led ∧ @Ne Nat p.1 j)) : News G L h' led' := by
  intro q hq
  rcases hl q hq with rfl | ⟨h1, h2⟩
  · obtain ⟨o, ho⟩ := hjm
    exact ⟨hj, (N _ ho).2⟩
  · have z := N q h1
    exact ⟨k _ _ (by simpa using h2) z.1, z.2⟩
theorem refs_get (ρ : Int → Addr) (l : List Entry) (k : Nat) (h : k < (refsOf ρ l).length) : (refsOf ρ l)[k] = .ref (ρ (l[k]'(by simpa using h)).2) := by simp [refsOf]
theorem refs_erase (ρ : Int → Addr) : ∀ (l : List Entry) (k : Nat), (refsOf ρ l).eraseIdx k = refsOf ρ (l.eraseIdx k)
  | [], _ => rfl
  | _ :: _, 0 => rfl
  | x :: r, k + 1 => by
    show Value.ref (ρ x.2) :: (refsOf ρ r).eraseIdx k = Value.ref (ρ x.2) :: refsOf ρ (r.eraseIdx k)
    rw [refs_erase ρ r k]
theorem erase_perm {α : Type} : ∀ (l : List α) (k : Nat) (h : k < l.length), (l[k] :: l.eraseIdx k).Perm l
  | _ :: _, 0, _ => .refl _
  | x :: r, k + 1, h => by
    have hk : k < r.length := by simpa using h
    have ih := erase_perm r k hk
    show (r[k] :: x :: r.eraseIdx k).Perm (x :: r)
    exact (List.Perm.swap _ _ _).trans (ih.cons x)
end Mine
end
section
open PySem PySem.W PySem.Calls PyProof.Rows
set_option maxRecDepth 100000
set_option maxHeartbeats 3000000
namespace Mine
/-- the jar stands at its place -/
theorem say_MMix2_28 : True := by
  k_with_none
  (k_with "call ref" => (k_here; (with_reducible show wpAny _ _ (call (Value.ref _) _ _) _ _ _); refine halt ?_))
  (k_with "subscriptTail" => (k_here; (with_reducible show wpAny _ _ (subscriptTail _ _ (Value.ref _) (Value.int _ _)) _ _ _); k_dflt (refine' tail_L (by exact isList_G (by k_asm) (by assumption)) (by omega) (by omega) (by assumption) ?_ (by with_unfolding_all rfl);  k_whole)))
  (k_with "subscriptTail" => (k_here; (with_reducible show wpAny _ _ (subscriptTail _ _ (Value.ref _) (Value.int _ _)) _ _ _); k_dflt (refine' tail_L (by exact LstO.isList (by assumption) (News.get (by k_asm) (by k_mem))) (by omega) (by omega) (by assumption) ?_ (by with_unfolding_all rfl);  k_whole)))
  (k_with "eval Name" => (k_here; k_dflt (refine' nameX_L (by k_asm) (by first | rfl | assumption) ?_ (by rfl) (by rfl);  k_whole)))
  (k_with "own iter" => ((with_reducible show wpAny _ _ (pyIter (Value.ref _)) (fun it s₂ => LoopAtV _ _ _ _ _ _ _ _ _ it s₂) _ _); refine halt ?_))
  (k_with "InvEndN" => (refine halt ?_))
  (k_with "compareOp NotIn str ref" => (k_dflt (refine' notIn_Db (by k_asm) (by k_mem) (by assumption) (by assumption) (by exact PlacesK.isSome (by assumption) _) ?_;  k_whole)))
  (k_with "compareOp In str ref" => (k_dflt (refine' in_Db (by k_asm) (by k_mem) (by assumption) (by assumption) (by exact PlacesK.isSome (by assumption) _) ?_;  k_whole)))
  (k_with "call builtin:len" => (k_here; k_dflt (refine' len_L (by exact isList_G (by k_asm) (by assumption)) (by first | assumption | exact TagsAre.len (by assumption) | exact IntsV.len (by assumption) | exact StrsV.len (by assumption)) (by omega) ?_); intro _ _))
  (k_with "setItem" => (k_here; (with_reducible show wpAny _ _ (setItem (Value.ref _) (Value.str _ _) _) _ _ _); k_dflt (refine' set_D (by k_asm) (by k_asm) (by k_updF) (by assumption) (by first | decide | omega) ?_;  k_whole); intro _ _ _ _ _))
  (k_with "setItem" => (k_here; (with_reducible show wpAny _ _ (setItem (Value.ref _) (Value.int _ _) _) _ _ _); k_dflt (refine' set_L (by k_asm) (by k_asm) (by k_updF) (by assumption) (by omega) (by omega) (by omega) ?_;  k_whole); intro _ _ _ _ _))
  (k_with "loadName" => (k_here; k_dflt (refine' ldn (by k_asm) (by first | rfl | assumption) ?_ (by rfl) (by rfl);  k_whole)))
  (k_with "memall" => ((repeat (refine List.forall_mem_cons.mpr ⟨by k_mem, ?_⟩)); exact List.forall_mem_nil _))
  (k_with "exec Raise Call" => (refine halt ?_))
  (k_with "exec Raise" => (refine halt ?_))
  (k_with "assign Tuple" => (k_here; (with_reducible show wpAny _ _ (assign (Expr.Tuple _ _ _) _ (Value.ref _)) _ _ _); k_dflt (refine' unpackN_ (by k_asm) (by k_asm) (by first | assumption | exact IsTup.keeps (by assumption) (Fr.keep (by k_asm))) (by assumption) (by exact rfl) (by exact rfl) ?_); intro _ _ _))
  (k_with "call builtin:len" => (k_here; k_dflt (refine' len_L (by exact LstO.isList (lst_O _) (News.get (by k_asm) (by k_mem))) (by first | assumption | exact IntsV.len (by assumption) | exact StrsV.len (by assumption)) (by omega) ?_); intro _ _))
  (k_with "subscriptTail" => (k_here; (with_reducible show wpAny _ _ (subscriptTail _ _ (Value.ref _) (Value.int _ _)) _ _ _); k_dflt (refine' item_tupleL (by exact IsTup.keeps (by assumption) (Fr.keep (by k_asm))) (by decide) (by decide) (by rfl) (by rfl) ?_;  k_whole)))
  (k_with "CompSrcT" => (refine halt ?_))
  (k_with "CompSrc" => (refine halt ?_))
  (k_with "CompEnd" => (refine halt ?_))
  (k_with "exec While" => (refine halt ?_))
  (k_with "compareOp NotEq ref ref" => (k_here; k_dflt (first | (refine' ne_nil (r := true) (by exact News.isList (by k_asm) (by k_mem)) (by exact News.isList (by k_asm) (by k_mem)) (by assumption) (by exact rfl) ?_;  k_whole) | (refine' ne_nil (r := false) (by exact News.isList (by k_asm) (by k_mem)) (by exact News.isList (by k_asm) (by k_mem)) (by assumption) (by exact rfl) ?_;  k_whole))))
  (k_with "compareOp Eq ref ref" => (k_here; k_dflt (first | (refine' eq_nil (r := true) (by exact News.isList (by k_asm) (by k_mem)) (by exact News.isList (by k_asm) (by k_mem)) (by assumption) (by exact rfl) ?_;  k_whole) | (refine' eq_nil (r := false) (by exact News.isList (by k_asm) (by k_mem)) (by exact News.isList (by k_asm) (by k_mem)) (by assumption) (by exact rfl) ?_;  k_whole))))
  (k_with "call builtin:list.append" => (k_here; (with_reducible show wpAny _ _ (call (Value.builtin _) [Value.ref _, _]) _ _ _); k_dflt (refine' append_K (by k_asm) (by k_asm) (by k_upd) ?_ (by rw [List.size_toArray]; exact Nat.le_trans (by assumption) (by decide : 1000 ≤ sizeLine));  k_whole); intro _ _ _))
  (k_with "call builtin:list.pop" => (refine halt ?_))
  exact trivial
noncomputable def JarFine (w : World) (h : Heap) (j c : Addr) (at_ : Int) : Prop := ∃ held, 0 ≤ held ∧ held ≤ 10 ^ 66 ∧ JarAt w h j c at_ held
/-- what holds between the turns of the loop that mixes -/
inductive JM (w : World) (s : Shared) (G : Heap) (L' j D1 D2 M1 c : Addr) (at_ : Int) (ρ : Int → Addr) (args : List Entry) (d : Nat) (s' : Shared) : Prop
  | mk (bs ts ms : List Entry) (m : Str → Option Value) (h : Heap) (tk : Nat) (n1 n2 n3 : Nat) (oj' : Obj) (at' : Int) (a1 : s' = { s with heap := h, toks := tk }) (a2 : d = bs.length + ts.length)
    (a3 : m (Str.ofString "jar") = some (.ref j)) (a4 : m (Str.ofString "bare") = some (.ref D1)) (a5 : m (Str.ofString "tagged") = some (.ref D2)) (a6 : m (Str.ofString "mixed") = some (.ref M1)) (a7 : Fr G L' h m)
    (a8 : News G L' h [(M1, listOf (refsOf ρ ms).toArray n3), (D2, listOf (refsOf ρ ts).toArray n2), (D1, listOf (refsOf ρ bs).toArray n1), (j, oj')]) (a9 : JarFine w h j c at') (b1 : at_ ≤ at') (b2 : at' + 2 * (d : Int) ≤ at_ + 40)
    (b3 : ms.filter bareE ++ bs = args.filter bareE) (b4 : (ms.filter (fun a => !bareE a) ++ ts).Perm (args.filter fun a => !bareE a)) (b5 : ∀ b ∈ bs, bareE b = true) (b6 : ∀ b ∈ ts, bareE b = false) (b7 : ms.length + bs.length + ts.length = args.length) : JM w s G L' j D1 D2 M1 c at_ ρ args d s'
theorem jar_open {w : World} {h : Heap} {j c : Addr} {at_ held : Int} {G : Prop} (J : JarAt w h j c at_ held)
    (k : ∀ t2 t3 oj, h.get? j = some oj → Obj.IsDictOf (strKind PySem.Challenge.rw_ov0042_01.row.prog w) oj (jarK c at_ t2 held t3) → G) : G :=
  let ⟨t2, t3, hj⟩ := J
  let ⟨oj, a, b⟩ := Heap.dictOf_iff.mp hj
  k t2 t3 oj a b
theorem jf_open {w : World} {h : Heap} {j c : Addr} {at_ : Int} {G : Prop} (J : JarFine w h j c at_)
    (k : ∀ held, 0 ≤ held → held ≤ 10 ^ 66 → ∀ t2 t3 oj, h.get? j = some oj → Obj.IsDictOf (strKind PySem.Challenge.rw_ov0042_01.row.prog w) oj (jarK c at_ t2 held t3) → G) : G :=
  let ⟨held, a, b, J⟩ := J
  jar_open J (k held a b)
theorem one_in {j : Addr} {oj : Obj} {led : List (Addr × Obj)} (h : (j, oj) ∈ led) : ∀ b ∈ [j], ∃ o, (b, o) ∈ led := fun b hb => by
  rw [List.mem_singleton.mp hb]; exact ⟨oj, h⟩
theorem take_filter {p : Entry → Bool} {args : List Entry} {i : Nat} (hi : i < args.length) : (args.take (i + 1)).filter p = (args.take i).filter p ++ if p args[i] = true then [args[i]] else [] := by
  rw [List.take_succ_eq_append_getElem hi, List.filter_append]
  congr 1
  by_cases h : p args[i] = true <;> simp [List.filter_cons, h]
section
variable {w : World} {A A₀ : Around} {s : Shared} {base g : Heap} {outer : List Env} {L : Addr} {m mg mb : Str → Option Value} {mean : ExcName → Option Value} {env : Env}
  {Q : Value → Shared → Prop} {E : Value → Shared → Prop}
theorem mixed_spec {ρ : Int → Addr} {aa j c : Addr} {at_ : Int} {vs : List Value} {cells : List Int} {args : List Entry} (Z : At w A s 6 90 A₀ base g env outer L m mg mb mean)
   (hj : JarFine w s.heap j c at_) (hjL : j ≠ L) (hjg : g.get? j = none) (hc : s.heap.IsList c vs.toArray) (hcj : c ≠ j) (hI : IntsAre vs cells) (hcl : 0 < cells.length) (hcl2 : cells.length ≤ 40) (h1 : 0 ≤ at_) (h2 : at_ ≤ 50000)
   (ha : s.heap.IsList aa (refsOf ρ args).toArray) (haj : aa ≠ j) (hA : ArgsBy ρ s.heap args) (hl1 : args.length ≤ 20)
   (hQ : ∀ h' tk' M n mixed at', Kept [j] s.heap h' → JarFine w h' j c at' → at_ ≤ at' → at' ≤ at_ + 40 → s.heap.get? M = none → h'.get? M = some (listOf (refsOf ρ mixed).toArray n) → mixed.Perm args → mixed.filter bareE = args.filter bareE → Q (.ref M) { s with heap := h', toks := tk' }) :
   wpAny (model PySem.Challenge.rw_ov0042_01.row.prog w) A (call (.ref 151) [.ref j, .ref aa]) Q E s := by
  have hX := Z.X; revert hX; k_fill; intro hX
  obtain ⟨held, hd1, hd2, hja⟩ := hj
  obtain ⟨t2, t3, hjd⟩ := hja
  obtain ⟨oj, hoj, hdj⟩ := Heap.dictOf_iff.mp hjd
  have N : News g L s.heap [(j, oj)] := fun p hp => by
    rcases List.mem_singleton.mp hp with rfl
    exact ⟨hoj, hjL, hjg⟩
  refine wpAny_call ?_
  refine enter (led := [(j, oj)]) (binds := [(Str.ofString "jar", .ref j), (Str.ofString "args", .ref aa)]) Z N rfl rfl (by decide) (BindsTo.of_eq rfl) (locs rfl) (fun G L' h₁ F' N' B' X' T' hG hG2 hL hlt => ?_) rfl rfl rfl (by decide)
  have hG0 : ∀ b o, s.heap.get? b = some o → b ≠ j → G.get? b = some o := fun b o e n => hG b o e (by simpa using n)
  have haG : G.IsList aa (refsOf ρ args).toArray := by
    obtain ⟨o, ho, r⟩ := ha
    exact ⟨o, hG0 aa o ho haj, r⟩
  have hcG : G.IsList c vs.toArray := by
    obtain ⟨o, ho, r⟩ := hc
    exact ⟨o, hG0 c o ho hcj, r⟩
  have hAG : ArgsBy ρ G args := ⟨fun a e => by
    obtain ⟨v, tk, h1, o, ho, hc', n, hd'⟩ := hA.at_ a e
    refine ⟨v, tk, h1, o, hG0 _ o ho (fun q => ?_), hc', n, hd'⟩
    rw [q, hoj] at ho; cases ho
    obtain ⟨es, ep, _, hd2, _⟩ := hdj
    rw [hd'] at hd2; cases hd2⟩
  have hh := Z.hh
  have hu : A.units < cLine := by have := Z.hu; omega
  have hu2 : (A.deeper (envOf (Str.ofString "_law_mixed") default L' 151 .none)).units < cLine := by have := Z.hu; show A.units + 3 < cLine; omega
  dsimp only
  show wpAny _ _ _ _ _ _
  k_fold
  k_steps
  all_goals (try unfold Halt)
  rename Fr _ _ _ _ => Fz
  rename News _ _ _ _ => Nz
  have hrl : (refsOf ρ args).length = args.length := by simp
  refine LCt.CompSrcT.base Z.hh Fz Nz haG (by simp only [List.size_toArray, hrl]; exact Nat.le_trans hl1 (by decide)) ?_
  intro g'
  refine restT_ind (fun i ys news => ys = refsOf ρ ((args.take i).filter bareE) ∧ news = [(j, oj)]) _ ?_ ?_ _ 0 [] _ (Nat.zero_add _) ⟨rfl, rfl⟩
  rotate_left
  · rintro i ys news hi ⟨rfl, rfl⟩ v I oI C oC D m₂ h tk E' hv hC hx F9 N9 off9 ne9
    have hi2 : i < args.length := by simpa [hrl] using hi
    have hv3 : v = .ref (ρ args[i].2) := by
      rw [List.getElem?_toArray] at hv
      simp [hi2] at hv; exact hv.symm
    subst hv3
    have htf := take_filter (p := bareE) hi2
    obtain ⟨v1, tk1, htv, htt⟩ := hAG.at_ args[i] (List.getElem_mem hi2)
    generalize args[i] = ar at *
    obtain ⟨tg, th⟩ := ar
    clear Fz Nz
    have off9' := off9
    simp only [LCg.Off3, and_true] at off9
    rcases tg with _ | tg
    · cases htv
      k_steps
      all_goals (try unfold Halt)
      rename Fr _ _ _ _ => F4
      rename News _ _ _ _ => N4
      refine LCg.CompEnd.intro F4 N4 _ (fun q hq => hq) off9' (.inl haG) ⟨?_, rfl⟩
      rw [htf, if_pos (by rfl)]; simp [refsOf]
    · obtain ⟨tt, rfl⟩ := htv
      k_steps
      all_goals (try unfold Halt)
      rename Fr _ _ _ _ => F4
      rename News _ _ _ _ => N4
      refine LCg.CompEnd.intro F4 N4 _ (fun q hq => hq) off9' (.inl haG) ⟨?_, rfl⟩
      rw [htf, if_neg (by simp [bareE]), List.append_nil]
  rintro ys news ⟨rfl, rfl⟩ D1 h tk F9 N9 off8
  rw [show (refsOf ρ args).toArray.size = args.length by simp, List.take_length] at N9
  clear Fz Nz
  simp only [LCg.Off1, and_true] at off8
  k_steps
  all_goals (try unfold Halt)
  rename Fr _ _ _ _ => Fz
  rename News _ _ _ _ => Nz
  refine LCt.CompSrcT.base Z.hh Fz Nz haG (by simp only [List.size_toArray, hrl]; exact Nat.le_trans hl1 (by decide)) ?_
  intro g'
  refine restT_ind (fun i ys news => ys = refsOf ρ ((args.take i).filter fun a => !bareE a) ∧ news = [(D1, LCg.lst (refsOf ρ (args.filter bareE))), (j, oj)]) _ ?_ ?_ _ 0 [] _ (Nat.zero_add _) ⟨rfl, rfl⟩
  rotate_left
  · rintro i ys news hi ⟨rfl, rfl⟩ v I oI C oC D m₂ h tk E' hv hC hx F9 N9 off9 ne9
    have hi2 : i < args.length := by simpa [hrl] using hi
    have hv3 : v = .ref (ρ args[i].2) := by
      rw [List.getElem?_toArray] at hv
      simp [hi2] at hv; exact hv.symm
    subst hv3
    have htf := take_filter (p := fun a => !bareE a) hi2
    obtain ⟨v1, tk1, htv, htt⟩ := hAG.at_ args[i] (List.getElem_mem hi2)
    generalize args[i] = ar at *
    obtain ⟨tg, th⟩ := ar
    clear Fz Nz
    have off9' := off9
    simp only [LCg.Off3, and_true] at off9
    rcases tg with _ | tg
    · cases htv
      k_steps
      all_goals (try unfold Halt)
      rename Fr _ _ _ _ => F4
      rename News _ _ _ _ => N4
      refine LCg.CompEnd.intro F4 N4 _ (fun q hq => hq) off9' (.inl haG) ⟨?_, rfl⟩
      rw [htf, if_neg (by simp [bareE]), List.append_nil]
    · obtain ⟨tt, rfl⟩ := htv
      k_steps
      all_goals (try unfold Halt)
      rename Fr _ _ _ _ => F4
      rename News _ _ _ _ => N4
      refine LCg.CompEnd.intro F4 N4 _ (fun q hq => hq) off9' (.inl haG) ⟨?_, rfl⟩
      rw [htf, if_pos (by simp [bareE])]; simp [refsOf]
  rintro ys news ⟨rfl, rfl⟩ D2 h tk F9 N9 off9
  rw [show (refsOf ρ args).toArray.size = args.length by simp, List.take_length] at N9
  clear Fz Nz
  simp only [LCg.Off1, and_true] at off9
  k_steps
  all_goals (try unfold Halt)
  rename_i M1 hh1 l1 hh2 F2 N2
  obtain ⟨l11, l12, l13⟩ := l1
  have jD1 : @Ne Nat j D1 := off8
  have jD2 : @Ne Nat j D2 := off9.2
  have D12 : @Ne Nat D1 D2 := off9.1
  have MD2 : @Ne Nat M1 D2 := Nat.ne_of_gt l11
  have MD1 : @Ne Nat M1 D1 := Nat.ne_of_gt l12
  have Mj : @Ne Nat M1 j := Nat.ne_of_gt l13
  have hfl := List.length_filter_le bareE args
  have hJ0 : JarFine w hh2 j c at_ := ⟨held, hd1, hd2, t2, t3, Heap.dictOf_iff.mpr ⟨oj, N2.get (by simp), hdj⟩⟩
  refine while_ind (by passes_own) (JM w s G L' j D1 D2 M1 c at_ ρ args) (d := (args.filter bareE).length + (args.filter fun a => !bareE a).length) ?_ ?_
  · have hfs : (args.filter bareE).length + (args.filter fun a => !bareE a).length = args.length := by
      have := (List.filter_append_perm bareE args).length_eq
      simpa using this
    refine ⟨args.filter bareE, args.filter fun a => !bareE a, [], _, hh2, _, _, _, _, oj, at_, rfl, rfl, rfl, rfl, rfl, rfl, F2, N2, hJ0, Int.le_refl _, by omega, rfl, .refl _, fun b hb => (List.mem_filter.mp hb).2, fun b hb => by simpa using (List.mem_filter.mp hb).2, by simpa using hfs⟩
  · clear F2 N2 hJ0
    rintro d s₁ ⟨bs, ts, ms, m₂, h, tk, n1, n2, n3, oj2, at2, rfl, rfl, hm1, hm2, hm3, hm4, F3, N3, hJ, ha1, ha2, hb1, hb2, hb3, hb4, hlen⟩
    have uu : ∀ (e : Env), (A.deeper e).units < cLine := fun e => by have := Z.hu; show A.units + 3 < cLine; omega
    have hu3 := uu (envOf (Str.ofString "_law_mixed") default L' 151 .none)
    obtain ⟨held2, hd1', hd2', t2b, t3b, hjd2⟩ := hJ
    have hdj2 : oj2.IsDictOf (strKind PySem.Challenge.rw_ov0042_01.row.prog w) (jarK c at2 t2b held2 t3b) := by
      obtain ⟨o, ho, hd⟩ := Heap.dictOf_iff.mp hjd2
      have e := N3.get (a := j) (o := oj2) (by simp)
      rw [ho] at e; cases e; exact hd
    rcases bs with _ | ⟨b, bs⟩ <;> rcases ts with _ | ⟨t, ts⟩ <;> simp only [List.length_cons, List.length_nil] at ha2 hlen
    · k_steps
      all_goals (try unfold Halt)
      rename Fr _ _ _ _ => F4
      rename News _ _ _ _ => N4
      have hk : Kept [j] s.heap _ := fun q o n e => F4.keep q o (hG0 q o e (by simpa using n))
      refine hQ _ _ M1 n3 ms at2 hk ⟨held2, hd1', hd2', _, _, Heap.dictOf_iff.mpr ⟨oj2, N4.get (by simp), hdj2⟩⟩ ha1 (by omega) ?_ (N4.get (by simp)) ?_ (by simpa using hb1)
      · cases q : s.heap.get? M1 with
        | none => rfl
        | some o =>
          have hMj : M1 ≠ j := Mj
          have := hG0 M1 o q hMj
          rw [(N4 _ (.tail _ (.tail _ (.head _)))).2.2] at this; cases this
      · have q1 := (List.filter_append_perm bareE ms).symm
        have q2 := List.filter_append_perm bareE args
        rw [List.append_nil] at hb1 hb2
        rw [hb1] at q1
        exact q1.trans ((hb2.append_left _).trans q2)
    · k_steps
      all_goals (try unfold Halt)
      rename Fr _ _ _ _ => F4
      rename News _ _ _ _ => N4
      replace N4 := news_sub (l := [(M1, listOf (refsOf ρ ms).toArray n3), (D2, listOf (refsOf ρ (t :: ts)).toArray n2), (D1, listOf (refsOf ρ []).toArray n1), (j, oj2)]) N4 (by walk_at "memall")
      have hlen2 : (refsOf ρ (t :: ts)).length = ts.length + 1 := by simp
      refine len_L (News.isList N4 (by k_mem)) hlen2 (by omega) ?_
      intro t8 tk8
      k_steps
      all_goals (try unfold Halt)
      refine pick_spec (at_in Z B' F4 X' T' (by decide) (by decide) rfl) ⟨_, _, Heap.dictOf_iff.mpr ⟨oj2, N4.get (by simp), hdj2⟩⟩ (N4 (j, oj2) (by simp)).2.1 (N4.fresh (o := oj2) (by simp)) (isList_G F4 hcG) hcj hI hcl hcl2 (by omega) (by omega) hd1' hd2' (by omega) (by omega) ?_
      intro h9 tk9 t9 at9 held9 got k9 hj9 hp1 hp2 hp3 hp4 hp5 hp6
      refine jar_open hj9 fun t2' t3' oj9 hoj9 hdj9 => ?_
      replace F4 := fr_led (W := [j]) F4 N4 k9 (one_in (oj := oj2) (by simp))
      have N5 : News G L' h9 [(M1, listOf (refsOf ρ ms).toArray n3), (D2, listOf (refsOf ρ (t :: ts)).toArray n2), (D1, listOf (refsOf ρ []).toArray n1), (j, oj9)] := news_updj N4 ⟨oj2, by simp⟩ k9 hoj9 (by
        intro q hq
        simp only [List.mem_cons, List.not_mem_nil, or_false] at hq ⊢
        rcases hq with rfl | rfl | rfl | rfl
        · exact .inr ⟨by simp, Mj⟩
        · exact .inr ⟨by simp, jD2.symm⟩
        · exact .inr ⟨by simp, jD1.symm⟩
        · exact .inl rfl)
      clear N4 k9
      have N4 := N5
      clear N5
      obtain ⟨gn, rfl⟩ : ∃ gn : Nat, got = gn := ⟨got.toNat, by omega⟩
      have hgn : gn < (refsOf ρ (t :: ts)).length := by simp only [List.length_map, List.length_cons]; omega
      k_steps
      all_goals (try unfold Halt)
      rename Fr _ _ _ _ => F5
      rename News _ _ _ _ => N5
      refine pop_L (n := n2) F5 N5 hgn (by simp only [List.length_map, List.length_cons]; omega) (by k_upd) ?_
      intro h10 F6 N6
      have hze : (refsOf ρ ms).length ≤ 1000 := by simp only [List.length_map]; omega
      k_steps
      all_goals (try unfold Halt)
      rename Fr _ _ _ _ => F7
      rename News _ _ _ _ => N7
      have hgn' : gn < (t :: ts).length := by simpa using hgn
      have hbe : bareE (t :: ts)[gn] = false := hb4 _ (List.getElem_mem hgn')
      have eM : (refsOf ρ ms).toArray.push ((refsOf ρ (t :: ts))[gn]) = (refsOf ρ (ms ++ [(t :: ts)[gn]])).toArray := by rw [refs_get]; simp [refsOf]
      have eT : (refsOf ρ (t :: ts)).eraseIdx gn = refsOf ρ ((t :: ts).eraseIdx gn) := refs_erase ρ _ _
      rw [eM, eT] at N7
      have hel : ((t :: ts).eraseIdx gn).length = ts.length := by rw [List.length_eraseIdx_of_lt hgn']; simp
      have hpe : ((t :: ts)[gn] :: (t :: ts).eraseIdx gn).Perm (t :: ts) := erase_perm _ gn hgn'
      refine ⟨[].length + ts.length, by simp only [List.length_cons]; omega, [], (t :: ts).eraseIdx gn, ms ++ [(t :: ts)[gn]], m₂, _, _, _, _, _, _, at9, rfl, by rw [hel], hm1, hm2, hm3, hm4, F7, news_sub N7 (by walk_at "memall"), ⟨held9, hp3, hp4, _, _, Heap.dictOf_iff.mpr ⟨oj9, N7.get (by simp), hdj9⟩⟩, by omega, ?_, ?_, ?_, hb3, fun q hq => hb4 q (List.mem_of_mem_eraseIdx hq), ?_⟩
      · first | omega | (simp only [hel, List.length_cons, List.length_nil]; omega)
      · rw [List.filter_append]; simpa [List.filter_cons, hbe] using hb1
      · rw [List.filter_append]
        refine List.Perm.trans ?_ hb2
        simp only [List.filter_cons, hbe, List.filter_nil, Bool.not_false, if_true, List.append_assoc, List.cons_append, List.nil_append]
        exact hpe.append_left _
      · simp only [List.length_append, hel, List.length_singleton, List.length_nil, List.length_cons]; omega
    · k_steps
      all_goals (try unfold Halt)
      rename Fr _ _ _ _ => F5
      rename News _ _ _ _ => N5
      refine pop_L (vs := refsOf ρ (b :: bs)) (n := n1) (k := 0) F5 N5 (by simp) (by simp only [List.length_map, List.length_cons]; omega) (by k_upd) ?_
      intro h10 F6 N6
      have hze : (refsOf ρ ms).length ≤ 1000 := by simp only [List.length_map]; omega
      k_steps
      all_goals (try unfold Halt)
      rename Fr _ _ _ _ => F7
      rename News _ _ _ _ => N7
      have hbe : bareE b = true := hb3 b (.head _)
      have eM : (refsOf ρ ms).toArray.push ((refsOf ρ (b :: bs))[0]) = (refsOf ρ (ms ++ [b])).toArray := by simp [refsOf]
      have eT : (refsOf ρ (b :: bs)).eraseIdx 0 = refsOf ρ bs := by simp [refsOf]
      rw [eM, eT] at N7
      refine ⟨bs.length + 0, by simp only [List.length_cons]; omega, bs, [], ms ++ [b], m₂, _, _, _, _, _, oj2, at2, rfl, rfl, hm1, hm2, hm3, hm4, F7, news_sub N7 (by walk_at "memall"), ⟨held2, hd1', hd2', _, _, Heap.dictOf_iff.mpr ⟨oj2, N7.get (by simp), hdj2⟩⟩, by omega, ?_, ?_, ?_, fun q hq => hb3 q (.tail _ hq), hb4, ?_⟩
      · first | omega | (simp only [List.length_cons, List.length_nil]; omega)
      · rw [List.filter_append]; simp only [List.filter_cons, hbe, List.filter_nil, if_true, List.append_assoc, List.cons_append, List.nil_append]; exact hb1
      · rw [List.filter_append]; simpa [List.filter_cons, hbe] using hb2
      · simp only [List.length_append, List.length_singleton, List.length_nil, List.length_cons]; omega
    · k_steps
      all_goals (try unfold Halt)
      rename Fr _ _ _ _ => F4
      rename News _ _ _ _ => N4
      replace N4 := news_sub (l := [(M1, listOf (refsOf ρ ms).toArray n3), (D2, listOf (refsOf ρ (t :: ts)).toArray n2), (D1, listOf (refsOf ρ (b :: bs)).toArray n1), (j, oj2)]) N4 (by walk_at "memall")
      refine pick_spec (at_in Z B' F4 X' T' (by decide) (by decide) rfl) ⟨_, _, Heap.dictOf_iff.mpr ⟨oj2, N4.get (by simp), hdj2⟩⟩ (N4 (j, oj2) (by simp)).2.1 (N4.fresh (o := oj2) (by simp)) (isList_G F4 hcG) hcj hI hcl hcl2 (by omega) (by omega) hd1' hd2' (by omega) (by omega) ?_
      intro h9 tk9 t9 at9 held9 got k9 hj9 hp1 hp2 hp3 hp4 hp5 hp6
      refine jar_open hj9 fun t2' t3' oj9 hoj9 hdj9 => ?_
      replace F4 := fr_led (W := [j]) F4 N4 k9 (one_in (oj := oj2) (by simp))
      have N5 : News G L' h9 [(M1, listOf (refsOf ρ ms).toArray n3), (D2, listOf (refsOf ρ (t :: ts)).toArray n2), (D1, listOf (refsOf ρ (b :: bs)).toArray n1), (j, oj9)] := news_updj N4 ⟨oj2, by simp⟩ k9 hoj9 (by
        intro q hq
        simp only [List.mem_cons, List.not_mem_nil, or_false] at hq ⊢
        rcases hq with rfl | rfl | rfl | rfl
        · exact .inr ⟨by simp, Mj⟩
        · exact .inr ⟨by simp, jD2.symm⟩
        · exact .inr ⟨by simp, jD1.symm⟩
        · exact .inl rfl)
      clear N4 k9
      have N4 := N5
      clear N5
      k_steps
      all_goals (try unfold Halt)
      · rename got = 0 => hg0
        rename Fr _ _ _ _ => F4
        rename News _ _ _ _ => N4
        have hlen2 : (refsOf ρ (t :: ts)).length = ts.length + 1 := by simp
        refine len_L (News.isList N4 (by k_mem)) hlen2 (by omega) ?_
        intro t8 tk8
        k_steps
        all_goals (try unfold Halt)
        refine pick_spec (at_in Z B' F4 X' T' (by decide) (by decide) rfl) ⟨_, _, Heap.dictOf_iff.mpr ⟨oj9, N4.get (by simp), hdj9⟩⟩ (N4 (j, oj9) (by simp)).2.1 (N4.fresh (o := oj9) (by simp)) (isList_G F4 hcG) hcj hI hcl hcl2 (by omega) (by omega) hp3 hp4 (by omega) (by omega) ?_
        intro h9x tk9 t9 atX heldX gox k9 hjX hx1 hx2 hx3 hx4 hx5 hx6
        obtain ⟨t2x, t3x, hjdX⟩ := hjX
        obtain ⟨ojX, hojX, hdjX⟩ := Heap.dictOf_iff.mp hjdX
        replace F4 := fr_led (W := [j]) F4 N4 k9 (one_in (oj := oj9) (by simp))
        have N5 : News G L' h9x [(M1, listOf (refsOf ρ ms).toArray n3), (D2, listOf (refsOf ρ (t :: ts)).toArray n2), (D1, listOf (refsOf ρ (b :: bs)).toArray n1), (j, ojX)] := news_updj N4 ⟨oj9, by simp⟩ k9 hojX (by
          intro q hq
          simp only [List.mem_cons, List.not_mem_nil, or_false] at hq ⊢
          rcases hq with rfl | rfl | rfl | rfl
          · exact .inr ⟨by simp, Mj⟩
          · exact .inr ⟨by simp, jD2.symm⟩
          · exact .inr ⟨by simp, jD1.symm⟩
          · exact .inl rfl)
        clear N4 k9
        have N4 := N5
        clear N5
        obtain ⟨gn, rfl⟩ : ∃ gn : Nat, gox = gn := ⟨gox.toNat, by omega⟩
        have hgn : gn < (refsOf ρ (t :: ts)).length := by simp only [List.length_map, List.length_cons]; omega
        k_steps
        all_goals (try unfold Halt)
        rename Fr _ _ _ _ => F5
        rename News _ _ _ _ => N5
        refine pop_L (n := n2) F5 N5 hgn (by simp only [List.length_map, List.length_cons]; omega) (by k_upd) ?_
        intro h10 F6 N6
        have hze : (refsOf ρ ms).length ≤ 1000 := by simp only [List.length_map]; omega
        k_steps
        all_goals (try unfold Halt)
        rename Fr _ _ _ _ => F7
        rename News _ _ _ _ => N7
        have hgn' : gn < (t :: ts).length := by simpa using hgn
        have hbe : bareE (t :: ts)[gn] = false := hb4 _ (List.getElem_mem hgn')
        have eM : (refsOf ρ ms).toArray.push ((refsOf ρ (t :: ts))[gn]) = (refsOf ρ (ms ++ [(t :: ts)[gn]])).toArray := by rw [refs_get]; simp [refsOf]
        have eT : (refsOf ρ (t :: ts)).eraseIdx gn = refsOf ρ ((t :: ts).eraseIdx gn) := refs_erase ρ _ _
        rw [eM, eT] at N7
        have hel : ((t :: ts).eraseIdx gn).length = ts.length := by rw [List.length_eraseIdx_of_lt hgn']; simp
        have hpe : ((t :: ts)[gn] :: (t :: ts).eraseIdx gn).Perm (t :: ts) := erase_perm _ gn hgn'
        refine ⟨(b :: bs).length + ts.length, by simp only [List.length_cons]; omega, (b :: bs), (t :: ts).eraseIdx gn, ms ++ [(t :: ts)[gn]], m₂, _, _, _, _, _, _, atX, rfl, by rw [hel], hm1, hm2, hm3, hm4, F7, news_sub N7 (by walk_at "memall"), ⟨heldX, hx3, hx4, _, _, Heap.dictOf_iff.mpr ⟨ojX, N7.get (by simp), hdjX⟩⟩, by omega, ?_, ?_, ?_, hb3, fun q hq => hb4 q (List.mem_of_mem_eraseIdx hq), ?_⟩
        · first | omega | (simp only [hel, List.length_cons, List.length_nil]; omega)
        · rw [List.filter_append]; simpa [List.filter_cons, hbe] using hb1
        · rw [List.filter_append]
          refine List.Perm.trans ?_ hb2
          simp only [List.filter_cons, hbe, List.filter_nil, Bool.not_false, if_true, List.append_assoc, List.cons_append, List.nil_append]
          exact hpe.append_left _
        · simp only [List.length_append, hel, List.length_singleton, List.length_nil, List.length_cons]; omega
      · rename got ≠ 0 => hg0
        rename Fr _ _ _ _ => F5
        rename News _ _ _ _ => N5
        refine pop_L (vs := refsOf ρ (b :: bs)) (n := n1) (k := 0) F5 N5 (by simp) (by simp only [List.length_map, List.length_cons]; omega) (by k_upd) ?_
        intro h10 F6 N6
        have hze : (refsOf ρ ms).length ≤ 1000 := by simp only [List.length_map]; omega
        k_steps
        all_goals (try unfold Halt)
        rename Fr _ _ _ _ => F7
        rename News _ _ _ _ => N7
        have hbe : bareE b = true := hb3 b (.head _)
        have eM : (refsOf ρ ms).toArray.push ((refsOf ρ (b :: bs))[0]) = (refsOf ρ (ms ++ [b])).toArray := by simp [refsOf]
        have eT : (refsOf ρ (b :: bs)).eraseIdx 0 = refsOf ρ bs := by simp [refsOf]
        rw [eM, eT] at N7
        refine ⟨bs.length + (t :: ts).length, by simp only [List.length_cons]; omega, bs, (t :: ts), ms ++ [b], m₂, _, _, _, _, _, oj9, at9, rfl, rfl, hm1, hm2, hm3, hm4, F7, news_sub N7 (by walk_at "memall"), ⟨held9, hp3, hp4, _, _, Heap.dictOf_iff.mpr ⟨oj9, N7.get (by simp), hdj9⟩⟩, by omega, ?_, ?_, ?_, fun q hq => hb3 q (.tail _ hq), hb4, ?_⟩
        · first | omega | (simp only [List.length_cons, List.length_nil]; omega)
        · rw [List.filter_append]; simp only [List.filter_cons, hbe, List.filter_nil, if_true, List.append_assoc, List.cons_append, List.nil_append]; exact hb1
        · rw [List.filter_append]; simpa [List.filter_cons, hbe] using hb2
        · simp only [List.length_append, List.length_singleton, List.length_nil, List.length_cons]; omega
end
end Mine
end
section
open PySem PySem.W PySem.Calls PyProof.Rows PySem.Spec
set_option maxRecDepth 100000
set_option maxHeartbeats 2000000
namespace Mine
open LCg
section
variable {prog : Program} {w : World} {A : Around} {E : Value → Shared → Prop} {s : Shared} {g : Heap} {L : Addr} {m : Str → Option Value} {env : Env}
noncomputable def CellEnd (g : Heap) (L : Addr) (m : Str → Option Value) (s₁ : Shared) (led : List (Addr × Obj)) (rest : Value → Prop) (y : Value) (s₂ : Shared) : Prop :=
  ∃ h' tk, s₂ = { s₁ with heap := h', toks := tk } ∧ Fr g L h' m ∧ News g L h' led ∧ rest y
theorem CellEnd.intro {s₁ : Shared} {led led' : List (Addr × Obj)} {rest : Value → Prop} {y : Value} {h' : Heap} {tk : Nat} (F : Fr g L h' m) (N : News g L h' led') (hs : ∀ p ∈ led, p ∈ led') (r : rest y) : CellEnd g L m s₁ led rest y { s₁ with heap := h', toks := tk } :=
  ⟨h', tk, rfl, F, fun p hp => N p (hs p hp), r⟩
noncomputable def Off4 (I C c D : Addr) (led : List (Addr × Obj)) : Prop := ((@Ne Nat I C) ∧ (@Ne Nat I c) ∧ (@Ne Nat I D) ∧ (@Ne Nat C c) ∧ (@Ne Nat C D) ∧ (@Ne Nat c D)) ∧ ∀ p ∈ led, (@Ne Nat p.1 I) ∧ (@Ne Nat p.1 C) ∧ (@Ne Nat p.1 c) ∧ (@Ne Nat p.1 D)
/-- a turn of a comprehension whose target is captured -/
noncomputable def CellTurn (prog : Program) (w : World) (A : Around) (g : Heap) (L : Addr) (m : Str → Option Value) (env : Env) (ifs : List Expr) (elt : Expr) (x : Str) (scope : Scope) (cl : List (Str × Addr)) (s : Shared) (led : List (Addr × Obj)) (J : Nat → List Value → Prop) (its : Array Value) : Prop :=
  ∀ i ys v, its[i]? = some v → J i ys → ∀ I oI C oC c oc D h tk (E' : Value → Shared → Prop), oc.data = .cell (some v) → Fr g L h m → News g L h ((I, oI) :: (C, oC) :: (c, oc) :: (D, lst ys) :: led) → Off4 I C c D led →
    wpAny (model prog w) A (testsOf ifs (compEnvC scope ((x, c) :: cl) C env)) (fun ok s' => if ok = true then
        wpAny (model prog w) A (eval elt (compEnvC scope ((x, c) :: cl) C env)) (CellEnd g L m { s with heap := h, toks := tk } ((I, oI) :: (C, oC) :: (c, oc) :: (D, lst ys) :: led) (fun y => J (i + 1) (ys ++ [y]))) E' s'
        else CellEnd g L m { s with heap := h, toks := tk } ((I, oI) :: (C, oC) :: (c, oc) :: (D, lst ys) :: led) (fun _ => J (i + 1) ys) Value.none s') E' { s with heap := h, toks := tk }
theorem block_cell {elt iter : Expr} {ifs : List Expr} {x : Str} {px : Pos} {scope : Scope} {cl : List (Str × Addr)} {pos : Pos} {s₂ : Shared} {I ax : Addr} {its : Array Value} {led : List (Addr × Obj)}
    {J : Nat → List Value → Prop} {RR : Value → Addr → Result → Shared → Prop}
    (hh : A.handled = none) (hne : ax ≠ I) (hsz : its.size ≤ sizeLine)
    (hcells : ∀ n, cellsFrom n scope.names cl = (x, n) :: cl) (hpush : ∀ h, pushCells h scope.names = h.push { cls := .type "cell", data := .cell none }) (hkind : scope.kind = .function) (hx : (relabel scope env).names.lookup x = some .cell)
    (hst : s₂.heap.IsListIter I ax 0 ∧ s₂.heap.IsList ax its)
    (F : Fr g L s₂.heap m) (N : News g L s₂.heap led) (hIL : L ≠ I) (hI₀ : g.get? I = none) (off : ∀ p ∈ led, p.1 ≠ I) (hS : g.IsList ax its)
    (hJ : J 0 []) (R : CellTurn prog w A g L m env ifs elt x scope cl s₂ led J its)
    (hRR : ∀ D C h tk m' ys, Fr g L h m → News g L h ((D, lst ys) :: led) → Off1 D led → h.Ns C m' → g.get? C = none → g.get? D = none → C ≠ L → D ≠ L → C ≠ D → (∀ p ∈ led, p.1 ≠ C) → J its.size ys → RR (.ref D) C (.ok .next) { s₂ with heap := h, toks := tk }) :
    wpAny (model prog w) A (newList []) (fun acc s₃ => wpAny (model prog w) A (newFunctionEnv scope env.globals cl [] env.qual none .none (some env)) (fun cenv s₄ =>
      codeAny (model prog w) A (.compStart (.ListComp elt [⟨.Name x px, iter, ifs, 0⟩] scope pos) 0 (.ref I) acc { cenv with scope := relabel scope env }) (RR acc cenv.locals) s₄) E s₃) E s₂ := by
  have W := Walks.list (prog := prog) (w := w) hh I ax hne its
  have hIlt : I < s₂.heap.objs.size := by obtain ⟨_, e, _⟩ := hst.1; exact Heap.lt_size e
  have hAlt : ax < s₂.heap.objs.size := by obtain ⟨_, e, _⟩ := hst.2; exact Heap.lt_size e
  refine wpAny_newObj_type ?_
  generalize hH2 : s₂.heap.push { cls := .type "list", dict := none, data := .seq ([] : List Value).toArray } = H2
  have hC : H2.objs.size = s₂.heap.objs.size + 1 := by rw [← hH2, Heap.size_push]
  unfold newFunctionEnv
  refine wpAny_bind (wpAny_alloc ?_)
  refine wpAny_bind (wpAny_layCells _ (fun name kind cells => by cases hkc : kind == NameKind.cell <;> simp [hkc]) _ _ _ _ ?_)
  dsimp only [Option.isSome_some]
  rw [hcells, hpush, Heap.size_push]
  simp only [List.forIn_nil, if_true]
  refine wpAny_bind (wpAny_pure (wpAny_pure ?_))
  generalize hH3 : H2.push { cls := .type "dict", data := .dict #[] } = H3
  have hc3 : H3.objs.size = H2.objs.size + 1 := by rw [← hH3, Heap.size_push]
  rw [← hc3]
  generalize hH4 : H3.push { cls := .type "cell", data := .cell none } = H4
  have below : ∀ b, b < s₂.heap.objs.size → b ≠ H2.objs.size ∧ b ≠ s₂.heap.objs.size ∧ b ≠ H3.objs.size := fun b hb => ⟨by rw [hC]; exact Nat.ne_of_lt (Nat.lt_succ_of_lt hb), Nat.ne_of_lt hb, by rw [hc3, hC]; exact Nat.ne_of_lt (Nat.lt_succ_of_lt (Nat.lt_succ_of_lt hb))⟩
  have old : ∀ b o, s₂.heap.get? b = some o → H4.get? b = some o := fun b o e => by
    rw [← hH4]; refine Heap.get?_push_of_some _ ?_
    rw [← hH3]; refine Heap.get?_push_of_some _ ?_
    rw [← hH2]; exact Heap.get?_push_of_some _ e
  have hDo : H4.get? s₂.heap.objs.size = some (lst []) := by
    rw [← hH4]; refine Heap.get?_push_of_some _ ?_
    rw [← hH3]; refine Heap.get?_push_of_some _ ?_
    rw [← hH2]; exact Heap.get?_push_size _ rfl
  have hCo : H4.get? H2.objs.size = some { cls := .type "dict", data := .dict #[] } := by
    rw [← hH4]; refine Heap.get?_push_of_some _ ?_
    rw [← hH3]; exact Heap.get?_push_size _ rfl
  have hco : H4.get? H3.objs.size = some { cls := .type "cell", data := .cell none } := by
    rw [← hH4]; exact Heap.get?_push_size _ rfl
  have hst₁ : H4.IsListIter I ax 0 ∧ H4.IsList ax its := W.frame _ _ _ hst fun b _ o e => old b o e
  have fresh₀ : ∀ a, s₂.heap.objs.size ≤ a → g.get? a = none := fun a ha => by
    cases e : g.get? a with
    | none => rfl
    | some o' => have := F.keep a o' e; rw [Heap.get?_none_of_le ha] at this; cases this
  have hD₀ : g.get? s₂.heap.objs.size = none := fresh₀ _ (Nat.le_refl _)
  have hC₀ : g.get? H2.objs.size = none := fresh₀ _ (by rw [hC]; exact Nat.le_succ _)
  have hc₀ : g.get? H3.objs.size = none := fresh₀ _ (by rw [hc3, hC]; exact Nat.le_succ_of_le (Nat.le_succ _))
  have hLlt : L < s₂.heap.objs.size := F.ns.lt
  have hDL : s₂.heap.objs.size ≠ L := Ne.symm (below L hLlt).2.1
  have hCL : H2.objs.size ≠ L := Ne.symm (below L hLlt).1
  have hcL : H3.objs.size ≠ L := Ne.symm (below L hLlt).2.2
  have hDC : s₂.heap.objs.size ≠ H2.objs.size := by rw [hC]; exact Nat.ne_of_lt (Nat.lt_succ_self _)
  have hDc : s₂.heap.objs.size ≠ H3.objs.size := by rw [hc3, hC]; exact Nat.ne_of_lt (Nat.lt_succ_of_lt (Nat.lt_succ_self _))
  have hCc : H2.objs.size ≠ H3.objs.size := by rw [hc3]; exact Nat.ne_of_lt (Nat.lt_succ_self _)
  have off₀ : Off4 I H2.objs.size H3.objs.size s₂.heap.objs.size led := ⟨⟨(below I hIlt).1, (below I hIlt).2.2, (below I hIlt).2.1, hCc, hDC.symm, hDc.symm⟩, fun p hp => ⟨off p hp, (below _ (Heap.lt_size (N p hp).1)).1, (below _ (Heap.lt_size (N p hp).1)).2.2, (below _ (Heap.lt_size (N p hp).1)).2.1⟩⟩
  have notS : ∀ b ∈ [I, ax], b ≠ H2.objs.size ∧ b ≠ s₂.heap.objs.size ∧ b ≠ H3.objs.size := fun b hb => by
    simp only [List.mem_cons, List.not_mem_nil, or_false] at hb
    rcases hb with rfl | rfl
    · exact below _ hIlt
    · exact below _ hAlt
  have hns₁ : H4.Ns H2.objs.size (fun _ => none) := ⟨_, #[], 0, hCo, rfl, (fun e he => by simp at he), fun _ => rfl⟩
  have loop : ∀ s₃ : Shared, s₃ = { s₂ with heap := H4 } →
      codeAny (model prog w) A (.compLoop (.ListComp elt [⟨.Name x px, iter, ifs, 0⟩] scope pos) 0 (.ref I) (.ref s₂.heap.objs.size) (compEnvC scope ((x, H3.objs.size) :: cl) H2.objs.size env))
        (RR (.ref s₂.heap.objs.size) H2.objs.size) s₃ := by
    rintro s₃ rfl
    refine codeAny_compLoop_tests
      (fun k s' => ∃ h' tk i ys m' oc v₀, s' = { s₂ with heap := h', toks := tk } ∧ i ≤ its.size ∧ k = its.size + 1 - i ∧ ys.length ≤ i ∧ (h'.IsListIter I ax i ∧ h'.IsList ax its) ∧ Fr g L h' m ∧ h'.Ns H2.objs.size m' ∧ News g L h' ((H3.objs.size, oc) :: (s₂.heap.objs.size, lst ys) :: led) ∧
        oc.data = .cell v₀ ∧ J i ys) ?_ (its.size + 1)
      ⟨H4, _, 0, [], _, { cls := .type "cell", data := .cell none }, none, rfl, Nat.zero_le _, rfl, Nat.le_refl _, hst₁, F.keeps old, hns₁, fun p hp => ?_, rfl, hJ⟩
    · rintro k s' ⟨h', tk, i, ys, m', oc, v₀, rfl, hi, rfl, hyl, hst', F', hn', N', hocd, hJ'⟩
      have offN : ∀ p ∈ (H3.objs.size, oc) :: (s₂.heap.objs.size, lst ys) :: led, p.1 ≠ I := fun p hp => by
        rcases List.mem_cons.mp hp with rfl | hp
        · exact Ne.symm (below I hIlt).2.2
        rcases List.mem_cons.mp hp with rfl | hp
        · exact Ne.symm (below I hIlt).2.1
        · exact off p hp
      by_cases hlt : i < its.size
      · refine W.item i _ _ _ hlt hst' fun v h₂ tk₂ hPv hst₂ hk₂ => ?_
        have F₂ : Fr g L h₂ m := fr_but F' hk₂ hIL hI₀
        have N₂ : News g L h₂ ((H3.objs.size, oc) :: (s₂.heap.objs.size, lst ys) :: led) := news_but N' hk₂ offN
        have hn₂ : h₂.Ns H2.objs.size m' := hn'.at' fun o e => hk₂ _ o (by simpa using Ne.symm (below I hIlt).1) e
        refine wpAny_assign_Name (wpAny_storeName_cell (c := H3.objs.size) hkind hx (by simp [compEnvC]) ⟨oc, (N₂ _ (.head _)).1, hocd⟩ fun h₃ hv hs₃ => ?_)
        obtain ⟨o', ho', hd'⟩ := hv
        have hst₃ : h₃.IsListIter I ax (i + 1) ∧ h₃.IsList ax its := W.frame _ _ _ hst₂ fun b hb o e => hs₃.extBut b o (notS b hb).2.2 e
        obtain ⟨oI, heI⟩ : ∃ o, h₃.get? I = some o := by obtain ⟨o, e, _⟩ := hst₃.1; exact ⟨o, e⟩
        have F₃ : Fr g L h₃ m := F₂.change hs₃ hcL hc₀
        have hn₃ : h₃.Ns H2.objs.size m' := hn₂.sameBut hs₃ hCc
        obtain ⟨oC, heC, hoC⟩ := ns_obj hn₃
        have N₃ : News g L h₃ ((I, oI) :: (H2.objs.size, oC) :: (H3.objs.size, o') :: (s₂.heap.objs.size, lst ys) :: led) := fun p hp => by
          rcases List.mem_cons.mp hp with rfl | hp
          · exact ⟨heI, Ne.symm hIL, hI₀⟩
          rcases List.mem_cons.mp hp with rfl | hp
          · exact ⟨heC, hCL, hC₀⟩
          rcases List.mem_cons.mp hp with rfl | hp
          · exact ⟨ho', hcL, hc₀⟩
          · have z := N₂ p (.tail _ hp)
            refine ⟨hs₃.extBut _ _ ?_ z.1, z.2⟩
            rcases List.mem_cons.mp hp with rfl | hp
            · exact hDc
            · exact (off₀.2 p hp).2.2.1
        refine wpAny_mono (R i ys v hPv hJ' I oI H2.objs.size oC H3.objs.size o' s₂.heap.objs.size h₃ _ _ hd' F₃ N₃ off₀) (fun ok s₄ h₄ => ?_) fun _ _ e => e
        cases ok with
        | false =>
          obtain ⟨h₄, tk₄, rfl, F₄, N₄, hJ₄⟩ := h₄
          have zI := (N₄ (I, oI) (.head _)).1
          have zC := (N₄ (H2.objs.size, oC) (.tail _ (.head _))).1
          have N₄' : News g L h₄ ((H3.objs.size, o') :: (s₂.heap.objs.size, lst ys) :: led) := fun p hp => N₄ p (.tail _ (.tail _ hp))
          have hst₄ := list_st (h₀ := g) (L := L) _ _ _ _ [] hst₃ heI zI F₄.keep News.nil (.inl hS)
          exact ⟨its.size + 1 - (i + 1), by omega, h₄, tk₄, i + 1, ys, _, o', some v, rfl, hlt, rfl, by omega, hst₄, F₄, hoC.ns zC, N₄', hd', hJ₄⟩
        | true =>
          refine wpAny_mono h₄ (fun y s₄ h₄ => ?_) fun _ _ e => e
          obtain ⟨h₄, tk₄, rfl, F₄, N₄, hJ₄⟩ := h₄
          have zI := (N₄ (I, oI) (.head _)).1
          have zC := (N₄ (H2.objs.size, oC) (.tail _ (.head _))).1
          have zc := N₄ (H3.objs.size, o') (.tail _ (.tail _ (.head _)))
          have zD := (N₄ (s₂.heap.objs.size, lst ys) (.tail _ (.tail _ (.tail _ (.head _))))).1
          have N₄' : News g L h₄ led := fun p hp => N₄ p (.tail _ (.tail _ (.tail _ (.tail _ hp))))
          have hst₄ := list_st (h₀ := g) (L := L) _ _ _ _ [] hst₃ heI zI F₄.keep News.nil (.inl hS)
          refine append_at (hsz := by show ys.toArray.size ≤ sizeLine; rw [List.size_toArray]; exact Nat.le_trans hyl (Nat.le_trans hi hsz)) zD fun h₅ hs₅ hD₅ => ?_
          refine ⟨its.size + 1 - (i + 1), by omega, h₅, tk₄, i + 1, ys ++ [y], _, o', some v, rfl, hlt, rfl, by rw [List.length_append, List.length_singleton]; omega, W.frame _ _ _ hst₄ fun b hb o e => hs₅.extBut b o (notS b hb).2.1 e, F₄.change hs₅ hDL hD₀,
            (hoC.ns zC).sameBut hs₅ (Ne.symm hDC), fun p hp => ?_, hd', hJ₄⟩
          rcases List.mem_cons.mp hp with rfl | hp
          · exact ⟨hs₅.extBut _ _ (Ne.symm hDc) zc.1, zc.2⟩
          rcases List.mem_cons.mp hp with rfl | hp
          · exact ⟨hD₅.trans (congrArg some (lst_snoc ys y)), hDL, hD₀⟩
          · exact ⟨hs₅.extBut _ _ (off₀.2 p hp).2.2.2 (N₄' p hp).1, (N₄' p hp).2⟩
      · obtain rfl : i = its.size := Nat.le_antisymm hi (Nat.not_lt.mp hlt)
        refine W.done _ _ _ hst' fun h₂ tk₂ hk₂ => ?_
        have N₂ := news_but N' hk₂ offN
        refine hRR _ _ h₂ tk₂ _ ys (fr_but F' hk₂ hIL hI₀) (fun p hp => N₂ p (.tail _ hp)) ?_ (hn'.at' fun o e => hk₂ _ o (by simpa using Ne.symm (below I hIlt).1) e) hC₀ hD₀ hCL hDL (Ne.symm hDC) (fun p hp => (off₀.2 p hp).2.1) hJ'
        have : ∀ l : List (Addr × Obj), (∀ p ∈ l, (@Ne Nat p.1 s₂.heap.objs.size)) → Off1 s₂.heap.objs.size l := by
          intro l; induction l with
          | nil => exact fun _ => trivial
          | cons p r ih => exact fun h => ⟨h p (.head _), ih fun q hq => h q (.tail _ hq)⟩
        exact this led fun p hp => (off₀.2 p hp).2.2.2
    · rcases List.mem_cons.mp hp with rfl | hp
      · exact ⟨hco, hcL, hc₀⟩
      rcases List.mem_cons.mp hp with rfl | hp
      · exact ⟨hDo, hDL, hD₀⟩
      · exact ⟨old _ _ (N p hp).1, (N p hp).2⟩
  exact codeAny_compStart_list (loop _ rfl) (W.self 0 _ _ _ hst₁ (loop _ rfl))
/-- a comprehension whose target is captured, bound to a name -/
theorem Assign_cell {elt iter : Expr} {ifs : List Expr} {x y : Str} {px py : Pos} {scope : Scope} {cl : List (Str × Addr)} {pos spos : Pos} {Q : Flow → Shared → Prop} (hLe : env.locals = L)
    (hsw : swapsWith (.ListComp elt [⟨.Name x px, iter, ifs, 0⟩] scope pos) (some (.Name y py)) spos.line env = pure true)
    (hclos : closureFor scope env = pure cl) (hcells : ∀ n, cellsFrom n scope.names cl = (x, n) :: cl) (hpush : ∀ h, pushCells h scope.names = h.push { cls := .type "cell", data := .cell none }) (hkind : scope.kind = .function)
    (hnames : ∀ z ∈ scope.names, z.2 = .local → scope.names.lookup z.1 = some .local) (hx : (relabel scope env).names.lookup x = some .cell)
    (hy : env.kindOf y = some .local) (hp : (env.scope.kind == .class || (env.scope.kind == .module && env.locals != env.globals)) = false)
    (h : wpAny (model prog w) A (eval iter env) (fun xv s₁ => ∃ ax its led J, xv = .ref ax ∧ A.handled = none ∧ Fr g L s₁.heap m ∧ News g L s₁.heap led ∧ g.IsList ax its ∧ its.size ≤ sizeLine ∧ J 0 [] ∧
      ∀ s₂ : Shared, (∃ h, s₂ = { s₁ with heap := h }) → CellTurn prog w A g L m env ifs elt x scope cl s₂ led J its ∧
        (∀ ys D h tk, J its.size ys → Fr g L h (fun z => if z = y then some (.ref D) else m z) → News g L h ((D, lst ys) :: led) → Off1 D led → Q .next { s₂ with heap := h, toks := tk })) E s)
    (hs : ∀ x, foldedSetIterable iter env x = pure x := by intro _; rfl) :
    wpAny (model prog w) A (exec (.Assign [.Name y py] (.ListComp elt [⟨.Name x px, iter, ifs, 0⟩] scope pos) spos) env) Q E s := by
  subst hLe
  rw [exec_Assign_Name_used _ _ _ _ hsw]
  refine wpAny_bind (wpAny_standAt (wpAny_bind ?_))
  show wpAny _ A (do let _ ← comprehension (.ListComp elt [⟨.Name x px, iter, ifs, 0⟩] scope pos) scope env _ (newList []) false (eval iter env) (some (assign (.Name y py) env))) _ _ s
  refine wpAny_bind (wpAny_mono (wpAny_comprehension_free (use := some (assign (.Name y py) env)) (Q := fun _ s' => Q .next s') rfl hs hclos hkind hnames
    (wpAny_mono h (fun xv s₁ h₁ => ?_) fun _ _ e => e)) (fun _ s' hq => wpAny_pure (wpAny_pure hq)) fun _ _ e => e)
  obtain ⟨ax, its, led, J, rfl, hh, F, N, S, hsz, hJ, R⟩ := h₁
  have hl : s₁.heap.IsList ax its := by obtain ⟨o, e, r⟩ := S; exact ⟨o, F.keep _ _ e, r⟩
  have hlt : ax < s₁.heap.objs.size := by obtain ⟨_, e, _⟩ := hl; exact Heap.lt_size e
  refine wpAny_pyIter_list hl ?_
  have up : ∀ b o, s₁.heap.get? b = some o → (s₁.heap.push { cls := .type "list_iterator", data := .fields #[.ref ax, .int 0 0] }).get? b = some o := fun b o e => Heap.get?_push_of_some _ e
  obtain ⟨R1, R2⟩ := R _ ⟨_, rfl⟩
  refine block_cell hh (Nat.ne_of_lt hlt) hsz hcells hpush hkind hx ⟨⟨_, Heap.get?_push_size _ rfl, rfl, rfl⟩, hl.push _⟩
    (F.keeps up) (N.grown up) (Nat.ne_of_lt F.ns.lt) (next_is_new F) (fun p hp => Nat.ne_of_lt (Heap.lt_size (N p hp).1)) S hJ R1 ?_
  intro D C h' tk m' ys F' N' o1 hn hC₀ hD₀ hCL hDL hCD offC fin
  show wpAny _ A (assign (.Name y py) env (.ref D)) _ _ _
  refine wpAny_assign_Name (wpAny_storeName_local hy F'.ns (fun h₂ hn₂ hs₂ => ?_) hp)
  have hL₀ : g.get? env.locals = none := Heap.get?_none_of_le F'.above
  have F₂ : Fr g env.locals h₂ (fun z => if z = y then some (.ref D) else m z) := ⟨hn₂, fun b o e => hs₂.extBut b o (fun q => by rw [q, hL₀] at e; cases e) (F'.keep b o e), F'.above⟩
  refine ⟨m', hn.sameBut hs₂ hCL, fun h'' hs'' => R2 ys D h'' _ fin (F₂.change hs'' hCL hC₀) (fun p hp => ?_) o1⟩
  have z : h₂.get? p.1 = some p.2 := hs₂.extBut _ _ (N' p hp).2.1 (N' p hp).1
  refine ⟨hs''.extBut _ _ ?_ z, (N' p hp).2⟩
  rcases List.mem_cons.mp hp with rfl | hp
  · exact Ne.symm hCD
  · exact offC p hp
end
end Mine
end
section
open PySem PySem.W PySem.Calls PyProof.Rows
set_option maxRecDepth 100000
set_option maxHeartbeats 3000000
namespace Mine
section
variable {prog : Program} {w : World} {A : Around} {E Q : Value → Shared → Prop} {s : Shared} {x y : Str} {t u : Tok} {b : Bool}
theorem eq_strb (e : (x == y) = b) (h : Q (.bool b) s) : wpAny (model prog w) A (compareOp .Eq (.str x t) (.str y u)) Q E s := eq_str (by rw [e]; exact h)
theorem ne_strb (e : (x == y) = b) (h : Q (.bool !b) s) : wpAny (model prog w) A (compareOp .NotEq (.str x t) (.str y u)) Q E s := ne_str (by
  have : (x != y) = !b := by rw [bne, e]
  rw [this]; exact h)
end
/-- the formals that two arguments tell whole -/
noncomputable def twiceOf (formals : List Str) (args : List Entry) : List Str := formals.filter fun n => decide (1 < (args.filter fun a => decide (a.1 = some n)).length)
noncomputable def leftOf (args : List Entry) (rest : List Int) : List Entry := rest.map fun k => args.getD k.toNat (none, 0)
noncomputable def SameGiven (l1 l2 : List (Str × Int)) : Prop := l1.length = l2.length ∧ ∀ q ∈ l1, l2.lookup q.1 = some q.2
structure SameH (formals : List Str) (args mixed : List Entry) : Prop where
  err : ∀ w1, mn formals args = .error w1 → ∃ w2, mn formals mixed = .error w2 ∧ ∀ n r, twiceOf formals args = n :: r → w1 = dbl n ∧ w2 = dbl n
  ok : ∀ p1 r1, mn formals args = .ok (p1, r1) → ∃ p2 r2, mn formals mixed = .ok (p2, r2) ∧ (∀ q ∈ p1, q.2 < args.length) ∧ (∀ q ∈ p2, q.2 < mixed.length) ∧ p1.length ≤ 100 ∧ p2.length ≤ 100 ∧ SameGiven (givenOf args p1) (givenOf mixed p2) ∧
    ((leftOf args r1).map (·.2)).Perm ((leftOf mixed r2).map (·.2)) ∧ (leftOf args r1).filter bareE = (leftOf mixed r2).filter bareE
  ne : ∀ w, (mn formals args = .error w ∨ mn formals mixed = .error w) → (w == Str.ofString "") = false
theorem isList_turn {fs : List Addr} {g g' : Heap} (K : KtsTurn fs g g') {a : Addr} {its : Array Value} (x : g.IsList a its) : g'.IsList a its := by
  obtain ⟨o, ho, r⟩ := x
  obtain ⟨sl, h⟩ := K.up ho
  exact ⟨_, h, r⟩
theorem isTup_turn {fs : List Addr} {g g' : Heap} (K : KtsTurn fs g g') {a : Addr} {its : Array Value} (x : IsTup g a its) : IsTup g' a its := by
  obtain ⟨o, ho, r⟩ := x
  obtain ⟨sl, h⟩ := K.up ho
  exact ⟨_, h, r⟩
theorem ArgsBy.turn {fs : List Addr} {g g' : Heap} (K : KtsTurn fs g g') {ρ : Int → Addr} {args : List Entry} (x : ArgsBy ρ g args) : ArgsBy ρ g' args :=
  ⟨fun a e => by obtain ⟨v, tk, h1, h2⟩ := x.at_ a e; exact ⟨v, tk, h1, isTup_turn K h2⟩⟩
theorem fs_memC {qual : Str} {scope : Scope} {L f b : Addr} {cdv : Value} {outer : List Env} (hb : b ∈ fsOf (envOfC qual scope L f cdv :: outer)) : b = L ∨ b ∈ fsOf outer := by
  rw [fsOf, List.filterMap_cons] at hb
  exact List.mem_cons.mp hb
theorem upd_of_turn {fs : List Addr} {h0 G G' h' : Heap} (hG0 : ∀ b o, h0.get? b = some o → G.get? b = some o) (K : KtsTurn fs G G') (k : ∀ b o, G'.get? b = some o → h'.get? b = some o) : Upd fs [] h0 h' := fun b o eb _ => by
  by_cases hb : b ∈ fs
  · obtain ⟨sl, e1⟩ := K.frame b o (hG0 b o eb) hb
    exact ⟨sl, k _ _ e1, fun n => absurd hb n⟩
  · exact ⟨o.slots, k _ _ (K.other b o (hG0 b o eb) hb), fun _ => rfl⟩
theorem IntK.valueAt {kvs : List (Str × Value)} {ps : List (Str × Int)} (h : IntK kvs ps) {k : Str} {v : Int} (e : ps.lookup k = some v) : ∃ t, PySem.valueAt kvs k = some (.int v t) := by
  have gen : ∀ (kvs : List (Str × Value)) (ps : List (Str × Int)), kvs.map (·.1) = ps.map (·.1) → (∀ (i : Nat) (q : Str × Int), ps[i]? = some q → ∃ t, kvs[i]? = some (q.1, .int q.2 t)) → ps.lookup k = some v → ∃ t, PySem.valueAt kvs k = some (.int v t) := by
    intro kvs
    induction kvs with
    | nil => intro ps hk _ hl; cases ps with | nil => simp at hl | cons _ _ => simp at hk
    | cons p r ih =>
      intro ps hk ha hl
      cases ps with
      | nil => simp at hk
      | cons q qs =>
        obtain ⟨t, ht⟩ := ha 0 q rfl
        have hp : p = (q.1, .int q.2 t) := by simpa using ht
        subst hp
        by_cases hq : k = q.1
        · rw [List.lookup_cons, hq, beq_self_eq_true] at hl
          cases hl
          exact ⟨t, by rw [hq]; simp [PySem.valueAt]⟩
        · have hqb : (k == q.1) = false := by simpa using hq
          rw [List.lookup_cons, hqb] at hl
          obtain ⟨t', h'⟩ := ih qs (by simpa using hk) (fun i q' hq' => by simpa using ha (i + 1) q' (by simpa using hq')) hl
          refine ⟨t', ?_⟩
          rw [← h']
          have : ¬ q.1 = k := fun e => hq e.symm
          simp [PySem.valueAt, this]
  exact gen kvs ps h.keys h.at_ e
section
variable {w : World} {A : Around} {E Q : Value → Shared → Prop} {s : Shared}
theorem hits_of {A' : Around} {prog : Program} {kb : List (Str × Value)} {l2 : List (Str × Int)} (hb : IntK kb l2) : ∀ (ka : List (Str × Value)) (l1 : List (Str × Int)), IntK ka l1 → (∀ q ∈ l1, l2.lookup q.1 = some q.2) → KeqHits A' s kb ka true
  | [], _, _, _ => .nil
  | p :: r, [], h, _ => by have := h.keys; simp at this
  | p :: r, q :: qs, h, hl => by
    obtain ⟨t, ht⟩ := h.at_ 0 q rfl
    have hp : p = (q.1, .int q.2 t) := by simpa using ht
    subst hp
    obtain ⟨t', hv⟩ := hb.valueAt (hl q (.head _))
    have h2 : IntK r qs := ⟨by have := h.keys; simpa using this, fun i q' hq' => by simpa using h.at_ (i + 1) q' (by simpa using hq')⟩
    have := hits_of (A' := A') (prog := prog) hb r qs h2 fun q' hq' => hl q' (.tail _ hq')
    have e : (q.2 == q.2 && true) = true := by simp
    rw [← e]
    exact .hit hv (SeqAt.EqAt.int_int q.2 t q.2 t') this
theorem given_same {a b : Addr} {ka kb : List (Str × Value)} {l1 l2 : List (Str × Int)} (lo : (a == sysModules) = false) (lo2 : (b == sysModules) = false) (da : s.heap.DictOf (strKind PySem.Challenge.rw_ov0042_01.row.prog w) a ka) (db : s.heap.DictOf (strKind PySem.Challenge.rw_ov0042_01.row.prog w) b kb)
    (ha : IntK ka l1) (hb : IntK kb l2) (hs : SameGiven l1 l2) (hu : A.units < cLine) (h : Q (.bool false) s) : wpAny (model PySem.Challenge.rw_ov0042_01.row.prog w) A (compareOp .NotEq (.ref a) (.ref b)) Q E s := by
  refine keq_ne lo lo2 da db hu (fun _ => hits_of (prog := PySem.Challenge.rw_ov0042_01.row.prog) hb ka l1 ha hs.2) ?_
  rw [ha.len, hb.len, hs.1]
  simpa using h
theorem given_eq {a b : Addr} {ka kb : List (Str × Value)} {l1 l2 : List (Str × Int)} (lo : (a == sysModules) = false) (lo2 : (b == sysModules) = false) (da : s.heap.DictOf (strKind PySem.Challenge.rw_ov0042_01.row.prog w) a ka) (db : s.heap.DictOf (strKind PySem.Challenge.rw_ov0042_01.row.prog w) b kb)
    (ha : IntK ka l1) (hb : IntK kb l2) (hs : SameGiven l1 l2) (hu : A.units < cLine) (h : Q (.bool true) s) : wpAny (model PySem.Challenge.rw_ov0042_01.row.prog w) A (compareOp .Eq (.ref a) (.ref b)) Q E s := by
  refine keq_eq lo lo2 da db hu (fun _ => hits_of (prog := PySem.Challenge.rw_ov0042_01.row.prog) hb ka l1 ha hs.2) ?_
  rw [ha.len, hb.len, hs.1]
  simpa using h
theorem eq_refs {a b : Addr} {vs : List Value} (hl : s.heap.IsList a vs.toArray) (hb : s.heap.IsList b vs.toArray) (hu : A.units < cLine) (h : Q (.bool true) s) : wpAny (model PySem.Challenge.rw_ov0042_01.row.prog w) A (compareOp .Eq (.ref a) (.ref b)) Q E s := by
  refine SeqAt.eq_listAt (e := fun _ => true) hl hb rfl hu (fun j h1 h2 => SeqAt.EqAt.same _) ?_
  have : (List.range vs.toArray.size).all (fun _ => true) = true := by simp
  rw [this]; exact h
end
theorem sorted_eq : ∀ {l1 l2 : List Int}, l1.Perm l2 → l1.Pairwise (· ≤ ·) → l2.Pairwise (· ≤ ·) → l1 = l2
  | [], l2, hp, _, _ => hp.nil_eq
  | a :: r, [], hp, _, _ => by have := hp.length_eq; simp at this
  | a :: r, b :: q, hp, h1, h2 => by
    have ha := List.pairwise_cons.mp h1
    have hb := List.pairwise_cons.mp h2
    have e : a = b := by
      have m1 : a ∈ b :: q := hp.mem_iff.mp (.head _)
      have m2 : b ∈ a :: r := hp.mem_iff.mpr (.head _)
      have l1 : b ≤ a := by
        rcases List.mem_cons.mp m1 with h | h
        · omega
        · exact hb.1 a h
      have l2 : a ≤ b := by
        rcases List.mem_cons.mp m2 with h | h
        · omega
        · exact ha.1 b h
      omega
    subst e
    rw [sorted_eq (List.perm_cons a |>.mp hp) ha.2 hb.2]
theorem IntsV.are : ∀ {vs : List Value} {us : List Int}, IntsV vs us → IntsAre vs us
  | [], [], _ => .nil
  | [], _ :: _, h => by have := h.len; simp at this
  | _ :: _, [], h => by have := h.len; simp at this
  | v :: vs, x :: xs, h => by
    obtain ⟨t, ht⟩ := h.at_ 0 x rfl
    have h2 : IntsV vs xs := ⟨by have := h.len; simpa using this, fun i q hq => by simpa using h.at_ (i + 1) q (by simpa using hq)⟩
    simp at ht; subst ht
    exact .cons x t h2.are
section
variable {prog : Program} {w : World} {A : Around} {E : Value → Shared → Prop} {s : Shared} {g : Heap} {L : Addr} {m : Str → Option Value} {env : Env}
theorem pair_compF {elt iter : Expr} {ifs : List Expr} {x x₂ : Str} {px px₂ tp : Pos} {tk} {scope : Scope} {cl : List (Str × Addr)} {pos : Pos} {Q : Value → Shared → Prop} (_F₀ : Fr g L s.heap m)
    (hclos : closureFor scope env = pure cl) (hcell : ∀ y ∈ scope.names, y.2 ≠ .cell) (hkind : scope.kind = .function)
    (hnames : ∀ y ∈ scope.names, y.2 = .local → scope.names.lookup y.1 = some .local) (hx : scope.names.lookup x = some .local) (hx₂ : scope.names.lookup x₂ = some .local) (hxx : x ≠ x₂)
    (h : wpAny (model prog w) A (eval iter env) (PairSrc prog w A g L m env ifs elt x x₂ scope cl Q) E s)
    (hs : ∀ x, foldedSetIterable iter env x = pure x := by intro _; rfl) :
    wpAny (model prog w) A (eval (.ListComp elt [⟨.Tuple [.Name x px, .Name x₂ px₂] tk tp, iter, ifs, 0⟩] scope pos) env) Q E s := pair_comp hclos hcell hkind hnames hx hx₂ hxx h hs
end
end Mine
end
section
open PySem PySem.W PySem.Calls PyProof.Rows
set_option maxRecDepth 100000
set_option maxHeartbeats 4000000
namespace Mine
section
variable {prog : Program} {w : World} {A : Around} {E : Value → Shared → Prop} {s : Shared} {g : Heap} {L : Addr} {m : Str → Option Value} {env : Env}
theorem say_MSame_29 : True := by
  k_with_none
  exact trivial
theorem Assign_cellF {elt iter : Expr} {ifs : List Expr} {x y : Str} {px py : Pos} {scope : Scope} {cl : List (Str × Addr)} {pos spos : Pos} {Q : Flow → Shared → Prop} (_F₀ : Fr g L s.heap m) (hLe : env.locals = L)
    (hsw : swapsWith (.ListComp elt [⟨.Name x px, iter, ifs, 0⟩] scope pos) (some (.Name y py)) spos.line env = pure true)
    (hclos : closureFor scope env = pure cl) (hcells : ∀ n, cellsFrom n scope.names cl = (x, n) :: cl) (hpush : ∀ h, pushCells h scope.names = h.push { cls := .type "cell", data := .cell none }) (hkind : scope.kind = .function)
    (hnames : ∀ z ∈ scope.names, z.2 = .local → scope.names.lookup z.1 = some .local) (hx : (relabel scope env).names.lookup x = some .cell)
    (hy : env.kindOf y = some .local) (hp : (env.scope.kind == .class || (env.scope.kind == .module && env.locals != env.globals)) = false)
    (h : wpAny (model prog w) A (eval iter env) (fun xv s₁ => ∃ ax its led J, xv = .ref ax ∧ A.handled = none ∧ Fr g L s₁.heap m ∧ News g L s₁.heap led ∧ g.IsList ax its ∧ its.size ≤ sizeLine ∧ J 0 [] ∧
      ∀ s₂ : Shared, (∃ h, s₂ = { s₁ with heap := h }) → CellTurn prog w A g L m env ifs elt x scope cl s₂ led J its ∧
        (∀ ys D h tk, J its.size ys → Fr g L h (fun z => if z = y then some (.ref D) else m z) → News g L h ((D, LCg.lst ys) :: led) → LCg.Off1 D led → Q .next { s₂ with heap := h, toks := tk })) E s)
    (hs : ∀ x, foldedSetIterable iter env x = pure x := by intro _; rfl) :
    wpAny (model prog w) A (exec (.Assign [.Name y py] (.ListComp elt [⟨.Name x px, iter, ifs, 0⟩] scope pos) spos) env) Q E s :=
  Assign_cell hLe hsw hclos hcells hpush hkind hnames hx hy hp h hs
end
theorem twice_snoc (l : List Str) (n : Str) (args : List Entry) : twiceOf (l ++ [n]) args = twiceOf l args ++ if decide (1 < (args.filter fun a => decide (a.1 = some n)).length) = true then [n] else [] := by
  unfold twiceOf
  rw [List.filter_append, List.filter_cons, List.filter_nil]
section
variable {prog : Program} {w : World} {A : Around} {E Q : Value → Shared → Prop} {s : Shared} {x y z : Str} {t u : Tok}
theorem addT (hz : x ++ y = z) (hsz : x.length + y.length ≤ sizeLine) (h : ∀ t' tk, Q (.str z t') { s with toks := tk }) : wpAny (model prog w) A (binaryOp .Add (.str x t) (.str y u)) Q E s := by
  subst hz
  exact add_str h hsz
end
section
variable {w : World} {A A₀ : Around} {s : Shared} {base g : Heap} {outer : List Env} {L : Addr} {m mg mb : Str → Option Value} {mean : ExcName → Option Value} {env : Env}
  {Q : Value → Shared → Prop} {E : Value → Shared → Prop}
theorem say_MSame_30 : True := by
  k_with_none
  (k_with "binaryOp Add str str" => (refine halt ?_))
  (k_with "call ref" => (k_here; (with_reducible show wpAny _ _ (call (Value.ref _) _ _) _ _ _); refine halt ?_))
  (k_with "subscriptTail" => (k_here; (with_reducible show wpAny _ _ (subscriptTail _ _ (Value.ref _) (Value.int _ _)) _ _ _); k_dflt (refine' tail_L (by exact isList_G (by k_asm) (by assumption)) (by omega) (by omega) (by assumption) ?_ (by with_unfolding_all rfl);  k_whole)))
  (k_with "subscriptTail" => (k_here; (with_reducible show wpAny _ _ (subscriptTail _ _ (Value.ref _) (Value.int _ _)) _ _ _); k_dflt (refine' tail_L (by exact LstO.isList (by assumption) (News.get (by k_asm) (by k_mem))) (by omega) (by omega) (by assumption) ?_ (by with_unfolding_all rfl);  k_whole)))
  (k_with "eval Name" => (k_here; k_dflt (refine' nameX_L (by k_asm) (by first | rfl | assumption) ?_ (by rfl) (by rfl);  k_whole)))
  (k_with "own iter" => ((with_reducible show wpAny _ _ (pyIter (Value.ref _)) (fun it s₂ => LoopAtV _ _ _ _ _ _ _ _ _ it s₂) _ _); refine halt ?_))
  (k_with "InvEndN" => (refine halt ?_))
  (k_with "compareOp NotIn str ref" => (k_dflt (refine' notIn_Db (by k_asm) (by k_mem) (by assumption) (by assumption) (by exact PlacesK.isSome (by assumption) _) ?_;  k_whole)))
  (k_with "compareOp In str ref" => (k_dflt (refine' in_Db (by k_asm) (by k_mem) (by assumption) (by assumption) (by exact PlacesK.isSome (by assumption) _) ?_;  k_whole)))
  (k_with "call builtin:len" => (k_here; k_dflt (refine' len_L (by exact isList_G (by k_asm) (by assumption)) (by first | assumption | exact TagsAre.len (by assumption) | exact IntsV.len (by assumption) | exact StrsV.len (by assumption)) (by omega) ?_); intro _ _))
  (k_with "setItem" => (k_here; (with_reducible show wpAny _ _ (setItem (Value.ref _) (Value.str _ _) _) _ _ _); k_dflt (refine' set_D (by k_asm) (by k_asm) (by k_updF) (by assumption) (by first | decide | omega) ?_;  k_whole); intro _ _ _ _ _))
  (k_with "setItem" => (k_here; (with_reducible show wpAny _ _ (setItem (Value.ref _) (Value.int _ _) _) _ _ _); k_dflt (refine' set_L (by k_asm) (by k_asm) (by k_updF) (by assumption) (by omega) (by omega) (by omega) ?_;  k_whole); intro _ _ _ _ _))
  (k_with "loadName" => (k_here; k_dflt (refine' ldn (by k_asm) (by first | rfl | assumption) ?_ (by rfl) (by rfl);  k_whole)))
  (k_with "memall" => ((repeat (refine List.forall_mem_cons.mpr ⟨by k_mem, ?_⟩)); exact List.forall_mem_nil _))
  (k_with "exec Raise Call" => (refine halt ?_))
  (k_with "exec Raise" => (refine halt ?_))
  (k_with "assign Tuple" => (k_here; (with_reducible show wpAny _ _ (assign (Expr.Tuple _ _ _) _ (Value.ref _)) _ _ _); k_dflt (refine' unpackN_ (by k_asm) (by k_asm) (by first | assumption | exact IsTup.keeps (by assumption) (Fr.keep (by k_asm))) (by assumption) (by exact rfl) (by exact rfl) ?_); intro _ _ _))
  (k_with "call builtin:len" => (k_here; k_dflt (refine' len_L (by exact LstO.isList (lst_O _) (News.get (by k_asm) (by k_mem))) (by first | assumption | exact IntsV.len (by assumption) | exact StrsV.len (by assumption)) (by omega) ?_); intro _ _))
  (k_with "subscriptTail" => (k_here; (with_reducible show wpAny _ _ (subscriptTail _ _ (Value.ref _) (Value.int _ _)) _ _ _); k_dflt (refine' item_tupleL (by exact IsTup.keeps (by assumption) (Fr.keep (by k_asm))) (by decide) (by decide) (by rfl) (by rfl) ?_;  k_whole)))
  (k_with "CompSrcT" => (refine halt ?_))
  (k_with "CompSrc" => (refine halt ?_))
  (k_with "CompEnd" => (refine halt ?_))
  (k_with "compareOp Eq str str" => (k_here; k_dflt (refine' eq_strb (by assumption) ?_;  k_whole)))
  (k_with "compareOp NotEq str str" => (k_here; k_dflt (refine' ne_strb (by assumption) ?_;  k_whole)))
  (k_with "call type:list" => (k_here; (with_reducible show wpAny _ _ (call (Value.type _) [Value.ref _]) _ _ _); k_dflt (refine' list_copyK (by k_asm) (by k_asm) (by exact isList_G (by k_asm) (by assumption)) ?_ (by assumption);  k_whole); intro _ _ _ _ _ _))
  (k_with "exec Assign cons ListComp" => (k_here; (with_reducible show wpAny _ _ (exec (Stmt.Assign [Expr.Name (Str.ofString "twice") _] _ _) _) _ _ _); refine halt ?_))
  (k_with "compareOp NotEq ref ref" => (refine halt ?_))
  (k_with "compareOp Eq ref ref" => (refine halt ?_))
  (k_with "eval ListComp" => (k_here; (with_reducible show wpAny _ _ (eval (Expr.ListComp _ (Comprehension.mk (Expr.Tuple _ _ _) _ _ _ :: _) _ _) _) _ _ _); refine halt ?_))
  (k_with "call builtin:sorted" => (refine halt ?_))
  (k_with "PairSrc" => (refine halt ?_))
  (k_with "lmem" => (first | exact .head _ | exact .tail _ (.head _) | exact .tail _ (.tail _ (.head _)) | exact .tail _ (.tail _ (.tail _ (.head _)))))
  exact trivial
theorem same_spec {ρ : Int → Addr} {fa aa ma : Addr} {fvs : List Value} {formals : List Str} {args mixed : List Entry} (Z : At w A s 30 200 A₀ base g env outer L m mg mb mean)
   (XB : (Mine.hd.heap_39 w.params).In base) (TB : Top Mine.hd.view_39 (looseW Mine.hd.view_39 [Str.ofString "match_names"]) mean mg mb base)
   (hf : s.heap.IsList fa fvs.toArray) (hF : StrsV fvs formals) (ha : s.heap.IsList aa (refsOf ρ args).toArray) (hA : ArgsBy ρ s.heap args) (hm : s.heap.IsList ma (refsOf ρ mixed).toArray) (hM : ArgsBy ρ s.heap mixed)
   (hl1 : args.length ≤ 20) (hl1' : mixed.length ≤ 20) (hl2 : formals.length ≤ 20) (hfl : ∀ x ∈ formals, x.length ≤ 100) (hal2 : ∀ a ∈ args, ∀ t, a.1 = some t → t.length ≤ 100) (hal2' : ∀ a ∈ mixed, ∀ t, a.1 = some t → t.length ≤ 100)
   (H : SameH formals args mixed)
   (hQ : ∀ h' tk', Upd (fsOf (env :: outer)) [] s.heap h' → Q (.bool true) { s with heap := h', toks := tk' }) :
   wpAny (model PySem.Challenge.rw_ov0042_01.row.prog w) A (call (.ref 163) [.ref fa, .ref aa, .ref ma]) Q E s := by
  have hX := Z.X; revert hX; k_fill; intro hX
  refine wpAny_call ?_
  refine enterC (led := []) (binds := [(Str.ofString "formals", .ref fa), (Str.ofString "args", .ref aa), (Str.ofString "mixed", .ref ma)]) Z News.nil rfl rfl (by decide) (BindsTo.of_eq rfl) (fun n x hx => by simp only [List.mem_cons, List.not_mem_nil, or_false] at hx; rcases hx with rfl | rfl | rfl <;> first | exact Or.inr ⟨rfl, rfl⟩ | exact Or.inl rfl) (by decide) (fun G L' h₁ tk₁ cells F' N' Y B' X' T' hG hG2 hL hlt hcn => ?_) rfl rfl rfl
  obtain ⟨oc, oc2, rfl, hoc, hoc2⟩ := Y.two
  dsimp only [List.cons_append, List.nil_append] at N'
  have hocd : oc.data = .cell (some (.ref ma)) := hoc
  have hocd2 : oc2.data = .cell (some (.ref aa)) := hoc2
  have hG0 : ∀ b o, s.heap.get? b = some o → G.get? b = some o := fun b o e => hG b o e (by simp)
  have haG : G.IsList aa (refsOf ρ args).toArray := by
    obtain ⟨o, ho, r⟩ := ha
    exact ⟨o, hG0 aa o ho, r⟩
  have hmG : G.IsList ma (refsOf ρ mixed).toArray := by
    obtain ⟨o, ho, r⟩ := hm
    exact ⟨o, hG0 ma o ho, r⟩
  have hfG : G.IsList fa fvs.toArray := by
    obtain ⟨o, ho, r⟩ := hf
    exact ⟨o, hG0 fa o ho, r⟩
  have hAG : ArgsBy ρ G args := hA.keeps hG0
  have hMG : ArgsBy ρ G mixed := hM.keeps hG0
  have hh := Z.hh
  clear hf ha hm
  dsimp only
  show wpAny _ _ _ _ _ _
  k_fold
  k_steps
  all_goals (try unfold Halt)
  rename Fr _ _ _ _ => F4
  rename News _ _ _ _ => N4
  refine answer_spec (at_inC Z B' F4 X' T' (by decide) (by decide) rfl) XB TB (isList_G F4 hfG) hF (isList_G F4 haG) (hAG.keeps F4.keep).is hl1 hl2 hfl hal2 ?_ ?_
  · -- the first goes
    intro h9 tk9 T1 t1 P1 R1 op1 ka rv1 p1 r1 hok U nT nP nR hT hP hPd hPk lo1 hR hRI hrm hrl
    obtain ⟨p2, r2, hok2, hb1, hb2, hpl1, hpl2, hgs, hperm, hbare⟩ := H.ok p1 r1 hok
    obtain ⟨G2, K2, F5, B5, NN⟩ := reground B' F4 U (fun b hb => fs_memC hb)
    have N5 := NN _ N4
    have X5 : (Mine.hd.heap_39 w.params).In G2 := XB.keeps B5.stays
    have T5 := TB.keeps B5.stays
    have nP2 := K2.none_ _ (kts_none F4.keep nP)
    have nR2 := K2.none_ _ (kts_none F4.keep nR)
    have N6 : News G2 L' h9 [(P1, op1), (R1, LCg.lst rv1), (L' + 1 + 1, oc), (L' + 1, oc2)] := by
      intro q hq
      have LL : ∀ b, _ → b ≠ L' := fun b (n : Heap.get? _ b = none) q => by
        obtain ⟨o, _, _, ho, _⟩ := F4.ns
        rw [q, ho] at n; cases n
      rcases List.mem_cons.mp hq with rfl | hq
      · exact ⟨hP, LL _ nP, nP2⟩
      rcases List.mem_cons.mp hq with rfl | hq
      · exact ⟨hR, LL _ nR, nR2⟩
      · exact N5 q hq
    have haG2 := isList_turn K2 haG
    have hmG2 := isList_turn K2 hmG
    have hfG2 := isList_turn K2 hfG
    have hAG2 := hAG.turn K2
    have hMG2 := hMG.turn K2
    clear N5 NN N4 F4
    k_steps
    all_goals (try unfold Halt)
    rename Fr _ _ _ _ => F4
    rename News _ _ _ _ => N4
    refine answer_spec (at_inC Z B5 F4 X5 T5 (by decide) (by decide) rfl) XB TB (isList_G F4 hfG2) hF (isList_G F4 hmG2) (hMG2.keeps F4.keep).is hl1' hl2 hfl hal2' ?_ (fun _ _ _ _ _ he => by rw [hok2] at he; cases he)
    intro h9 tk9 T2 t2 P2 R2 op2 kb rv2 p2' r2' hok2' U2 nT2 nP2' nR2' hT2 hP2 hPd2 hPk2 lo2 hR2 hRI2 hrm2 hrl2
    rw [hok2] at hok2'
    obtain ⟨rfl, rfl⟩ : p2 = p2' ∧ r2 = r2' := by
      injection hok2' with e; exact ⟨congrArg Prod.fst e, congrArg Prod.snd e⟩
    obtain ⟨G3, K3, F7, B7, NN⟩ := reground B5 F4 U2 (fun b hb => fs_memC hb)
    have N7 := NN _ N4
    have X7 : (Mine.hd.heap_39 w.params).In G3 := XB.keeps B7.stays
    have T7 := TB.keeps B7.stays
    have nP3 := K3.none_ _ (kts_none F4.keep nP2')
    have nR3 := K3.none_ _ (kts_none F4.keep nR2')
    have N8 : News G3 L' h9 [(P2, op2), (R2, LCg.lst rv2), (P1, op1), (R1, LCg.lst rv1), (L' + 1 + 1, oc), (L' + 1, oc2)] := by
      intro q hq
      have LL : ∀ b, _ → b ≠ L' := fun b (n : Heap.get? _ b = none) q => by
        obtain ⟨o, _, _, ho, _⟩ := F4.ns
        rw [q, ho] at n; cases n
      rcases List.mem_cons.mp hq with rfl | hq
      · exact ⟨hP2, LL _ nP2', nP3⟩
      rcases List.mem_cons.mp hq with rfl | hq
      · exact ⟨hR2, LL _ nR2', nR3⟩
      · exact N7 q hq
    have KK := K2.trans K3
    have haG3 := isList_turn K3 haG2
    have hmG3 := isList_turn K3 hmG2
    have hAG3 := hAG2.turn K3
    have hMG3 := hMG2.turn K3
    clear N7 NN N4 F4 haG2 hmG2 hfG2 hAG2 hMG2 haG hmG hfG hAG hMG
    k_steps
    all_goals (try unfold Halt)
    rename Fr _ _ _ _ => F4
    rename News _ _ _ _ => N4
    have uu : ∀ (e : Env), (A.deeper e).units < cLine := fun e => by have := Z.hu; show A.units + 3 < cLine; omega
    have uu2 : ∀ (e : Env), (A.deeper e).units + 64 < cLine := fun e => by have := Z.hu; show A.units + 3 + 64 < cLine; omega
    refine given_spec (at_inC Z B7 F4 X7 T7 (by decide) (by decide) rfl) lo1 (Heap.dictOf_iff.mpr ⟨op1, N4.get (by simp), hPd⟩) hPk hb1 (by omega) hl1 (isList_G F4 haG3) (hAG3.keeps F4.keep).is ?_
    intro h10 tk10 D1 od1 gv1 k10 nD1 hD1 hdd1 loD1 hg1
    have N5 := news_add F4 (news_kept (W := []) N4 (by simp) k10) hD1 nD1
    replace F4 := fr_after (W := []) F4 (by simp) k10
    clear N4 k10
    have N4 := N5
    clear N5
    k_steps
    all_goals (try unfold Halt)
    refine given_spec (at_inC Z B7 F4 X7 T7 (by decide) (by decide) rfl) lo2 (Heap.dictOf_iff.mpr ⟨op2, N4.get (by simp), hPd2⟩) hPk2 hb2 (by omega) hl1' (isList_G F4 hmG3) (hMG3.keeps F4.keep).is ?_
    intro h11 tk11 D2 od2 gv2 k11 nD2 hD2 hdd2 loD2 hg2
    have N5 := news_add F4 (news_kept (W := []) N4 (by simp) k11) hD2 nD2
    replace F4 := fr_after (W := []) F4 (by simp) k11
    clear N4 k11
    have N4 := N5
    clear N5
    k_steps
    all_goals (try unfold Halt)
    refine given_same loD1 loD2 (Heap.dictOf_iff.mpr ⟨od1, N4.get (by simp), hdd1⟩) (Heap.dictOf_iff.mpr ⟨od2, N4.get (by simp), hdd2⟩) hg1 hg2 hgs (uu _) ?_
    replace N4 := news_sub (l := [(R2, LCg.lst rv2), (R1, LCg.lst rv1), (L' + 1 + 1, oc), (L' + 1, oc2)]) N4 (by walk_at "memall")
    have hrv1 := hRI.len
    have hrv2 := hRI2.len
    k_steps
    all_goals (try unfold Halt)
    rename Fr _ _ _ _ => Fz
    rename News _ _ _ _ => Nz
    refine LCg.CompSrc.ledger (its := rv1.toArray) (k := rv1.length) Z.hh Fz Nz (by walk_at "lmem") (by simp only [List.size_toArray, hrv1]; exact Nat.le_trans (by assumption : r1.length ≤ 20) (by decide)) ?_
    intro g'
    refine restU_ind (fun i ys news => ys = refsOf ρ (leftOf args (r1.take i)) ∧ news = [(R2, LCg.lst rv2), (R1, LCg.lst rv1), (L' + 1 + 1, oc), (L' + 1, oc2)]) _ ?_ ?_ _ 0 [] _ (Nat.zero_add _) ⟨rfl, rfl⟩
    rotate_left
    · rintro i ys news hi ⟨rfl, rfl⟩ v I oI C oC D m₂ h tk E' hv hC hx F9 N9 off9 ne9
      have hi2 : i < r1.length := by simpa [hrv1] using hi
      obtain ⟨tkv, hkv⟩ := hRI.at_ i r1[i] (by simp [hi2])
      have hv3 : v = .int r1[i] tkv := by
        rw [List.getElem?_toArray, hkv] at hv; exact (Option.some.inj hv).symm
      subst hv3
      have hkb := hrm r1[i] (List.getElem_mem hi2)
      have htk : leftOf args (r1.take (i + 1)) = leftOf args (r1.take i) ++ [args.getD r1[i].toNat (none, 0)] := by
        unfold leftOf
        rw [List.take_succ_eq_append_getElem hi2, List.map_append]; rfl
      generalize r1[i] = kk at *
      obtain ⟨kn, rfl⟩ : ∃ kn : Nat, kk = kn := ⟨kk.toNat, by omega⟩
      have hkn : kn < args.length := by omega
      have hge : args.getD ((kn : Int)).toNat (none, 0) = args[kn] := by rw [Int.toNat_natCast]; simp [hkn]
      have hxx : (refsOf ρ args)[((kn : Int)).toNat]? = some (.ref (ρ args[kn].2)) := by rw [Int.toNat_natCast]; simp [hkn]
      have hkn0 : (0 : Int) ≤ kn := by omega
      clear Fz Nz
      have off9' := off9
      simp only [LCg.Off3, and_true] at off9
      k_steps
      all_goals (try unfold Halt)
      rename Fr _ _ _ _ => F4
      rename News _ _ _ _ => N4
      refine LCg.CompEnd.intro F4 N4 _ (fun q hq => hq) off9' (.inr ⟨_, by walk_at "lmem", rfl, _, rfl⟩) ⟨?_, rfl⟩
      rw [htk, hge]; simp [refsOf]
    rintro ys news ⟨rfl, rfl⟩ E1 h tk F9 N9 off1
    rw [show rv1.toArray.size = r1.length by simp [hrv1], List.take_length] at N9
    clear Fz Nz
    simp only [LCg.Off1, and_true] at off1
    k_steps
    all_goals (try unfold Halt)
    rename Fr _ _ _ _ => Fz
    rename News _ _ _ _ => Nz
    refine LCg.CompSrc.ledger (its := rv2.toArray) (k := rv2.length) Z.hh Fz Nz (by walk_at "lmem") (by simp only [List.size_toArray, hrv2]; exact Nat.le_trans (by assumption : r2.length ≤ 20) (by decide)) ?_
    intro g'
    refine restU_ind (fun i ys news => ys = refsOf ρ (leftOf mixed (r2.take i)) ∧ news = [(E1, LCg.lst (refsOf ρ (leftOf args r1))), (R2, LCg.lst rv2), (R1, LCg.lst rv1), (L' + 1 + 1, oc), (L' + 1, oc2)]) _ ?_ ?_ _ 0 [] _ (Nat.zero_add _) ⟨rfl, rfl⟩
    rotate_left
    · rintro i ys news hi ⟨rfl, rfl⟩ v I oI C oC D m₂ h tk E' hv hC hx F9 N9 off9 ne9
      have hi2 : i < r2.length := by simpa [hrv2] using hi
      obtain ⟨tkv, hkv⟩ := hRI2.at_ i r2[i] (by simp [hi2])
      have hv3 : v = .int r2[i] tkv := by
        rw [List.getElem?_toArray, hkv] at hv; exact (Option.some.inj hv).symm
      subst hv3
      have hkb := hrm2 r2[i] (List.getElem_mem hi2)
      have htk : leftOf mixed (r2.take (i + 1)) = leftOf mixed (r2.take i) ++ [mixed.getD r2[i].toNat (none, 0)] := by
        unfold leftOf
        rw [List.take_succ_eq_append_getElem hi2, List.map_append]; rfl
      generalize r2[i] = kk at *
      obtain ⟨kn, rfl⟩ : ∃ kn : Nat, kk = kn := ⟨kk.toNat, by omega⟩
      have hkn : kn < mixed.length := by omega
      have hge : mixed.getD ((kn : Int)).toNat (none, 0) = mixed[kn] := by rw [Int.toNat_natCast]; simp [hkn]
      have hxx : (refsOf ρ mixed)[((kn : Int)).toNat]? = some (.ref (ρ mixed[kn].2)) := by rw [Int.toNat_natCast]; simp [hkn]
      have hkn0 : (0 : Int) ≤ kn := by omega
      clear Fz Nz
      have off9' := off9
      simp only [LCg.Off3, and_true] at off9
      k_steps
      all_goals (try unfold Halt)
      rename Fr _ _ _ _ => F4
      rename News _ _ _ _ => N4
      refine LCg.CompEnd.intro F4 N4 _ (fun q hq => hq) off9' (.inr ⟨_, by walk_at "lmem", rfl, _, rfl⟩) ⟨?_, rfl⟩
      rw [htk, hge]; simp [refsOf]
    rintro ys news ⟨rfl, rfl⟩ E2 h tk F9 N9 off2
    rw [show rv2.toArray.size = r2.length by simp [hrv2], List.take_length] at N9
    clear Fz Nz
    simp only [LCg.Off1, and_true] at off2
    k_steps
    all_goals (try unfold Halt)
    have hm1 : ∀ a ∈ leftOf args r1, a ∈ args := fun a ha => by
      obtain ⟨k, hk, rfl⟩ := List.mem_map.mp ha
      have hkb := hrm k hk
      have hkn : k.toNat < args.length := by omega
      have : args.getD k.toNat (none, 0) = args[k.toNat] := by simp [hkn]
      rw [this]; exact List.getElem_mem hkn
    have hm2 : ∀ a ∈ leftOf mixed r2, a ∈ mixed := fun a ha => by
      obtain ⟨k, hk, rfl⟩ := List.mem_map.mp ha
      have hkb := hrm2 k hk
      have hkn : k.toNat < mixed.length := by omega
      have : mixed.getD k.toNat (none, 0) = mixed[k.toNat] := by simp [hkn]
      rw [this]; exact List.getElem_mem hkn
    have hAL := hAG3.sub hm1
    have hML := hMG3.sub hm2
    have hLl1 : (leftOf args r1).length ≤ 20 := by simpa [leftOf] using hrl
    have hLl2 : (leftOf mixed r2).length ≤ 20 := by simpa [leftOf] using hrl2
    rename Fr _ _ _ _ => Fz
    rename News _ _ _ _ => Nz
    refine pair_compF (ifs := []) Fz (by with_unfolding_all rfl) (by decide) (by rfl) (by decide) (by rfl) (by rfl) (by decide) ?_
    k_steps
    all_goals (try unfold Halt)
    refine ⟨E1, (refsOf ρ (leftOf args r1)).toArray, [(E2, LCg.lst (refsOf ρ (leftOf mixed r2))), (E1, LCg.lst (refsOf ρ (leftOf args r1))), (L' + 1 + 1, oc), (L' + 1, oc2)], fun i ys news => IntsV ys (((leftOf args r1).take i).map (·.2)) ∧ news = [(E2, LCg.lst (refsOf ρ (leftOf mixed r2))), (E1, LCg.lst (refsOf ρ (leftOf args r1))), (L' + 1 + 1, oc), (L' + 1, oc2)], rfl, Z.hh, Fz, news_sub Nz (by walk_at "memall"), .inr ⟨_, by walk_at "lmem", rfl, _, rfl⟩, by rw [List.size_toArray, List.length_map]; exact Nat.le_trans hLl1 (by decide), ⟨IntsV.nil, rfl⟩, ?_⟩
    rintro s₂ ⟨g', rfl⟩
    refine ⟨?_, ?_⟩
    · rintro i ys news hi ⟨hys, rfl⟩
      have hi2 : i < (leftOf args r1).length := by simpa using hi
      obtain ⟨v1, tk1, htv, htt⟩ := hAL.at_ (leftOf args r1)[i] (List.getElem_mem hi2)
      have hit : (refsOf ρ (leftOf args r1)).toArray[i]! = .ref (ρ (leftOf args r1)[i].2) := by
        rw [getElem!_def, List.getElem?_toArray]; simp [hi2]
      have htk : ((leftOf args r1).take (i + 1)).map (·.2) = ((leftOf args r1).take i).map (·.2) ++ [(leftOf args r1)[i].2] := by
        rw [List.take_succ_eq_append_getElem hi2, List.map_append]; rfl
      refine ⟨v1, _, ⟨_, hit, htt⟩, ?_⟩
      intro I oI C oC D m₂ h tk E' hC hx hx2 F9 N9 off9 ne9
      refine wpAny_tests_nil ?_
      simp only [if_true]
      generalize (leftOf args r1)[i] = ent at *
      clear Fz Nz
      have off9' := off9
      simp only [LCg.Off3, and_true] at off9
      k_steps
      all_goals (try unfold Halt)
      rename Fr _ _ _ _ => F4
      rename News _ _ _ _ => N4
      refine LCg.CompEnd.intro F4 N4 _ (fun q hq => hq) off9' (.inr ⟨_, by walk_at "lmem", rfl, _, rfl⟩) ⟨?_, rfl⟩
      rw [htk]; exact hys.snoc _ _
    rintro ys news D3 h tk ⟨hys, rfl⟩ F9 N9 off3
    rw [show (refsOf ρ (leftOf args r1)).toArray.size = (leftOf args r1).length by simp, List.take_length] at hys
    clear Fz Nz
    have hysl : ys.length < 64 := by rw [hys.len, List.length_map]; omega
    k_steps
    all_goals (try unfold Halt)
    refine sorted_N F9 N9 ((lst_O ys).isList (N9.get (.head _))) hys.are hysl ?_
    dsimp only
    intro h12 sv1 ns1 e1 F10 N10 hI1 hp1 hw1
    obtain ⟨S1, hS1⟩ : ∃ S, S = h.objs.size + 1 := ⟨_, rfl⟩
    rw [← hS1] at N10 ⊢
    clear hS1 F9 N9
    k_steps
    all_goals (try unfold Halt)
    rename Fr _ _ _ _ => Fz
    rename News _ _ _ _ => Nz
    refine pair_compF (ifs := []) Fz (by with_unfolding_all rfl) (by decide) (by rfl) (by decide) (by rfl) (by rfl) (by decide) ?_
    k_steps
    all_goals (try unfold Halt)
    refine ⟨E2, (refsOf ρ (leftOf mixed r2)).toArray, [(S1, seqObj "list" sv1.toArray e1), (E2, LCg.lst (refsOf ρ (leftOf mixed r2))), (E1, LCg.lst (refsOf ρ (leftOf args r1))), (L' + 1 + 1, oc), (L' + 1, oc2)], fun i ys news => IntsV ys (((leftOf mixed r2).take i).map (·.2)) ∧ news = [(S1, seqObj "list" sv1.toArray e1), (E2, LCg.lst (refsOf ρ (leftOf mixed r2))), (E1, LCg.lst (refsOf ρ (leftOf args r1))), (L' + 1 + 1, oc), (L' + 1, oc2)], rfl, Z.hh, Fz, news_sub Nz (by walk_at "memall"), .inr ⟨_, by walk_at "lmem", rfl, _, rfl⟩, by rw [List.size_toArray, List.length_map]; exact Nat.le_trans hLl2 (by decide), ⟨IntsV.nil, rfl⟩, ?_⟩
    rintro s₂ ⟨g', rfl⟩
    refine ⟨?_, ?_⟩
    · rintro i ys news hi ⟨hys, rfl⟩
      have hi2 : i < (leftOf mixed r2).length := by simpa using hi
      obtain ⟨v1, tk1, htv, htt⟩ := hML.at_ (leftOf mixed r2)[i] (List.getElem_mem hi2)
      have hit : (refsOf ρ (leftOf mixed r2)).toArray[i]! = .ref (ρ (leftOf mixed r2)[i].2) := by
        rw [getElem!_def, List.getElem?_toArray]; simp [hi2]
      have htk : ((leftOf mixed r2).take (i + 1)).map (·.2) = ((leftOf mixed r2).take i).map (·.2) ++ [(leftOf mixed r2)[i].2] := by
        rw [List.take_succ_eq_append_getElem hi2, List.map_append]; rfl
      refine ⟨v1, _, ⟨_, hit, htt⟩, ?_⟩
      intro I oI C oC D m₂ h tk E' hC hx hx2 F9 N9 off9 ne9
      refine wpAny_tests_nil ?_
      simp only [if_true]
      generalize (leftOf mixed r2)[i] = ent at *
      clear Fz Nz
      have off9' := off9
      simp only [LCg.Off3, and_true] at off9
      k_steps
      all_goals (try unfold Halt)
      rename Fr _ _ _ _ => F4
      rename News _ _ _ _ => N4
      refine LCg.CompEnd.intro F4 N4 _ (fun q hq => hq) off9' (.inr ⟨_, by walk_at "lmem", rfl, _, rfl⟩) ⟨?_, rfl⟩
      rw [htk]; exact hys.snoc _ _
    rintro ys news D4 h tk ⟨hys, rfl⟩ F9 N9 off4
    rw [show (refsOf ρ (leftOf mixed r2)).toArray.size = (leftOf mixed r2).length by simp, List.take_length] at hys
    clear Fz Nz
    have hysl : ys.length < 64 := by rw [hys.len, List.length_map]; omega
    k_steps
    all_goals (try unfold Halt)
    refine sorted_N F9 N9 ((lst_O ys).isList (N9.get (.head _))) hys.are hysl ?_
    dsimp only
    intro h13 sv2 ns2 e2 F11 N11 hI2 hp2 hw2
    obtain ⟨S2, hS2⟩ : ∃ S, S = h.objs.size + 1 := ⟨_, rfl⟩
    rw [← hS2] at N11 ⊢
    clear hS2 F9 N9
    have hns : ns1 = ns2 := sorted_eq (hp1.trans (hperm.trans hp2.symm)) hw1 hw2
    k_steps
    all_goals (try unfold Halt)
    refine ne_intsK (vs := sv1) (us := sv2) ⟨_, (N11 _ (.tail _ (.tail _ (.head _)))).1, rfl, _, rfl⟩ hI1 ⟨_, (N11 _ (.head _)).1, rfl, _, rfl⟩ hI2 (uu2 _) ?_
    rw [show (!decide (ns1 = ns2)) = false by simp [hns]]
    k_steps
    all_goals (try unfold Halt)
    rename Fr _ _ _ _ => Fz
    rename News _ _ _ _ => Nz
    refine LCt.CompSrcT.ledger (its := (refsOf ρ (leftOf args r1)).toArray) (k := (refsOf ρ (leftOf args r1)).length) Z.hh Fz (news_sub (l := [(E2, LCg.lst (refsOf ρ (leftOf mixed r2))), (E1, LCg.lst (refsOf ρ (leftOf args r1)))]) Nz (by walk_at "memall")) (by walk_at "lmem") (by rw [List.size_toArray, List.length_map]; exact Nat.le_trans hLl1 (by decide)) ?_
    intro g'
    refine restT_ind (fun i ys news => ys = refsOf ρ (((leftOf args r1).take i).filter bareE) ∧ news = [(E2, LCg.lst (refsOf ρ (leftOf mixed r2))), (E1, LCg.lst (refsOf ρ (leftOf args r1)))]) _ ?_ ?_ _ 0 [] _ (Nat.zero_add _) ⟨rfl, rfl⟩
    rotate_left
    · rintro i ys news hi ⟨rfl, rfl⟩ v I oI C oC D m₂ h tk E' hv hC hx F9 N9 off9 ne9
      have hi2 : i < (leftOf args r1).length := by simpa using hi
      have hv3 : v = .ref (ρ (leftOf args r1)[i].2) := by
        rw [List.getElem?_toArray] at hv
        simp [hi2] at hv; exact hv.symm
      subst hv3
      have htf := take_filter (p := bareE) hi2
      obtain ⟨v1, tk1, htv, htt⟩ := hAL.at_ (leftOf args r1)[i] (List.getElem_mem hi2)
      generalize (leftOf args r1)[i] = ar at *
      obtain ⟨tg, th⟩ := ar
      clear Fz Nz
      have off9' := off9
      simp only [LCg.Off3, and_true] at off9
      rcases tg with _ | tg
      · cases htv
        k_steps
        all_goals (try unfold Halt)
        rename Fr _ _ _ _ => F4
        rename News _ _ _ _ => N4
        refine LCg.CompEnd.intro F4 N4 _ (fun q hq => hq) off9' (.inr ⟨_, by walk_at "lmem", rfl, _, rfl⟩) ⟨?_, rfl⟩
        rw [htf, if_pos (by rfl)]; simp [refsOf]
      · obtain ⟨tt, rfl⟩ := htv
        k_steps
        all_goals (try unfold Halt)
        rename Fr _ _ _ _ => F4
        rename News _ _ _ _ => N4
        refine LCg.CompEnd.intro F4 N4 _ (fun q hq => hq) off9' (.inr ⟨_, by walk_at "lmem", rfl, _, rfl⟩) ⟨?_, rfl⟩
        rw [htf, if_neg (by simp [bareE]), List.append_nil]
    rintro ys news ⟨rfl, rfl⟩ U1 h tk F9 N9 off5
    rw [show (refsOf ρ (leftOf args r1)).toArray.size = (leftOf args r1).length by simp, List.take_length] at N9
    clear Fz Nz
    simp only [LCg.Off1, and_true] at off5
    k_steps
    all_goals (try unfold Halt)
    rename Fr _ _ _ _ => Fz
    rename News _ _ _ _ => Nz
    refine LCt.CompSrcT.ledger (its := (refsOf ρ (leftOf mixed r2)).toArray) (k := (refsOf ρ (leftOf mixed r2)).length) Z.hh Fz (news_sub (l := [(U1, LCg.lst (refsOf ρ ((leftOf args r1).filter bareE))), (E2, LCg.lst (refsOf ρ (leftOf mixed r2)))]) Nz (by walk_at "memall")) (by walk_at "lmem") (by rw [List.size_toArray, List.length_map]; exact Nat.le_trans hLl2 (by decide)) ?_
    intro g'
    refine restT_ind (fun i ys news => ys = refsOf ρ (((leftOf mixed r2).take i).filter bareE) ∧ news = [(U1, LCg.lst (refsOf ρ ((leftOf args r1).filter bareE))), (E2, LCg.lst (refsOf ρ (leftOf mixed r2)))]) _ ?_ ?_ _ 0 [] _ (Nat.zero_add _) ⟨rfl, rfl⟩
    rotate_left
    · rintro i ys news hi ⟨rfl, rfl⟩ v I oI C oC D m₂ h tk E' hv hC hx F9 N9 off9 ne9
      have hi2 : i < (leftOf mixed r2).length := by simpa using hi
      have hv3 : v = .ref (ρ (leftOf mixed r2)[i].2) := by
        rw [List.getElem?_toArray] at hv
        simp [hi2] at hv; exact hv.symm
      subst hv3
      have htf := take_filter (p := bareE) hi2
      obtain ⟨v1, tk1, htv, htt⟩ := hML.at_ (leftOf mixed r2)[i] (List.getElem_mem hi2)
      generalize (leftOf mixed r2)[i] = ar at *
      obtain ⟨tg, th⟩ := ar
      clear Fz Nz
      have off9' := off9
      simp only [LCg.Off3, and_true] at off9
      rcases tg with _ | tg
      · cases htv
        k_steps
        all_goals (try unfold Halt)
        rename Fr _ _ _ _ => F4
        rename News _ _ _ _ => N4
        refine LCg.CompEnd.intro F4 N4 _ (fun q hq => hq) off9' (.inr ⟨_, by walk_at "lmem", rfl, _, rfl⟩) ⟨?_, rfl⟩
        rw [htf, if_pos (by rfl)]; simp [refsOf]
      · obtain ⟨tt, rfl⟩ := htv
        k_steps
        all_goals (try unfold Halt)
        rename Fr _ _ _ _ => F4
        rename News _ _ _ _ => N4
        refine LCg.CompEnd.intro F4 N4 _ (fun q hq => hq) off9' (.inr ⟨_, by walk_at "lmem", rfl, _, rfl⟩) ⟨?_, rfl⟩
        rw [htf, if_neg (by simp [bareE]), List.append_nil]
    rintro ys news ⟨rfl, rfl⟩ U2 h tk F9 N9 off6
    rw [show (refsOf ρ (leftOf mixed r2)).toArray.size = (leftOf mixed r2).length by simp, List.take_length] at N9
    clear Fz Nz
    simp only [LCg.Off1, and_true] at off6
    k_steps
    all_goals (try unfold Halt)
    refine eq_refs (vs := refsOf ρ ((leftOf args r1).filter bareE)) ((lst_O _).isList ((N9 _ (.tail _ (.head _))).1)) (by rw [hbare]; exact (lst_O _).isList ((N9 _ (.head _)).1)) (uu _) ?_
    k_steps
    all_goals (try unfold Halt)
    rename Fr _ _ _ _ => F4
    exact hQ _ _ (upd_of_turn hG0 KK F4.keep)
  · intro h9 tk9 T1 t1 w1 herr hml U nT hT
    obtain ⟨w2, herr2, htw⟩ := H.err w1 herr
    have hne1 := H.ne w1 (.inl herr)
    have hne2 := H.ne w2 (.inr herr2)
    obtain ⟨G2, K2, F5, B5, NN⟩ := reground B' F4 U (fun b hb => fs_memC hb)
    have N5 := NN _ N4
    have X5 : (Mine.hd.heap_39 w.params).In G2 := XB.keeps B5.stays
    have T5 := TB.keeps B5.stays
    have haG2 := isList_turn K2 haG
    have hmG2 := isList_turn K2 hmG
    have hfG2 := isList_turn K2 hfG
    have hAG2 := hAG.turn K2
    have hMG2 := hMG.turn K2
    clear NN N4 F4
    have N4 := N5
    clear N5
    k_steps
    all_goals (try unfold Halt)
    rename Fr _ _ _ _ => F4
    rename News _ _ _ _ => N4
    refine answer_spec (at_inC Z B5 F4 X5 T5 (by decide) (by decide) rfl) XB TB (isList_G F4 hfG2) hF (isList_G F4 hmG2) (hMG2.keeps F4.keep).is hl1' hl2 hfl hal2' (fun _ _ _ _ _ _ _ _ _ _ _ he => by rw [herr2] at he; cases he) ?_
    intro h9 tk9 T2 t2 w2' herr2' hml2 U2 nT2 hT2
    rw [herr2] at herr2'
    obtain rfl : w2 = w2' := by injection herr2'
    obtain ⟨G3, K3, F7, B7, NN⟩ := reground B5 F4 U2 (fun b hb => fs_memC hb)
    have N7 := NN _ N4
    have X7 : (Mine.hd.heap_39 w.params).In G3 := XB.keeps B7.stays
    have T7 := TB.keeps B7.stays
    have KK := K2.trans K3
    have haG3 := isList_turn K3 haG2
    have hmG3 := isList_turn K3 hmG2
    have hfG3 := isList_turn K3 hfG2
    have hAG3 := hAG2.turn K3
    clear NN N4 F4 haG2 hmG2 hfG2 hAG2 hMG2 haG hmG hfG hAG hMG
    have N4 := N7
    clear N7
    have uu : ∀ (e : Env), (A.deeper e).units < cLine := fun e => by have := Z.hu; show A.units + 3 < cLine; omega
    k_steps
    all_goals (try unfold Halt)
    rename Fr _ _ _ _ => Fz
    rename News _ _ _ _ => Nz
    refine Assign_cellF Fz rfl (by with_unfolding_all rfl) (by with_unfolding_all rfl) (fun _ => rfl) (fun _ => rfl) (by rfl) (by decide) (by rfl) (by rfl) (by rfl) ?_
    refine nameX_L Fz rfl ?_ rfl rfl
    refine ⟨fa, fvs.toArray, [(L' + 1 + 1, oc), (L' + 1, oc2)], fun i ys => StrsV ys (twiceOf (formals.take i) args), rfl, Z.hh, Fz, Nz, hfG3, by rw [List.size_toArray, hF.len]; exact Nat.le_trans hl2 (by decide), StrsV.nil, ?_⟩
    rintro s₂ ⟨g', rfl⟩
    refine ⟨?_, ?_⟩
    · intro i ys v hv hys I oI C oC c oc9 D h tk E' hcd F9 N9 off9
      have hi : i < formals.length := by
        rw [List.getElem?_toArray] at hv
        have := (List.getElem?_eq_some_iff.mp hv).1
        rw [← hF.len]; exact this
      obtain ⟨tkv, hkv⟩ := hF.at_ i formals[i] (by simp [hi])
      have hv3 : v = .str formals[i] tkv := by
        rw [List.getElem?_toArray, hkv] at hv; exact (Option.some.inj hv).symm
      subst hv3
      have htk : formals.take (i + 1) = formals.take i ++ [formals[i]] := List.take_succ_eq_append_getElem hi
      generalize formals[i] = nm at *
      clear Fz Nz
      refine wpAny_tests_one ?_
      k_steps
      all_goals (try unfold Halt)
      rename Fr _ _ _ _ => Fz
      rename News _ _ _ _ => Nz
      refine pair_compF Fz (by with_unfolding_all rfl) (by decide) (by rfl) (by decide) (by rfl) (by rfl) (by decide) ?_
      k_steps
      all_goals (try unfold Halt)
      refine ⟨aa, (refsOf ρ args).toArray, [(I, oI), (C, oC), (c, oc9), (D, LCg.lst ys), (L' + 1 + 1, oc), (L' + 1, oc2)], fun k zs news => zs.length = ((args.take k).filter fun a => decide (a.1 = some nm)).length ∧ news = [(I, oI), (C, oC), (c, oc9), (D, LCg.lst ys), (L' + 1 + 1, oc), (L' + 1, oc2)], rfl, Z.hh, Fz, Nz, .inl haG3, by rw [List.size_toArray, List.length_map]; exact Nat.le_trans hl1 (by decide), ⟨rfl, rfl⟩, ?_⟩
      rintro s₂ ⟨g', rfl⟩
      refine ⟨?_, ?_⟩
      · rintro k zs news hk ⟨hzs, rfl⟩
        have hk2 : k < args.length := by simpa using hk
        obtain ⟨v1, tk1, htv, htt⟩ := hAG3.at_ args[k] (List.getElem_mem hk2)
        have hit : (refsOf ρ args).toArray[k]! = .ref (ρ args[k].2) := by
          rw [getElem!_def, List.getElem?_toArray]; simp [hk2]
        have htf := take_filter (p := fun a : Entry => decide (a.1 = some nm)) hk2
        refine ⟨v1, _, ⟨_, hit, htt⟩, ?_⟩
        intro I2 oI2 C2 oC2 D2 m₂ h tk E' hC2 hx hx2 F9 N9 off9 ne9
        refine wpAny_tests_one ?_
        generalize args[k] = ar at *
        obtain ⟨tg, th⟩ := ar
        clear Fz Nz
        have off9' := off9
        simp only [LCg.Off3, and_true] at off9
        rcases tg with _ | tg
        · cases htv
          k_steps
          all_goals (try unfold Halt)
          rename Fr _ _ _ _ => F4
          rename News _ _ _ _ => N4
          refine LCg.CompEnd.intro F4 N4 _ (fun q hq => hq) off9' (.inl haG3) ⟨?_, rfl⟩
          rw [htf, if_neg (by simp), List.append_nil]; exact hzs
        · obtain ⟨tt, rfl⟩ := htv
          cases hq : (tg == nm) with
          | true =>
            k_steps
            all_goals (try unfold Halt)
            rename Fr _ _ _ _ => F4
            rename News _ _ _ _ => N4
            refine LCg.CompEnd.intro F4 N4 _ (fun q hq => hq) off9' (.inl haG3) ⟨?_, rfl⟩
            rw [htf, if_pos (by simpa using hq), List.length_append, List.length_append, hzs]; rfl
          | false =>
            k_steps
            all_goals (try unfold Halt)
            rename Fr _ _ _ _ => F4
            rename News _ _ _ _ => N4
            refine LCg.CompEnd.intro F4 N4 _ (fun q hq => hq) off9' (.inl haG3) ⟨?_, rfl⟩
            rw [htf, if_neg (by simpa using hq), List.append_nil]; exact hzs
      rintro zs news D2 h tk ⟨hzs, rfl⟩ F9 N9 off5
      rw [show (refsOf ρ args).toArray.size = args.length by simp, List.take_length] at hzs
      clear Fz Nz
      have hz3 : zs.length ≤ 20 := by rw [hzs]; exact Nat.le_trans (List.length_filter_le _ _) hl1
      cases htwo : decide (1 < (args.filter fun a => decide (a.1 = some nm)).length) with
      | true =>
        have hz2 : 1 < zs.length := by rw [hzs]; simpa using htwo
        k_steps
        all_goals (try unfold Halt)
        rename Fr _ _ _ _ => F4
        rename News _ _ _ _ => N4
        refine CellEnd.intro F4 N4 (fun q hq => .tail _ hq) ?_
        try dsimp only
        rw [htk, twice_snoc, htwo, if_pos rfl]; exact hys.snoc _ _
      | false =>
        have hz2 : ¬ 1 < zs.length := by rw [hzs]; simpa using htwo
        k_steps
        all_goals (try unfold Halt)
        rename Fr _ _ _ _ => F4
        rename News _ _ _ _ => N4
        refine CellEnd.intro F4 N4 (fun q hq => .tail _ hq) ?_
        try dsimp only
        rw [htk, twice_snoc, htwo, if_neg (by simp), List.append_nil]; exact hys
    · intro ys D h tk hys F9 N9 off9
      rw [show fvs.toArray.size = formals.length by simp [hF.len], List.take_length] at hys
      clear Fz Nz
      have hysl := hys.len
      cases htwo : twiceOf formals args with
      | nil =>
        rw [htwo] at hys hysl
        have hnil : (!ys.isEmpty) = false := by
          obtain rfl : ys = [] := List.length_eq_zero_iff.mp hysl
          rfl
        clear htwo htw herr herr2 H hys
        k_steps
        all_goals (try unfold Halt)
        refine ne_nil ((lst_O ys).isList (News.get (by assumption) (by walk_at "lmem"))) (LstO.isList (lst_O []) (News.get (by assumption) (by walk_at "lmem"))) (uu _) hnil ?_
        k_steps
        all_goals (try unfold Halt)
        rename Fr _ _ _ _ => F4
        exact hQ _ _ (upd_of_turn hG0 KK F4.keep)
      | cons n0 r0 =>
        obtain ⟨hw1, hw2⟩ := htw n0 r0 htwo
        rw [htwo] at hys hysl
        obtain ⟨t0, ht0⟩ := hys.at_ 0 n0 rfl
        have hnil : (!ys.isEmpty) = true := by
          cases ys with
          | nil => simp at hysl
          | cons _ _ => rfl
        have hw12 : (w1 == w2) = true := by rw [hw1, hw2]; exact beq_self_eq_true _
        have hn0 : n0 ∈ formals := (List.mem_filter.mp (show n0 ∈ twiceOf formals args by rw [htwo]; exact .head _)).1
        have hn0l := hfl n0 hn0
        have hyt : ys[(0 : Int).toNat]? = some (.str n0 t0) := ht0
        have hk0 : (0 : Int) ≤ 0 := by decide
        have hk1 : (0 : Int) < 2 ^ 63 := by decide
        clear htwo htw herr herr2 H hys ht0
        k_steps
        all_goals (try unfold Halt)
        refine ne_nil ((lst_O ys).isList (News.get (by assumption) (by walk_at "lmem"))) (LstO.isList (lst_O []) (News.get (by assumption) (by walk_at "lmem"))) (uu _) hnil ?_
        have hlO := lst_O ys
        obtain ⟨z1, hz1⟩ : ∃ z, Str.ofString "formal argument \"" ++ n0 = z := ⟨_, rfl⟩
        have el1 : (Str.ofString "formal argument \"").length = 17 := by decide
        have el2 : (Str.ofString "\" matched by multiple actual arguments").length = 38 := by decide
        have hz1l : z1.length ≤ 200 := by rw [← hz1, Str.length_append, el1]; omega
        obtain ⟨z2, hz2⟩ : ∃ z, z1 ++ Str.ofString "\" matched by multiple actual arguments" = z := ⟨_, rfl⟩
        have hw1z : (w1 == z2) = true := by rw [hw1, ← hz2, ← hz1]; exact beq_self_eq_true _
        clear hw1 hw2
        k_steps
        all_goals (try unfold Halt)
        refine addT hz1 (by rw [el1, sizeLine_eq]; omega) ?_
        intro t7 tk7
        k_steps
        all_goals (try unfold Halt)
        refine addT hz2 (by rw [el2, sizeLine_eq]; omega) ?_
        intro t8 tk8
        clear hz1 hz2 el1 el2
        k_steps
        all_goals (try unfold Halt)
        rename Fr _ _ _ _ => F4
        exact hQ _ _ (upd_of_turn hG0 KK F4.keep)
end
end Mine
end
section
open PySem PySem.W PySem.Calls PyProof.Rows PySem.Builtin PySem.Builtin.Str
set_option maxRecDepth 100000
set_option maxHeartbeats 1000000
namespace Mine
theorem gives_replace1 (x y z : Str) (t u v c : Tok) (h0 : (u == 0 || v == 0) = false) (huv : (u == v) = false) (hyz : (y == z) = false) (hy : (y.length == 0) = false)
    (hne : (occurrences x y 0 x.length 1).isEmpty = false) (hl : tooLong (x.length + (occurrences x y 0 x.length 1).length * z.length) = false) :
    Gives («str.replace» ⟨[.str x t, .str y u, .str z v, .int 1 c], []⟩) (.str (glued z (partsBetween x (occurrences x y 0 x.length 1) y.length))) := by
  show Gives (do let limit ← countLimit "str.replace" (some (.int 1 c)) (x.length + 1); _) _
  rw [countLimit_int "str.replace" 1 c (x.length + 1) (by decide)]
  show Gives (if ((occurrences x y 0 x.length 1).isEmpty || (y.length == 0 && z.length == 0)) = true then (do rule "str.replace.nothing"; ret (.str x t)) else
          (do let same ← isSame (.str y u) (.str z v)
              if same = true then (do rule "str.replace.old-is-new"; ret (.str x t)) else
              if tooLong (x.length + (occurrences x y 0 x.length 1).length * z.length) = true then unsupported "str.replace:memory" else
              retStr (glued z (partsBetween x (occurrences x y 0 x.length 1) y.length)))) _
  rw [hne, hy, isSame_str_other y z u v h0 huv hyz, hl]
  exact .of_eq rfl
section
variable {prog : Program} {w : World} {A : Around} {E : Value → Shared → Prop} {s : Shared} {x y z r : Str} {t u v c : Tok} {Q : Value → Shared → Prop}
theorem replace1 (hu : u ≠ 0) (hv : v ≠ 0) (huv : u ≠ v) (hyz : (y == z) = false) (hy : (y.length == 0) = false)
    (hne : (occurrences x y 0 x.length 1).isEmpty = false) (hr : glued z (partsBetween x (occurrences x y 0 x.length 1) y.length) = r) (hx : x.length + (x.length + 1) * z.length ≤ 16777216) (hrl : r.length ≤ sizeLine)
    (hq : ∀ t' k, Q (.str r t') { s with toks := k }) : wpAny (model prog w) A (call (.builtin "str.replace") [.str x t, .str y u, .str z v, .int 1 c]) Q E s := by
  have hl : tooLong (x.length + (occurrences x y 0 x.length 1).length * z.length) = false := by
    have h1 := StrLaws.occ_length_le x y 0 x.length 1
    have h2 : (occurrences x y 0 x.length 1).length * z.length ≤ (x.length + 1) * z.length := Nat.mul_le_mul_right _ (by omega)
    unfold tooLong sizeLine
    exact decide_eq_false (by omega)
  refine call_gives F.slot_str_replace (typeIs_str _ _ _) F.entry_str_replace (F.args_str_replace_4 _ _ _ _)
    (gives_replace1 x y z t u v c (by simp [hu, hv]) (by simp [huv]) hyz hy hne hl) ?_
  rw [hr]
  exact ⟨hrl, hq _ _⟩
end
/-- what an answer holds -/
inductive AnsIs (w : World) (formals : List Str) (args : List Entry) (word : Str) (pv rv : Value) (led : List (Addr × Obj)) : Prop
  | good (places : List (Str × Nat)) (rest : List Int) (P R : Addr) (op : Obj) (kvs : List (Str × Value)) (rvs : List Value) (a : mn formals args = .ok (places, rest)) (b : word = Str.ofString "") (c : pv = .ref P) (d : rv = .ref R) (e : led = [(P, op), (R, LCg.lst rvs)])
      (f : op.IsDictOf (strKind PySem.Challenge.rw_ov0042_01.row.prog w) kvs) (g : PlacesK kvs places) (h : (P == sysModules) = false) (i : IntsV rvs rest) (j : ∀ k ∈ rest, 0 ≤ k ∧ k < args.length) (k : rest.length ≤ 20) : AnsIs w formals args word pv rv led
  | bad (a : mn formals args = .error word) (b : word.length ≤ 4000) (c : pv = .none) (d : rv = .none) (e : led = []) : AnsIs w formals args word pv rv led
section
variable {w : World} {A A₀ : Around} {s : Shared} {base g : Heap} {outer : List Env} {L : Addr} {m mg mb : Str → Option Value} {mean : ExcName → Option Value} {env : Env}
  {Q : Value → Shared → Prop} {E : Value → Shared → Prop}
theorem answer_any {fa aa : Addr} {fvs avs : List Value} {args : List Entry} {formals : List Str} (Z : At w A s 25 150 A₀ base g env outer L m mg mb mean)
   (XB : (Mine.hd.heap_39 w.params).In base) (TB : Top Mine.hd.view_39 (looseW Mine.hd.view_39 [Str.ofString "match_names"]) mean mg mb base)
   (hf : s.heap.IsList fa fvs.toArray) (hF : StrsV fvs formals) (ha : s.heap.IsList aa avs.toArray) (hA : ArgsIs s.heap avs args) (hl1 : args.length ≤ 20) (hl2 : formals.length ≤ 20) (hfl : ∀ x ∈ formals, x.length ≤ 100) (hal2 : ∀ a ∈ args, ∀ t, a.1 = some t → t.length ≤ 100)
   (hQ : ∀ h' tk' T t word pv rv led, AnsIs w formals args word pv rv led → Upd (fsOf (env :: outer)) [] s.heap h' → s.heap.get? T = none → (∀ q ∈ led, h'.get? q.1 = some q.2 ∧ s.heap.get? q.1 = none) → IsTup h' T #[.str word t, pv, rv] → Q (.ref T) { s with heap := h', toks := tk' }) :
   wpAny (model PySem.Challenge.rw_ov0042_01.row.prog w) A (call (.ref 146) [.ref fa, .ref aa]) Q E s :=
  answer_spec Z XB TB hf hF ha hA hl1 hl2 hfl hal2
    (fun h' tk' T t P R op kvs rvs places rest hok U nT nP nR hT hP hPd hPk lo hR hRI hrm hrl => hQ h' tk' T t _ _ _ [(P, op), (R, LCg.lst rvs)] (.good places rest P R op kvs rvs hok rfl rfl rfl rfl hPd hPk lo hRI hrm hrl) U nT (fun q hq => by
      rcases List.mem_cons.mp hq with rfl | hq
      · exact ⟨hP, nP⟩
      · rcases List.mem_singleton.mp hq with rfl
        exact ⟨hR, nR⟩) hT)
    (fun h' tk' T t msg herr hml U nT hT => hQ h' tk' T t _ _ _ [] (.bad herr hml rfl rfl rfl) U nT (fun q hq => by cases hq) hT)
noncomputable def let1 (n : Str) : Str := if n = dots then n else Str.ofString "q" ++ n
noncomputable def lets (l : List Str) : List Str := l.map let1
noncomputable def letA (l : List Entry) : List Entry := l.map fun a => (letter a.1, a.2)
theorem letter_some (n : Str) : letter (some n) = some (let1 n) := by
  by_cases h : n = dots <;> simp [letter, let1, h]
theorem let1_len {n : Str} (h : n.length ≤ 90) : (let1 n).length ≤ 100 := by
  have e1 : (Str.ofString "q").length = 1 := by decide
  unfold let1
  split
  · omega
  · rw [Str.length_append, e1]; omega
end
/-- how the refusal's words stand to one another -/
noncomputable def quoteS : Str := Str.ofString "\""
structure LetterW (w1 w2 : Str) : Prop where
  ne1 : (w1 == Str.ofString "") = false
  ways : ((!(occurrences w1 (Str.ofString "\"") 0 w1.length 1).isEmpty) = true ∧ glued (Str.ofString "\"q") (partsBetween w1 (occurrences w1 (Str.ofString "\"") 0 w1.length 1) (Str.ofString "\"").length) = w2) ∨
    ((!(occurrences w1 (Str.ofString "\"") 0 w1.length 1).isEmpty) = false ∧ Txt.startswith w1 (Str.ofString "argument") = true ∧ w2 = w1) ∨
    ((!(occurrences w1 (Str.ofString "\"") 0 w1.length 1).isEmpty) = false ∧ Txt.startswith w1 (Str.ofString "argument") = false ∧ (w2 == Str.ofString "") = false ∧
      (∃ a b1 b2, Txt.split w1 (Str.ofString "(") = a :: b1 ∧ Txt.split w2 (Str.ofString "(") = a :: b2) ∧ (Txt.split w2 (Str.ofString ", ")).length = (Txt.split w1 (Str.ofString ", ")).length)
structure LetterH (formals : List Str) (args : List Entry) : Prop where
  err : ∀ w1, mn formals args = .error w1 → ∃ w2, mn (lets formals) (letA args) = .error w2 ∧ LetterW w1 w2
  ok : ∀ p r, mn formals args = .ok (p, r) → mn (lets formals) (letA args) = .ok (p.map (fun q => (let1 q.1, q.2)), r) ∧ (p.map fun q => let1 q.1).Nodup ∧ p.length ≤ 100 ∧ ∀ q ∈ p, q.1.length ≤ 90
noncomputable def dueOf (p : List (Str × Nat)) : List (Str × Int) := p.map fun q => (let1 q.1, (q.2 : Int))
theorem PlacesK.intK {kvs : List (Str × Value)} {ps : List (Str × Nat)} (h : PlacesK kvs ps) : IntK kvs (ps.map fun q => (q.1, (q.2 : Int))) := by
  refine ⟨by rw [h.keys, List.map_map]; rfl, fun i q hq => ?_⟩
  rw [List.getElem?_map] at hq
  cases e : ps[i]? with
  | none => rw [e] at hq; cases hq
  | some r =>
    rw [e] at hq
    cases hq
    exact h.at_ i r e
theorem same_refl : ∀ {l : List (Str × Int)}, (l.map (·.1)).Nodup → SameGiven l l := fun {l} hn => ⟨rfl, by
  induction l with
  | nil => intro q hq; cases hq
  | cons p r ih =>
    rw [List.map_cons, List.nodup_cons] at hn
    intro q hq
    rcases List.mem_cons.mp hq with rfl | hq
    · simp [List.lookup]
    · have hne : (q.1 == p.1) = false := by
        simp only [beq_eq_false_iff_ne, ne_eq]
        intro e
        exact hn.1 (e ▸ List.mem_map_of_mem hq)
      rw [List.lookup_cons, hne]
      exact ih hn.2 q hq⟩
section
variable {w : World} {A : Around} {E Q : Value → Shared → Prop} {s : Shared}
theorem eq_ints {a b : Addr} {va vb : List Value} {xs : List Int} (hl : s.heap.IsList a va.toArray) (hb : s.heap.IsList b vb.toArray) (h1 : IntsV va xs) (h2 : IntsV vb xs) (hu : A.units < cLine) (h : Q (.bool true) s) : wpAny (model PySem.Challenge.rw_ov0042_01.row.prog w) A (compareOp .Eq (.ref a) (.ref b)) Q E s := by
  refine SeqAt.eq_listAt (e := fun _ => true) hl hb (by simp [h1.len, h2.len]) hu (fun j g1 g2 => ?_) ?_
  · have hj : j < xs.length := by simpa [h1.len] using g1
    obtain ⟨t, e1⟩ := h1.at_ j xs[j] (by simp [hj])
    obtain ⟨u, e2⟩ := h2.at_ j xs[j] (by simp [hj])
    have f1 : va.toArray[j] = .int xs[j] t := by
      have := List.getElem?_eq_some_iff.mp e1
      obtain ⟨_, e⟩ := this
      simpa using e
    have f2 : vb.toArray[j] = .int xs[j] u := by
      have := List.getElem?_eq_some_iff.mp e2
      obtain ⟨_, e⟩ := this
      simpa using e
    rw [f1, f2]
    have := SeqAt.EqAt.int_int (A := A.in1) (s := s) xs[j] t xs[j] u
    simpa using this
  · have : (List.range va.toArray.size).all (fun _ => true) = true := by simp
    rw [this]; exact h
theorem getD_s {d : Addr} {kvs : List (Str × Value)} {y : Str} {t : Tok} {v : Value} {value slice : Expr}
    (hD : s.heap.DictOf (strKind PySem.Challenge.rw_ov0042_01.row.prog w) d kvs) (hv : valueAt kvs y = some v) (h : Q v { s with toks := s.toks + 1 })
    (hs : subscripted slice false (.ref d) (.str y t) = operate [.ref d, .str y t] (getItem (.ref d) (.str y t)) := by with_unfolding_all rfl) :
    wpAny (model PySem.Challenge.rw_ov0042_01.row.prog w) A (subscriptTail value slice (.ref d) (.str y t)) Q E s :=
  tail_any hD.typeIs slot_dict_getitem.lookup (wpAny_getItem_of (strKind_is _ w y t) hD.mapOf hv h) hs
end
theorem seq_isList {g h : Heap} {L S : Addr} {vs : List Value} {led : List (Addr × Obj)} (N : News g L h ((S, { cls := .type "list", data := .seq vs.toArray }) :: led)) : h.IsList S vs.toArray := ⟨_, (N _ (.head _)).1, rfl, _, rfl⟩
theorem split_le {x y : Str} (h : x.length ≤ 4000) : (Txt.split x y).length ≤ 100000 := by
  unfold Txt.split
  split
  · simp
  · split
    · simp
    · have e1 := StrLaws.occ_length_le x y 0 x.length (x.length + 1)
      rw [length_partsBetween]; omega
end Mine
end
section
open PySem PySem.W PySem.Calls PyProof.Rows
set_option maxRecDepth 100000
set_option maxHeartbeats 4000000
namespace Mine
theorem say_MLet_31 : True := by
  k_with_none
  (k_with "call ref" => (k_here; (with_reducible show wpAny _ _ (call (Value.ref _) _ _) _ _ _); refine halt ?_))
  (k_with "subscriptTail" => (k_here; (with_reducible show wpAny _ _ (subscriptTail _ _ (Value.ref _) (Value.int _ _)) _ _ _); k_dflt (refine' tail_L (by exact isList_G (by k_asm) (by assumption)) (by omega) (by omega) (by assumption) ?_ (by with_unfolding_all rfl);  k_whole)))
  (k_with "subscriptTail" => (k_here; (with_reducible show wpAny _ _ (subscriptTail _ _ (Value.ref _) (Value.int _ _)) _ _ _); k_dflt (refine' tail_L (by exact LstO.isList (by assumption) (News.get (by k_asm) (by k_mem))) (by omega) (by omega) (by assumption) ?_ (by with_unfolding_all rfl);  k_whole)))
  (k_with "eval Name" => (k_here; k_dflt (refine' nameX_L (by k_asm) (by first | rfl | assumption) ?_ (by rfl) (by rfl);  k_whole)))
  (k_with "own iter" => ((with_reducible show wpAny _ _ (pyIter (Value.ref _)) (fun it s₂ => LoopAtV _ _ _ _ _ _ _ _ _ it s₂) _ _); refine halt ?_))
  (k_with "InvEndN" => (refine halt ?_))
  (k_with "compareOp NotIn str ref" => (k_dflt (refine' notIn_Db (by k_asm) (by k_mem) (by assumption) (by assumption) (by exact PlacesK.isSome (by assumption) _) ?_;  k_whole)))
  (k_with "compareOp In str ref" => (k_dflt (refine' in_Db (by k_asm) (by k_mem) (by assumption) (by assumption) (by exact PlacesK.isSome (by assumption) _) ?_;  k_whole)))
  (k_with "call builtin:len" => (k_here; k_dflt (refine' len_L (by exact isList_G (by k_asm) (by assumption)) (by first | assumption | exact TagsAre.len (by assumption) | exact IntsV.len (by assumption) | exact StrsV.len (by assumption)) (by omega) ?_); intro _ _))
  (k_with "setItem" => (k_here; (with_reducible show wpAny _ _ (setItem (Value.ref _) (Value.str _ _) _) _ _ _); k_dflt (refine' set_D (by k_asm) (by k_asm) (by k_updF) (by assumption) (by first | decide | omega) ?_;  k_whole); intro _ _ _ _ _))
  (k_with "setItem" => (k_here; (with_reducible show wpAny _ _ (setItem (Value.ref _) (Value.int _ _) _) _ _ _); k_dflt (refine' set_L (by k_asm) (by k_asm) (by k_updF) (by assumption) (by omega) (by omega) (by omega) ?_;  k_whole); intro _ _ _ _ _))
  (k_with "loadName" => (k_here; k_dflt (refine' ldn (by k_asm) (by first | rfl | assumption) ?_ (by rfl) (by rfl);  k_whole)))
  (k_with "memall" => ((repeat (refine List.forall_mem_cons.mpr ⟨by k_mem, ?_⟩)); exact List.forall_mem_nil _))
  (k_with "exec Raise Call" => (refine halt ?_))
  (k_with "exec Raise" => (refine halt ?_))
  (k_with "assign Tuple" => (k_here; (with_reducible show wpAny _ _ (assign (Expr.Tuple _ _ _) _ (Value.ref _)) _ _ _); k_dflt (refine' unpackN_ (by k_asm) (by k_asm) (by first | assumption | exact IsTup.keeps (by assumption) (Fr.keep (by k_asm))) (by assumption) (by exact rfl) (by exact rfl) ?_); intro _ _ _))
  (k_with "call builtin:len" => (k_here; k_dflt (refine' len_L (by exact LstO.isList (lst_O _) (News.get (by k_asm) (by k_mem))) (by first | assumption | exact IntsV.len (by assumption) | exact StrsV.len (by assumption)) (by omega) ?_); intro _ _))
  (k_with "subscriptTail" => (k_here; (with_reducible show wpAny _ _ (subscriptTail _ _ (Value.ref _) (Value.int _ _)) _ _ _); k_dflt (refine' item_tupleL (by exact IsTup.keeps (by assumption) (Fr.keep (by k_asm))) (by decide) (by decide) (by rfl) (by rfl) ?_;  k_whole)))
  (k_with "CompSrcT" => (refine halt ?_))
  (k_with "CompSrc" => (refine halt ?_))
  (k_with "CompEnd" => (refine halt ?_))
  (k_with "compareOp Eq str str" => (k_here; k_dflt (refine' eq_strb (by assumption) ?_;  k_whole)))
  (k_with "compareOp NotEq str str" => (k_here; k_dflt (refine' ne_strb (by assumption) ?_;  k_whole)))
  (k_with "call type:list" => (k_here; (with_reducible show wpAny _ _ (call (Value.type _) [Value.ref _]) _ _ _); k_dflt (refine' list_copyK (by k_asm) (by k_asm) (by exact isList_G (by k_asm) (by assumption)) ?_ (by assumption);  k_whole); intro _ _ _ _ _ _))
  (k_with "compareOp NotEq ref ref" => (refine halt ?_))
  (k_with "compareOp Eq ref ref" => (refine halt ?_))
  (k_with "eval ListComp" => (k_here; (with_reducible show wpAny _ _ (eval (Expr.ListComp _ (Comprehension.mk (Expr.Tuple _ _ _) _ _ _ :: _) _ _) _) _ _ _); refine halt ?_))
  (k_with "call builtin:sorted" => (refine halt ?_))
  (k_with "PairSrc" => (refine halt ?_))
  (k_with "lmem" => (first | exact .head _ | exact .tail _ (.head _) | exact .tail _ (.tail _ (.head _)) | exact .tail _ (.tail _ (.tail _ (.head _)))))
  (k_with "subscriptTail" => (k_here; (with_reducible show wpAny _ _ (subscriptTail _ _ (Value.ref _) (Value.str _ _)) _ _ _); k_dflt (refine' getD_s (by assumption) (by assumption) ?_ (by with_unfolding_all rfl);  k_whole)))
  exact trivial
theorem dict_lst {w : World} {o : Obj} {kvs : List (Str × Value)} {vs : List Value} (h : o.IsDictOf (strKind PySem.Challenge.rw_ov0042_01.row.prog w) kvs) (e : o = LCg.lst vs) : False := by
  subst e
  obtain ⟨es, ep, h1, h2⟩ := h
  cases h2.1
/-- the pairs made so far -/
structure PairsJ (args : List Entry) (led : List (Addr × Obj)) (k : Nat) (zs : List Value) (news : List (Addr × Obj)) : Prop where
  len : zs.length = k
  sub : ∀ q ∈ led, q ∈ news
  at_ : ∀ i < k, ∃ T v tk, zs[i]? = some (.ref T) ∧ TagV v (letter (args.getD i (none, 0)).1) ∧ ∃ o, (T, o) ∈ news ∧ ∀ h' : Heap, h'.get? T = some o → IsTup h' T #[v, .int (args.getD i (none, 0)).2 tk]
theorem say_MLet_32 : True := by
  k_with_none
  (k_with "call ref" => (k_here; (with_reducible show wpAny _ _ (call (Value.ref _) _ _) _ _ _); refine halt ?_))
  (k_with "subscriptTail" => (k_here; (with_reducible show wpAny _ _ (subscriptTail _ _ (Value.ref _) (Value.int _ _)) _ _ _); k_dflt (refine' tail_L (by exact isList_G (by k_asm) (by assumption)) (by omega) (by omega) (by assumption) ?_ (by with_unfolding_all rfl);  k_whole)))
  (k_with "subscriptTail" => (k_here; (with_reducible show wpAny _ _ (subscriptTail _ _ (Value.ref _) (Value.int _ _)) _ _ _); k_dflt (refine' tail_L (by exact LstO.isList (by assumption) (News.get (by k_asm) (by k_mem))) (by omega) (by omega) (by assumption) ?_ (by with_unfolding_all rfl);  k_whole)))
  (k_with "eval Name" => (k_here; k_dflt (refine' nameX_L (by k_asm) (by first | rfl | assumption) ?_ (by rfl) (by rfl);  k_whole)))
  (k_with "own iter" => ((with_reducible show wpAny _ _ (pyIter (Value.ref _)) (fun it s₂ => LoopAtV _ _ _ _ _ _ _ _ _ it s₂) _ _); refine halt ?_))
  (k_with "InvEndN" => (refine halt ?_))
  (k_with "compareOp NotIn str ref" => (k_dflt (refine' notIn_Db (by k_asm) (by k_mem) (by assumption) (by assumption) (by exact PlacesK.isSome (by assumption) _) ?_;  k_whole)))
  (k_with "compareOp In str ref" => (k_dflt (refine' in_Db (by k_asm) (by k_mem) (by assumption) (by assumption) (by exact PlacesK.isSome (by assumption) _) ?_;  k_whole)))
  (k_with "call builtin:len" => (k_here; k_dflt (refine' len_L (by exact isList_G (by k_asm) (by assumption)) (by first | assumption | exact TagsAre.len (by assumption) | exact IntsV.len (by assumption) | exact StrsV.len (by assumption)) (by omega) ?_); intro _ _))
  (k_with "setItem" => (k_here; (with_reducible show wpAny _ _ (setItem (Value.ref _) (Value.str _ _) _) _ _ _); k_dflt (refine' set_D (by k_asm) (by k_asm) (by k_updF) (by assumption) (by first | decide | omega) ?_;  k_whole); intro _ _ _ _ _))
  (k_with "setItem" => (k_here; (with_reducible show wpAny _ _ (setItem (Value.ref _) (Value.int _ _) _) _ _ _); k_dflt (refine' set_L (by k_asm) (by k_asm) (by k_updF) (by assumption) (by omega) (by omega) (by omega) ?_;  k_whole); intro _ _ _ _ _))
  (k_with "loadName" => (k_here; k_dflt (refine' ldn (by k_asm) (by first | rfl | assumption) ?_ (by rfl) (by rfl);  k_whole)))
  (k_with "memall" => ((repeat (refine List.forall_mem_cons.mpr ⟨by k_mem, ?_⟩)); exact List.forall_mem_nil _))
  (k_with "exec Raise Call" => (refine halt ?_))
  (k_with "exec Raise" => (refine halt ?_))
  (k_with "assign Tuple" => (k_here; (with_reducible show wpAny _ _ (assign (Expr.Tuple _ _ _) _ (Value.ref _)) _ _ _); k_dflt (refine' unpackN_ (by k_asm) (by k_asm) (by first | assumption | exact IsTup.keeps (by assumption) (Fr.keep (by k_asm))) (by assumption) (by exact rfl) (by exact rfl) ?_); intro _ _ _))
  (k_with "call builtin:len" => (k_here; k_dflt (refine' len_L (by exact LstO.isList (lst_O _) (News.get (by k_asm) (by k_mem))) (by first | assumption | exact IntsV.len (by assumption) | exact StrsV.len (by assumption)) (by omega) ?_); intro _ _))
  (k_with "subscriptTail" => (k_here; (with_reducible show wpAny _ _ (subscriptTail _ _ (Value.ref _) (Value.int _ _)) _ _ _); k_dflt (refine' item_tupleL (by exact IsTup.keeps (by assumption) (Fr.keep (by k_asm))) (by decide) (by decide) (by rfl) (by rfl) ?_;  k_whole)))
  (k_with "CompSrcT" => (refine halt ?_))
  (k_with "CompSrc" => (refine halt ?_))
  (k_with "CompEnd" => (refine halt ?_))
  (k_with "compareOp Eq str str" => (k_here; k_dflt (refine' eq_strb (by assumption) ?_;  k_whole)))
  (k_with "compareOp NotEq str str" => (k_here; k_dflt (refine' ne_strb (by assumption) ?_;  k_whole)))
  (k_with "call type:list" => (k_here; (with_reducible show wpAny _ _ (call (Value.type _) [Value.ref _]) _ _ _); k_dflt (refine' list_copyK (by k_asm) (by k_asm) (by exact isList_G (by k_asm) (by assumption)) ?_ (by assumption);  k_whole); intro _ _ _ _ _ _))
  (k_with "compareOp NotEq ref ref" => (refine halt ?_))
  (k_with "compareOp Eq ref ref" => (refine halt ?_))
  (k_with "eval ListComp" => (k_here; (with_reducible show wpAny _ _ (eval (Expr.ListComp _ (Comprehension.mk (Expr.Tuple _ _ _) _ _ _ :: _) _ _) _) _ _ _); refine halt ?_))
  (k_with "call builtin:sorted" => (refine halt ?_))
  (k_with "PairSrc" => (refine halt ?_))
  (k_with "lmem" => (first | exact .head _ | exact .tail _ (.head _) | exact .tail _ (.tail _ (.head _)) | exact .tail _ (.tail _ (.tail _ (.head _)))))
  (k_with "subscriptTail" => (k_here; (with_reducible show wpAny _ _ (subscriptTail _ _ (Value.ref _) (Value.str _ _)) _ _ _); k_dflt (refine' getD_s (by assumption) (by assumption) ?_ (by with_unfolding_all rfl);  k_whole)))
  (k_with "compareOp In str str" => (refine halt ?_))
  (k_with "compareOp In str" => (refine halt ?_))
  (k_with "call builtin:str.replace" => (refine halt ?_))
  (k_with "call builtin:str.startswith" => (refine halt ?_))
  (k_with "call builtin:str.split" => (refine halt ?_))
  (k_with "execs cons" => ((with_reducible show wpAny _ _ (execs (Stmt.Return (some (Expr.Compare _ _ _ _)) _ :: _) _) _ _ _); (with_reducible refine wpAny_execs_cons ?_); try dsimp only))
  (k_with "subscriptTail" => ((with_reducible show wpAny _ _ (subscriptTail _ _ (Value.ref _) (Value.int _ _)) _ _ _); refine halt ?_))
  (k_with "call builtin:len" => (refine halt ?_))
  exact trivial
theorem PairsJ.step {args : List Entry} {led : List (Addr × Obj)} {k : Nat} {zs : List Value} {news : List (Addr × Obj)} (J : PairsJ args led k zs news) {a : Entry} (ha : args[k]? = some a) {v : Value} (hv : TagV v (letter a.1)) {T : Addr} {tk : Tok} :
    PairsJ args led (k + 1) (zs ++ [.ref T]) ((T, { cls := .type "tuple", data := .seq #[v, .int a.2 tk] }) :: news) := by
  refine ⟨by simp [J.len], fun q hq => .tail _ (J.sub q hq), fun i hi => ?_⟩
  by_cases h : i < k
  · obtain ⟨T', v', tk', h1, h2, o, h3, h4⟩ := J.at_ i h
    exact ⟨T', v', tk', by rw [List.getElem?_append_left (by rw [J.len]; exact h)]; exact h1, h2, o, .tail _ h3, h4⟩
  · obtain rfl : i = k := by omega
    have hg : args.getD i (none, 0) = a := by rw [List.getD_eq_getElem?_getD, ha]; rfl
    rw [hg]
    refine ⟨T, v, tk, by rw [List.getElem?_append_right (by rw [J.len]; exact Nat.le_refl _)]; simp [J.len], hv, _, .head _, fun h' e => ⟨_, e, rfl, _, rfl⟩⟩
theorem PairsJ.is {args : List Entry} {led : List (Addr × Obj)} {zs : List Value} {news : List (Addr × Obj)} (J : PairsJ args led args.length zs news) {h : Heap} (hn : ∀ q ∈ news, h.get? q.1 = some q.2) : ArgsIs h zs (letA args) := by
  refine ⟨by simp [J.len, letA], fun i a e => ?_⟩
  have hi : i < args.length := by
    have := (List.getElem?_eq_some_iff.mp e).1
    simpa [letA] using this
  obtain ⟨T, v, tk, h1, h2, o, h3, h4⟩ := J.at_ i hi
  have hg : args.getD i (none, 0) = args[i] := by simp [hi]
  have ea : a = (letter args[i].1, args[i].2) := by
    simp [letA, hi] at e; exact e.symm
  subst ea
  rw [hg] at h2 h4
  exact ⟨T, v, tk, h1, h2, h4 h (hn _ h3)⟩
section
variable {w : World} {A A₀ : Around} {s : Shared} {base g : Heap} {outer : List Env} {L : Addr} {m mg mb : Str → Option Value} {mean : ExcName → Option Value} {env : Env}
  {Q : Value → Shared → Prop} {E : Value → Shared → Prop}
inductive JLt (w : World) (P1 D1 P2 R1 R2 : Addr) (op2 : Obj) (rv1' rv2' : List Value) (p1 : List (Str × Nat)) (i : Nat) (m₁ : Str → Option Value) (led : List (Addr × Obj)) : Prop
  | mk (od : Obj) (gvs : List (Str × Value)) (h1 : m₁ (Str.ofString "places") = some (.ref P1)) (h2 : m₁ (Str.ofString "due") = some (.ref D1)) (h3 : m₁ (Str.ofString "others") = some (.ref P2)) (h4 : m₁ (Str.ofString "rest") = some (.ref R1)) (h5 : m₁ (Str.ofString "rest_again") = some (.ref R2)) (h6 : led = [(D1, od), (P2, op2), (R2, LCg.lst rv2'), (R1, LCg.lst rv1')]) (h7 : od.IsDictOf (strKind PySem.Challenge.rw_ov0042_01.row.prog w) gvs) (h8 : IntK gvs (dueOf (p1.take i))) : JLt w P1 D1 P2 R1 R2 op2 rv1' rv2' p1 i m₁ led
theorem same_letter_spec {fa aa : Addr} {fvs avs : List Value} {formals : List Str} {args : List Entry} (Z : At w A s 30 200 A₀ base g env outer L m mg mb mean)
   (XB : (Mine.hd.heap_39 w.params).In base) (TB : Top Mine.hd.view_39 (looseW Mine.hd.view_39 [Str.ofString "match_names"]) mean mg mb base)
   (hf : s.heap.IsList fa fvs.toArray) (hF : StrsV fvs formals) (ha : s.heap.IsList aa avs.toArray) (hA : ArgsIs s.heap avs args)
   (hl1 : args.length ≤ 20) (hl2 : formals.length ≤ 20) (hfl : ∀ x ∈ formals, x.length ≤ 90) (hal2 : ∀ a ∈ args, ∀ t, a.1 = some t → t.length ≤ 90)
   (H : LetterH formals args)
   (hQ : ∀ h' tk', Upd (fsOf (env :: outer)) [] s.heap h' → Q (.bool true) { s with heap := h', toks := tk' }) :
   wpAny (model PySem.Challenge.rw_ov0042_01.row.prog w) A (call (.ref 175) [.ref fa, .ref aa]) Q E s := by
  have hX := Z.X; revert hX; k_fill; intro hX
  refine wpAny_call ?_
  refine enter (led := []) (binds := [(Str.ofString "formals", .ref fa), (Str.ofString "args", .ref aa)]) Z News.nil rfl rfl (by decide) (BindsTo.of_eq rfl) (locs rfl) (fun G L' h₁ F' N' B' X' T' hG hG2 hL hlt => ?_) rfl rfl rfl (by decide)
  have hG0 : ∀ b o, s.heap.get? b = some o → G.get? b = some o := fun b o e => hG b o e (by simp)
  have haG : G.IsList aa avs.toArray := by
    obtain ⟨o, ho, r⟩ := ha
    exact ⟨o, hG0 aa o ho, r⟩
  have hfG : G.IsList fa fvs.toArray := by
    obtain ⟨o, ho, r⟩ := hf
    exact ⟨o, hG0 fa o ho, r⟩
  have hAG : ArgsIs G avs args := hA.keeps hG0
  have hh := Z.hh
  have hal := hA.len
  have hfll := hF.len
  clear hf ha hA
  dsimp only
  show wpAny _ _ _ _ _ _
  k_fold
  k_steps
  all_goals (try unfold Halt)
  rename Fr _ _ _ _ => F4
  rename News _ _ _ _ => N4
  refine answer_any (at_in Z B' F4 X' T' (by decide) (by decide) rfl) XB TB (isList_G F4 hfG) hF (isList_G F4 haG) (hAG.keeps F4.keep) hl1 hl2 (fun x hx => Nat.le_trans (hfl x hx) (by decide)) (fun a ha t ht => Nat.le_trans (hal2 a ha t ht) (by decide)) ?_
  intro h9 tk9 T1 t1 w1 pv1 rv1 led1 HA1 U nT hled1 hT
  obtain ⟨G2, K2, F5, B5, NN⟩ := reground B' F4 U (fun b hb => fs_memC hb)
  have X5 : (Mine.hd.heap_39 w.params).In G2 := XB.keeps B5.stays
  have T5 := TB.keeps B5.stays
  have N5 : News G2 L' h9 led1 := by
    intro q hq
    obtain ⟨e1, e2⟩ := hled1 q hq
    refine ⟨e1, fun e => ?_, K2.none_ _ (kts_none F4.keep e2)⟩
    have e3 : q.1 = L' := e
    obtain ⟨o, _, _, ho, _⟩ := F4.ns
    rw [e3, ho] at e2; cases e2
  have haG2 := isList_turn K2 haG
  have hfG2 := isList_turn K2 hfG
  have hAG2 : ArgsIs G2 avs args := ⟨hAG.len, fun i a e => by obtain ⟨t, v, tk, h1, h2, h3⟩ := hAG.at_ i a e; exact ⟨t, v, tk, h1, h2, isTup_turn K2 h3⟩⟩
  clear NN N4 F4 haG hfG hAG hled1
  k_steps
  all_goals (try unfold Halt)
  rename Fr _ _ _ _ => Fz
  rename News _ _ _ _ => Nz
  refine LCg.CompSrc.base Z.hh Fz Nz hfG2 (by simp only [List.size_toArray, hfll]; exact Nat.le_trans hl2 (by decide)) ?_
  intro g'
  refine restU_ind (fun i ys news => StrsV ys (lets (formals.take i)) ∧ news = led1) _ ?_ ?_ _ 0 [] _ (Nat.zero_add _) ⟨StrsV.nil, rfl⟩
  rotate_left
  · rintro i ys news hi ⟨hys, rfl⟩ v I oI C oC D m₂ h tk E' hv hC hx F9 N9 off9 ne9
    have hi2 : i < formals.length := by simpa [hfll] using hi
    obtain ⟨t9, hv2⟩ := hF.at_ i formals[i] (by simp [hi2])
    have hv3 : v = .str formals[i] t9 := by
      rw [List.getElem?_toArray, hv2] at hv; exact (Option.some.inj hv).symm
    subst hv3
    have hnl := hfl formals[i] (List.getElem_mem hi2)
    have htk : lets (formals.take (i + 1)) = lets (formals.take i) ++ [let1 formals[i]] := by
      unfold lets
      rw [List.take_succ_eq_append_getElem hi2, List.map_append]; rfl
    generalize formals[i] = nm at *
    clear Fz Nz
    have off9' := off9
    k_steps
    all_goals (try unfold Halt)
    rename Fr _ _ _ _ => F4
    rename News _ _ _ _ => N4
    refine letter_spec (tg := some nm) (at_in Z B5 F4 X5 T5 (by decide) (by decide) rfl) ⟨t9, rfl⟩ (fun x hx => by cases hx; omega) ?_
    intro h8 tk8 v8 k8 htv8
    rw [letter_some] at htv8
    obtain ⟨t8, rfl⟩ := htv8
    have N8 := news_kept (W := []) N4 (by simp) k8
    have F8 := fr_after (W := []) F4 (by simp) k8
    refine LCg.CompEnd.intro F8 N8 _ (fun q hq => hq) off9' (.inl hfG2) ⟨?_, rfl⟩
    rw [htk]; exact hys.snoc _ _
  rintro lo news ⟨hlo, rfl⟩ LO h tk F9 N9 off1
  rw [show fvs.toArray.size = formals.length by simp [hfll], List.take_length] at hlo
  clear Fz Nz
  k_steps
  all_goals (try unfold Halt)
  rename Fr _ _ _ _ => Fz
  rename News _ _ _ _ => Nz
  refine pair_compF (ifs := []) Fz (by with_unfolding_all rfl) (by decide) (by rfl) (by decide) (by rfl) (by rfl) (by decide) ?_
  k_steps
  all_goals (try unfold Halt)
  refine ⟨aa, avs.toArray, (LO, LCg.lst lo) :: news, fun k zs nw => PairsJ args ((LO, LCg.lst lo) :: news) k zs nw, rfl, Z.hh, Fz, Nz, .inl haG2, by rw [List.size_toArray, hal]; exact Nat.le_trans hl1 (by decide), ⟨rfl, fun _ h => h, fun i hi => absurd hi (Nat.not_lt_zero _)⟩, ?_⟩
  rintro s₂ ⟨g', rfl⟩
  refine ⟨?_, ?_⟩
  · rintro k zs nw hk hJ
    have hk2 : k < args.length := by simpa [hal] using hk
    obtain ⟨T9, v9, tk9, hv9, htv9, hT9⟩ := hAG2.at_ k args[k] (by simp [hk2])
    have hit : avs.toArray[k]! = .ref T9 := by
      rw [getElem!_def, List.getElem?_toArray, hv9]
    have hxl := hal2 args[k] (List.getElem_mem hk2)
    refine ⟨v9, _, ⟨_, hit, hT9⟩, ?_⟩
    intro I oI C oC D m₂ h tk E' hC hx hx2 F9 N9 off9 ne9
    refine wpAny_tests_nil ?_
    simp only [if_true]
    have hae : args[k]? = some args[k] := by simp [hk2]
    generalize args[k] = ent at *
    clear Fz Nz
    have off9' := off9
    k_steps
    all_goals (try unfold Halt)
    rename Fr _ _ _ _ => F4
    rename News _ _ _ _ => N4
    refine letter_spec (at_in Z B5 F4 X5 T5 (by decide) (by decide) rfl) htv9 (fun x hx => Nat.le_trans (hxl x hx) (by decide)) ?_
    intro h8 tk8 v8 k8 htv8
    have N8 := news_kept (W := []) N4 (by simp) k8
    have F8 := fr_after (W := []) F4 (by simp) k8
    clear N4 F4
    k_steps
    all_goals (try unfold Halt)
    rename Fr _ _ _ _ => F4
    rename News _ _ _ _ => N4
    rename _ ∧ _ ∧ _ ∧ AllLt _ _ => l4
    refine LCg.CompEnd.intro F4 N4 (_ :: nw) (fun q hq => by
      simp only [List.mem_cons] at hq ⊢
      rcases hq with q1 | q1 | q1 | q1 | q1 <;> simp [q1]) ⟨⟨Ne.symm (Nat.ne_of_lt l4.1), Ne.symm (Nat.ne_of_lt l4.2.1), Ne.symm (Nat.ne_of_lt l4.2.2.1)⟩, off9'⟩ (.inl haG2) (hJ.step (tk := tk9) hae htv8)
  rintro zs nw D h tk hJ F9 N9 off5
  rw [show avs.toArray.size = args.length by simp [hal]] at hJ
  clear Fz Nz
  k_steps
  all_goals (try unfold Halt)
  rename Fr _ _ _ _ => F4
  rename News _ _ _ _ => N4
  refine answer_any (at_in Z B5 F4 X5 T5 (by decide) (by decide) rfl) XB TB ((lst_O lo).isList ((N4 _ (.tail _ (hJ.sub _ (.head _)))).1)) hlo ((lst_O zs).isList ((N4 _ (.head _)).1)) (hJ.is fun q hq => (N4 _ (.tail _ hq)).1) (by simpa [letA] using hl1) (by simpa [lets] using hl2)
    (fun x hx => by obtain ⟨n, hn, rfl⟩ := List.mem_map.mp hx; exact let1_len (hfl n hn)) (fun a ha t ht => by
      obtain ⟨e, he, rfl⟩ := List.mem_map.mp ha
      obtain ⟨tg, th⟩ := e
      cases tg with
      | none => cases ht
      | some x => rw [letter_some] at ht; cases ht; exact let1_len (hal2 _ he x rfl)) ?_
  intro h9 tk9 T2 t2 w2 pv2 rv2 led2 HA2 U2 nT2 hled2 hT2
  obtain ⟨G3, K3, F7, B7, NN⟩ := reground B5 F4 U2 (fun b hb => fs_memC hb)
  have X7 : (Mine.hd.heap_39 w.params).In G3 := XB.keeps B7.stays
  have T7 := TB.keeps B7.stays
  have KK := K2.trans K3
  have N7 : News G3 L' h9 (led2 ++ news) := by
    intro q hq
    rcases List.mem_append.mp hq with hq | hq
    · obtain ⟨e1, e2⟩ := hled2 q hq
      refine ⟨e1, fun e => ?_, K3.none_ _ (kts_none F4.keep e2)⟩
      have e3 : q.1 = L' := e
      obtain ⟨o, _, _, ho, _⟩ := F4.ns
      rw [e3, ho] at e2; cases e2
    · exact NN _ N4 q (.tail _ (hJ.sub q (.tail _ hq)))
  have haG3 := isList_turn K3 haG2
  have hd12 : ∀ q ∈ news, ∀ r ∈ led2, q.1 ≠ r.1 := fun q hq r hr e => by
    have a1 := (N4 q (.tail _ (hJ.sub q (.tail _ hq)))).1
    have a2 := (hled2 r hr).2
    rw [e, a2] at a1; cases a1
  clear NN N4 F4 haG2 hfG2 hAG2 hled2 hJ hlo off1 off5
  try clear F9
  try clear N9
  try clear F5
  try clear N5
  have uu : ∀ (e : Env), (A.deeper e).units < cLine := fun e => by have := Z.hu; show A.units + 3 < cLine; omega
  rcases HA1 with ⟨p1, r1, P1, R1, op1, ka, rv1', hok, rfl, rfl, rfl, rfl, hPd, hPk, lo1, hRI, hrm, hrl⟩ | ⟨herr, hml, rfl, rfl, rfl⟩
  · obtain ⟨hok2, hnd, hpl, hpk⟩ := H.ok p1 r1 hok
    rcases HA2 with ⟨p2, r2, P2, R2, op2, kb, rv2', hok2', rfl, rfl, rfl, rfl, hPd2, hPk2, lo2, hRI2, hrm2, hrl2⟩ | ⟨herr2, _⟩
    · rw [hok2] at hok2'
      obtain ⟨rfl, rfl⟩ : _ = p2 ∧ r1 = r2 := by
        injection hok2' with e; exact ⟨congrArg Prod.fst e, congrArg Prod.snd e⟩
      clear hok hok2 hok2' H hrm2 hrl2
      dsimp only [List.cons_append, List.nil_append] at N7
      have hne1 : (Str.ofString "" == Str.ofString "") = true := by decide
      k_steps
      all_goals (try unfold Halt)
      rename Fr _ _ _ _ => Fz
      rename News _ _ _ _ => Nz
      rename Obj.IsDictOf (PySem.strKind _ _) _ [] => hD0
      rename_i D1 hh1 o1 loD fs1 hi1 fi1 l1 hh2
      clear fs1 hi1 fi1
      have hPh : hh2.DictOf (strKind PySem.Challenge.rw_ov0042_01.row.prog w) P1 ka := Heap.dictOf_iff.mpr ⟨op1, Nz.get (by simp), hPd⟩
      have hPL : P1 ≠ L' := (Nz (P1, op1) (by simp)).2.1
      have hPg : G3.get? P1 = none := (Nz (P1, op1) (by simp)).2.2
      have hkl : ka.length = p1.length := by have := congrArg List.length hPk.keys; simpa using this
      have hnk : (ka.map (·.1)).Nodup := by obtain ⟨_, _, _, _, _, _, _, _, hn⟩ := hPh; exact hn
      have hPD : P1 ≠ D1 := fun e => Nat.ne_of_lt l1.2.2.1 e
      have hPP : P1 ≠ P2 := hd12 (P1, op1) (.head _) (P2, op2) (.head _)
      have hPR2 : P1 ≠ R2 := hd12 (P1, op1) (.head _) (R2, LCg.lst rv2') (.tail _ (.head _))
      have hPR1 : P1 ≠ R1 := fun e => by
        have a1 := (Nz (P1, op1) (by simp)).1
        have a2 := (Nz (R1, LCg.lst rv1') (by simp)).1
        rw [e] at a1
        rw [a1] at a2
        exact dict_lst hPd (Option.some.inj a2)
      have N0 := news_sub (l := [(D1, o1), (P2, op2), (R2, LCg.lst rv2'), (R1, LCg.lst rv1')]) Nz (by walk_at "memall")
      refine loop_names (JLt w P1 D1 P2 R1 R2 op2 rv1' rv2' p1) Z.hh lo1 hPh hPL (by simpa using ⟨hPD, hPP, hPR2, hPR1⟩) Fz N0 ?_ ?_ ?_
      · exact ⟨o1, [], rfl, rfl, rfl, rfl, rfl, rfl, hD0, IntK.nil⟩
      · rintro i k v t m₁ news₁ h tk own hk _ hoff hown ⟨od, gvs, hm1, hm2, hm3, hm4, hm5, rfl, hod, hgi⟩ F₁ N₁
        simp only [List.map_cons, List.map_nil] at hoff
        dsimp only [List.cons_append, List.nil_append] at N₁
        obtain ⟨od1, hod1, hod2⟩ := hown hPg
        have hPh2 : h.DictOf (strKind PySem.Challenge.rw_ov0042_01.row.prog w) P1 ka := Heap.dictOf_iff.mpr ⟨od1, N₁.get (by simp [hod1]), hod2⟩
        have hi : i < p1.length := by
          have := (List.getElem?_eq_some_iff.mp hk).1
          omega
        obtain ⟨tp, hk'⟩ := hPk.at_ i p1[i] (by simp [hi])
        rw [hk] at hk'
        have hva := valueAt_at hnk hk
        obtain ⟨e1, e2⟩ : k = p1[i].1 ∧ v = .int (p1[i].2 : Int) tp := by
          have := Option.some.inj hk'
          exact ⟨congrArg Prod.fst this, congrArg Prod.snd this⟩
        have hpl9 := hpk p1[i] (List.getElem_mem hi)
        have htk : dueOf (p1.take (i + 1)) = dueOf (p1.take i) ++ [(let1 p1[i].1, (p1[i].2 : Int))] := by
          unfold dueOf
          rw [List.take_succ_eq_append_getElem hi, List.map_append]; rfl
        have hnew : let1 p1[i].1 ∉ (dueOf (p1.take i)).map (·.1) := by
          intro hm
          simp only [dueOf, List.map_map] at hm
          obtain ⟨q, hq, e⟩ := List.mem_map.mp hm
          have hsplit : (p1.map fun q => let1 q.1) = ((p1.take i).map fun q => let1 q.1) ++ ((p1.drop i).map fun q => let1 q.1) := by rw [← List.map_append, List.take_append_drop]
          have hnp := hnd
          rw [hsplit] at hnp
          have hd := (List.nodup_append.mp hnp).2.2
          refine hd (let1 q.1) (List.mem_map.mpr ⟨q, hq, rfl⟩) (let1 p1[i].1) (List.mem_map.mpr ⟨p1[i], ?_, rfl⟩) e
          rw [List.drop_eq_getElem_cons hi]; exact .head _
        have hgl : gvs.length ≤ 1000 := by
          rw [hgi.len]; simp only [dueOf, List.length_map, List.length_take]; omega
        subst e1 e2
        generalize p1[i] = q at *
        obtain ⟨nm, pl⟩ := q
        dsimp only at *
        clear Fz Nz N0 hk hk' hPh
        k_steps
        all_goals (try unfold Halt)
        rename Fr _ _ _ _ => F4
        rename News _ _ _ _ => N4
        refine letter_spec (tg := some nm) (at_in Z B7 F4 X7 T7 (by decide) (by decide) rfl) ⟨_, rfl⟩ (fun x hx => by cases hx; omega) ?_
        intro h8 tk8 v8 k8 htv8
        rw [letter_some] at htv8
        obtain ⟨t8, rfl⟩ := htv8
        have N8 := news_kept (W := []) N4 (by simp) k8
        have F8 := fr_after (W := []) F4 (by simp) k8
        clear N4 F4
        k_steps
        all_goals (try unfold Halt)
        rename Fr _ _ _ _ => F4
        rename News _ _ _ _ => N4
        rename Obj.IsDictOf _ _ (stored _ _ _) => hd4
        exact InvEndN.intro F4 N4 ⟨_, _, hm1, hm2, hm3, hm4, hm5, rfl, hd4, by rw [htk]; exact hgi.snoc hnew pl _⟩ rfl (by walk_at "memall") (fun q hq => by simp [hq])
      · rintro m₁ news₁ h tk _ ⟨od, gvs, hm1, hm2, hm3, hm4, hm5, rfl, hod, hgi⟩ F₁ N₁
        rw [hkl, List.take_length] at hgi
        clear Fz Nz N0 hPh
        dsimp only
        k_steps
        all_goals (try unfold Halt)
        have hkb := hPk2.intK
        rw [List.map_map] at hkb
        refine given_eq lo2 loD (Heap.dictOf_iff.mpr ⟨op2, N₁.get (by simp), hPd2⟩) (Heap.dictOf_iff.mpr ⟨od, N₁.get (by simp), hod⟩) hkb hgi (same_refl (by simpa [dueOf, Function.comp_def] using hnd)) (uu _) ?_
        k_steps
        all_goals (try unfold Halt)
        refine eq_ints ((lst_O _).isList (N₁.get (by simp))) ((lst_O _).isList (N₁.get (by simp))) hRI2 hRI (uu _) ?_
        k_steps
        all_goals (try unfold Halt)
        exact hQ _ _ (upd_of_turn hG0 KK F₁.keep)
    · rw [hok2] at herr2; cases herr2
  · obtain ⟨w2', herr2, HW⟩ := H.err w1 herr
    rcases HA2 with ⟨p2, r2, P2, R2, op2, kb, rv2', hok2', rfl, rfl, rfl, rfl, hPd2, hPk2, lo2, hRI2, hrm2, hrl2⟩ | ⟨herr2', hml2, rfl, rfl, rfl⟩
    · rw [herr2] at hok2'; cases hok2'
    · rw [herr2] at herr2'
      obtain rfl : w2' = w2 := by injection herr2'
      have hne1 := HW.ne1
      dsimp only [List.nil_append] at N7
      rcases HW.ways with ⟨c1, c2⟩ | ⟨c1, c2, c3⟩ | ⟨c1, c2, c3, c4, c5⟩
      · k_steps
        all_goals (try unfold Halt)
        refine in_str ?_
        rw [c1]
        k_steps
        all_goals (try unfold Halt)
        have hq1 : (Str.ofString "\"").length = 1 := by decide
        have hq2 : (Str.ofString "\"q").length = 2 := by decide
        refine replace1 (by simp) (by simp) (by simp) (by decide) (by rw [hq1]; rfl) (by simpa using c1) c2 (by rw [hq2]; omega) (by rw [sizeLine_eq]; omega) ?_
        intro t6 tk6
        have hww : (w2' == w2') = true := by simp
        k_steps
        all_goals (try unfold Halt)
        rename Fr _ _ _ _ => F4
        exact hQ _ _ (upd_of_turn hG0 KK F4.keep)
      · subst c3
        have hww : (w2' == w2') = true := by simp
        k_steps
        all_goals (try unfold Halt)
        refine in_str ?_
        rw [c1]
        k_steps
        all_goals (try unfold Halt)
        refine SC.startswith ?_
        rw [c2]
        k_steps
        all_goals (try unfold Halt)
        rename Fr _ _ _ _ => F4
        exact hQ _ _ (upd_of_turn hG0 KK F4.keep)
      · k_steps
        all_goals (try unfold Halt)
        refine in_str ?_
        rw [c1]
        k_steps
        all_goals (try unfold Halt)
        refine SC.startswith ?_
        rw [c2]
        k_steps
        all_goals (try unfold Halt)
        obtain ⟨sa, sb1, sb2, hs1, hs2⟩ := c4
        have hp1 : ((Str.ofString "(").length == 0) = false := by decide
        have hp2 : ((Str.ofString ", ").length == 0) = false := by decide
        rename Fr _ _ _ _ => Fz
        rename News _ _ _ _ => Nz
        refine splitN1 Fz Nz hp1 ?_ (by rw [sizeLine_eq]; omega)
        intro l1 h3 k3 e3 F3 N3
        rw [hs2] at e3
        obtain ⟨ta, r1, rfl⟩ : ∃ ta r1, l1 = (sa, ta) :: r1 := by
          cases l1 with
          | nil => cases e3
          | cons p r =>
            obtain ⟨x, t⟩ := p
            have := (List.cons.inj e3).1
            dsimp only at this
            subst this
            exact ⟨t, r, rfl⟩
        clear Fz Nz
        k_steps
        all_goals (try unfold Halt)
        refine tail_L (seq_isList (vs := strValues ((sa, ta) :: r1)) N3) (by decide) (by decide) rfl ?_ (by with_unfolding_all rfl)
        k_steps
        all_goals (try unfold Halt)
        refine splitN1 F3 News.nil hp1 ?_ (by rw [sizeLine_eq]; omega)
        intro l2 h4 k4 e4 F4 N4
        rw [hs1] at e4
        obtain ⟨tb, r2, rfl⟩ : ∃ ta r1, l2 = (sa, ta) :: r1 := by
          cases l2 with
          | nil => cases e4
          | cons p r =>
            obtain ⟨x, t⟩ := p
            have := (List.cons.inj e4).1
            dsimp only at this
            subst this
            exact ⟨t, r, rfl⟩
        clear F3 N3
        k_steps
        all_goals (try unfold Halt)
        refine tail_L (seq_isList (vs := strValues ((sa, tb) :: r2)) N4) (by decide) (by decide) rfl ?_ (by with_unfolding_all rfl)
        have hss : (sa == sa) = true := by simp
        k_steps
        all_goals (try unfold Halt)
        refine splitN1 F4 News.nil hp2 ?_ (by rw [sizeLine_eq]; omega)
        intro l3 h5 k5 e5 F5 N5
        clear F4 N4
        k_steps
        all_goals (try unfold Halt)
        refine len_L (seq_isList (vs := strValues l3) N5) (n := (Txt.split w2' (Str.ofString ", ")).length) (by rw [← e5]; simp [strValues]) (by rw [c5]; exact split_le hml) ?_
        intro t7 tk7
        k_steps
        all_goals (try unfold Halt)
        refine splitN1 F5 News.nil hp2 ?_ (by rw [sizeLine_eq]; omega)
        intro l4 h6 k6 e6 F6 N6
        clear F5 N5
        k_steps
        all_goals (try unfold Halt)
        refine len_L (seq_isList (vs := strValues l4) N6) (n := (Txt.split w2' (Str.ofString ", ")).length) (by rw [c5, ← e6]; simp [strValues]) (by rw [c5]; exact split_le hml) ?_
        intro t8 tk8
        k_steps
        all_goals (try unfold Halt)
        have hfin : ∀ (a b : Int) (S : Shared), a = b → Q (.bool true) S → Q (.bool (a == b)) S := fun a b S e hq => by
          rw [e, show (b == b) = true from beq_self_eq_true b]; exact hq
        exact hfin _ _ _ (by first | with_reducible rfl | (rw [c5]) | (rw [← c5])) (hQ _ _ (upd_of_turn hG0 KK F6.keep))
end
end Mine
end
section
open PySem PySem.W PySem.Calls PyProof.Rows
set_option maxRecDepth 100000
set_option maxHeartbeats 3000000
namespace Mine
theorem say_MAll_33 : True := by
  k_with_none
  exact trivial
theorem upd_of_turnW {fs W : List Addr} {h0 G G' h' : Heap} (hG0 : ∀ b o, h0.get? b = some o → b ∉ W → G.get? b = some o) (K : KtsTurn fs G G') (k : ∀ b o, G'.get? b = some o → h'.get? b = some o) : Upd fs W h0 h' := fun b o eb hW => by
  by_cases hb : b ∈ fs
  · obtain ⟨sl, e1⟩ := K.frame b o (hG0 b o eb hW) hb
    exact ⟨sl, k _ _ e1, fun n => absurd hb n⟩
  · exact ⟨o.slots, k _ _ (K.other b o (hG0 b o eb hW) hb), fun _ => rfl⟩
section
variable {w : World} {A A₀ : Around} {s : Shared} {base g : Heap} {outer : List Env} {L : Addr} {m mg mb : Str → Option Value} {mean : ExcName → Option Value} {env : Env}
  {Q : Value → Shared → Prop} {E : Value → Shared → Prop}
theorem say_MAll_34 : True := by
  k_with_none
  (k_with "call ref" => (k_here; (with_reducible show wpAny _ _ (call (Value.ref _) _ _) _ _ _); refine halt ?_))
  (k_with "subscriptTail" => (k_here; (with_reducible show wpAny _ _ (subscriptTail _ _ (Value.ref _) (Value.int _ _)) _ _ _); k_dflt (refine' tail_L (by exact isList_G (by k_asm) (by assumption)) (by omega) (by omega) (by assumption) ?_ (by with_unfolding_all rfl);  k_whole)))
  (k_with "subscriptTail" => (k_here; (with_reducible show wpAny _ _ (subscriptTail _ _ (Value.ref _) (Value.int _ _)) _ _ _); k_dflt (refine' tail_L (by exact LstO.isList (by assumption) (News.get (by k_asm) (by k_mem))) (by omega) (by omega) (by assumption) ?_ (by with_unfolding_all rfl);  k_whole)))
  (k_with "eval Name" => (k_here; k_dflt (refine' nameX_L (by k_asm) (by first | rfl | assumption) ?_ (by rfl) (by rfl);  k_whole)))
  (k_with "own iter" => ((with_reducible show wpAny _ _ (pyIter (Value.ref _)) (fun it s₂ => LoopAtV _ _ _ _ _ _ _ _ _ it s₂) _ _); refine halt ?_))
  (k_with "InvEndN" => (refine halt ?_))
  (k_with "compareOp NotIn str ref" => (k_dflt (refine' notIn_Db (by k_asm) (by k_mem) (by assumption) (by assumption) (by exact PlacesK.isSome (by assumption) _) ?_;  k_whole)))
  (k_with "compareOp In str ref" => (k_dflt (refine' in_Db (by k_asm) (by k_mem) (by assumption) (by assumption) (by exact PlacesK.isSome (by assumption) _) ?_;  k_whole)))
  (k_with "call builtin:len" => (k_here; k_dflt (refine' len_L (by exact isList_G (by k_asm) (by assumption)) (by first | assumption | exact TagsAre.len (by assumption) | exact IntsV.len (by assumption) | exact StrsV.len (by assumption)) (by omega) ?_); intro _ _))
  (k_with "setItem" => (k_here; (with_reducible show wpAny _ _ (setItem (Value.ref _) (Value.str _ _) _) _ _ _); k_dflt (refine' set_D (by k_asm) (by k_asm) (by k_updF) (by assumption) (by first | decide | omega) ?_;  k_whole); intro _ _ _ _ _))
  (k_with "setItem" => (k_here; (with_reducible show wpAny _ _ (setItem (Value.ref _) (Value.int _ _) _) _ _ _); k_dflt (refine' set_L (by k_asm) (by k_asm) (by k_updF) (by assumption) (by omega) (by omega) (by omega) ?_;  k_whole); intro _ _ _ _ _))
  (k_with "loadName" => (k_here; k_dflt (refine' ldn (by k_asm) (by first | rfl | assumption) ?_ (by rfl) (by rfl);  k_whole)))
  (k_with "memall" => ((repeat (refine List.forall_mem_cons.mpr ⟨by k_mem, ?_⟩)); exact List.forall_mem_nil _))
  (k_with "exec Raise Call" => (refine halt ?_))
  (k_with "exec Raise" => (refine halt ?_))
  (k_with "assign Tuple" => (k_here; (with_reducible show wpAny _ _ (assign (Expr.Tuple _ _ _) _ (Value.ref _)) _ _ _); k_dflt (refine' unpackN_ (by k_asm) (by k_asm) (by first | assumption | exact IsTup.keeps (by assumption) (Fr.keep (by k_asm))) (by assumption) (by exact rfl) (by exact rfl) ?_); intro _ _ _))
  (k_with "call builtin:len" => (k_here; k_dflt (refine' len_L (by exact LstO.isList (lst_O _) (News.get (by k_asm) (by k_mem))) (by first | assumption | exact IntsV.len (by assumption) | exact StrsV.len (by assumption)) (by omega) ?_); intro _ _))
  (k_with "subscriptTail" => (k_here; (with_reducible show wpAny _ _ (subscriptTail _ _ (Value.ref _) (Value.int _ _)) _ _ _); k_dflt (refine' item_tupleL (by exact IsTup.keeps (by assumption) (Fr.keep (by k_asm))) (by decide) (by decide) (by rfl) (by rfl) ?_;  k_whole)))
  (k_with "CompSrcT" => (refine halt ?_))
  (k_with "CompSrc" => (refine halt ?_))
  (k_with "CompEnd" => (refine halt ?_))
  (k_with "compareOp Eq str str" => (k_here; k_dflt (refine' eq_strb (by assumption) ?_;  k_whole)))
  (k_with "compareOp NotEq str str" => (k_here; k_dflt (refine' ne_strb (by assumption) ?_;  k_whole)))
  (k_with "call type:list" => (k_here; (with_reducible show wpAny _ _ (call (Value.type _) [Value.ref _]) _ _ _); k_dflt (refine' list_copyK (by k_asm) (by k_asm) (by exact isList_G (by k_asm) (by assumption)) ?_ (by assumption);  k_whole); intro _ _ _ _ _ _))
  (k_with "compareOp NotEq ref ref" => (refine halt ?_))
  (k_with "compareOp Eq ref ref" => (refine halt ?_))
  (k_with "eval ListComp" => (k_here; (with_reducible show wpAny _ _ (eval (Expr.ListComp _ (Comprehension.mk (Expr.Tuple _ _ _) _ _ _ :: _) _ _) _) _ _ _); refine halt ?_))
  (k_with "call builtin:sorted" => (refine halt ?_))
  (k_with "PairSrc" => (refine halt ?_))
  (k_with "lmem" => (first | exact .head _ | exact .tail _ (.head _) | exact .tail _ (.tail _ (.head _)) | exact .tail _ (.tail _ (.tail _ (.head _)))))
  exact trivial
theorem all_spec {ρ : Int → Addr} {fa aa j c : Addr} {at_ : Int} {vs fvs : List Value} {cells : List Int} {formals : List Str} {args : List Entry} (Z : At w A s 35 300 A₀ base g env outer L m mg mb mean)
   (XB : (Mine.hd.heap_39 w.params).In base) (TB : Top Mine.hd.view_39 (looseW Mine.hd.view_39 [Str.ofString "match_names"]) mean mg mb base)
   (hj : JarFine w s.heap j c at_) (hjL : j ≠ L) (hjg : g.get? j = none) (hc : s.heap.IsList c vs.toArray) (hcj : c ≠ j) (hI : IntsAre vs cells) (hcl : 0 < cells.length) (hcl2 : cells.length ≤ 40) (h1 : 0 ≤ at_) (h2 : at_ ≤ 50000)
   (hf : s.heap.IsList fa fvs.toArray) (hfj : fa ≠ j) (hF : StrsV fvs formals) (ha : s.heap.IsList aa (refsOf ρ args).toArray) (haj : aa ≠ j) (hA : ArgsBy ρ s.heap args)
   (hl1 : args.length ≤ 20) (hl2 : formals.length ≤ 20) (hfl : ∀ x ∈ formals, x.length ≤ 90) (hal2 : ∀ a ∈ args, ∀ t, a.1 = some t → t.length ≤ 90)
   (HS : ∀ mixed, mixed.Perm args → mixed.filter bareE = args.filter bareE → SameH formals args mixed) (HL : LetterH formals args)
   (hQ : ∀ h' tk' at', Upd (fsOf (env :: outer)) [j] s.heap h' → JarFine w h' j c at' → at_ ≤ at' → at' ≤ at_ + 40 → Q (.bool true) { s with heap := h', toks := tk' }) :
   wpAny (model PySem.Challenge.rw_ov0042_01.row.prog w) A (call (.ref 182) [.ref j, .ref fa, .ref aa]) Q E s := by
  have hX := Z.X; revert hX; k_fill; intro hX
  obtain ⟨held, hd1, hd2, hja⟩ := hj
  obtain ⟨t2, t3, hjd⟩ := hja
  obtain ⟨oj, hoj, hdj⟩ := Heap.dictOf_iff.mp hjd
  have N : News g L s.heap [(j, oj)] := fun p hp => by
    rcases List.mem_singleton.mp hp with rfl
    exact ⟨hoj, hjL, hjg⟩
  refine wpAny_call ?_
  refine enter (led := [(j, oj)]) (binds := [(Str.ofString "jar", .ref j), (Str.ofString "formals", .ref fa), (Str.ofString "args", .ref aa)]) Z N rfl rfl (by decide) (BindsTo.of_eq rfl) (locs rfl) (fun G L' h₁ F' N' B' X' T' hG hG2 hL hlt => ?_) rfl rfl rfl (by decide)
  have hG0 : ∀ b o, s.heap.get? b = some o → b ∉ [j] → G.get? b = some o := fun b o e n => hG b o e (by simpa using n)
  have haG : G.IsList aa (refsOf ρ args).toArray := by
    obtain ⟨o, ho, r⟩ := ha
    exact ⟨o, hG0 aa o ho (by simpa using haj), r⟩
  have hfG : G.IsList fa fvs.toArray := by
    obtain ⟨o, ho, r⟩ := hf
    exact ⟨o, hG0 fa o ho (by simpa using hfj), r⟩
  have hcG : G.IsList c vs.toArray := by
    obtain ⟨o, ho, r⟩ := hc
    exact ⟨o, hG0 c o ho (by simpa using hcj), r⟩
  have hAG : ArgsBy ρ G args := ⟨fun a e => by
    obtain ⟨v, tk, h1, o, ho, hc', n, hd'⟩ := hA.at_ a e
    refine ⟨v, tk, h1, o, hG0 _ o ho (fun q => ?_), hc', n, hd'⟩
    rw [List.mem_singleton.mp q, hoj] at ho; cases ho
    obtain ⟨es, ep, _, hd2, _⟩ := hdj
    rw [hd'] at hd2; cases hd2⟩
  have hh := Z.hh
  clear ha hf hc hA
  dsimp only
  show wpAny _ _ _ _ _ _
  k_fold
  k_steps
  all_goals (try unfold Halt)
  rename Fr _ _ _ _ => F4
  rename News _ _ _ _ => N4
  refine mixed_spec (ρ := ρ) (args := args) (at_ := at_) (at_in Z B' F4 X' T' (by decide) (by decide) rfl) ⟨held, hd1, hd2, t2, t3, Heap.dictOf_iff.mpr ⟨oj, N4.get (by simp), hdj⟩⟩ (N4 _ (.head _)).2.1 (N4 _ (.head _)).2.2 (isList_G F4 hcG) hcj hI hcl hcl2 h1 h2 (isList_G F4 haG) haj (hAG.keeps F4.keep) hl1 ?_
  intro h9 tk9 M n mixed at' k9 hjf ha1 ha2 nM hM hperm hbare
  have hjf0 := hjf
  obtain ⟨held', hd1', hd2', t2', t3', hjd'⟩ := hjf0
  obtain ⟨oj', hoj', hdj'⟩ := Heap.dictOf_iff.mp hjd'
  have N5 : News G L' h9 [(j, oj')] := news_updj N4 ⟨_, .head _⟩ k9 hoj' (fun p hp => .inl (List.mem_singleton.mp hp))
  have N6 := news_add F4 N5 hM nM
  have F6 := fr_led F4 N4 k9 (fun b hb => by rcases List.mem_singleton.mp hb with rfl; exact ⟨_, .head _⟩)
  clear N4 F4 N5 hM nM k9
  have hMG : ArgsBy ρ G mixed := hAG.sub fun a ha => hperm.mem_iff.mp ha
  have hml : mixed.length ≤ 20 := by rw [hperm.length_eq]; exact hl1
  have hmal : ∀ a ∈ mixed, ∀ t, a.1 = some t → t.length ≤ 90 := fun a ha => hal2 a (hperm.mem_iff.mp ha)
  k_steps
  all_goals (try unfold Halt)
  rename Fr _ _ _ _ => F4
  rename News _ _ _ _ => N4
  have w90 : ∀ {l : List Entry}, (∀ a ∈ l, ∀ t, a.1 = some t → t.length ≤ 90) → ∀ a ∈ l, ∀ t, a.1 = some t → t.length ≤ 100 := fun h a ha t ht => Nat.le_trans (h a ha t ht) (by decide)
  refine same_spec (at_in Z B' F4 X' T' (by decide) (by decide) rfl) XB TB (isList_G F4 hfG) hF (isList_G F4 haG) (hAG.keeps F4.keep) ⟨_, (N4 _ (.head _)).1, rfl, _, rfl⟩ (hMG.keeps F4.keep) hl1 hml hl2 (fun x hx => Nat.le_trans (hfl x hx) (by decide)) (w90 hal2) (w90 hmal) (HS mixed hperm hbare) ?_
  intro h10 tk10 U
  obtain ⟨G2, K2, F5, B5, NN⟩ := reground B' F4 U (fun b hb => fs_memC hb)
  have N7 := NN _ N4
  have X5 : (Mine.hd.heap_39 w.params).In G2 := XB.keeps B5.stays
  have T5 := TB.keeps B5.stays
  have haG2 := isList_turn K2 haG
  have hfG2 := isList_turn K2 hfG
  have hAG2 := hAG.turn K2
  clear NN N4 F4 haG hfG hAG hMG
  try clear F6
  try clear N6
  k_steps
  all_goals (try unfold Halt)
  rename Fr _ _ _ _ => F4
  rename News _ _ _ _ => N4
  refine same_letter_spec (at_in Z B5 F4 X5 T5 (by decide) (by decide) rfl) XB TB (isList_G F4 hfG2) hF (isList_G F4 haG2) (hAG2.keeps F4.keep).is hl1 hl2 hfl hal2 HL ?_
  intro h11 tk11 U2
  obtain ⟨G3, K3, F7, B7, NN⟩ := reground B5 F4 U2 (fun b hb => fs_memC hb)
  have N8 := NN _ N4
  have KK := K2.trans K3
  clear NN N4 F4
  k_steps
  all_goals (try unfold Halt)
  refine hQ _ _ at' (upd_of_turnW hG0 KK F7.keep) ⟨held', hd1', hd2', t2', t3', Heap.dictOf_iff.mpr ⟨oj', N8.get (by simp), hdj'⟩⟩ ha1 ha2
end
end Mine
end
section
open PySem PySem.W PySem.Calls PyProof.Rows
set_option maxRecDepth 100000
set_option maxHeartbeats 2000000
namespace Mine
/-- a turn's end, where the ledger may have grown -/
noncomputable def GrowPost (g : Heap) (L : Addr) (J : (Str → Option Value) → List (Addr × Obj) → Prop) (own : List (Addr × Obj)) (I : Addr) (s₁ : Shared) (f : Flow) (s₂ : Shared) : Prop :=
  f = .next ∧ ∃ h' tk m' news' nx, s₂ = { s₁ with heap := h', toks := tk } ∧ Fr g L h' m' ∧ News g L h' news' ∧ (∀ p ∈ nx, p ∈ news') ∧ (∀ p ∈ own, p ∈ news') ∧ (∀ p ∈ nx, p.1 ≠ I) ∧ J m' nx
section
variable {prog : Program} {w : World} {A : Around} {E : Value → Shared → Prop} {s : Shared} {env : Env} {g : Heap} {x : Str} {body : List Stmt} {Q : Flow → Shared → Prop}
theorem GrowPost.intro {L : Addr} {J : (Str → Option Value) → List (Addr × Obj) → Prop} {own news' nx : List (Addr × Obj)} {I : Addr} {s₁ : Shared} {h' : Heap} {tk : Nat} {m' : Str → Option Value} (F : Fr g L h' m') (N : News g L h' news') (h1 : ∀ p ∈ nx, p ∈ news') (h2 : ∀ p ∈ own, p ∈ news') (h3 : ∀ p ∈ nx, p.1 ≠ I) (hj : J m' nx) :
    GrowPost g L J own I s₁ .next { s₁ with heap := h', toks := tk } := ⟨rfl, h', tk, m', news', nx, rfl, F, N, h1, h2, h3, hj⟩
theorem loop_rangeG {r : Addr} {n : Nat} {t₀ u₀ v₀ : Tok} {m₀ : Str → Option Value} {news : List (Addr × Obj)} (J : Nat → (Str → Option Value) → List (Addr × Obj) → Prop)
    (hh : A.handled = none) (hr : IsRange s.heap r 0 n 1 t₀ u₀ v₀) (hn : n ≤ 100000) (F : Fr g env.locals s.heap m₀) (N : News g env.locals s.heap news) (hj : J 0 m₀ news)
    (turn : ∀ i t m₁ news₁ h tk own I, i < n → (∀ p ∈ news₁, p.1 ≠ I) → (∀ p ∈ own, p.1 = I) → (∃ oI, (I, oI) ∈ own) → J i m₁ news₁ → Fr g env.locals h (fun y => if y = x then some (.int (i : Int) t) else m₁ y) → News g env.locals h (news₁ ++ own) →
      wpAny (model prog w) A (execs body env) (GrowPost g env.locals (J (i + 1)) own I { s with heap := h, toks := tk }) E { s with heap := h, toks := tk })
    (done : ∀ m₁ news₁ h tk, J n m₁ news₁ → Fr g env.locals h m₁ → News g env.locals h news₁ → Q .next { s with heap := h, toks := tk }) :
    wpAny (model prog w) A (pyIter (.ref r)) (fun it s₂ => LoopAtV prog w A g env x body Q E it s₂) E s := by
  have hsmall : Builtin.Range.small 0 (n : Int) 1 = true := small_one (by decide) (by decide) (by omega) (by omega)
  have hsz : Builtin.Range.rangeSize 0 (n : Int) 1 = (n : Int) := by rw [rangeSize_nat]; omega
  have hL := F.ns.lt
  refine wpAny_pyIter_range hr hsmall ?_
  have hIg : g.get? s.heap.objs.size = none := next_is_new F
  have hIL : s.heap.objs.size ≠ env.locals := Nat.ne_of_gt hL
  refine ⟨s.heap.objs.size, [s.heap.objs.size], [s.heap.objs.size], n, _, _, m₀, news, J, rfl, Walks.range (prog := prog) (w := w) hh s.heap.objs.size 0 1 n, ?_, ?_, ?_, ?_, F.push _, fun p hp => ⟨Heap.get?_push_of_some _ (N p hp).1, (N p hp).2⟩, hj, ?_, ?_⟩
  · intro hm; exact hIL (List.mem_singleton.mp hm).symm
  · intro b hb; rw [List.mem_singleton.mp hb]; exact hIg
  · intro p hp hq; exact Nat.ne_of_lt (Heap.lt_size (N p hp).1) (List.mem_singleton.mp hq)
  · show IsRangeIter _ _ _ _ _
    rw [hsz]; simpa using Heap.get?_push_size _ rfl
  · rintro i v m₁ news₁ s₁ own ⟨h, tk, rfl⟩ hi ⟨t, hv⟩ hJ hoff hown _ hcov hst F₁ N₁
    have hvi : v = .int (i : Int) t := by rw [hv]; simp
    subst hvi
    have N₂ : News g env.locals h (news₁ ++ own) := fun p hp => N₁ p ((List.mem_append.mp hp).elim (List.mem_append_right _) (List.mem_append_left _))
    have hex : ∃ oI, (s.heap.objs.size, oI) ∈ own := by
      obtain ⟨o, e⟩ : ∃ o, h.get? s.heap.objs.size = some o := by
        have hst' : IsRangeIter h _ _ _ _ := hst
        exact ⟨_, hst'⟩
      exact ⟨o, hcov _ (.head _) hIg o e⟩
    refine wpAny_mono (turn i t m₁ news₁ h tk own s.heap.objs.size hi (fun p hp e => hoff p hp (List.mem_singleton.mpr e)) (fun p hp => List.mem_singleton.mp (hown p hp)) hex hJ F₁ N₂) (fun f s₂ p => ?_) fun _ _ e => e
    obtain ⟨rfl, h', tk', m', news', nx, e, F', N', hn', ho, ha, hm⟩ := p
    exact .next ⟨rfl, h', tk', m', nx, e, F', fun p hp => N' p ((List.mem_append.mp hp).elim (ho p) (hn' p)), fun p hp hq => ha p hp (List.mem_singleton.mp hq), hm⟩
  · rintro h' tk m' news' F' N' _ hJ
    exact done m' news' h' tk hJ F' N'
end
end Mine
end
section
open PySem PyProof.Rows PySem.Builtin PySem.Builtin.Str
set_option maxRecDepth 100000
set_option maxHeartbeats 400000
namespace Mine
noncomputable def nsep : List Nat → Nat
  | a :: b :: r => (if a = 44 ∧ b = 32 then 1 else 0) + nsep (b :: r)
  | _ => 0
theorem nsep_pre : ∀ (A B : List Nat), 44 ∉ A → nsep (A ++ B) = nsep B
  | [], _, _ => rfl
  | a :: A, B, h => by
    have h1 : ¬ a = 44 := fun e => h (e ▸ .head _)
    have ih := nsep_pre A B fun m => h (.tail _ m)
    rw [List.cons_append]
    cases e : A ++ B with
    | nil => rw [← ih, e]; rfl
    | cons b r => rw [← ih, e, nsep, if_neg (fun q => h1 q.1), Nat.zero_add]
theorem nsep_cut (B : List Nat) : nsep (44 :: 32 :: B) = 1 + nsep B := by
  rw [nsep, if_pos ⟨rfl, rfl⟩]
  have := nsep_pre [32] B (by decide)
  rw [List.singleton_append] at this
  rw [this]
noncomputable abbrev sepS : Str := ⟨#[44, 32]⟩
theorem at_sep (x : Str) (k : Nat) : StrLaws.At x sepS x.length k ↔ x.cps.toList[k]? = some 44 ∧ x.cps.toList[k+1]? = some 32 := by
  unfold StrLaws.At
  rw [StrLaws.subAt_eq]
  have hl : x.length = x.cps.toList.length := by simp [Str.length]
  rw [hl]
  generalize x.cps.toList = l
  show k + 2 ≤ l.length ∧ (List.take 2 (List.drop k l) == [44, 32]) = true ↔ _
  rw [beq_iff_eq]
  constructor
  · rintro ⟨h1, h2⟩
    have e0 := congrArg (fun q : List Nat => q[0]?) h2
    have e1 := congrArg (fun q : List Nat => q[1]?) h2
    simp only [List.getElem?_take, List.getElem?_drop] at e0 e1
    exact ⟨by simpa using e0, by simpa using e1⟩
  · rintro ⟨h1, h2⟩
    have hk : k + 1 < l.length := (List.getElem?_eq_some_iff.mp h2).1
    refine ⟨by omega, ?_⟩
    rw [List.drop_eq_getElem_cons (by omega), List.drop_eq_getElem_cons hk]
    have a := (List.getElem?_eq_some_iff.mp h1).2
    have b := (List.getElem?_eq_some_iff.mp h2).2
    simp [a, b]
theorem nsep_no (x : Str) (k : Nat) (h : ¬ StrLaws.At x sepS x.length k) : nsep (x.cps.toList.drop k) = nsep (x.cps.toList.drop (k + 1)) := by
  rw [at_sep] at h
  generalize x.cps.toList = l at h
  by_cases h1 : k < l.length
  · rw [List.drop_eq_getElem_cons h1]
    by_cases h2 : k + 1 < l.length
    · rw [List.drop_eq_getElem_cons h2, nsep, if_neg, Nat.zero_add]
      rintro ⟨a, b⟩
      exact h ⟨by rw [List.getElem?_eq_getElem h1, a], by rw [List.getElem?_eq_getElem h2, b]⟩
    · rw [List.drop_eq_nil_of_le (by omega : l.length ≤ k + 1)]; rfl
  · rw [List.drop_eq_nil_of_le (by omega), List.drop_eq_nil_of_le (by omega)]
theorem nsep_yes (x : Str) (k : Nat) (h : StrLaws.At x sepS x.length k) : nsep (x.cps.toList.drop k) = 1 + nsep (x.cps.toList.drop (k + 2)) := by
  rw [at_sep] at h
  generalize x.cps.toList = l at h
  obtain ⟨h1, h2⟩ := h
  have a := List.getElem?_eq_some_iff.mp h1
  have b := List.getElem?_eq_some_iff.mp h2
  obtain ⟨a1, a2⟩ := a
  obtain ⟨b1, b2⟩ := b
  rw [List.drop_eq_getElem_cons a1, List.drop_eq_getElem_cons b1, a2, b2, nsep_cut]
theorem nsep_gap (x : Str) : ∀ (n a : Nat), (∀ k, a ≤ k → k < a + n → ¬ StrLaws.At x sepS x.length k) → nsep (x.cps.toList.drop a) = nsep (x.cps.toList.drop (a + n))
  | 0, _, _ => rfl
  | n + 1, a, h => by
    rw [nsep_no x a (h a (Nat.le_refl _) (by omega)), nsep_gap x n (a + 1) fun k h1 h2 => h k (by omega) (by omega)]
    congr 2; omega
theorem chain_nsep (x : Str) : ∀ (cuts : List Nat) (a f : Nat), StrLaws.ChainG x sepS x.length a cuts f → (∀ k, f ≤ k → ¬ StrLaws.At x sepS x.length k) → nsep (x.cps.toList.drop a) = cuts.length
  | [], a, f, h, hn => by
    have e : f = a := h
    subst e
    rw [nsep_gap x x.cps.toList.length f fun k h1 _ => hn k h1, List.drop_eq_nil_of_le (by omega)]; rfl
  | d :: r, a, f, h, hn => by
    obtain ⟨had, hAt, hgap, hrest⟩ := h
    have ih := chain_nsep x r _ f hrest hn
    have e2 : (sepS).length = 2 := rfl
    rw [e2] at ih
    have := nsep_gap x (d - a) a fun k h1 h2 => hgap k h1 (by omega)
    rw [this, show a + (d - a) = d by omega, nsep_yes x d hAt, ih, List.length_cons]; omega
theorem kind_ge (x : Str) : 1 ≤ PySem.Builtin.Str.strKind x := by
  unfold PySem.Builtin.Str.strKind
  split
  · exact Nat.le_refl 1
  · split <;> omega
theorem kind_sep : PySem.Builtin.Str.strKind sepS = 1 := by decide +kernel
theorem kind_open : PySem.Builtin.Str.strKind ⟨#[40]⟩ = 1 := by decide +kernel
theorem split_count (x : Str) : (Txt.split x sepS).length = nsep x.cps.toList + 1 := by
  obtain ⟨f, hG, hn⟩ := StrLaws.occ_tight x sepS (by decide)
  have key := chain_nsep x _ 0 f hG hn
  rw [List.drop_zero] at key
  unfold Txt.split
  have hk : (decide (PySem.Builtin.Str.strKind x < PySem.Builtin.Str.strKind sepS)) = false := by
    rw [kind_sep]
    exact decide_eq_false (by have := kind_ge x; omega)
  rw [hk, Bool.or_false]
  split
  · rename_i h
    have h2 : x.length < 2 := of_decide_eq_true h
    rw [key]
    have : occurrences x sepS 0 x.length (x.length + 1) = [] := by
      cases e : occurrences x sepS 0 x.length (x.length + 1) with
      | nil => rfl
      | cons d r =>
        rw [e] at hG
        have := hG.2.1.1
        have e2 : (sepS).length = 2 := rfl
        omega
    rw [this]; rfl
  · split
    · rename_i h
      rw [key, List.isEmpty_iff.mp h]; rfl
    · rw [length_partsBetween, key]
theorem split_head (x P R : Str) (h : x = P ++ ⟨#[40]⟩ ++ R) (hP : 40 ∉ P.cps.toList) : ∃ b, Txt.split x ⟨#[40]⟩ = P :: b := by
  obtain ⟨f, hG, hn⟩ := StrLaws.occ_tight x ⟨#[40]⟩ (by decide)
  have hx : x.cps.toList = P.cps.toList ++ 40 :: R.cps.toList := by rw [h]; simp [Str.cps_append]
  have hat : StrLaws.At x ⟨#[40]⟩ x.length P.length := (StrLaws.subAt_one x 40 P.length).mpr (by
    rw [hx, List.getElem?_append_right (by simp [Str.length])]; simp [Str.length])
  have hno : ∀ k, k < P.length → ¬ StrLaws.At x ⟨#[40]⟩ x.length k := fun k hk hA => by
    have := (StrLaws.subAt_one x 40 k).mp hA
    rw [hx, List.getElem?_append_left (by simpa [Str.length] using hk)] at this
    exact hP (List.mem_of_getElem? this)
  have hcut : ∃ r, occurrences x ⟨#[40]⟩ 0 x.length (x.length + 1) = P.length :: r := by
    cases e : occurrences x ⟨#[40]⟩ 0 x.length (x.length + 1) with
    | nil =>
      rw [e] at hG
      have : f = 0 := hG
      exact absurd hat (hn _ (by omega))
    | cons d r =>
      rw [e] at hG
      have h1 := hG.2.1
      have h2 := hG.2.2.1
      rcases Nat.lt_trichotomy d P.length with q | q | q
      · exact absurd h1 (hno d q)
      · exact ⟨r, by rw [q]⟩
      · exact absurd hat (h2 _ (Nat.zero_le _) q)
  obtain ⟨r, hr⟩ := hcut
  have hlen : ¬ x.length < 1 := by
    have := hat.1
    have e2 : (⟨#[40]⟩ : Str).length = 1 := rfl
    omega
  have hk : (decide (PySem.Builtin.Str.strKind x < PySem.Builtin.Str.strKind ⟨#[40]⟩)) = false := by
    rw [kind_open]
    exact decide_eq_false (by have := kind_ge x; omega)
  unfold Txt.split
  have hl2 : decide (x.length < (⟨#[40]⟩ : Str).length) = false := decide_eq_false hlen
  rw [hk, hl2, hr]
  simp only [Bool.or_self, Bool.false_eq_true, if_false, List.isEmpty_cons]
  rw [StrLaws.partsBetween_eq]
  refine ⟨StrLaws.partsFrom x (⟨#[40]⟩ : Str).length (P.length + (⟨#[40]⟩ : Str).length) r, ?_⟩
  show strSub x 0 P.length :: _ = _
  congr 1
  apply Str.ext'
  apply Array.toList_inj.mp
  rw [StrLaws.strSub_toList, hx]
  simp [Str.length]
end Mine
end
section
open PySem PySem.W PySem.Calls PyProof.Rows
set_option maxHeartbeats 400000
namespace Mine
/-- the indices from i on that p holds of -/
noncomputable def idxFrom (p : Nat → Bool) (i n : Nat) : List Nat := (List.range' i (n - i)).filter p
theorem idxFrom_stop {p : Nat → Bool} {i n : Nat} (h : ¬ i < n) : idxFrom p i n = [] := by
  unfold idxFrom
  rw [show n - i = 0 by omega]; rfl
theorem idxFrom_step {p : Nat → Bool} {i n : Nat} (h : i < n) : idxFrom p i n = if p i = true then i :: idxFrom p (i + 1) n else idxFrom p (i + 1) n := by
  unfold idxFrom
  rw [show n - i = (n - (i + 1)) + 1 by omega, List.range'_succ, List.filter_cons]
theorem idxFrom_mem {p : Nat → Bool} {i n j : Nat} : j ∈ idxFrom p i n ↔ (i ≤ j ∧ j < n ∧ p j = true) := by
  unfold idxFrom
  rw [List.mem_filter, List.mem_range'_1]
  constructor
  · rintro ⟨h1, h2⟩; exact ⟨h1.1, by omega, h2⟩
  · rintro ⟨h1, h2, h3⟩; exact ⟨⟨h1, by omega⟩, h3⟩
theorem idxFrom_congr {p q : Nat → Bool} {i n : Nat} (h : ∀ j, i ≤ j → j < n → p j = q j) : idxFrom p i n = idxFrom q i n := by
  unfold idxFrom
  refine List.filter_congr fun j hj => ?_
  rw [List.mem_range'_1] at hj
  exact h j hj.1 (by omega)
theorem inP_snoc (ps : List (Str × Nat)) (n m : Str) (i : Nat) : inP (ps ++ [(n, i)]) m = (inP ps m || decide (n = m)) := by
  unfold inP; rw [List.any_append]; simp
theorem getD_set (l : List Int) (i j : Nat) (v : Int) (h : i < l.length) : (l.set i v).getD j 0 = if j = i then v else l.getD j 0 := by
  rw [List.getD_eq_getElem?_getD, List.getElem?_set, List.getD_eq_getElem?_getD]
  by_cases e : j = i
  · subst e; simp [h]
  · have e' : ¬ i = j := fun q => e q.symm
    simp [e, e']
theorem getD_lt {T : List Tag} {j : Nat} {nm : Str} (h : T.getD j none = some nm) : j < T.length := by
  by_cases hj : j < T.length
  · exact hj
  · rw [List.getD_eq_getElem?_getD, List.getElem?_eq_none (by omega)] at h; cases h
noncomputable abbrev exP (T : List Tag) (nm : Str) (j : Nat) : Bool := decide (T.getD j none = some nm)
/-- the loop of exact for one name -/
theorem ex_loop (T : List Tag) (nm : Str) (n : Nat) : ∀ k i (st : St), n - i = k → n = st.1.length → (∀ j, i ≤ j → j < n → T.getD j none = some nm → st.1.getD j 0 = 0) →
    upto (exTurn T nm) n i st = match idxFrom (exP T nm) i n with
      | [] => .ok st
      | j :: r => if inP st.2 nm = true then .error (dbl nm) else if r = [] then .ok (st.1.set j 2, st.2 ++ [(nm, j)]) else .error (dbl nm) := by
  intro k
  induction k with
  | zero =>
    intro i st hk _ _
    rw [upto_stop (by omega), idxFrom_stop (by omega)]
  | succ k ih =>
    intro i st hk hn hz
    have hi : i < n := by omega
    rw [upto_step hi, idxFrom_step hi]
    by_cases hc : T.getD i none = some nm
    · rw [if_pos (by simpa [exP] using hc)]
      have hu := hz i (Nat.le_refl _) hi hc
      rw [exTurn, if_pos ⟨hc, hu⟩]
      cases hp : inP st.2 nm with
      | true => simp [Except.bind]
      | false =>
        simp only [Bool.false_eq_true, if_false, Except.bind]
        rw [ih (i + 1) _ (by omega) (by simp [hn]) (fun j h1 h2 h3 => by rw [getD_set _ _ _ _ (by omega), if_neg (by omega)]; exact hz j (by omega) h2 h3)]
        cases hr : idxFrom (exP T nm) (i + 1) n with
        | nil => rfl
        | cons j r =>
          have : inP (st.2 ++ [(nm, i)]) nm = true := by rw [inP_snoc]; simp
          simp [this]
    · rw [if_neg (by simpa [exP] using hc), exTurn, if_neg (fun h => hc h.1)]
      simp only [Except.bind]
      exact ih (i + 1) st (by omega) hn (fun j h1 h2 h3 => hz j (by omega) h2 h3)
/-- the places of exact -/
noncomputable def exPl (T : List Tag) (l : List Str) : List (Str × Nat) := l.filterMap fun nm => if nm = dots then none else (idxFrom (exP T nm) 0 T.length).head?.map fun j => (nm, j)
theorem exPl_names (T : List Tag) (l : List Str) : ∀ q ∈ exPl T l, q.1 ∈ l ∧ q.1 ≠ dots ∧ T.getD q.2 none = some q.1 ∧ q.2 < T.length := by
  intro q hq
  obtain ⟨nm, h1, h2⟩ := List.mem_filterMap.mp hq
  by_cases hd : nm = dots
  · simp [hd] at h2
  · rw [if_neg hd] at h2
    cases hx : idxFrom (exP T nm) 0 T.length with
    | nil => simp [hx] at h2
    | cons j r =>
      rw [hx] at h2
      simp at h2
      subst h2
      have hm : j ∈ idxFrom (exP T nm) 0 T.length := by rw [hx]; exact .head _
      obtain ⟨_, a, b⟩ := idxFrom_mem.mp hm
      exact ⟨h1, hd, by simpa [exP] using b, a⟩
theorem inP_iff (ps : List (Str × Nat)) (n : Str) : inP ps n = true ↔ ∃ q ∈ ps, q.1 = n := by
  unfold inP
  rw [List.any_eq_true]
  constructor
  · rintro ⟨q, h1, h2⟩; exact ⟨q, h1, by simpa using h2⟩
  · rintro ⟨q, h1, h2⟩; exact ⟨q, h1, by simpa using h2⟩
theorem ex_ok (T : List Tag) : ∀ (l : List Str) (st : St), l.Nodup → T.length = st.1.length → (∀ nm ∈ l, nm ≠ dots → inP st.2 nm = false ∧ ∀ j, j < T.length → T.getD j none = some nm → st.1.getD j 0 = 0) →
    (∀ nm ∈ l, nm ≠ dots → (idxFrom (exP T nm) 0 T.length).length ≤ 1) →
    ∃ u', exAll T l st = .ok (u', st.2 ++ exPl T l) ∧ u'.length = st.1.length ∧ ∀ j, u'.getD j 0 = if (∃ nm ∈ l, nm ≠ dots ∧ T.getD j none = some nm) then 2 else st.1.getD j 0
  | [], st, _, _, _, _ => ⟨st.1, by simp [exAll, exPl], rfl, fun j => by simp⟩
  | nm :: r, st, hnd, hn, h0, h1 => by
    rw [List.nodup_cons] at hnd
    by_cases hd : nm = dots
    · obtain ⟨u', e1, e2, e3⟩ := ex_ok T r st hnd.2 hn (fun x hx => h0 x (.tail _ hx)) (fun x hx => h1 x (.tail _ hx))
      refine ⟨u', ?_, e2, fun j => ?_⟩
      · rw [exAll, if_pos hd, e1]; simp [exPl, hd]
      · rw [e3]
        have : (∃ x ∈ nm :: r, x ≠ dots ∧ T.getD j none = some x) ↔ (∃ x ∈ r, x ≠ dots ∧ T.getD j none = some x) := by
          constructor
          · rintro ⟨x, hx, hx2⟩
            rcases List.mem_cons.mp hx with rfl | hx
            · exact absurd hd hx2.1
            · exact ⟨x, hx, hx2⟩
          · rintro ⟨x, hx, hx2⟩; exact ⟨x, .tail _ hx, hx2⟩
        simp only [this]
    · have hh := h0 nm (.head _) hd
      have hl := h1 nm (.head _) hd
      rw [exAll, if_neg hd, ex_loop T nm T.length _ 0 st rfl hn (fun j _ h2 h3 => hh.2 j h2 h3)]
      cases hx : idxFrom (exP T nm) 0 T.length with
      | nil =>
        obtain ⟨u', e1, e2, e3⟩ := ex_ok T r st hnd.2 hn (fun x hx => h0 x (.tail _ hx)) (fun x hx => h1 x (.tail _ hx))
        refine ⟨u', ?_, e2, fun j => ?_⟩
        · show exAll T r st = _
          rw [e1]; simp [exPl, hd, hx]
        · rw [e3]
          have hno : ¬ T.getD j none = some nm := fun q => by
            have hj : j < T.length := by
              exact getD_lt q
            have : j ∈ idxFrom (exP T nm) 0 T.length := idxFrom_mem.mpr ⟨Nat.zero_le _, hj, by simpa [exP] using q⟩
            rw [hx] at this; cases this
          have : (∃ x ∈ nm :: r, x ≠ dots ∧ T.getD j none = some x) ↔ (∃ x ∈ r, x ≠ dots ∧ T.getD j none = some x) := by
            constructor
            · rintro ⟨x, hx, hx2⟩
              rcases List.mem_cons.mp hx with rfl | hx
              · exact absurd hx2.2 hno
              · exact ⟨x, hx, hx2⟩
            · rintro ⟨x, hx, hx2⟩; exact ⟨x, .tail _ hx, hx2⟩
          simp only [this]
      | cons j0 r0 =>
        have hr0 : r0 = [] := by rw [hx] at hl; cases r0 with | nil => rfl | cons _ _ => simp at hl
        subst hr0
        have hm : j0 ∈ idxFrom (exP T nm) 0 T.length := by rw [hx]; exact .head _
        obtain ⟨_, hj1, hj2⟩ := idxFrom_mem.mp hm
        have hj2' : T.getD j0 none = some nm := by simpa [exP] using hj2
        simp only [hh.1, Bool.false_eq_true, if_false, if_true]
        obtain ⟨u', e1, e2, e3⟩ := ex_ok T r (st.1.set j0 2, st.2 ++ [(nm, j0)]) hnd.2 (by simp [hn]) (fun x hx hxd => by
          have hne : nm ≠ x := fun q => hnd.1 (q ▸ hx)
          refine ⟨by rw [inP_snoc, (h0 x (.tail _ hx) hxd).1]; simp [hne], fun j h2 h3 => ?_⟩
          show (st.1.set j0 2).getD j 0 = 0
          rw [getD_set _ _ _ _ (by omega), if_neg (fun q => by rw [q, hj2'] at h3; exact hne (Option.some.inj h3))]
          exact (h0 x (.tail _ hx) hxd).2 j h2 h3) (fun x hx => h1 x (.tail _ hx))
        refine ⟨u', ?_, by simpa using e2, fun j => ?_⟩
        · show exAll T r (st.1.set j0 2, st.2 ++ [(nm, j0)]) = _
          rw [e1]; simp [exPl, hd, hx]
        · rw [e3]
          show (if _ then _ else (st.1.set j0 2).getD j 0) = _
          rw [getD_set _ _ _ _ (by omega)]
          by_cases hj : j = j0
          · subst hj
            rw [if_pos rfl]
            have : ∃ x ∈ nm :: r, x ≠ dots ∧ T.getD j none = some x := ⟨nm, .head _, hd, hj2'⟩
            rw [if_pos this]; simp
          · rw [if_neg hj]
            have hno : ¬ T.getD j none = some nm := fun q => by
              have hj' : j < T.length := by
                exact getD_lt q
              have : j ∈ idxFrom (exP T nm) 0 T.length := idxFrom_mem.mpr ⟨Nat.zero_le _, hj', by simpa [exP] using q⟩
              rw [hx] at this
              exact hj (List.mem_singleton.mp this)
            have : (∃ x ∈ nm :: r, x ≠ dots ∧ T.getD j none = some x) ↔ (∃ x ∈ r, x ≠ dots ∧ T.getD j none = some x) := by
              constructor
              · rintro ⟨x, hx, hx2⟩
                rcases List.mem_cons.mp hx with rfl | hx
                · exact absurd hx2.2 hno
                · exact ⟨x, hx, hx2⟩
              · rintro ⟨x, hx, hx2⟩; exact ⟨x, .tail _ hx, hx2⟩
            simp only [this]
theorem ex_err (T : List Tag) (nm : Str) (l2 : List Str) : ∀ (l1 : List Str) (st : St), (l1 ++ nm :: l2).Nodup → T.length = st.1.length → (∀ x ∈ l1 ++ nm :: l2, x ≠ dots → inP st.2 x = false ∧ ∀ j, j < T.length → T.getD j none = some x → st.1.getD j 0 = 0) →
    (∀ x ∈ l1, x ≠ dots → (idxFrom (exP T x) 0 T.length).length ≤ 1) → nm ≠ dots → 1 < (idxFrom (exP T nm) 0 T.length).length → exAll T (l1 ++ nm :: l2) st = .error (dbl nm)
  | [], st, _, hn, h0, _, hd, hl => by
    have hh := h0 nm (.head _) hd
    show exAll T (nm :: l2) st = _
    rw [exAll, if_neg hd, ex_loop T nm T.length _ 0 st rfl hn (fun j _ h2 h3 => hh.2 j h2 h3)]
    cases hx : idxFrom (exP T nm) 0 T.length with
    | nil => rw [hx] at hl; simp at hl
    | cons j r =>
      cases r with
      | nil => rw [hx] at hl; simp at hl
      | cons j' r => simp [hh.1, Except.bind]
  | x :: l1, st, hnd, hn, h0, h1, hd, hl => by
    rw [List.cons_append, List.nodup_cons] at hnd
    show exAll T (x :: (l1 ++ nm :: l2)) st = _
    by_cases hxd : x = dots
    · rw [exAll, if_pos hxd]
      exact ex_err T nm l2 l1 st hnd.2 hn (fun y hy => h0 y (.tail _ hy)) (fun y hy => h1 y (.tail _ hy)) hd hl
    · have hh := h0 x (.head _) hxd
      have hlx := h1 x (.head _) hxd
      rw [exAll, if_neg hxd, ex_loop T x T.length _ 0 st rfl hn (fun j _ h2 h3 => hh.2 j h2 h3)]
      cases hx : idxFrom (exP T x) 0 T.length with
      | nil => exact ex_err T nm l2 l1 st hnd.2 hn (fun y hy => h0 y (.tail _ hy)) (fun y hy => h1 y (.tail _ hy)) hd hl
      | cons j0 r0 =>
        have hr0 : r0 = [] := by rw [hx] at hlx; cases r0 with | nil => rfl | cons _ _ => simp at hlx
        subst hr0
        have hm : j0 ∈ idxFrom (exP T x) 0 T.length := by rw [hx]; exact .head _
        obtain ⟨_, hj1, hj2⟩ := idxFrom_mem.mp hm
        have hj2' : T.getD j0 none = some x := by simpa [exP] using hj2
        simp only [hh.1, Bool.false_eq_true, if_false, if_true]
        refine ex_err T nm l2 l1 (st.1.set j0 2, st.2 ++ [(x, j0)]) hnd.2 (by simp [hn]) (fun y hy hyd => ?_) (fun y hy => h1 y (.tail _ hy)) hd hl
        have hne : x ≠ y := fun q => hnd.1 (q ▸ hy)
        refine ⟨by rw [inP_snoc, (h0 y (.tail _ hy) hyd).1]; simp [hne], fun j h2 h3 => ?_⟩
        show (st.1.set j0 2).getD j 0 = 0
        rw [getD_set _ _ _ _ (by omega), if_neg (fun q => by rw [q, hj2'] at h3; exact hne (Option.some.inj h3))]
        exact (h0 y (.tail _ hy) hyd).2 j h2 h3
end Mine
end
section
open PySem PySem.W PySem.Calls PyProof.Rows
set_option maxHeartbeats 400000
namespace Mine
theorem idxFrom_tail {p : Nat → Bool} {n j : Nat} {r : List Nat} : ∀ (k i : Nat), n - i = k → idxFrom p i n = j :: r → j < n ∧ p j = true ∧ idxFrom p (j + 1) n = r ∧ i ≤ j ∧ idxFrom p j n = j :: r
  | 0, i, hk, h => by rw [idxFrom_stop (by omega)] at h; cases h
  | k + 1, i, hk, h => by
    have h0 := h
    rw [idxFrom_step (by omega)] at h
    split at h
    · rename_i hp
      cases h
      exact ⟨by omega, hp, rfl, Nat.le_refl _, h0⟩
    · obtain ⟨a, b, c, d, e⟩ := idxFrom_tail k (i + 1) (by omega) h
      exact ⟨a, b, c, by omega, e⟩
theorem skip_nil {T : List Tag} {u : List Int} {n : Nat} : ∀ (k pl : Nat), n - pl = k → pl ≤ n → idxFrom (freeB T u) pl n = [] → skipTo T u n pl = n
  | 0, pl, hk, hle, _ => by rw [skipTo_stop (by omega)]; omega
  | k + 1, pl, hk, hle, h => by
    rw [idxFrom_step (by omega)] at h
    split at h
    · cases h
    · rename_i hp
      rw [skipTo_step (by omega) (by simpa using hp)]
      exact skip_nil k (pl + 1) (by omega) (by omega) h
theorem skip_cons {T : List Tag} {u : List Int} {n j : Nat} {r : List Nat} : ∀ (k pl : Nat), n - pl = k → idxFrom (freeB T u) pl n = j :: r → skipTo T u n pl = j
  | 0, pl, hk, h => by rw [idxFrom_stop (by omega)] at h; cases h
  | k + 1, pl, hk, h => by
    rw [idxFrom_step (by omega)] at h
    split at h
    · rename_i hp
      cases h
      rw [skipTo_stop (by simp [hp])]
    · rename_i hp
      rw [skipTo_step (by omega) (by simpa using hp)]
      exact skip_cons k (pl + 1) (by omega) h
noncomputable abbrev ndots (x : Str) : Bool := decide (x ≠ dots)
/-- the names that positional serves -/
noncomputable def leftNames (l : List Str) (pl : List (Str × Nat)) : List Str := (l.takeWhile ndots).filter fun nm => !inP pl nm
theorem pos_ok (T : List Tag) : ∀ (l : List Str) (place : Nat) (u : List Int) (pl : List (Str × Nat)), l.Nodup → u.length = T.length → place ≤ T.length →
    ∃ u', posAll T l place (u, pl) = (u', pl ++ (leftNames l pl).zip (idxFrom (freeB T u) place T.length)) ∧ u'.length = u.length ∧
      ∀ k, u'.getD k 0 = if k ∈ (idxFrom (freeB T u) place T.length).take (leftNames l pl).length then 2 else u.getD k 0
  | [], place, u, pl, _, _, _ => ⟨u, by simp [posAll, leftNames], rfl, fun k => by simp [leftNames]⟩
  | nm :: r, place, u, pl, hnd, hu, hpl => by
    rw [List.nodup_cons] at hnd
    by_cases hd : nm = dots
    · have e : leftNames (nm :: r) pl = [] := by simp [leftNames, ndots, hd]
      exact ⟨u, by rw [posAll, if_pos hd, e]; simp, rfl, fun k => by rw [e]; simp⟩
    · have hw : (nm :: r).takeWhile ndots = nm :: r.takeWhile ndots := by rw [List.takeWhile_cons, if_pos (by simpa [ndots] using hd)]
      cases hp : inP pl nm with
      | true =>
        have e : leftNames (nm :: r) pl = leftNames r pl := by unfold leftNames; rw [hw, List.filter_cons, if_neg (by simp [hp])]
        rw [posAll, if_neg hd, if_pos hp, e]
        exact pos_ok T r place u pl hnd.2 hu hpl
      | false =>
        have e : leftNames (nm :: r) pl = nm :: leftNames r pl := by unfold leftNames; rw [hw, List.filter_cons, if_pos (by simp [hp])]
        rw [posAll, if_neg hd, if_neg (by simp [hp]), e]
        cases hb : idxFrom (freeB T u) place T.length with
        | nil =>
          show ∃ u', (if skipTo T u T.length place < T.length then _ else posAll T r (skipTo T u T.length place) (u, pl)) = _ ∧ _
          rw [skip_nil _ place rfl hpl hb, if_neg (by omega)]
          obtain ⟨u', h1, h2, h3⟩ := pos_ok T r T.length u pl hnd.2 hu (Nat.le_refl _)
          rw [idxFrom_stop (by omega)] at h1 h3
          exact ⟨u', by simpa using h1, h2, fun k => by simpa using h3 k⟩
        | cons j bs =>
          obtain ⟨hj, hpj, htl, hlj, hjj⟩ := idxFrom_tail _ place rfl hb
          show ∃ u', (if skipTo T u T.length place < T.length then posAll T r (skipTo T u T.length place) (u.set (skipTo T u T.length place) 2, pl ++ [(nm, skipTo T u T.length place)]) else _) = _ ∧ _
          rw [skip_cons _ place rfl hb, if_pos hj]
          obtain ⟨u', h1, h2, h3⟩ := pos_ok T r j (u.set j 2) (pl ++ [(nm, j)]) hnd.2 (by simpa using hu) (by omega)
          have hfree : ∀ k, freeB T (u.set j 2) k = if k = j then false else freeB T u k := fun k => by
            unfold freeB
            rw [getD_set _ _ _ _ (by omega)]
            by_cases hk : k = j <;> simp [hk]
          have e2 : idxFrom (freeB T (u.set j 2)) j T.length = bs := by
            rw [idxFrom_step hj, hfree j, if_pos rfl, if_neg (by simp), ← htl]
            exact idxFrom_congr fun k h1 _ => by rw [hfree k, if_neg (by omega)]
          have e3 : leftNames r (pl ++ [(nm, j)]) = leftNames r pl := by
            unfold leftNames
            refine List.filter_congr fun x hx => ?_
            have : x ∈ r := (List.takeWhile_sublist _).subset hx
            have hne : nm ≠ x := fun q => hnd.1 (q ▸ this)
            rw [inP_snoc]; simp [hne]
          rw [e2, e3] at h1 h3
          refine ⟨u', ?_, by simpa using h2, fun k => ?_⟩
          · rw [h1]; simp
          · rw [h3 k, getD_set _ _ _ _ (by omega)]
            by_cases hk : k = j <;> simp [hk]
noncomputable def exB (F : List Str) : Tag → Bool
  | none => false
  | some x => decide (x ∈ F) && decide (x ≠ dots)
noncomputable def uf (F P : List Str) (t : Tag) : Int := if exB F t = true then 2 else if P.any (fun n => preB n t) = true then 1 else 0
noncomputable def caB (F : List Str) (nm : Str) (t : Tag) : Bool := !exB F t && preB nm t
theorem uf_two {F P : List Str} {t : Tag} : uf F P t = 2 ↔ exB F t = true := by
  unfold uf; split
  · simp [*]
  · split <;> simp [*]
theorem uf_one {F P : List Str} {t : Tag} (h : exB F t = false) : uf F P t = 1 ↔ P.any (fun n => preB n t) = true := by
  unfold uf; rw [h]; simp
theorem pa_turn {T : List Tag} {F P : List Str} {nm : Str} {i : Nat} {st : St} (h : st.1.getD i 0 = uf F P (T.getD i none)) :
    paTurn T nm i st = if caB F nm (T.getD i none) = true then (if P.any (fun n => preB n (T.getD i none)) = true then .error (multi i) else if inP st.2 nm = true then .error (dbl nm) else .ok (st.1.set i 1, st.2 ++ [(nm, i)])) else .ok st := by
  unfold paTurn
  rw [h]
  generalize T.getD i none = t
  cases he : exB F t with
  | true =>
    have h2 := (uf_two (P := P)).mpr he
    have hc : ¬ caB F nm t = true := by unfold caB; rw [he]; simp
    rw [if_neg (fun q => q.1 h2), if_neg hc]
  | false =>
    have h2 : uf F P t ≠ 2 := fun q => by rw [uf_two.mp q] at he; cases he
    by_cases hp : preB nm t = true
    · have hc : caB F nm t = true := by unfold caB; rw [he, hp]; rfl
      have hb : uf F P t ≠ 2 ∧ preB nm t = true := ⟨h2, hp⟩
      rw [if_pos hb, if_pos hc]
      by_cases h1 : P.any (fun n => preB n t) = true
      · have h3 := (uf_one (P := P) he).mpr h1
        rw [if_pos h3, if_pos h1]
      · have h3 : ¬ uf F P t = 1 := fun q => h1 ((uf_one he).mp q)
        rw [if_neg h3, if_neg h1]
    · have hc : ¬ caB F nm t = true := by unfold caB; rw [he]; simpa using hp
      rw [if_neg (fun q => hp q.2), if_neg hc]
theorem pa_loop2 (T : List Tag) (F P : List Str) (nm : Str) (n : Nat) : ∀ k i (st : St), n - i = k → inP st.2 nm = true → (∀ j, i ≤ j → j < n → st.1.getD j 0 = uf F P (T.getD j none)) →
    upto (paTurn T nm) n i st = match idxFrom (fun j => caB F nm (T.getD j none)) i n with
      | [] => .ok st
      | j :: _ => .error (if P.any (fun n => preB n (T.getD j none)) = true then multi j else dbl nm) := by
  intro k
  induction k with
  | zero => intro i st hk _ _; rw [upto_stop (by omega), idxFrom_stop (by omega)]
  | succ k ih =>
    intro i st hk hin hu
    rw [upto_step (by omega), idxFrom_step (by omega), pa_turn (hu i (Nat.le_refl _) (by omega))]
    by_cases hc : caB F nm (T.getD i none) = true
    · rw [if_pos hc, if_pos hc]
      by_cases hm : P.any (fun n => preB n (T.getD i none)) = true
      · rw [if_pos hm]
        show _ = Except.error (if _ then _ else _)
        rw [if_pos hm]; rfl
      · rw [if_neg hm, if_pos hin]
        show _ = Except.error (if _ then _ else _)
        rw [if_neg hm]; rfl
    · rw [if_neg hc, if_neg hc]
      simp only [Except.bind]
      exact ih (i + 1) st (by omega) hin fun j h1 h2 => hu j (by omega) h2
theorem pa_loop (T : List Tag) (F P : List Str) (nm : Str) (n : Nat) : ∀ k i (st : St), n - i = k → n = st.1.length → inP st.2 nm = false → (∀ j, i ≤ j → j < n → st.1.getD j 0 = uf F P (T.getD j none)) →
    upto (paTurn T nm) n i st = match idxFrom (fun j => caB F nm (T.getD j none)) i n with
      | [] => .ok st
      | j :: r => if P.any (fun n => preB n (T.getD j none)) = true then .error (multi j) else match r with
        | [] => .ok (st.1.set j 1, st.2 ++ [(nm, j)])
        | j2 :: _ => .error (if P.any (fun n => preB n (T.getD j2 none)) = true then multi j2 else dbl nm) := by
  intro k
  induction k with
  | zero => intro i st hk _ _ _; rw [upto_stop (by omega), idxFrom_stop (by omega)]
  | succ k ih =>
    intro i st hk hn hin hu
    rw [upto_step (by omega), idxFrom_step (by omega), pa_turn (hu i (Nat.le_refl _) (by omega))]
    by_cases hc : caB F nm (T.getD i none) = true
    · rw [if_pos hc, if_pos hc]
      by_cases hm : P.any (fun n => preB n (T.getD i none)) = true
      · rw [if_pos hm]
        show _ = (if _ then _ else _)
        rw [if_pos hm]; rfl
      · rw [if_neg hm, if_neg (by rw [hin]; simp)]
        show upto _ _ _ _ = (if _ then _ else _)
        rw [if_neg hm]
        rw [pa_loop2 T F P nm n _ (i + 1) _ rfl (by rw [inP_snoc]; simp) (fun j h1 h2 => by
          show (st.1.set i 1).getD j 0 = _
          rw [getD_set _ _ _ _ (by omega), if_neg (by omega)]
          exact hu j (by omega) h2)]
    · rw [if_neg hc, if_neg hc]
      simp only [Except.bind]
      exact ih (i + 1) st (by omega) hn hin fun j h1 h2 => hu j (by omega) h2
end Mine
end
section
open PySem PySem.W PySem.Calls PyProof.Rows
set_option maxHeartbeats 400000
namespace Mine
noncomputable abbrev nul : Entry := (none, 0)
noncomputable abbrev tgs (A : List Entry) : List Tag := A.map (·.1)
theorem map_getD_range (A : List Entry) : (List.range A.length).map (fun j => A.getD j nul) = A := by
  apply List.ext_getElem?
  intro i
  rw [List.getElem?_map]
  by_cases h : i < A.length
  · rw [List.getElem?_range h]; simp [h]
  · rw [List.getElem?_eq_none (by simpa using h), List.getElem?_eq_none (by omega)]; rfl
theorem idx_filter (A : List Entry) (q : Entry → Bool) : ((List.range A.length).filter fun j => q (A.getD j nul)).map (fun j => A.getD j nul) = A.filter q := by
  have := List.filter_map (f := fun j => A.getD j nul) (p := q) (l := List.range A.length)
  rw [map_getD_range] at this
  exact this.symm
theorem tg (A : List Entry) (j : Nat) : (tgs A).getD j none = (A.getD j nul).1 := by
  rw [List.getD_eq_getElem?_getD, List.getD_eq_getElem?_getD, List.getElem?_map]
  cases A[j]? <;> rfl
theorem idxFrom_zero (p : Nat → Bool) (n : Nat) : idxFrom p 0 n = (List.range n).filter p := by
  unfold idxFrom; rw [List.range_eq_range']; rfl
theorem idx_tags (A : List Entry) (q : Tag → Bool) : (idxFrom (fun j => q ((tgs A).getD j none)) 0 A.length).map (fun j => A.getD j nul) = A.filter fun a => q a.1 := by
  rw [idxFrom_zero, ← idx_filter]
  congr 2
  funext j; rw [tg]
noncomputable def hasTag (A : List Entry) (nm : Str) : Bool := A.any fun a => decide (a.1 = some nm)
noncomputable def paSpec (F : List Str) (A : List Entry) : List Str → List Str → Option (List (Str × Int) × List Str)
  | [], P => some ([], P)
  | nm :: r, P => if nm = dots then some ([], P) else if hasTag A nm = true then paSpec F A r P else
      match A.filter fun a => caB F nm a.1 with
      | [] => paSpec F A r (nm :: P)
      | [a] => if P.any (fun n => preB n a.1) = true then none else (paSpec F A r (nm :: P)).map fun x => ((nm, a.2) :: x.1, x.2)
      | _ => none
noncomputable def ErrIn (F : List Str) (n : Nat) (e : Str) : Prop := (∃ j, j < n ∧ e = multi j) ∨ ∃ nm ∈ F, nm ≠ dots ∧ e = dbl nm
theorem ErrIn.tail {F : List Str} {n : Nat} {e nm : Str} (h : ErrIn F n e) : ErrIn (nm :: F) n e := by
  rcases h with h | ⟨x, hx, h⟩
  · exact .inl h
  · exact .inr ⟨x, .tail _ hx, h⟩
theorem uf_next {F P : List Str} {nm : Str} {t : Tag} (h : caB F nm t = false) : uf F (nm :: P) t = uf F P t := by
  unfold uf
  cases he : exB F t with
  | true => rfl
  | false =>
    have : preB nm t = false := by simpa [caB, he] using h
    simp [this]
theorem uf_yes {F P : List Str} {nm : Str} {t : Tag} (h : caB F nm t = true) : uf F (nm :: P) t = 1 := by
  unfold uf
  unfold caB at h
  cases he : exB F t with
  | true => simp [he] at h
  | false =>
    simp [he] at h
    simp [h]
noncomputable def paSays (F : List Str) (A : List Entry) (l : List Str) (u : List Int) (pl : List (Str × Nat)) : Option (List (Str × Int) × List Str) → Prop
  | none => ∃ e, paAll (tgs A) l (u, pl) = .error e ∧ ErrIn l A.length e
  | some x => ∃ u' pl2, paAll (tgs A) l (u, pl) = .ok (u', pl ++ pl2) ∧ u'.length = A.length ∧ (∀ j, j < A.length → u'.getD j 0 = uf F x.2 ((tgs A).getD j none)) ∧ givenOf A pl2 = x.1
theorem paSays.next {F : List Str} {A : List Entry} {nm : Str} {l : List Str} {u u2 : List Int} {pl : List (Str × Nat)} {x : Option (List (Str × Int) × List Str)} (h : paSays F A l u2 pl x) (e : paAll (tgs A) (nm :: l) (u, pl) = paAll (tgs A) l (u2, pl)) : paSays F A (nm :: l) u pl x := by
  cases x with
  | none =>
    obtain ⟨m, h1, h2⟩ := h
    exact ⟨m, e.trans h1, h2.tail⟩
  | some x =>
    obtain ⟨u', pl2, h1, h2⟩ := h
    exact ⟨u', pl2, e.trans h1, h2⟩
theorem pa_ok (F : List Str) (A : List Entry) : ∀ (l P : List Str) (u : List Int) (pl : List (Str × Nat)), l.Nodup → u.length = A.length → (∀ j, j < A.length → u.getD j 0 = uf F P ((tgs A).getD j none)) →
    (∀ nm ∈ l, nm ≠ dots → inP pl nm = hasTag A nm) → paSays F A l u pl (paSpec F A l P)
  | [], P, u, pl, _, hl, hu, _ => ⟨u, [], by simp [paAll], hl, hu, rfl⟩
  | nm :: r, P, u, pl, hnd, hl, hu, hin => by
    rw [List.nodup_cons] at hnd
    have hir : ∀ x ∈ r, x ≠ dots → inP pl x = hasTag A x := fun x hx => hin x (.tail _ hx)
    have hTl : (tgs A).length = A.length := by simp
    by_cases hd : nm = dots
    · rw [paSpec, if_pos hd]
      exact ⟨u, [], by rw [paAll, if_pos hd]; simp, hl, hu, rfl⟩
    · rw [paSpec, if_neg hd]
      have hh := hin nm (.head _) hd
      by_cases ht : hasTag A nm = true
      · rw [if_pos ht]
        exact (pa_ok F A r P u pl hnd.2 hl hu hir).next (by rw [paAll, if_neg hd, if_pos (by rw [hh]; exact ht)])
      · rw [if_neg ht]
        have hpf : inP pl nm = false := by rw [hh]; simpa using ht
        have hidx := idx_tags A (caB F nm)
        have hlp := pa_loop (tgs A) F P nm A.length _ 0 (u, pl) rfl hl.symm hpf fun j _ h2 => hu j h2
        have hpa : paAll (tgs A) (nm :: r) (u, pl) = (upto (paTurn (tgs A) nm) A.length 0 (u, pl)).bind (paAll (tgs A) r) := by
          rw [paAll, if_neg hd, if_neg (by simp [hpf]), hTl]
        rw [hlp] at hpa
        cases hx : idxFrom (fun j => caB F nm ((tgs A).getD j none)) 0 A.length with
        | nil =>
          rw [hx] at hidx hpa
          simp only [List.map_nil] at hidx
          rw [← hidx]
          have hu2 : ∀ j, j < A.length → u.getD j 0 = uf F (nm :: P) ((tgs A).getD j none) := fun j hj => by
            rw [hu j hj, uf_next]
            cases hc : caB F nm ((tgs A).getD j none) with
            | false => rfl
            | true =>
              have : j ∈ idxFrom (fun j => caB F nm ((tgs A).getD j none)) 0 A.length := idxFrom_mem.mpr ⟨Nat.zero_le _, hj, hc⟩
              rw [hx] at this; cases this
          exact (pa_ok F A r (nm :: P) u pl hnd.2 hl hu2 hir).next hpa
        | cons j js =>
          rw [hx] at hidx hpa
          have hjm : j ∈ idxFrom (fun j => caB F nm ((tgs A).getD j none)) 0 A.length := by rw [hx]; exact .head _
          obtain ⟨_, hj1, hj2⟩ := idxFrom_mem.mp hjm
          cases js with
          | nil =>
            simp only [List.map_cons, List.map_nil] at hidx
            rw [← hidx]
            simp only at hpa ⊢
            rw [← tg]
            by_cases hm : P.any (fun n => preB n ((tgs A).getD j none)) = true
            · rw [if_pos hm] at hpa ⊢
              exact ⟨_, hpa, .inl ⟨j, hj1, rfl⟩⟩
            · rw [if_neg hm] at hpa ⊢
              have hu2 : ∀ k, k < A.length → (u.set j 1).getD k 0 = uf F (nm :: P) ((tgs A).getD k none) := fun k hk => by
                rw [getD_set _ _ _ _ (by omega)]
                by_cases hkj : k = j
                · rw [if_pos hkj, hkj, uf_yes hj2]
                · rw [if_neg hkj, hu k hk, uf_next]
                  cases hc : caB F nm ((tgs A).getD k none) with
                  | false => rfl
                  | true =>
                    have : k ∈ idxFrom (fun j => caB F nm ((tgs A).getD j none)) 0 A.length := idxFrom_mem.mpr ⟨Nat.zero_le _, hk, hc⟩
                    rw [hx] at this
                    exact absurd (List.mem_singleton.mp this) hkj
              have hir2 : ∀ x ∈ r, x ≠ dots → inP (pl ++ [(nm, j)]) x = hasTag A x := fun x hx hxd => by
                have hne : nm ≠ x := fun q => hnd.1 (q ▸ hx)
                rw [inP_snoc, hir x hx hxd]; simp [hne]
              have ih := pa_ok F A r (nm :: P) (u.set j 1) (pl ++ [(nm, j)]) hnd.2 (by simpa using hl) hu2 hir2
              cases hq : paSpec F A r (nm :: P) with
              | none =>
                rw [hq] at ih
                obtain ⟨m, h1, h2⟩ := ih
                exact ⟨m, hpa.trans h1, h2.tail⟩
              | some x =>
                rw [hq] at ih
                obtain ⟨u', pl2, h1, h2, h3, h4⟩ := ih
                refine ⟨u', (nm, j) :: pl2, hpa.trans (by show paAll (tgs A) r (u.set j 1, pl ++ [(nm, j)]) = _; rw [h1]; simp), h2, h3, ?_⟩
                show (nm, (A.getD j (none, 0)).2) :: givenOf A pl2 = (nm, _) :: x.1
                rw [h4]
          | cons j2 js =>
            simp only [List.map_cons] at hidx
            rw [← hidx]
            simp only at hpa ⊢
            have hjm2 : j2 ∈ idxFrom (fun j => caB F nm ((tgs A).getD j none)) 0 A.length := by rw [hx]; exact .tail _ (.head _)
            have hj3 := (idxFrom_mem.mp hjm2).2.1
            by_cases hm : P.any (fun n => preB n ((tgs A).getD j none)) = true
            · rw [if_pos hm] at hpa
              exact ⟨_, hpa, .inl ⟨j, hj1, rfl⟩⟩
            · rw [if_neg hm] at hpa
              by_cases hm2 : P.any (fun n => preB n ((tgs A).getD j2 none)) = true
              · rw [if_pos hm2] at hpa
                exact ⟨_, hpa, .inl ⟨j2, hj3, rfl⟩⟩
              · rw [if_neg hm2] at hpa
                exact ⟨_, hpa, .inr ⟨nm, .head _, hd, rfl⟩⟩
end Mine
end
section
open PySem PySem.W PySem.Calls PyProof.Rows
set_option maxHeartbeats 400000
namespace Mine
theorem upto_ind {turn : Nat → St → Except Str St} {n : Nat} {I : St → Prop} (ht : ∀ i st st', i < n → I st → turn i st = .ok st' → I st') : ∀ k i (st st' : St), n - i = k → I st → upto turn n i st = .ok st' → I st' := by
  intro k
  induction k with
  | zero => intro i st st' hk hI h; rw [upto_stop (by omega)] at h; cases h; exact hI
  | succ k ih =>
    intro i st st' hk hI h
    rw [upto_step (by omega)] at h
    cases e : turn i st with
    | error m => rw [e] at h; cases h
    | ok st1 =>
      rw [e] at h
      exact ih (i + 1) st1 st' (by omega) (ht i st st1 (by omega) hI e) h
structure GoodP (F : List Str) (n : Nat) (st : St) : Prop where
  len : st.1.length = n
  nd : (st.2.map (·.1)).Nodup
  sub : ∀ q ∈ st.2, q.1 ∈ F ∧ q.2 < n
theorem GoodP.add {F : List Str} {n : Nat} {st : St} (h : GoodP F n st) {nm : Str} (hn : inP st.2 nm = false) (hF : nm ∈ F) {i : Nat} (hi : i < n) {u : List Int} (hu : u.length = n) : GoodP F n (u, st.2 ++ [(nm, i)]) := by
  refine ⟨hu, ?_, fun q hq => ?_⟩
  · show ((st.2 ++ [(nm, i)]).map (·.1)).Nodup
    rw [List.map_append, List.nodup_append]
    refine ⟨h.nd, by simp, fun a ha b hb e => ?_⟩
    have hb2 : b = nm := by simpa using hb
    obtain ⟨q, hq, hq2⟩ := List.mem_map.mp ha
    have : inP st.2 nm = true := (inP_iff _ _).mpr ⟨q, hq, by rw [hq2, e, hb2]⟩
    rw [hn] at this; cases this
  · rcases List.mem_append.mp hq with hq | hq
    · exact h.sub q hq
    · rw [List.mem_singleton.mp hq]; exact ⟨hF, hi⟩
theorem ex_good {F : List Str} {T : List Tag} : ∀ (l : List Str) (st st' : St), (∀ x ∈ l, x ∈ F) → GoodP F T.length st → exAll T l st = .ok st' → GoodP F T.length st'
  | [], st, st', _, h, e => by cases e; exact h
  | nm :: r, st, st', hF, h, e => by
    rw [exAll] at e
    split at e
    · exact ex_good r st st' (fun x hx => hF x (.tail _ hx)) h e
    · cases e1 : upto (exTurn T nm) T.length 0 st with
      | error m => rw [e1] at e; cases e
      | ok st1 =>
        rw [e1] at e
        refine ex_good r st1 st' (fun x hx => hF x (.tail _ hx)) (upto_ind (I := GoodP F T.length) (fun i a b hi ha hb => ?_) _ 0 st st1 rfl h e1) e
        unfold exTurn at hb
        split at hb
        · split at hb
          · cases hb
          · rename_i hn
            cases hb
            exact ha.add (by simpa using hn) (hF nm (.head _)) hi (by simpa using ha.len)
        · cases hb; exact ha
theorem pa_good {F : List Str} {T : List Tag} : ∀ (l : List Str) (st st' : St), (∀ x ∈ l, x ∈ F) → GoodP F T.length st → paAll T l st = .ok st' → GoodP F T.length st'
  | [], st, st', _, h, e => by cases e; exact h
  | nm :: r, st, st', hF, h, e => by
    rw [paAll] at e
    split at e
    · cases e; exact h
    · split at e
      · exact pa_good r st st' (fun x hx => hF x (.tail _ hx)) h e
      · cases e1 : upto (paTurn T nm) T.length 0 st with
        | error m => rw [e1] at e; cases e
        | ok st1 =>
          rw [e1] at e
          refine pa_good r st1 st' (fun x hx => hF x (.tail _ hx)) (upto_ind (I := GoodP F T.length) (fun i a b hi ha hb => ?_) _ 0 st st1 rfl h e1) e
          unfold paTurn at hb
          split at hb
          · split at hb
            · cases hb
            · split at hb
              · cases hb
              · rename_i hn
                cases hb
                exact ha.add (by simpa using hn) (hF nm (.head _)) hi (by simpa using ha.len)
          · cases hb; exact ha
theorem pos_good {F : List Str} {T : List Tag} : ∀ (l : List Str) (pl : Nat) (st : St), (∀ x ∈ l, x ∈ F) → GoodP F T.length st → GoodP F T.length (posAll T l pl st)
  | [], _, st, _, h => h
  | nm :: r, pl, st, hF, h => by
    rw [posAll]
    split
    · exact h
    · split
      · exact pos_good r pl st (fun x hx => hF x (.tail _ hx)) h
      · rename_i hn
        split
        · rename_i hs
          exact pos_good r _ _ (fun x hx => hF x (.tail _ hx)) (h.add (by simpa using hn) (hF nm (.head _)) hs (by simpa using h.len))
        · exact pos_good r _ st (fun x hx => hF x (.tail _ hx)) h
noncomputable abbrev st0 (A : List Entry) : St := (List.replicate A.length 0, [])
noncomputable def mnEnd (F : List Str) (A : List Entry) (s3 : St) : Except Str (List (Str × Nat) × List Int) :=
  if 0 < (restOf s3.1).length ∧ dots ∉ F then .error (unusedText (textsOf A (restOf s3.1))) else .ok (s3.2, restOf s3.1)
theorem mn_ex {F : List Str} {A : List Entry} {m : Str} (h : exAll (tgs A) F (st0 A) = .error m) : mn F A = .error m := by
  unfold mn; rw [h]; rfl
theorem mn_pa {F : List Str} {A : List Entry} {m : Str} {s1 : St} (h : exAll (tgs A) F (st0 A) = .ok s1) (h2 : paAll (tgs A) F s1 = .error m) : mn F A = .error m := by
  unfold mn; rw [h]
  show (paAll (tgs A) F s1).bind _ = _
  rw [h2]; rfl
theorem mn_end {F : List Str} {A : List Entry} {s1 s2 : St} (h : exAll (tgs A) F (st0 A) = .ok s1) (h2 : paAll (tgs A) F s1 = .ok s2) : mn F A = mnEnd F A (posAll (tgs A) F 0 s2) := by
  unfold mn; rw [h]
  show (paAll (tgs A) F s1).bind _ = _
  rw [h2]; rfl
theorem mn_end_good {F : List Str} {A : List Entry} {s1 s2 : St} (e1 : exAll (tgs A) F (st0 A) = .ok s1) (e2 : paAll (tgs A) F s1 = .ok s2) : GoodP F A.length (posAll (tgs A) F 0 s2) := by
  have hT : (tgs A).length = A.length := by simp
  have g1 : GoodP F (tgs A).length s1 := ex_good F (st0 A) s1 (fun _ h => h) ⟨by simp, by simp, fun _ h => by cases h⟩ e1
  have g3 := pos_good F 0 s2 (fun _ h => h) (pa_good F _ _ (fun _ h => h) g1 e2)
  rw [hT] at g3
  exact g3
theorem mn_good {F : List Str} {A : List Entry} {p : List (Str × Nat)} {r : List Int} (h : mn F A = .ok (p, r)) : (p.map (·.1)).Nodup ∧ ∀ q ∈ p, q.1 ∈ F ∧ q.2 < A.length := by
  have hT : (tgs A).length = A.length := by simp
  cases e1 : exAll (tgs A) F (st0 A) with
  | error m => rw [mn_ex e1] at h; cases h
  | ok s1 =>
    have g1 : GoodP F (tgs A).length s1 := ex_good F (st0 A) s1 (fun _ h => h) ⟨by simp, by simp, fun _ h => by cases h⟩ e1
    cases e2 : paAll (tgs A) F s1 with
    | error m => rw [mn_pa e1 e2] at h; cases h
    | ok s2 =>
      rw [mn_end e1 e2] at h
      have g3 := pos_good F 0 s2 (fun _ h => h) (pa_good F _ _ (fun _ h => h) g1 e2)
      unfold mnEnd at h
      split at h
      · cases h
      · have hp : (posAll (tgs A) F 0 s2).2 = p := by cases h; rfl
        rw [hT] at g3
        exact ⟨hp ▸ g3.nd, fun q hq => g3.sub q (hp ▸ hq)⟩
noncomputable def exG (F : List Str) (A : List Entry) : List (Str × Int) := F.filterMap fun nm => if nm = dots then none else (A.filter fun a => decide (a.1 = some nm)).head?.map fun a => (nm, a.2)
theorem ex_given (F : List Str) (A : List Entry) : givenOf A (exPl (tgs A) F) = exG F A := by
  unfold givenOf exPl exG
  rw [List.map_filterMap]
  congr 1
  funext nm
  split
  · rfl
  · have := idx_tags A fun t => decide (t = some nm)
    have hT : (tgs A).length = A.length := by simp
    rw [hT, ← this, List.head?_map, Option.map_map, Option.map_map]
    rfl
theorem count_idx (A : List Entry) (nm : Str) : (idxFrom (exP (tgs A) nm) 0 (tgs A).length).length = (A.filter fun a => decide (a.1 = some nm)).length := by
  have := congrArg List.length (idx_tags A fun t => decide (t = some nm))
  have hT : (tgs A).length = A.length := by simp
  rw [List.length_map] at this
  rw [hT, ← this]
theorem mn_twice {F : List Str} {A : List Entry} (hF : F.Nodup) (hd : ∀ a ∈ A, a.1 ≠ some dots) {n : Str} {r : List Str} (h : twiceOf F A = n :: r) : mn F A = .error (dbl n) ∧ n ∈ F ∧ n ≠ dots := by
  unfold twiceOf at h
  obtain ⟨l1, l2, rfl, h1, h2, h3⟩ := List.filter_eq_cons_iff.mp h
  have hT : (tgs A).length = A.length := by simp
  have h2' : 1 < (A.filter fun a => decide (a.1 = some n)).length := of_decide_eq_true h2
  have hnd : n ≠ dots := fun e => by
    have : A.filter (fun a => decide (a.1 = some n)) = [] := List.filter_eq_nil_iff.mpr fun a ha q => hd a ha (by rw [← e]; exact of_decide_eq_true q)
    rw [this] at h2'; simp at h2'
  refine ⟨?_, by simp, hnd⟩
  refine mn_ex ?_
  have := ex_err (tgs A) n l2 l1 (List.replicate A.length 0, []) hF (by simp) (fun x _ _ => ⟨rfl, fun j hj _ => by
    show (List.replicate A.length (0 : Int)).getD j 0 = 0
    rw [List.getD_eq_getElem?_getD, List.getElem?_replicate]; split <;> rfl⟩) (fun x hx _ => by
    rw [count_idx]
    have := h1 x hx
    simpa using this) hnd (by rw [count_idx]; exact h2')
  exact this
theorem inP_given (A : List Entry) (p : List (Str × Nat)) (nm : Str) : inP p nm = (givenOf A p).any fun q => decide (q.1 = nm) := by
  unfold inP givenOf
  rw [List.any_map]; rfl
noncomputable def leftG (F : List Str) (gl : List (Str × Int)) : List Str := (F.takeWhile ndots).filter fun nm => !gl.any fun q => decide (q.1 = nm)
theorem left_names (F : List Str) (A : List Entry) (p : List (Str × Nat)) : leftNames F p = leftG F (givenOf A p) := by
  unfold leftNames leftG
  congr 1; funext nm; rw [inP_given A]
theorem drop_filter {α : Type} [DecidableEq α] : ∀ (l : List α) (m : Nat), l.Nodup → (l.filter fun x => !decide (x ∈ l.take m)) = l.drop m
  | [], m, _ => by simp
  | x :: l, 0, _ => by simp
  | x :: l, m + 1, h => by
    rw [List.nodup_cons] at h
    rw [List.take_succ_cons, List.drop_succ_cons, List.filter_cons, if_neg (by simp), ← drop_filter l m h.2]
    refine List.filter_congr fun y hy => ?_
    have hne : y ≠ x := fun e => h.1 (e ▸ hy)
    simp [hne]
end Mine
end
section
open PySem PySem.W PySem.Calls PyProof.Rows
set_option maxHeartbeats 400000
namespace Mine
noncomputable def Once (F : List Str) (A : List Entry) (x : List (Str × Int) × List Str) : Prop :=
  ∃ p r, givenOf A p = exG F A ++ x.1 ++ (leftG F (exG F A ++ x.1)).zip ((A.filter bareE).map (·.2)) ∧
    (leftOf A r).filter bareE = (A.filter bareE).drop (leftG F (exG F A ++ x.1)).length ∧
    (leftOf A r).filter (fun a => !bareE a) = A.filter (fun a => decide (uf F x.2 a.1 = 0) && !bareE a) ∧
    mn F A = if 0 < r.length ∧ dots ∉ F then .error (unusedText (textsOf A r)) else .ok (p, r)
theorem givenOf_append (A : List Entry) (p q : List (Str × Nat)) : givenOf A (p ++ q) = givenOf A p ++ givenOf A q := by unfold givenOf; rw [List.map_append]
theorem givenOf_zip (A : List Entry) : ∀ (R : List Str) (bs : List Nat), givenOf A (R.zip bs) = R.zip ((bs.map fun j => A.getD j nul).map (·.2))
  | [], _ => rfl
  | _ :: _, [] => rfl
  | x :: R, b :: bs => by
    show (x, (A.getD b nul).2) :: givenOf A (R.zip bs) = _
    rw [givenOf_zip A R bs]; rfl
theorem leftOf_rest (A : List Entry) (u : List Int) (h : u.length = A.length) : leftOf A (restOf u) = (((List.range A.length).filter fun j => decide (u.getD j 0 = 0)).map fun j => A.getD j nul) := by
  unfold leftOf restOf
  rw [List.map_map, h]
  refine List.map_congr_left fun j _ => ?_
  simp
theorem mn_once {F : List Str} {A : List Entry} (hF : F.Nodup) (he : ∀ a ∈ A, a.1 ≠ some (Str.ofString "")) (h : twiceOf F A = []) : match paSpec F A F [] with
    | none => ∃ e, mn F A = .error e ∧ ErrIn F A.length e
    | some x => Once F A x := by
  have hT : (tgs A).length = A.length := by simp
  have h1 : ∀ nm ∈ F, nm ≠ dots → (idxFrom (exP (tgs A) nm) 0 (tgs A).length).length ≤ 1 := fun nm hn _ => by
    rw [count_idx]
    have := List.filter_eq_nil_iff.mp h nm hn
    simpa using this
  have hz : ∀ j, (List.replicate A.length (0 : Int)).getD j 0 = 0 := fun j => by
    rw [List.getD_eq_getElem?_getD, List.getElem?_replicate]; split <;> rfl
  obtain ⟨u1, e1, l1, d1⟩ := ex_ok (tgs A) F (st0 A) hF (by simp) (fun nm _ _ => ⟨rfl, fun j _ _ => hz j⟩) h1
  have hu1 : ∀ j, j < A.length → u1.getD j 0 = uf F [] ((tgs A).getD j none) := fun j hj => by
    rw [d1 j]
    unfold uf exB
    cases ht : (tgs A).getD j none with
    | none =>
      have : ¬ ∃ nm, nm ∈ F ∧ nm ≠ dots ∧ (none : Tag) = some nm := fun ⟨_, _, _, q⟩ => by cases q
      rw [if_neg this]
      exact hz j
    | some x =>
      by_cases hx : x ∈ F ∧ x ≠ dots
      · rw [if_pos ⟨x, hx.1, hx.2, rfl⟩]; simp [hx]
      · rw [if_neg (fun ⟨y, q1, q2, q3⟩ => hx (by cases q3; exact ⟨q1, q2⟩))]
        have : (decide (x ∈ F) && decide (x ≠ dots)) = false := by
          rw [Bool.and_eq_false_iff]
          by_cases hm : x ∈ F
          · right; simpa using fun q => hx ⟨hm, q⟩
          · left; simpa using hm
        simp only [this, Bool.false_eq_true, if_false, List.any_nil]
        exact hz j
  have hin : ∀ nm ∈ F, nm ≠ dots → inP (exPl (tgs A) F) nm = hasTag A nm := fun nm hn hnd => by
    rw [Bool.eq_iff_iff, inP_iff]
    unfold hasTag
    rw [List.any_eq_true]
    constructor
    · rintro ⟨q, hq, rfl⟩
      obtain ⟨_, _, h3, h4⟩ := exPl_names (tgs A) F q hq
      rw [tg] at h3
      rw [hT] at h4
      refine ⟨A.getD q.2 nul, ?_, by simpa using h3⟩
      rw [List.getD_eq_getElem?_getD, List.getElem?_eq_getElem h4]
      exact List.getElem_mem h4
    · rintro ⟨a, ha, ha2⟩
      obtain ⟨j, hj, rfl⟩ := List.getElem_of_mem ha
      have hjm : j ∈ idxFrom (exP (tgs A) nm) 0 (tgs A).length := idxFrom_mem.mpr ⟨Nat.zero_le _, by rw [hT]; exact hj, by
        have : (tgs A).getD j none = some nm := by rw [tg, List.getD_eq_getElem?_getD, List.getElem?_eq_getElem hj]; simpa using ha2
        simpa [exP] using this⟩
      cases hx : idxFrom (exP (tgs A) nm) 0 (tgs A).length with
      | nil => rw [hx] at hjm; cases hjm
      | cons k ks =>
        refine ⟨(nm, k), ?_, rfl⟩
        unfold exPl
        rw [List.mem_filterMap]
        exact ⟨nm, hn, by rw [if_neg hnd, hx]; rfl⟩
  have hpa := pa_ok F A F [] u1 (exPl (tgs A) F) hF (by simpa using l1) hu1 hin
  have e1' : exAll (tgs A) F (st0 A) = .ok (u1, exPl (tgs A) F) := by rw [e1]; simp
  cases hq : paSpec F A F [] with
  | none =>
    rw [hq] at hpa
    obtain ⟨e, q1, q2⟩ := hpa
    exact ⟨e, mn_pa e1' q1, q2⟩
  | some x =>
    rw [hq] at hpa
    obtain ⟨u2, pl2, q1, q2, q3, q4⟩ := hpa
    obtain ⟨u3, r1, r2, r3⟩ := pos_ok (tgs A) F 0 u2 (exPl (tgs A) F ++ pl2) hF (by rw [q2, hT]) (Nat.zero_le _)
    have hg : givenOf A (exPl (tgs A) F ++ pl2) = exG F A ++ x.1 := by rw [givenOf_append, ex_given, q4]
    have hbare : idxFrom (freeB (tgs A) u2) 0 (tgs A).length = idxFrom (fun j => Option.isNone ((tgs A).getD j none)) 0 A.length := by
      rw [hT]
      refine idxFrom_congr fun j _ hj => ?_
      unfold freeB
      rw [q3 j hj]
      have hm : A.getD j nul ∈ A := by rw [List.getD_eq_getElem?_getD, List.getElem?_eq_getElem hj]; exact List.getElem_mem hj
      have hne := he _ hm
      rw [← tg] at hne
      cases ht : (tgs A).getD j none with
      | none =>
        have : uf F x.2 none = 0 := by
          unfold uf exB
          have : (x.2.any fun n => preB n none) = false := by rw [List.any_eq_false]; intro n _; simp [preB]
          simp only [this, Bool.false_eq_true, if_false]
        simp [this]
      | some y =>
        rw [ht] at hne
        have : ¬ y = Str.ofString "" := fun q => hne (by rw [q])
        simp [this]
    have hbs := idx_tags A Option.isNone
    have hbe : (A.filter fun a => Option.isNone a.1) = A.filter bareE := rfl
    rw [hbe] at hbs
    rw [hbare, left_names F A, hg] at r1 r3
    refine ⟨exPl (tgs A) F ++ pl2 ++ (leftG F (exG F A ++ x.1)).zip (idxFrom (fun j => Option.isNone ((tgs A).getD j none)) 0 A.length), restOf u3, ?_, ?_, ?_, ?_⟩
    · rw [givenOf_append, hg, givenOf_zip, hbs]
    · rw [leftOf_rest A u3 (r2.trans q2), List.filter_map, List.filter_filter]
      rw [← hbs, ← List.map_drop]
      congr 1
      rw [← drop_filter _ _ (by rw [idxFrom_zero]; exact List.nodup_range.filter _)]
      generalize hbg : idxFrom (fun j => Option.isNone ((tgs A).getD j none)) 0 A.length = bs at r3
      obtain ⟨q, hqq⟩ : ∃ q : Nat → Bool, q = fun k => !decide (k ∈ bs.take (leftG F (exG F A ++ x.1)).length) := ⟨_, rfl⟩
      rw [← hqq, ← hbg, idxFrom_zero, List.filter_filter]
      refine List.filter_congr fun j hj => ?_
      have hjl : j < A.length := List.mem_range.mp hj
      rw [r3 j, q3 j hjl, hqq]
      simp only [Function.comp, bareE]
      rw [← tg]
      cases ht : (tgs A).getD j none with
      | some y => simp
      | none =>
        have h0 : uf F x.2 none = 0 := by
          unfold uf exB
          have : (x.2.any fun n => preB n none) = false := by rw [List.any_eq_false]; intro n _; simp [preB]
          simp only [this, Bool.false_eq_true, if_false]
        rw [h0]
        by_cases hm : j ∈ bs.take (leftG F (exG F A ++ x.1)).length <;> simp [hm]
    · rw [leftOf_rest A u3 (r2.trans q2), List.filter_map, List.filter_filter, ← idx_filter]
      congr 1
      refine List.filter_congr fun j hj => ?_
      have hjl : j < A.length := List.mem_range.mp hj
      rw [r3 j, q3 j hjl, tg]
      simp only [Function.comp]
      cases hb : bareE (A.getD j nul) with
      | true => simp
      | false =>
        have hm : j ∉ (idxFrom (fun j => Option.isNone ((tgs A).getD j none)) 0 A.length).take (leftG F (exG F A ++ x.1)).length := fun q => by
          have := (idxFrom_mem.mp (List.mem_of_mem_take q)).2.2
          rw [tg] at this
          unfold bareE at hb
          rw [hb] at this; cases this
        rw [if_neg hm]
        simp
    · rw [mn_end e1' q1, r1]; rfl
end Mine
end
section
open PySem PySem.W PySem.Calls PyProof.Rows
set_option maxHeartbeats 400000
namespace Mine
section
variable {F : List Str} {A B : List Entry}
theorem twice_perm (hp : B.Perm A) : twiceOf F B = twiceOf F A := by
  unfold twiceOf
  refine List.filter_congr fun n _ => ?_
  rw [(hp.filter _).length_eq]
theorem hasTag_perm (hp : B.Perm A) (nm : Str) : hasTag B nm = hasTag A nm := hp.any_eq
theorem paSpec_perm (hp : B.Perm A) : ∀ (l P : List Str), paSpec F B l P = paSpec F A l P
  | [], _ => rfl
  | nm :: r, P => by
    rw [paSpec, paSpec, hasTag_perm hp]
    by_cases hd : nm = dots
    · rw [if_pos hd, if_pos hd]
    · rw [if_neg hd, if_neg hd]
      by_cases ht : hasTag A nm = true
      · rw [if_pos ht, if_pos ht]; exact paSpec_perm hp r P
      · rw [if_neg ht, if_neg ht]
        have h := hp.filter fun a => caB F nm a.1
        generalize B.filter (fun a => caB F nm a.1) = fb at h
        generalize A.filter (fun a => caB F nm a.1) = fa at h
        match fa, fb, h with
        | [], fb, h => rw [h.eq_nil]; exact paSpec_perm hp r (nm :: P)
        | [a], fb, h =>
          rw [List.perm_singleton.mp h]
          show (if _ then _ else _) = (if _ then _ else _)
          rw [paSpec_perm hp r (nm :: P)]
        | a :: a' :: fa, [], h => exact absurd h.length_eq (by simp)
        | a :: a' :: fa, [b], h => exact absurd h.length_eq (by simp)
        | a :: a' :: fa, b :: b' :: fb, h => rfl
theorem fm_congr {α β : Type} {f g : α → Option β} : ∀ {l : List α}, (∀ x ∈ l, f x = g x) → l.filterMap f = l.filterMap g
  | [], _ => rfl
  | x :: l, h => by
    rw [List.filterMap_cons, List.filterMap_cons, h x (.head _), fm_congr fun y hy => h y (.tail _ hy)]
theorem exG_perm (hp : B.Perm A) (h : twiceOf F A = []) : exG F B = exG F A := by
  unfold exG
  refine fm_congr fun nm hn => ?_
  by_cases hd : nm = dots
  · rw [if_pos hd, if_pos hd]
  · rw [if_neg hd, if_neg hd]
    have hc := List.filter_eq_nil_iff.mp h nm hn
    have h1 := hp.filter fun a => decide (a.1 = some nm)
    have hc' : (A.filter fun a => decide (a.1 = some nm)).length ≤ 1 := by simpa using hc
    generalize B.filter (fun a => decide (a.1 = some nm)) = fb at h1
    generalize A.filter (fun a => decide (a.1 = some nm)) = fa at h1 hc'
    match fa, h1, hc' with
    | [], h1, _ => rw [h1.eq_nil]
    | [a], h1, _ => rw [List.perm_singleton.mp h1]
theorem ne_empty {x : Str} (h : 0 < x.length) : (x == Str.ofString "") = false := by
  rw [beq_eq_false_iff_ne]
  intro e
  rw [e] at h
  exact absurd h (by decide)
theorem dbl_ne (n : Str) : (dbl n == Str.ofString "") = false := ne_empty (by
  have : 0 < (Str.ofString "\" matched by multiple actual arguments").length := by decide
  unfold dbl; rw [Str.length_append]; omega)
theorem multi_ne (i : Nat) : (multi i == Str.ofString "") = false := ne_empty (by
  have : 0 < (Str.ofString " matches multiple formal arguments").length := by decide
  unfold multi; rw [Str.length_append]; omega)
theorem unused_ne (l : List Str) : (unusedText l == Str.ofString "") = false := ne_empty (by
  have : 0 < (Str.ofString ")").length := by decide
  unfold unusedText; rw [Str.length_append]; omega)
theorem errIn_ne {n : Nat} {e : Str} (h : ErrIn F n e) : (e == Str.ofString "") = false := by
  rcases h with ⟨j, _, rfl⟩ | ⟨nm, _, _, rfl⟩
  · exact multi_ne j
  · exact dbl_ne nm
theorem mn_ne (hF : F.Nodup) (hd : ∀ a ∈ A, a.1 ≠ some dots) (he : ∀ a ∈ A, a.1 ≠ some (Str.ofString "")) {w : Str} (h : mn F A = .error w) : (w == Str.ofString "") = false := by
  cases ht : twiceOf F A with
  | cons n r =>
    rw [← Except.error.inj ((mn_twice hF hd ht).1.symm.trans h)]; exact dbl_ne n
  | nil =>
    have := mn_once hF he ht
    cases hq : paSpec F A F [] with
    | none =>
      rw [hq] at this
      obtain ⟨e, h1, h2⟩ := this
      rw [← Except.error.inj (h1.symm.trans h)]
      exact errIn_ne h2
    | some x =>
      rw [hq] at this
      obtain ⟨p, r, _, _, _, h1⟩ := this
      rw [h1] at h
      split at h
      · rw [← Except.error.inj h]; exact unused_ne _
      · cases h
theorem len_left (A : List Entry) (r : List Int) : r.length = ((leftOf A r).filter bareE).length + ((leftOf A r).filter fun a => !bareE a).length := by
  have h := (List.filter_append_perm bareE (leftOf A r)).length_eq
  rw [List.length_append] at h
  rw [h]; unfold leftOf; rw [List.length_map]
theorem same_given_refl {l : List (Str × Int)} (hn : (l.map (·.1)).Nodup) : SameGiven l l := ⟨rfl, by
  induction l with
  | nil => intro q hq; cases hq
  | cons p r ih =>
    rw [List.map_cons, List.nodup_cons] at hn
    intro q hq
    rcases List.mem_cons.mp hq with rfl | hq
    · simp [List.lookup]
    · have hne : (q.1 == p.1) = false := by
        simp only [beq_eq_false_iff_ne, ne_eq]
        intro e
        exact hn.1 (e ▸ List.mem_map_of_mem hq)
      rw [List.lookup_cons, hne]
      exact ih hn.2 q hq⟩
theorem places_short (h : F.length ≤ 100) {p : List (Str × Nat)} {r : List Int} (hm : mn F A = .ok (p, r)) : p.length ≤ 100 := by
  have g := mn_good hm
  have := g.1.length_le_of_subset (l₂ := F) fun x hx => by
    obtain ⟨q, hq, rfl⟩ := List.mem_map.mp hx
    exact (g.2 q hq).1
  rw [List.length_map] at this
  omega
theorem same_holds (hF : F.Nodup) (hFl : F.length ≤ 100) (hd : ∀ a ∈ A, a.1 ≠ some dots) (he : ∀ a ∈ A, a.1 ≠ some (Str.ofString "")) (hp : B.Perm A) (hb : B.filter bareE = A.filter bareE) : SameH F A B := by
  have hdB : ∀ a ∈ B, a.1 ≠ some dots := fun a ha => hd a (hp.mem_iff.mp ha)
  have heB : ∀ a ∈ B, a.1 ≠ some (Str.ofString "") := fun a ha => he a (hp.mem_iff.mp ha)
  have main : (∃ n r, twiceOf F A = n :: r ∧ mn F A = .error (dbl n) ∧ mn F B = .error (dbl n)) ∨
      (twiceOf F A = [] ∧ ((∃ e1 e2, mn F A = .error e1 ∧ mn F B = .error e2) ∨ ∃ p1 r1 p2 r2, mn F A = .ok (p1, r1) ∧ mn F B = .ok (p2, r2) ∧ givenOf A p1 = givenOf B p2 ∧
        ((leftOf A r1).map (·.2)).Perm ((leftOf B r2).map (·.2)) ∧ (leftOf A r1).filter bareE = (leftOf B r2).filter bareE)) := by
    cases ht : twiceOf F A with
    | cons n r => exact .inl ⟨n, r, rfl, (mn_twice hF hd ht).1, (mn_twice hF hdB (by rw [twice_perm hp]; exact ht)).1⟩
    | nil =>
      refine .inr ⟨rfl, ?_⟩
      have h1 := mn_once hF he ht
      have h2 := mn_once hF heB (by rw [twice_perm hp]; exact ht)
      rw [paSpec_perm hp] at h2
      cases hq : paSpec F A F [] with
      | none =>
        rw [hq] at h1 h2
        obtain ⟨e1, q1, _⟩ := h1
        obtain ⟨e2, q2, _⟩ := h2
        exact .inl ⟨e1, e2, q1, q2⟩
      | some x =>
        rw [hq] at h1 h2
        obtain ⟨p1, r1, a1, a2, a3, a4⟩ := h1
        obtain ⟨p2, r2, b1, b2, b3, b4⟩ := h2
        rw [exG_perm hp ht, hb] at b1 b2
        have hperm := hp.filter fun a => decide (uf F x.2 a.1 = 0) && !bareE a
        have hlen : r1.length = r2.length := by
          rw [len_left A r1, len_left B r2, a2, a3, b2, b3, hperm.length_eq]
        rw [← hlen] at b4
        by_cases hc : 0 < r1.length ∧ dots ∉ F
        · rw [if_pos hc] at a4 b4
          exact .inl ⟨_, _, a4, b4⟩
        · rw [if_neg hc] at a4 b4
          refine .inr ⟨p1, r1, p2, r2, a4, b4, by rw [a1, b1], ?_, by rw [a2, b2]⟩
          refine List.Perm.map _ ?_
          have s1 := List.filter_append_perm bareE (leftOf A r1)
          have s2 := List.filter_append_perm bareE (leftOf B r2)
          rw [a2, a3] at s1
          rw [b2, b3] at s2
          exact s1.symm.trans ((hperm.symm.append_left _).trans s2)
  refine ⟨fun w1 h => ?_, fun p1 r1 h => ?_, fun w h => ?_⟩
  · rcases main with ⟨n, r, h1, h2, h3⟩ | ⟨h0, ⟨e1, e2, h2, h3⟩ | ⟨p1, r1, p2, r2, h2, _⟩⟩
    · refine ⟨_, h3, fun n' r' e => ?_⟩
      have en : n = n' := (List.cons.inj (h1.symm.trans e)).1
      rw [← en]
      exact ⟨(Except.error.inj (h2.symm.trans h)).symm, rfl⟩
    · refine ⟨_, h3, fun n' r' e => ?_⟩
      rw [h0] at e; cases e
    · exact absurd (h2.symm.trans h) (fun q => by cases q)
  · rcases main with ⟨n, r, h1, h2, h3⟩ | ⟨h0, ⟨e1, e2, h2, h3⟩ | ⟨q1, s1, p2, r2, h2, h3, h4, h5, h6⟩⟩
    · exact absurd (h2.symm.trans h) (fun q => by cases q)
    · exact absurd (h2.symm.trans h) (fun q => by cases q)
    · obtain ⟨eq1, es1⟩ := Prod.mk.inj (Except.ok.inj (h2.symm.trans h))
      subst eq1; subst es1
      have g1 := mn_good h2
      have g2 := mn_good h3
      refine ⟨p2, r2, h3, fun q hq => (g1.2 q hq).2, fun q hq => (g2.2 q hq).2, places_short hFl h2, places_short hFl h3, ?_, h5, h6⟩
      rw [← h4]
      refine same_given_refl ?_
      have : (givenOf A q1).map (·.1) = q1.map (·.1) := by unfold givenOf; rw [List.map_map]; rfl
      rw [this]; exact g1.1
  · rcases h with h | h
    · exact mn_ne hF hd he h
    · exact mn_ne hF hdB heB h
end
end Mine
end
section
open PySem PySem.W PySem.Calls PyProof.Rows PySem.Builtin PySem.Builtin.Str
set_option maxRecDepth 100000
set_option maxHeartbeats 400000
namespace Mine
noncomputable def pool0 : List Str := [Str.ofString "ab", Str.ofString "abc", Str.ofString "a", Str.ofString "bcd", Str.ofString "...", Str.ofString "x"]
noncomputable def tags10 : List Tag := [none, none, some (Str.ofString "a"), some (Str.ofString "ab"), some (Str.ofString "abc"), some (Str.ofString "b"), some (Str.ofString "bcd"), some (Str.ofString "bc"), some (Str.ofString "x"), some (Str.ofString "zz")]
theorem let1_inj : ∀ x ∈ pool0, ∀ y ∈ pool0, let1 x = let1 y ↔ x = y := by decide +kernel
theorem tag_eq : ∀ n ∈ pool0, ∀ t ∈ tags10, letter t = some (let1 n) ↔ t = some n := by decide +kernel
theorem pre_eq : ∀ n ∈ pool0, n ≠ dots → ∀ t ∈ tags10, preB (let1 n) (letter t) = preB n t := by decide +kernel
theorem free_eq : ∀ t ∈ tags10, (Option.isNone (letter t) || decide (letter t = some (Str.ofString ""))) = (Option.isNone t || decide (t = some (Str.ofString ""))) := by decide +kernel
theorem let1_dots : ∀ n ∈ pool0, let1 n = dots ↔ n = dots := by decide +kernel
theorem pool_nodup : pool0.Nodup := by decide +kernel
theorem tags_nodots : ∀ t ∈ tags10, t ≠ some dots := by decide +kernel
theorem tags_nonempty : ∀ t ∈ tags10, t ≠ some (Str.ofString "") := by decide +kernel
theorem pool_len : ∀ x ∈ pool0, x.length ≤ 90 := by decide +kernel
theorem tags_len : ∀ t ∈ tags10, ∀ x, t = some x → x.length ≤ 90 := by
  have : ∀ t ∈ tags10, (t.getD (Str.ofString "")).length ≤ 90 := by decide +kernel
  intro t ht x e
  have := this t ht
  rw [e] at this; exact this
theorem quote_is : Str.ofString "\"" = ⟨#[34]⟩ := by decide +kernel
theorem cut_once (x P R z : Str) (h : x = P ++ ⟨#[34]⟩ ++ R) (hP : 34 ∉ P.cps.toList) :
    (!(occurrences x ⟨#[34]⟩ 0 x.length 1).isEmpty) = true ∧ glued z (partsBetween x (occurrences x ⟨#[34]⟩ 0 x.length 1) (⟨#[34]⟩ : Str).length) = P ++ z ++ R := by
  have hx : x.cps.toList = P.cps.toList ++ 34 :: R.cps.toList := by rw [h]; simp [Str.cps_append]
  have hat : StrLaws.At x ⟨#[34]⟩ x.length P.length := (StrLaws.subAt_one x 34 P.length).mpr (by
    rw [hx, List.getElem?_append_right (by simp [Str.length])]; simp [Str.length])
  have hno : ∀ k, k < P.length → ¬ StrLaws.At x ⟨#[34]⟩ x.length k := fun k hk hA => by
    have := (StrLaws.subAt_one x 34 k).mp hA
    rw [hx, List.getElem?_append_left (by simpa [Str.length] using hk)] at this
    exact hP (List.mem_of_getElem? this)
  have hocc : occurrences x ⟨#[34]⟩ 0 x.length 1 = [P.length] := by
    rcases StrLaws.occ_head x ⟨#[34]⟩ 1 (Nat.le_refl _) with ⟨_, hn⟩ | ⟨i, r, e, h1, h2⟩
    · exact absurd hat (hn _)
    · have hl := StrLaws.occ_length_le x ⟨#[34]⟩ 0 x.length 1
      rw [e] at hl ⊢
      have hr : r = [] := by cases r with | nil => rfl | cons _ _ => simp at hl
      rcases Nat.lt_trichotomy i P.length with q | q | q
      · exact absurd h1 (hno i q)
      · rw [q, hr]
      · exact absurd hat (h2 _ q)
  rw [hocc]
  refine ⟨rfl, ?_⟩
  rw [StrLaws.partsBetween_eq, StrLaws.glued_eq_join]
  show strSub x 0 P.length ++ z ++ strSub x (P.length + 1) x.length = _
  have hl : x.length = P.length + (1 + R.length) := by rw [h, Str.length_append, Str.length_append]; show _ + 1 + _ = _; omega
  have e1 : strSub x 0 P.length = P := by
    apply Str.ext'
    apply Array.toList_inj.mp
    rw [StrLaws.strSub_toList, hx]
    simp [Str.length]
  have e2 : strSub x (P.length + 1) x.length = R := by
    apply Str.ext'
    apply Array.toList_inj.mp
    rw [StrLaws.strSub_toList, hx, hl]
    have : P.length = P.cps.toList.length := by simp [Str.length]
    rw [this, List.drop_append]
    rw [List.drop_eq_nil_of_le (by omega), List.nil_append]
    have e3 : P.cps.toList.length + 1 - P.cps.toList.length = 1 := by omega
    rw [e3, List.drop_succ_cons, List.drop_zero, List.take_of_length_le (by simp [Str.length]; omega)]
  rw [e1, e2]
theorem dbl_parts (n : Str) : dbl n = Str.ofString "formal argument " ++ ⟨#[34]⟩ ++ (n ++ Str.ofString "\" matched by multiple actual arguments") := by
  have e : Str.ofString "formal argument \"" = Str.ofString "formal argument " ++ ⟨#[34]⟩ := by decide +kernel
  unfold dbl
  rw [e, Str.append_assoc]
theorem dbl_letter (n : Str) (hd : n ≠ dots) : ((!(occurrences (dbl n) (Str.ofString "\"") 0 (dbl n).length 1).isEmpty) = true ∧ glued (Str.ofString "\"q") (partsBetween (dbl n) (occurrences (dbl n) (Str.ofString "\"") 0 (dbl n).length 1) (Str.ofString "\"").length) = dbl (let1 n)) := by
  have h := cut_once (dbl n) _ _ (Str.ofString "\"q") (dbl_parts n) (by decide +kernel)
  rw [quote_is]
  refine ⟨h.1, h.2.trans ?_⟩
  have e : Str.ofString "\"q" = ⟨#[34]⟩ ++ Str.ofString "q" := by decide +kernel
  rw [dbl_parts (let1 n), let1, if_neg hd, e]
  simp only [Str.append_assoc]
theorem multi_letter : ∀ i, i < 6 → ((!(occurrences (multi i) (Str.ofString "\"") 0 (multi i).length 1).isEmpty) = false ∧ Txt.startswith (multi i) (Str.ofString "argument") = true) := by
  have h : ∀ i, i < 6 → (decide (34 ∈ (multi i).cps.toList)) = false ∧ Txt.startswith (multi i) (Str.ofString "argument") = true := by decide +kernel
  intro i hi
  rw [quote_is, StrLaws.found_one]
  exact h i hi
noncomputable def clean (t : Str) : Bool := !decide (34 ∈ t.cps.toList) && !decide (44 ∈ t.cps.toList)
theorem clean_iff {t : Str} : clean t = true ↔ 34 ∉ t.cps.toList ∧ 44 ∉ t.cps.toList := by unfold clean; simp
theorem arg_clean : ∀ t ∈ tags10, ∀ i, i < 6 → clean (argText i t) = true ∧ clean (argText i (letter t)) = true := by decide +kernel
theorem sep_is : Str.ofString ", " = sepS := by decide +kernel
theorem open_is : Str.ofString "(" = ⟨#[40]⟩ := by decide +kernel
theorem shut_is : Str.ofString ")" = ⟨#[41]⟩ := by decide +kernel
theorem join_nsep : ∀ (l : List Str), (∀ t ∈ l, clean t = true) → nsep ((Str.join sepS l).cps.toList ++ [41]) = l.length - 1
  | [], _ => rfl
  | [x], h => by
    show nsep (x.cps.toList ++ [41]) = 0
    rw [nsep_pre _ _ (clean_iff.mp (h x (.head _))).2]; rfl
  | x :: y :: r, h => by
    have ih := join_nsep (y :: r) fun t ht => h t (.tail _ ht)
    have e : (Str.join sepS (x :: y :: r)).cps.toList = x.cps.toList ++ (44 :: 32 :: (Str.join sepS (y :: r)).cps.toList) := by
      show (x ++ sepS ++ Str.join sepS (y :: r)).cps.toList = _
      simp [Str.cps_append, sepS]
    rw [e, List.append_assoc, nsep_pre _ _ (clean_iff.mp (h x (.head _))).2]
    show nsep (44 :: 32 :: (_ ++ [41])) = _
    rw [nsep_cut, ih]
    simp only [List.length_cons]; omega
theorem join_noq : ∀ (l : List Str), (∀ t ∈ l, clean t = true) → 34 ∉ (Str.join sepS l).cps.toList
  | [], _ => by simp [Str.join, Str.empty]
  | [x], h => (clean_iff.mp (h x (.head _))).1
  | x :: y :: r, h => by
    have ih := join_noq (y :: r) fun t ht => h t (.tail _ ht)
    have e : (Str.join sepS (x :: y :: r)).cps.toList = x.cps.toList ++ (44 :: 32 :: (Str.join sepS (y :: r)).cps.toList) := by
      show (x ++ sepS ++ Str.join sepS (y :: r)).cps.toList = _
      simp [Str.cps_append, sepS]
    rw [e]
    have := (clean_iff.mp (h x (.head _))).1
    simp [this, ih]
noncomputable def headS (k : Nat) : Str := if 1 < k then Str.ofString "unused arguments " else Str.ofString "unused argument "
theorem head_noq (k : Nat) : 34 ∉ (headS k).cps.toList ∧ 40 ∉ (headS k).cps.toList ∧ 44 ∉ (headS k).cps.toList ∧ ∃ r, (headS k).cps.toList = 117 :: r := by
  unfold headS
  split
  · exact ⟨by decide +kernel, by decide +kernel, by decide +kernel, (Str.ofString "unused arguments ").cps.toList.tail, by decide +kernel⟩
  · exact ⟨by decide +kernel, by decide +kernel, by decide +kernel, (Str.ofString "unused argument ").cps.toList.tail, by decide +kernel⟩
theorem unused_parts (l : List Str) : unusedText l = headS l.length ++ ⟨#[40]⟩ ++ (Str.join sepS l ++ ⟨#[41]⟩) := by
  unfold unusedText headS
  have e : Str.ofString " (" = Str.ofString " " ++ ⟨#[40]⟩ := by decide +kernel
  have e1 : Str.ofString "unused arguments " = Str.ofString "unused arguments" ++ Str.ofString " " := by decide +kernel
  have e2 : Str.ofString "unused argument " = Str.ofString "unused argument" ++ Str.ofString " " := by decide +kernel
  have e3 : Txt.join (Str.ofString ", ") l = Str.join sepS l := by rw [sep_is]; exact StrLaws.glued_eq_join _ _
  rw [e, e1, e2, e3, shut_is]
  split <;> simp only [Str.append_assoc]
theorem unused_list (l : List Str) : (unusedText l).cps.toList = (headS l.length).cps.toList ++ (40 :: ((Str.join sepS l).cps.toList ++ [41])) := by
  rw [unused_parts]; simp [Str.cps_append]
theorem unused_letter (l1 l2 : List Str) (hl : l2.length = l1.length) (h1 : ∀ t ∈ l1, clean t = true) (h2 : ∀ t ∈ l2, clean t = true) : LetterW (unusedText l1) (unusedText l2) := by
  refine ⟨unused_ne _, .inr (.inr ⟨?_, ?_, unused_ne _, ?_, ?_⟩)⟩
  · rw [quote_is, StrLaws.found_one, decide_eq_false_iff_not, unused_list]
    have a := (head_noq l1.length).1
    have b := join_noq l1 h1
    simp [a, b]
  · unfold Txt.startswith
    rw [StrLaws.subAt_eq, Bool.and_eq_false_iff]
    right
    rw [unused_list]
    obtain ⟨r, hr⟩ := (head_noq l1.length).2.2.2
    have e8 : (Str.ofString "argument").cps.toList = 97 :: (Str.ofString "argument").cps.toList.tail := by decide +kernel
    have el : (Str.ofString "argument").length = 7 + 1 := by decide +kernel
    rw [hr, el, e8, List.drop_zero, List.cons_append, List.take_succ_cons]
    simp
  · rw [open_is]
    have a := (head_noq l1.length).2.1
    obtain ⟨b1, q1⟩ := split_head _ _ _ (unused_parts l1) a
    obtain ⟨b2, q2⟩ := split_head _ _ _ (unused_parts l2) (by rw [hl]; exact a)
    rw [hl] at q2
    exact ⟨_, b1, b2, q1, q2⟩
  · rw [sep_is, split_count, split_count, unused_list, unused_list]
    have a := (head_noq l1.length).2.2.1
    rw [hl]
    rw [nsep_pre _ _ a, nsep_pre _ _ a]
    have c1 := nsep_pre [40] ((Str.join sepS l1).cps.toList ++ [41]) (by decide)
    have c2 := nsep_pre [40] ((Str.join sepS l2).cps.toList ++ [41]) (by decide)
    rw [List.singleton_append] at c1 c2
    rw [c1, c2, join_nsep l1 h1, join_nsep l2 h2, hl]
end Mine
end
section
open PySem PySem.W PySem.Calls PyProof.Rows PySem.Builtin PySem.Builtin.Str
set_option maxRecDepth 100000
set_option maxHeartbeats 400000
namespace Mine
noncomputable def letP (pl : List (Str × Nat)) : List (Str × Nat) := pl.map fun q => (let1 q.1, q.2)
noncomputable def letSt (st : St) : St := (st.1, letP st.2)
noncomputable def InPool (st : St) : Prop := ∀ q ∈ st.2, q.1 ∈ pool0
noncomputable def LR (x y : Except Str St) : Prop := (∃ st, InPool st ∧ x = .ok st ∧ y = .ok (letSt st)) ∨ (∃ n ∈ pool0, n ≠ dots ∧ x = .error (dbl n) ∧ y = .error (dbl (let1 n))) ∨ ∃ i, i < 6 ∧ x = .error (multi i) ∧ y = .error (multi i)
theorem LR.ok {st : St} (h : InPool st) : LR (.ok st) (.ok (letSt st)) := .inl ⟨st, h, rfl, rfl⟩
theorem LR.dbl {n : Str} (h : n ∈ pool0) (hd : n ≠ dots) : LR (.error (Mine.dbl n)) (.error (Mine.dbl (let1 n))) := .inr (.inl ⟨n, h, hd, rfl, rfl⟩)
theorem LR.multi {i : Nat} (h : i < 6) : LR (.error (Mine.multi i)) (.error (Mine.multi i)) := .inr (.inr ⟨i, h, rfl, rfl⟩)
theorem LR.bind {x y : Except Str St} {f g : St → Except Str St} (h : LR x y) (hf : ∀ st, InPool st → LR (f st) (g (letSt st))) : LR (x.bind f) (y.bind g) := by
  rcases h with ⟨st, h1, rfl, rfl⟩ | ⟨n, h1, h2, rfl, rfl⟩ | ⟨i, h1, rfl, rfl⟩
  · exact hf st h1
  · exact .inr (.inl ⟨n, h1, h2, rfl, rfl⟩)
  · exact .inr (.inr ⟨i, h1, rfl, rfl⟩)
theorem inP_let {pl : List (Str × Nat)} (h : ∀ q ∈ pl, q.1 ∈ pool0) {n : Str} (hn : n ∈ pool0) : inP (letP pl) (let1 n) = inP pl n := by
  rw [Bool.eq_iff_iff, inP_iff, inP_iff]
  unfold letP
  constructor
  · rintro ⟨q, hq, e⟩
    obtain ⟨q', hq', rfl⟩ := List.mem_map.mp hq
    exact ⟨q', hq', (let1_inj _ (h q' hq') _ hn).mp e⟩
  · rintro ⟨q, hq, e⟩
    exact ⟨_, List.mem_map_of_mem hq, by show let1 q.1 = _; rw [e]⟩
theorem tag_let (T : List Tag) (i : Nat) : (T.map letter).getD i none = letter (T.getD i none) := by
  rw [List.getD_eq_getElem?_getD, List.getD_eq_getElem?_getD, List.getElem?_map]
  cases T[i]? <;> rfl
theorem tag_in {T : List Tag} (h : ∀ t ∈ T, t ∈ tags10) (i : Nat) : T.getD i none ∈ tags10 := by
  rw [List.getD_eq_getElem?_getD]
  by_cases hi : i < T.length
  · rw [List.getElem?_eq_getElem hi]; exact h _ (List.getElem_mem hi)
  · rw [List.getElem?_eq_none (by omega)]; exact .head _
theorem InPool.add {st : St} (h : InPool st) {n : Str} (hn : n ∈ pool0) (i : Nat) (u : List Int) : InPool (u, st.2 ++ [(n, i)]) := fun q hq => by
  rcases List.mem_append.mp hq with hq | hq
  · exact h q hq
  · rw [List.mem_singleton.mp hq]; exact hn
theorem letSt_add (st : St) (n : Str) (i : Nat) (u : List Int) : letSt (u, st.2 ++ [(n, i)]) = (u, (letSt st).2 ++ [(let1 n, i)]) := by
  unfold letSt letP; simp
section
variable {T : List Tag} (hT : ∀ t ∈ T, t ∈ tags10)
include hT
theorem ex_sim {n : Str} (hn : n ∈ pool0) (hd : n ≠ dots) (i : Nat) (st : St) (hi : InPool st) : LR (exTurn T n i st) (exTurn (T.map letter) (let1 n) i (letSt st)) := by
  unfold exTurn
  rw [tag_let]
  have ht := tag_eq n hn _ (tag_in hT i)
  by_cases c : T.getD i none = some n ∧ st.1.getD i 0 = 0
  · have c2 : letter (T.getD i none) = some (let1 n) ∧ (letSt st).1.getD i 0 = 0 := ⟨ht.mpr c.1, c.2⟩
    rw [if_pos c, if_pos c2]
    have e : inP (letSt st).2 (let1 n) = inP st.2 n := inP_let hi hn
    rw [e]
    by_cases q : inP st.2 n = true
    · rw [if_pos q, if_pos q]; exact .dbl hn hd
    · rw [if_neg q, if_neg q, ← letSt_add]; exact .ok (hi.add hn i _)
  · have c2 : ¬ (letter (T.getD i none) = some (let1 n) ∧ (letSt st).1.getD i 0 = 0) := fun q => c ⟨ht.mp q.1, q.2⟩
    rw [if_neg c, if_neg c2]
    exact .ok hi
theorem pa_sim {n : Str} (hn : n ∈ pool0) (hd : n ≠ dots) (i : Nat) (hi6 : i < 6) (st : St) (hi : InPool st) : LR (paTurn T n i st) (paTurn (T.map letter) (let1 n) i (letSt st)) := by
  unfold paTurn
  rw [tag_let, pre_eq n hn hd _ (tag_in hT i)]
  have e : inP (letSt st).2 (let1 n) = inP st.2 n := inP_let hi hn
  have e1 : (letSt st).1 = st.1 := rfl
  rw [e, e1]
  by_cases c : st.1.getD i 0 ≠ 2 ∧ preB n (T.getD i none) = true
  · rw [if_pos c, if_pos c]
    by_cases c1 : st.1.getD i 0 = 1
    · rw [if_pos c1, if_pos c1]; exact .multi hi6
    · rw [if_neg c1, if_neg c1]
      by_cases q : inP st.2 n = true
      · rw [if_pos q, if_pos q]; exact .dbl hn hd
      · rw [if_neg q, if_neg q, ← letSt_add]; exact .ok (hi.add hn i _)
  · rw [if_neg c, if_neg c]; exact .ok hi
omit hT in
theorem upto_sim {t1 t2 : Nat → St → Except Str St} {n : Nat} (h : ∀ i st, i < n → InPool st → LR (t1 i st) (t2 i (letSt st))) : ∀ k i st, n - i = k → InPool st → LR (upto t1 n i st) (upto t2 n i (letSt st)) := by
  intro k
  induction k with
  | zero => intro i st hk hi; rw [upto_stop (by omega), upto_stop (by omega)]; exact .ok hi
  | succ k ih =>
    intro i st hk hi
    rw [upto_step (by omega), upto_step (by omega)]
    exact (h i st (by omega) hi).bind fun st' hi' => ih (i + 1) st' (by omega) hi'
theorem exAll_sim : ∀ (l : List Str) (st : St), (∀ x ∈ l, x ∈ pool0) → InPool st → LR (exAll T l st) (exAll (T.map letter) (lets l) (letSt st))
  | [], st, _, hi => .ok hi
  | n :: r, st, hl, hi => by
    have hn := hl n (.head _)
    have hr : ∀ x ∈ r, x ∈ pool0 := fun x hx => hl x (.tail _ hx)
    show LR _ (exAll (T.map letter) (let1 n :: lets r) (letSt st))
    rw [exAll, exAll]
    by_cases hd : n = dots
    · rw [if_pos hd, if_pos ((let1_dots n hn).mpr hd)]
      exact exAll_sim r st hr hi
    · rw [if_neg hd, if_neg (fun q => hd ((let1_dots n hn).mp q)), List.length_map]
      exact (upto_sim (fun i st' _ hi' => ex_sim hT hn hd i st' hi') _ 0 st rfl hi).bind fun st' hi' => exAll_sim r st' hr hi'
theorem paAll_sim (h6 : T.length ≤ 6) : ∀ (l : List Str) (st : St), (∀ x ∈ l, x ∈ pool0) → InPool st → LR (paAll T l st) (paAll (T.map letter) (lets l) (letSt st))
  | [], st, _, hi => .ok hi
  | n :: r, st, hl, hi => by
    have hn := hl n (.head _)
    have hr : ∀ x ∈ r, x ∈ pool0 := fun x hx => hl x (.tail _ hx)
    show LR _ (paAll (T.map letter) (let1 n :: lets r) (letSt st))
    rw [paAll, paAll]
    by_cases hd : n = dots
    · rw [if_pos hd, if_pos ((let1_dots n hn).mpr hd)]
      exact .ok hi
    · rw [if_neg hd, if_neg (fun q => hd ((let1_dots n hn).mp q)), List.length_map]
      have e : inP (letSt st).2 (let1 n) = inP st.2 n := inP_let hi hn
      rw [e]
      by_cases q : inP st.2 n = true
      · rw [if_pos q, if_pos q]; exact paAll_sim h6 r st hr hi
      · rw [if_neg q, if_neg q]
        exact (upto_sim (fun i st' hi2 hi' => pa_sim hT hn hd i (by omega) st' hi') _ 0 st rfl hi).bind fun st' hi' => paAll_sim h6 r st' hr hi'
theorem free_sim (u : List Int) (i : Nat) : freeB (T.map letter) u i = freeB T u i := by
  unfold freeB
  rw [tag_let, free_eq _ (tag_in hT i)]
theorem skip_sim (u : List Int) (n : Nat) : ∀ (k pl : Nat), n - pl = k → skipTo (T.map letter) u n pl = skipTo T u n pl
  | 0, pl, hk => by rw [skipTo_stop (by omega), skipTo_stop (by omega)]
  | k + 1, pl, hk => by
    cases hf : freeB T u pl with
    | true => rw [skipTo_stop (by rw [free_sim hT, hf]; simp), skipTo_stop (by rw [hf]; simp)]
    | false =>
      rw [skipTo_step (by omega) (by rw [free_sim hT, hf]), skipTo_step (by omega) hf]
      exact skip_sim u n k (pl + 1) (by omega)
theorem posAll_sim : ∀ (l : List Str) (pl : Nat) (st : St), (∀ x ∈ l, x ∈ pool0) → InPool st → posAll (T.map letter) (lets l) pl (letSt st) = letSt (posAll T l pl st)
  | [], _, st, _, _ => rfl
  | n :: r, pl, st, hl, hi => by
    have hn := hl n (.head _)
    have hr : ∀ x ∈ r, x ∈ pool0 := fun x hx => hl x (.tail _ hx)
    show posAll (T.map letter) (let1 n :: lets r) pl (letSt st) = _
    rw [posAll, posAll]
    by_cases hd : n = dots
    · rw [if_pos hd, if_pos ((let1_dots n hn).mpr hd)]
    · rw [if_neg hd, if_neg (fun q => hd ((let1_dots n hn).mp q)), List.length_map]
      have e : inP (letSt st).2 (let1 n) = inP st.2 n := inP_let hi hn
      have e1 : (letSt st).1 = st.1 := rfl
      rw [e, e1, skip_sim hT st.1 T.length _ pl rfl]
      by_cases q : inP st.2 n = true
      · rw [if_pos q, if_pos q]; exact posAll_sim r pl st hr hi
      · rw [if_neg q, if_neg q]
        by_cases c : skipTo T st.1 T.length pl < T.length
        · rw [if_pos c, if_pos c, ← letSt_add]
          exact posAll_sim r _ _ hr (hi.add hn _ _)
        · rw [if_neg c, if_neg c]
          exact posAll_sim r _ st hr hi
end
theorem tgs_letA (A : List Entry) : tgs (letA A) = (tgs A).map letter := by unfold letA; simp
theorem lets_dots {F : List Str} (hF : ∀ x ∈ F, x ∈ pool0) : dots ∈ lets F ↔ dots ∈ F := by
  unfold lets
  rw [List.mem_map]
  constructor
  · rintro ⟨x, hx, e⟩
    rw [(let1_dots x (hF x hx)).mp e] at hx; exact hx
  · intro h
    exact ⟨dots, h, (let1_dots dots (hF _ h)).mpr rfl⟩
theorem texts_let (A : List Entry) (r : List Int) : textsOf (letA A) r = r.map fun k => argText k.toNat (letter (A.getD k.toNat nul).1) := by
  unfold textsOf
  refine List.map_congr_left fun k _ => ?_
  have := tag_let (tgs A) k.toNat
  rw [← tgs_letA, tg, tg] at this
  rw [this]
theorem letter_holds {F : List Str} {A : List Entry} (hF : ∀ x ∈ F, x ∈ pool0) (hA : ∀ a ∈ A, a.1 ∈ tags10) (hl : A.length ≤ 6) : LetterH F A := by
  have hT : ∀ t ∈ tgs A, t ∈ tags10 := fun t ht => by
    obtain ⟨a, ha, rfl⟩ := List.mem_map.mp ht
    exact hA a ha
  have hTl : (tgs A).length = A.length := by simp
  have s0 : letSt (st0 A) = st0 (letA A) := by unfold letSt letP st0 letA; simp
  have h1 := exAll_sim hT F (st0 A) hF (fun q hq => by cases hq)
  rw [s0, ← tgs_letA] at h1
  have key : (∃ n ∈ pool0, n ≠ dots ∧ mn F A = .error (dbl n) ∧ mn (lets F) (letA A) = .error (dbl (let1 n))) ∨ (∃ i, i < 6 ∧ mn F A = .error (multi i) ∧ mn (lets F) (letA A) = .error (multi i)) ∨
      ∃ s3, s3.1.length = A.length ∧ mn F A = mnEnd F A s3 ∧ mn (lets F) (letA A) = mnEnd (lets F) (letA A) (letSt s3) := by
    rcases h1 with ⟨s1, i1, a1, b1⟩ | ⟨n, hn, hd, a1, b1⟩ | ⟨i, hi, a1, b1⟩
    · have h2 := paAll_sim hT (by omega) F s1 hF i1
      rw [← tgs_letA] at h2
      rcases h2 with ⟨s2, i2, a2, b2⟩ | ⟨n, hn, hd, a2, b2⟩ | ⟨i, hi, a2, b2⟩
      · refine .inr (.inr ⟨posAll (tgs A) F 0 s2, (mn_end_good a1 a2).len, mn_end a1 a2, ?_⟩)
        rw [mn_end b1 b2, ← posAll_sim hT F 0 s2 hF i2, tgs_letA]
      · exact .inl ⟨n, hn, hd, mn_pa a1 a2, mn_pa b1 b2⟩
      · exact .inr (.inl ⟨i, hi, mn_pa a1 a2, mn_pa b1 b2⟩)
    · exact .inl ⟨n, hn, hd, mn_ex a1, mn_ex b1⟩
    · exact .inr (.inl ⟨i, hi, mn_ex a1, mn_ex b1⟩)
  have hend : ∀ s3 : St, s3.1.length = A.length → ∀ k ∈ restOf s3.1, k.toNat < 6 := fun s3 h3 k hk => by
    unfold restOf at hk
    obtain ⟨j, hj, rfl⟩ := List.mem_map.mp hk
    have := List.mem_range.mp (List.mem_filter.mp hj).1
    simp; omega
  have htag : ∀ k : Nat, (A.getD k nul).1 ∈ tags10 := fun k => by rw [← tg]; exact tag_in hT k
  refine ⟨fun w1 h => ?_, fun p r h => ?_⟩
  · rcases key with ⟨n, hn, hd, a, b⟩ | ⟨i, hi, a, b⟩ | ⟨s3, h3, a, b⟩
    · refine ⟨_, b, ?_⟩
      rw [← Except.error.inj (a.symm.trans h)]
      exact ⟨dbl_ne n, .inl (dbl_letter n hd)⟩
    · refine ⟨_, b, ?_⟩
      rw [← Except.error.inj (a.symm.trans h)]
      exact ⟨multi_ne i, .inr (.inl ⟨(multi_letter i hi).1, (multi_letter i hi).2, rfl⟩)⟩
    · rw [a] at h
      unfold mnEnd at h b
      have e1 : (letSt s3).1 = s3.1 := rfl
      rw [e1] at b
      by_cases c : 0 < (restOf s3.1).length ∧ dots ∉ F
      · have c2 : 0 < (restOf s3.1).length ∧ dots ∉ lets F := ⟨c.1, fun q => c.2 ((lets_dots hF).mp q)⟩
        rw [if_pos c] at h
        rw [if_pos c2] at b
        refine ⟨_, b, ?_⟩
        rw [← Except.error.inj h]
        refine unused_letter _ _ (by rw [texts_let]; unfold textsOf; rw [List.length_map, List.length_map]) (fun t ht => ?_) (fun t ht => ?_)
        · obtain ⟨k, hk, rfl⟩ := List.mem_map.mp ht
          exact (arg_clean _ (htag _) _ (hend s3 h3 k hk)).1
        · rw [texts_let] at ht
          obtain ⟨k, hk, rfl⟩ := List.mem_map.mp ht
          exact (arg_clean _ (htag _) _ (hend s3 h3 k hk)).2
      · rw [if_neg c] at h
        cases h
  · have g := mn_good h
    rcases key with ⟨n, hn, hd, a, b⟩ | ⟨i, hi, a, b⟩ | ⟨s3, h3, a, b⟩
    · exact absurd (a.symm.trans h) (fun q => by cases q)
    · exact absurd (a.symm.trans h) (fun q => by cases q)
    · rw [a] at h
      unfold mnEnd at h b
      have e1 : (letSt s3).1 = s3.1 := rfl
      rw [e1] at b
      by_cases c : 0 < (restOf s3.1).length ∧ dots ∉ F
      · rw [if_pos c] at h; cases h
      · have c2 : ¬ (0 < (restOf s3.1).length ∧ dots ∉ lets F) := fun q => c ⟨q.1, fun m => q.2 ((lets_dots hF).mpr m)⟩
        rw [if_neg c] at h
        rw [if_neg c2] at b
        obtain ⟨ep, er⟩ := Prod.mk.inj (Except.ok.inj h)
        have ep2 : (letSt s3).2 = p.map fun q => (let1 q.1, q.2) := by rw [← ep]; rfl
        rw [er, ep2] at b
        have hin : ∀ q ∈ p, q.1 ∈ pool0 := fun q hq => hF _ (g.2 q hq).1
        refine ⟨b, ?_, ?_, fun q hq => pool_len _ (hin q hq)⟩
        · have hnd := g.1
          unfold List.Nodup at hnd ⊢
          rw [List.pairwise_map] at hnd ⊢
          exact hnd.imp_of_mem fun {x y} hx hy hne e => hne ((let1_inj _ (hin x hx) _ (hin y hy)).mp e)
        · have := g.1.length_le_of_subset (l₂ := pool0) fun x hx => by
            obtain ⟨q, hq, rfl⟩ := List.mem_map.mp hx
            exact hin q hq
          rw [List.length_map] at this
          have : pool0.length = 6 := rfl
          omega
theorem same_pool {F : List Str} {A B : List Entry} (hF : ∀ x ∈ F, x ∈ pool0) (hn : F.Nodup) (hA : ∀ a ∈ A, a.1 ∈ tags10) (hp : B.Perm A) (hb : B.filter bareE = A.filter bareE) : SameH F A B := by
  refine same_holds hn ?_ (fun a ha => tags_nodots _ (hA a ha)) (fun a ha => tags_nonempty _ (hA a ha)) hp hb
  have := hn.length_le_of_subset (l₂ := pool0) hF
  have : pool0.length = 6 := rfl
  omega
end Mine
end
section
open PySem PySem.W PySem.Calls PyProof.Rows
set_option maxRecDepth 100000
set_option maxHeartbeats 4000000
namespace Mine
theorem say_MLawT_35 : True := by
  k_with_none
  (k_with "call ref" => (k_here; (with_reducible show wpAny _ _ (call (Value.ref _) _ _) _ _ _); refine halt ?_))
  (k_with "subscriptTail" => (k_here; (with_reducible show wpAny _ _ (subscriptTail _ _ (Value.ref _) (Value.int _ _)) _ _ _); k_dflt (refine' tail_L (by exact isList_G (by k_asm) (by assumption)) (by omega) (by omega) (by assumption) ?_ (by with_unfolding_all rfl);  k_whole)))
  (k_with "subscriptTail" => (k_here; (with_reducible show wpAny _ _ (subscriptTail _ _ (Value.ref _) (Value.int _ _)) _ _ _); k_dflt (refine' tail_L (by exact LstO.isList (by assumption) (News.get (by k_asm) (by k_mem))) (by omega) (by omega) (by assumption) ?_ (by with_unfolding_all rfl);  k_whole)))
  (k_with "eval Name" => (k_here; k_dflt (refine' nameX_L (by k_asm) (by first | rfl | assumption) ?_ (by rfl) (by rfl);  k_whole)))
  (k_with "own iter" => ((with_reducible show wpAny _ _ (pyIter (Value.ref _)) (fun it s₂ => LoopAtV _ _ _ _ _ _ _ _ _ it s₂) _ _); refine halt ?_))
  (k_with "InvEndN" => (refine halt ?_))
  (k_with "compareOp NotIn str ref" => (k_dflt (refine' notIn_Db (by k_asm) (by k_mem) (by assumption) (by assumption) (by exact PlacesK.isSome (by assumption) _) ?_;  k_whole)))
  (k_with "compareOp In str ref" => (k_dflt (refine' in_Db (by k_asm) (by k_mem) (by assumption) (by assumption) (by exact PlacesK.isSome (by assumption) _) ?_;  k_whole)))
  (k_with "call builtin:len" => (k_here; k_dflt (refine' len_L (by exact isList_G (by k_asm) (by assumption)) (by first | assumption | exact TagsAre.len (by assumption) | exact IntsV.len (by assumption) | exact StrsV.len (by assumption)) (by omega) ?_); intro _ _))
  (k_with "setItem" => (k_here; (with_reducible show wpAny _ _ (setItem (Value.ref _) (Value.str _ _) _) _ _ _); k_dflt (refine' set_D (by k_asm) (by k_asm) (by k_updF) (by assumption) (by first | decide | omega) ?_;  k_whole); intro _ _ _ _ _))
  (k_with "setItem" => (k_here; (with_reducible show wpAny _ _ (setItem (Value.ref _) (Value.int _ _) _) _ _ _); k_dflt (refine' set_L (by k_asm) (by k_asm) (by k_updF) (by assumption) (by omega) (by omega) (by omega) ?_;  k_whole); intro _ _ _ _ _))
  (k_with "loadName" => (k_here; k_dflt (refine' ldn (by k_asm) (by first | rfl | assumption) ?_ (by rfl) (by rfl);  k_whole)))
  (k_with "memall" => ((repeat (refine List.forall_mem_cons.mpr ⟨by k_mem, ?_⟩)); exact List.forall_mem_nil _))
  (k_with "exec Raise Call" => (refine halt ?_))
  (k_with "exec Raise" => (refine halt ?_))
  (k_with "assign Tuple" => (k_here; (with_reducible show wpAny _ _ (assign (Expr.Tuple _ _ _) _ (Value.ref _)) _ _ _); k_dflt (refine' unpackN_ (by k_asm) (by k_asm) (by first | assumption | exact IsTup.keeps (by assumption) (Fr.keep (by k_asm))) (by assumption) (by exact rfl) (by exact rfl) ?_); intro _ _ _))
  (k_with "call builtin:len" => (k_here; k_dflt (refine' len_L (by exact LstO.isList (lst_O _) (News.get (by k_asm) (by k_mem))) (by first | assumption | exact IntsV.len (by assumption) | exact StrsV.len (by assumption)) (by omega) ?_); intro _ _))
  (k_with "subscriptTail" => (k_here; (with_reducible show wpAny _ _ (subscriptTail _ _ (Value.ref _) (Value.int _ _)) _ _ _); k_dflt (refine' item_tupleL (by exact IsTup.keeps (by assumption) (Fr.keep (by k_asm))) (by decide) (by decide) (by rfl) (by rfl) ?_;  k_whole)))
  (k_with "CompSrcT" => (refine halt ?_))
  (k_with "CompSrc" => (refine halt ?_))
  (k_with "CompEnd" => (refine halt ?_))
  (k_with "compareOp Eq str str" => (k_here; k_dflt (refine' eq_strb (by assumption) ?_;  k_whole)))
  (k_with "compareOp NotEq str str" => (k_here; k_dflt (refine' ne_strb (by assumption) ?_;  k_whole)))
  (k_with "call type:list" => (k_here; (with_reducible show wpAny _ _ (call (Value.type _) [Value.ref _]) _ _ _); k_dflt (refine' list_copyK (by k_asm) (by k_asm) (by exact isList_G (by k_asm) (by assumption)) ?_ (by assumption);  k_whole); intro _ _ _ _ _ _))
  (k_with "compareOp NotEq ref ref" => (refine halt ?_))
  (k_with "compareOp Eq ref ref" => (refine halt ?_))
  (k_with "eval ListComp" => (k_here; (with_reducible show wpAny _ _ (eval (Expr.ListComp _ (Comprehension.mk (Expr.Tuple _ _ _) _ _ _ :: _) _ _) _) _ _ _); refine halt ?_))
  (k_with "call builtin:sorted" => (refine halt ?_))
  (k_with "PairSrc" => (refine halt ?_))
  (k_with "lmem" => (first | exact .head _ | exact .tail _ (.head _) | exact .tail _ (.tail _ (.head _)) | exact .tail _ (.tail _ (.tail _ (.head _)))))
  (k_with "subscriptTail Name Slice ref ref" => (refine halt ?_))
  (k_with "subscriptTail" => ((with_reducible show wpAny _ _ (subscriptTail _ (PySem.Expr.Slice _ _ none _) (Value.ref _) (Value.ref _)) _ _ _); refine halt ?_))
  (k_with "execs cons Assign cons" => ((with_reducible refine wpAny_execs_cons ?_); try dsimp only))
  (k_with "call builtin:list.append" => (k_here; (with_reducible show wpAny _ _ (call (Value.builtin _) [Value.ref _, _]) _ _ _); k_dflt (refine' append_K (by k_asm) (by k_asm) (by k_upd) ?_ (by rw [List.size_toArray]; exact Nat.le_trans (by assumption) (by decide : 1000 ≤ sizeLine));  k_whole); intro _ _ _))
  (k_with "call builtin:list.pop" => (refine halt ?_))
  (k_with "call builtin:len" => (refine halt ?_))
  (k_with "call type:range" => (refine halt ?_))
  (k_with "subscriptTail" => ((with_reducible show wpAny _ _ (subscriptTail _ _ (Value.ref _) (Value.int _ _)) _ _ _); refine halt ?_))
  exact trivial
theorem StrsV.cons {vs : List Value} {xs : List Str} {x : Str} {t : Tok} (h : StrsV vs xs) : StrsV (.str x t :: vs) (x :: xs) := by
  refine ⟨by simp [h.len], fun i q hq => ?_⟩
  cases i with
  | zero => simp at hq; subst hq; exact ⟨t, rfl⟩
  | succ i => exact h.at_ i q (by simpa using hq)
theorem StrsV.erase {vs : List Value} {xs : List Str} (h : StrsV vs xs) (k : Nat) : StrsV (vs.eraseIdx k) (xs.eraseIdx k) := by
  refine ⟨by simp [List.length_eraseIdx, h.len], fun i q hq => ?_⟩
  rw [List.getElem?_eraseIdx] at hq ⊢
  split at hq
  · rw [if_pos (by assumption)]; exact h.at_ _ q hq
  · rw [if_neg (by assumption)]; exact h.at_ _ q hq
theorem allLt_mem {d : Nat} {l : List (Addr × Obj)} (h : AllLt d l) : ∀ p ∈ l, p.1 < d := by
  induction l with
  | nil => intro p hp; cases hp
  | cons q r ih =>
    intro p hp
    rcases List.mem_cons.mp hp with e | hp
    · rw [e]; exact h.1
    · exact ih h.2 p hp
theorem TagsAre.cons {vs : List Value} {xs : List Tag} {x : Tag} {v : Value} (hv : TagV v x) (h : TagsAre vs xs) : TagsAre (v :: vs) (x :: xs) := by
  refine ⟨by simp [h.len], fun i q hq => ?_⟩
  cases i with
  | zero => simp at hq; subst hq; exact ⟨v, rfl, hv⟩
  | succ i => exact h.at_ i q (by simpa using hq)
structure TupsJ (i : Nat) (tgs : List Tag) (Ts : List Addr) (tl : List (Addr × Obj)) : Prop where
  l1 : tgs.length = i
  l2 : Ts.length = i
  at_ : ∀ k < i, ∃ v tk o, (Ts.getD k 0, o) ∈ tl ∧ TagV v (tgs.getD k none) ∧ ∀ h' : Heap, h'.get? (Ts.getD k 0) = some o → IsTup h' (Ts.getD k 0) #[v, .int (70 + (k : Int)) tk]
  mem : ∀ t ∈ tgs, t ∈ tags10
theorem TupsJ.nil : TupsJ 0 [] [] [] := ⟨rfl, rfl, fun k hk => absurd hk (Nat.not_lt_zero _), fun _ h => nomatch h⟩
theorem TupsJ.step {i : Nat} {tgs : List Tag} {Ts : List Addr} {tl : List (Addr × Obj)} (J : TupsJ i tgs Ts tl) {v : Value} {tg : Tag} (hv : TagV v tg) (ht : tg ∈ tags10) {T : Addr} {tk : Tok} :
    TupsJ (i + 1) (tgs ++ [tg]) (Ts ++ [T]) ((T, { cls := .type "tuple", data := .seq #[v, .int (70 + (i : Int)) tk] }) :: tl) := by
  refine ⟨by simp [J.l1], by simp [J.l2], fun k hk => ?_, fun t h => ?_⟩
  · by_cases h : k < i
    · obtain ⟨v', tk', o, h1, h2, h3⟩ := J.at_ k h
      have e1 : (Ts ++ [T]).getD k 0 = Ts.getD k 0 := by
        rw [List.getD_eq_getElem?_getD, List.getD_eq_getElem?_getD, List.getElem?_append_left (by rw [J.l2]; exact h)]
      have e2 : (tgs ++ [tg]).getD k none = tgs.getD k none := by
        rw [List.getD_eq_getElem?_getD, List.getD_eq_getElem?_getD, List.getElem?_append_left (by rw [J.l1]; exact h)]
      rw [e1, e2]
      exact ⟨v', tk', o, .tail _ h1, h2, h3⟩
    · obtain rfl : k = i := by omega
      have e1 : (Ts ++ [T]).getD k 0 = T := by
        rw [List.getD_eq_getElem?_getD, List.getElem?_append_right (by rw [J.l2]; exact Nat.le_refl _), J.l2]; simp
      have e2 : (tgs ++ [tg]).getD k none = tg := by
        rw [List.getD_eq_getElem?_getD, List.getElem?_append_right (by rw [J.l1]; exact Nat.le_refl _), J.l1]; simp
      rw [e1, e2]
      exact ⟨v, tk, _, .head _, hv, fun h' e => ⟨_, e, rfl, _, rfl⟩⟩
  · rcases List.mem_append.mp h with h | h
    · exact J.mem t h
    · rw [List.mem_singleton.mp h]; exact ht
theorem TupsJ.ready {i : Nat} {tgs : List Tag} {Ts : List Addr} {tl : List (Addr × Obj)} {h : Heap} (J : TupsJ i tgs Ts tl) (hh : ∀ p ∈ tl, h.get? p.1 = some p.2) :
    ∃ (ρ : Int → Addr) (args : List Entry), refsOf ρ args = Ts.map Value.ref ∧ ArgsBy ρ h args ∧ args.length = i ∧ ∀ a ∈ args, a.1 ∈ tags10 := by
  refine ⟨fun th => Ts.getD (th - 70).toNat 0, (List.range i).map fun k => (tgs.getD k none, 70 + (k : Int)), ?_, ⟨fun a ha => ?_⟩, by simp, fun a ha => ?_⟩
  · apply List.ext_getElem?
    intro k
    rw [List.getElem?_map, List.getElem?_map, List.getElem?_map]
    by_cases hk : k < i
    · have hk2 : k < Ts.length := by rw [J.l2]; exact hk
      rw [List.getElem?_range hk, List.getElem?_eq_getElem hk2]
      have e : (70 + (k : Int) - 70).toNat = k := by omega
      simp only [Option.map_some, e]
      rw [List.getD_eq_getElem?_getD, List.getElem?_eq_getElem hk2]; rfl
    · rw [List.getElem?_eq_none (by simpa using hk), List.getElem?_eq_none (by rw [J.l2]; omega)]; rfl
  · obtain ⟨k, hk, rfl⟩ := List.mem_map.mp ha
    obtain ⟨v, tk, o, h1, h2, h3⟩ := J.at_ k (List.mem_range.mp hk)
    have e : (70 + (k : Int) - 70).toNat = k := by omega
    refine ⟨v, tk, h2, ?_⟩
    show IsTup h (Ts.getD (70 + (k : Int) - 70).toNat 0) _
    rw [e]
    exact h3 h (hh _ h1)
  · obtain ⟨k, hk, rfl⟩ := List.mem_map.mp ha
    have hk2 : k < tgs.length := by rw [J.l1]; exact List.mem_range.mp hk
    refine J.mem _ ?_
    rw [List.getD_eq_getElem?_getD, List.getElem?_eq_getElem hk2]
    exact List.getElem_mem hk2
theorem fr_updL {g h h' : Heap} {L j : Addr} {m : Str → Option Value} {led : List (Addr × Obj)} {S : List Addr} (F : Fr g L h m) (N : News g L h led) (hj : ∃ o, (j, o) ∈ led) (U : Upd S [j] h h') (hS : ∀ b ∈ S, b = L) : Fr g L h' m := by
  obtain ⟨oj, hj⟩ := hj
  have z := N _ hj
  have nL := kts_self F
  refine ⟨?_, fun b o e => ?_, F.above⟩
  · obtain ⟨o, es, ep, ho, r⟩ := F.ns
    obtain ⟨sl, e1, _⟩ := U L o ho (by simp only [List.mem_singleton]; exact fun q => z.2.1 q.symm)
    exact ⟨_, es, ep, e1, r⟩
  · refine U.exact (F.keep b o e) (fun q => ?_) (fun q => ?_)
    · have q' := List.mem_singleton.mp q
      have := z.2.2
      rw [← q', e] at this; cases this
    · rw [hS b q, nL] at e; cases e
theorem news_updL {g h h' : Heap} {L j : Addr} {oj' : Obj} {led led' : List (Addr × Obj)} {S : List Addr} (N : News g L h led) (hj : ∃ o, (j, o) ∈ led) (U : Upd S [j] h h') (hS : ∀ b ∈ S, b = L) (hoj : h'.get? j = some oj') (hl : ∀ p ∈ led', p = (j, oj') ∨ (p ∈ led ∧ @Ne Nat p.1 j)) : News g L h' led' := by
  intro q hq
  rcases hl q hq with rfl | ⟨h1, h2⟩
  · obtain ⟨o, ho⟩ := hj
    exact ⟨hoj, (N _ ho).2⟩
  · have z := N q h1
    exact ⟨U.exact z.1 (by simpa using h2) (fun m => z.2.1 (hS _ m)), z.2⟩
theorem fs_one {env : Env} {L : Addr} (h : env.frame = some L) : ∀ b ∈ fsOf [env], b = L := fun b hb => by
  unfold fsOf at hb
  rw [List.filterMap_cons, h] at hb
  exact List.mem_singleton.mp hb
noncomputable def okB (x : Except Str (List (Str × Nat) × List Int)) (y : List (Str × Nat) × List Int) : Bool := match x with
  | .ok z => decide (z = y)
  | .error _ => false
theorem okB_iff {x : Except Str (List (Str × Nat) × List Int)} {y : List (Str × Nat) × List Int} (h : okB x y = true) : x = .ok y := by
  cases x with
  | error e => cases h
  | ok z => exact congrArg _ (of_decide_eq_true h)
noncomputable def pairA : List Entry := [(some (Str.ofString "a"), 1), (some (Str.ofString "ab"), 2)]
noncomputable def pairB : List Entry := [(some (Str.ofString "ab"), 2), (some (Str.ofString "a"), 1)]
noncomputable def formA : List Str := [Str.ofString "ab", Str.ofString "abc"]
noncomputable def formB : List Str := [Str.ofString "ab", Str.ofString "...", Str.ofString "abc"]
theorem mnA : mn formA pairA = .ok ([(Str.ofString "ab", 1), (Str.ofString "abc", 0)], []) := okB_iff (by decide +kernel)
theorem mnB : mn formA pairB = .ok ([(Str.ofString "ab", 0), (Str.ofString "abc", 1)], []) := okB_iff (by decide +kernel)
theorem formA_in : ∀ x ∈ formA, x ∈ pool0 := by decide +kernel
theorem formB_in : ∀ x ∈ formB, x ∈ pool0 := by decide +kernel
theorem formA_nd : formA.Nodup := by decide +kernel
theorem formB_nd : formB.Nodup := by decide +kernel
theorem pairA_in : ∀ a ∈ pairA, a.1 ∈ tags10 := by decide +kernel
theorem pairB_in : ∀ a ∈ pairB, a.1 ∈ tags10 := by decide +kernel
noncomputable def TupO (o : Obj) (x : Str) (a : Int) : Prop := ∃ t u, o = { cls := .type "tuple", data := .seq #[.str x t, .int a u] }
theorem pair_args {h : Heap} {T1 T2 : Addr} {o1 o2 : Obj} {x y : Str} {a b : Int} (h1 : h.get? T1 = some o1) (h2 : h.get? T2 = some o2) (g1 : TupO o1 x a) (g2 : TupO o2 y b) (hab : ¬ b = a) :
    ∃ ρ : Int → Addr, refsOf ρ [(some x, a), (some y, b)] = [.ref T1, .ref T2] ∧ ArgsBy ρ h [(some x, a), (some y, b)] := by
  obtain ⟨t1, u1, rfl⟩ := g1
  obtain ⟨t2, u2, rfl⟩ := g2
  refine ⟨fun th => if th = a then T1 else T2, by simp [refsOf, hab], ⟨fun q hq => ?_⟩⟩
  rcases List.mem_cons.mp hq with rfl | hq
  · refine ⟨.str x t1, u1, ⟨t1, rfl⟩, ?_⟩
    show IsTup h (if a = a then T1 else T2) _
    rw [if_pos rfl]
    exact ⟨_, h1, rfl, _, rfl⟩
  · rcases List.mem_singleton.mp hq with rfl
    refine ⟨.str y t2, u2, ⟨t2, rfl⟩, ?_⟩
    show IsTup h (if b = a then T1 else T2) _
    rw [if_neg hab]
    exact ⟨_, h2, rfl, _, rfl⟩
theorem intK2 {x y : Str} {a b : Int} {t u : Tok} : IntK [(x, .int a t), (y, .int b u)] [(x, a), (y, b)] := ⟨rfl, fun i q hq => by
  match i, hq with
  | 0, hq => cases hq; exact ⟨t, rfl⟩
  | 1, hq => cases hq; exact ⟨u, rfl⟩
  | i + 2, hq => cases hq⟩
theorem updj (pre post : List (Addr × Obj)) {j : Addr} {oj oj' : Obj} (h1 : ∀ p ∈ pre, @Ne Nat p.1 j) (h2 : ∀ p ∈ post, @Ne Nat p.1 j) : ∀ q ∈ pre ++ (j, oj') :: post, q = (j, oj') ∨ (q ∈ pre ++ (j, oj) :: post ∧ @Ne Nat q.1 j) := fun q hq => by
  rcases List.mem_append.mp hq with h | h
  · exact .inr ⟨List.mem_append_left _ h, h1 q h⟩
  · rcases List.mem_cons.mp h with h | h
    · exact .inl h
    · exact .inr ⟨List.mem_append_right _ (.tail _ h), h2 q h⟩
theorem ne1 {a : Addr × Obj} {j : Addr} (h : @Ne Nat a.1 j) : ∀ p ∈ [a], @Ne Nat p.1 j := fun p hp => by rw [List.mem_singleton.mp hp]; exact h
theorem neC {a : Addr × Obj} {l : List (Addr × Obj)} {j : Addr} (h : @Ne Nat a.1 j) (hl : ∀ p ∈ l, @Ne Nat p.1 j) : ∀ p ∈ a :: l, @Ne Nat p.1 j := List.forall_mem_cons.mpr ⟨h, hl⟩
theorem ne0 {j : Addr} : ∀ p ∈ ([] : List (Addr × Obj)), @Ne Nat p.1 j := fun _ h => by cases h
theorem mem1 {α : Type} {a : α} {l : List α} : a ∈ a :: l := .head _
theorem mem2 {α : Type} {a b : α} {l : List α} : a ∈ b :: a :: l := .tail _ (.head _)
theorem mem3 {α : Type} {a b c : α} {l : List α} : a ∈ b :: c :: a :: l := .tail _ (.tail _ (.head _))
theorem mem4 {α : Type} {a b c d : α} {l : List α} : a ∈ b :: c :: d :: a :: l := .tail _ (.tail _ (.tail _ (.head _)))
theorem mem5 {α : Type} {a b c d e : α} {l : List α} : a ∈ b :: c :: d :: e :: a :: l := .tail _ (.tail _ (.tail _ (.tail _ (.head _))))
theorem mem6 {α : Type} {a b c d e f : α} {l : List α} : a ∈ b :: c :: d :: e :: f :: a :: l := .tail _ (.tail _ (.tail _ (.tail _ (.tail _ (.head _)))))
theorem at_top {w : World} {s' : Shared} {base : Heap} {L' f : Addr} {m' mg mb : Str → Option Value} {mean : ExcName → Option Value} {qual : Str} {scope : Scope} {cdv : Value} {dp un : Nat} (B : Below callerA base [] base) (F : Fr base L' s'.heap m') (X : (Mine.hd.heap_39 w.params).In base)
    (T : Top Mine.hd.view_39 (looseW Mine.hd.view_39 [Str.ofString "match_names"]) mean mg mb base) (h1 : callerA.depth + 1 + dp < recursionLimit) (h2 : callerA.units + 3 + un < cLine) (hk : scope.kind = .function) :
    At w (callerA.deeper (envOf qual scope L' f cdv)) s' dp un callerA base base (envOf qual scope L' f cdv) [] L' m' mg mb mean :=
  ⟨B, F, X, T, Around.frames_deeper B.stack, rfl, hk, h1, h2, rfl⟩
/-- what holds between the turns of the loop that draws the formals -/
inductive JF (w : World) (j P FA D5 : Addr) (cvs : List Value) (i : Nat) (m₁ : Str → Option Value) (led : List (Addr × Obj)) : Prop
  | mk (fvs pvs : List Value) (fs ps : List Str) (n1 n2 : Nat) (oj : Obj) (at9 held9 : Int) (t2 t3 : Tok) (a : m₁ (Str.ofString "jar") = some (.ref j)) (b : m₁ (Str.ofString "pool") = some (.ref P)) (c : m₁ (Str.ofString "formals") = some (.ref FA))
      (d : led = [(FA, W.listOf fvs.toArray n1), (P, W.listOf pvs.toArray n2), (D5, W.listOf cvs.toArray 0), (j, oj)]) (e : oj.IsDictOf (strKind PySem.Challenge.rw_ov0042_01.row.prog w) (jarK D5 at9 t2 held9 t3)) (f : 0 ≤ at9) (g : at9 ≤ 1 + i) (h : 0 ≤ held9) (k : held9 ≤ 10 ^ 66)
      (l : StrsV fvs fs) (m : StrsV pvs ps) (n : (fs ++ ps).Perm pool0) (o : fs.length = i) : JF w j P FA D5 cvs i m₁ led
/-- what holds between the turns of the loop that draws the arguments -/
inductive JA (w : World) (j AA FA D5 : Addr) (cvs fvs : List Value) (n1 : Nat) (i : Nat) (m₁ : Str → Option Value) (led : List (Addr × Obj)) : Prop
  | mk (tgs : List Tag) (Ts : List Addr) (tl : List (Addr × Obj)) (n3 : Nat) (oj : Obj) (at9 held9 : Int) (t2 t3 : Tok) (a : m₁ (Str.ofString "jar") = some (.ref j)) (b : m₁ (Str.ofString "args") = some (.ref AA)) (c : m₁ (Str.ofString "formals") = some (.ref FA))
      (d : led = (AA, W.listOf (Ts.map Value.ref).toArray n3) :: (FA, W.listOf fvs.toArray n1) :: (D5, W.listOf cvs.toArray 0) :: (j, oj) :: tl) (e : TupsJ i tgs Ts tl) (f : OwnOff tl [AA, FA, D5, j])
      (g : oj.IsDictOf (strKind PySem.Challenge.rw_ov0042_01.row.prog w) (jarK D5 at9 t2 held9 t3)) (h : 0 ≤ at9) (k : at9 ≤ 10 + i) (l : 0 ≤ held9) (m : held9 ≤ 10 ^ 66) : JA w j AA FA D5 cvs fvs n1 i m₁ led
theorem law_holds : PySem.Challenge.rw_ov0042_01.Holds := Mine.hd (by
  k_fill
  intro w s₀ s₁ mg mb G Y fa o pm cd doc dV kV ho hdo hcd hD hmg hg args vals as hpre hlay hrd hwl hlo
  have KX := kIn_of Y
  have X := (Ground.X G).1
  have V := (Ground.X G).2
  have GL := glob_more (Ground.glob G (by decide +kernel) (by decide +kernel)) V
  refine Ground.open G ?_
  intro T B D TE TW
  refine guard_noD D (by decide +kernel) ?_
  clear D
  obtain ⟨_, _, M⟩ := bmod_of_top T
  have TA := at_of_top T
  obtain ⟨_, _, he, B0⟩ := based_of_top T rfl hmg ho hdo
  have he' : cd = _ := he
  subst he'
  clear he hmg
  wrow_args hpre hlay hrd hwl hlo
  refine enter_call ?_
  w_top off
  refine codeAny_mono ?_ (fun _ _ g => GoodW.toG g)
  have K0 := below_caller (Top.heap T)
  w_call any ho hdo hcd hD T F
  clear hdo TA
  k_drop
  rename_i y1 y2 y3 y4 script hs hlay0 hL1 hr1 hl2 y5 y6 sa svs y7 hL ra w1 r0 hI hr hcond' hcond h₁ N0
  show wpAny _ _ _ _ _ _
  k_fold
  k_steps
  all_goals (try unfold Halt)
  rename Fr _ _ _ _ => Fz
  rename News _ _ _ _ => Nz
  rename IntsAre _ _ => hIz
  refine kba_turn (value' := PySem.Expr.Name (PySem.Str.ofString "_") ⟨0, 0, 0, 0⟩) (fun _ => rfl) ?_
  refine kmk_slice_ints (c := ((script ++ [0]).take 40).length) (ms := (script ++ [0]).take 40) Fz Nz (News.isList Nz (.head _)) (by kmk_part) (by kmk_part) hIz (kmk_upto (y := 40) hIz (by decide)) rfl ?_ (by with_unfolding_all rfl) (by kmk_pure) (by kmk_size)
  intro D5 cvs h5 F5 N5 l5 hI5 hC5 hC6
  k_lt l5
  clear Fz Nz hIz
  clear hcd hD Y M V GL B TE TW X ra w1 r0 hs hlay0 hL1 hr1 hl2 hr hL hI
  iterate 9 (first | (k_unfold; (try dsimp only)) | (k_end; wrow_close) | walk1 | (dsimp only; walk1) | (leave1; walk_say "STEP leave1"; try dsimp only))
  rename Fr _ _ _ _ => F6
  rename News _ _ _ _ => N6
  rename Obj.IsDictOf _ _ (strPairs _) => hd6
  rename_i j hh0 o0 lo0 hd0 l0 D1 c1 hh1 l1 D2 hh2 l2 D3 ws3 hh3 l3 h6 oj h7
  obtain ⟨tA, tB, hjd⟩ : ∃ t2 t3, Obj.IsDictOf (strKind PySem.Challenge.rw_ov0042_01.row.prog w) oj (jarK D5 0 t2 0 t3) := ⟨_, _, hd6⟩
  clear hd6 hd0
  dsimp only
  have N7 := news_sub (l := [(D5, W.listOf cvs.toArray 0), (j, oj)]) N6 (by walk_at "memall")
  have hcj : D5 ≠ j := Nat.ne_of_gt l5.2.2.2
  clear N6 l5 l3 l2 l1 l0 lo0
  k_steps
  all_goals (try unfold Halt)
  rename Fr _ _ _ _ => F8
  rename News _ _ _ _ => N8
  have hcl : 0 < ((script ++ [0]).take 40).length := by simp only [List.length_take, List.length_append, List.length_singleton]; omega
  have hcl2 : ((script ++ [0]).take 40).length ≤ 40 := by simp; omega
  rename_i P hP1 lP hP2 FA hP3 lF h8
  obtain ⟨pvs, N9, hPV⟩ : ∃ pvs : List Value, News s₁.heap s₁.heap.objs.size h8 [(FA, W.listOf ([] : List Value).toArray 0), (P, W.listOf pvs.toArray 0), (D5, W.listOf cvs.toArray 0), (j, oj)] ∧ StrsV pvs pool0 := ⟨_, N8, .cons (.cons (.cons (.cons (.cons (.cons .nil)))))⟩
  have Pj : @Ne Nat P j := Nat.ne_of_gt lP.2
  have Fj : @Ne Nat FA j := Nat.ne_of_gt lF.2.2
  have FP : @Ne Nat FA P := Nat.ne_of_gt lF.1
  have FD : @Ne Nat FA D5 := Nat.ne_of_gt lF.2.1
  have PD : @Ne Nat P D5 := Nat.ne_of_gt lP.1
  have Dj : @Ne Nat D5 j := hcj
  clear N8
  refine pick_spec (at_top K0 F8 KX T (by decide) (by decide) rfl) ⟨_, _, Heap.dictOf_iff.mpr ⟨oj, N9.get (by first | exact mem4 | exact mem3 | exact mem5 | exact mem6), hjd⟩⟩ (N9 (j, oj) (by first | exact mem4 | exact mem3 | exact mem5 | exact mem6 | exact mem2)).2.1 (N9.fresh (o := oj) (by first | exact mem4 | exact mem3 | exact mem5 | exact mem6)) (News.isList N9 (by k_mem)) hcj hI5 hcl hcl2 (by decide) (by decide) (by decide) (by decide) (by decide) (by decide) ?_
  intro h9 tk9 t9 at9 held9 got k9 hj9 hp1 hp2 hp3 hp4 hp5 hp6
  refine jar_open hj9 fun t2' t3' oj9 hoj9 hdj9 => ?_
  have F10 := fr_led (W := [j]) F8 N9 k9 (one_in (oj := oj) (by first | exact mem4 | exact mem3 | exact mem5 | exact mem2))
  have N10 : News s₁.heap s₁.heap.objs.size h9 [(FA, W.listOf ([] : List Value).toArray 0), (P, W.listOf pvs.toArray 0), (D5, W.listOf cvs.toArray 0), (j, oj9)] := news_updj N9 ⟨oj, by first | exact mem4 | exact mem3⟩ k9 hoj9 (updj [_, _, _] _ (neC Fj (neC Pj (neC Dj ne0))) ne0)
  clear N9 F8 k9
  obtain ⟨cnt, hcnt⟩ : ∃ c : Nat, 1 + got = c := ⟨(1 + got).toNat, by omega⟩
  have hcb : cnt ≤ 5 := by omega
  k_steps
  all_goals (try unfold Halt)
  rename Fr _ _ _ _ => Fz
  rename News _ _ _ _ => Nz
  refine range1_rows Fz Nz ?_
  intro h11 tk11 u1 u2 u3 hr Fy Ny _
  rw [hcnt] at hr
  clear Fz Nz
  k_steps
  all_goals (try unfold Halt)
  refine loop_range (JF w j P FA D5 cvs) rfl hr (by omega) Fy Ny ?_ ?_ ?_
  · exact ⟨[], pvs, [], pool0, 0, 0, oj9, at9, held9, t2', t3', rfl, rfl, rfl, rfl, hdj9, hp1, by omega, hp3, hp4, .nil, hPV, .refl _, rfl⟩
  · clear Fy Ny hr hPV hdj9 hoj9
    rintro i ti m₁ led h tk own hi _ hoff ⟨fvs, pvs, fs, ps, n1, n2, oj2, at2, held2, t2, t3, hm1, hm2, hm3, rfl, hdj2, ha1, ha2, ha3, ha4, hfV, hpV, hperm, hfl⟩ F₁ N₁
    simp only [List.map_cons, List.map_nil] at hoff
    dsimp only [List.cons_append, List.nil_append] at N₁
    have hpl : ps.length = 6 - i := by
      have := hperm.length_eq
      rw [List.length_append, hfl] at this
      have e6 : pool0.length = 6 := rfl
      omega
    have hpvl := hpV.len
    k_steps
    all_goals (try unfold Halt)
    rename Fr _ _ _ _ => F4
    rename News _ _ _ _ => N4
    refine len_L (News.isList N4 (by k_mem)) (n := 6 - i) (by rw [hpvl, hpl]) (by omega) ?_
    intro t8 tk8
    k_steps
    all_goals (try unfold Halt)
    refine pick_spec (at_top K0 F4 KX T (by decide) (by decide) rfl) ⟨_, _, Heap.dictOf_iff.mpr ⟨oj2, N4.get (by first | exact mem4 | exact mem3 | exact mem5 | exact mem6), hdj2⟩⟩ (N4 (j, oj2) (by first | exact mem4 | exact mem3 | exact mem5 | exact mem6 | exact mem2)).2.1 (N4.fresh (o := oj2) (by first | exact mem4 | exact mem3 | exact mem5 | exact mem6)) (News.isList N4 (by k_mem)) hcj hI5 hcl hcl2 ha1 (by omega) ha3 ha4 (by omega) (by omega) ?_
    intro h12 tk12 t12 at12 held12 got12 k12 hj12 hq1 hq2 hq3 hq4 hq5 hq6
    refine jar_open hj12 fun t2'' t3'' oj12 hoj12 hdj12 => ?_
    replace F4 := fr_led (W := [j]) F4 N4 k12 (one_in (oj := oj2) (by first | exact mem4 | exact mem3 | exact mem5 | exact mem2))
    have N5 : News s₁.heap s₁.heap.objs.size h12 ((FA, W.listOf fvs.toArray n1) :: (P, W.listOf pvs.toArray n2) :: (D5, W.listOf cvs.toArray 0) :: (j, oj12) :: own) := news_updj N4 ⟨oj2, by first | exact mem4 | exact mem3⟩ k12 hoj12 (updj [_, _, _] _ (neC Fj (neC Pj (neC Dj ne0))) (fun q hq => hoff q hq j (by first | exact mem4 | exact mem5 | exact mem3)))
    clear N4 k12
    have N4 := N5
    clear N5
    obtain ⟨gn, rfl⟩ : ∃ gn : Nat, got12 = gn := ⟨got12.toNat, by omega⟩
    have hgn : gn < pvs.length := by omega
    k_steps
    all_goals (try unfold Halt)
    rename Fr _ _ _ _ => F5
    rename News _ _ _ _ => N5
    refine pop_L (n := n2) F5 N5 hgn (by omega) (by k_upd) ?_
    intro h10 F6 N6
    have hze : fvs.length ≤ 1000 := by rw [hfV.len]; omega
    k_steps
    all_goals (try unfold Halt)
    rename Fr _ _ _ _ => F7
    rename News _ _ _ _ => N7
    have hgp : gn < ps.length := by omega
    obtain ⟨tx, htx⟩ := hpV.at_ gn ps[gn] (by simp [hgp])
    have hvx : pvs[gn] = .str ps[gn] tx := by
      have := List.getElem?_eq_some_iff.mp htx
      exact this.2
    have eM : fvs.toArray.push pvs[gn] = (fvs ++ [pvs[gn]]).toArray := by simp
    rw [eM] at N7
    have hpe : (ps[gn] :: ps.eraseIdx gn).Perm ps := erase_perm ps gn hgp
    refine InvEndN.intro F7 N7 ⟨fvs ++ [pvs[gn]], pvs.eraseIdx gn, fs ++ [ps[gn]], ps.eraseIdx gn, _, _, oj12, at12, held12, t2'', t3'', hm1, hm2, hm3, rfl, hdj12, by omega, by omega, hq3, hq4, by rw [hvx]; exact hfV.snoc _ _, hpV.erase gn, ?_, by simp [hfl]⟩ rfl (by walk_at "memall") (fun q hq => by simp [hq])
    rw [List.append_assoc]
    exact (hpe.append_left fs).trans hperm
  · rintro m₁ led h tk _ ⟨fvs, pvs, fs, ps, n1, n2, oj2, at2, held2, t2, t3, hm1, hm2, hm3, rfl, hdj2, ha1, ha2, ha3, ha4, hfV, hpV, hperm, hfl⟩ F₁ N₁
    clear Fy Ny hr hPV hdj9 hoj9
    have N2 := news_sub (l := [(FA, W.listOf fvs.toArray n1), (D5, W.listOf cvs.toArray 0), (j, oj2)]) N₁ (by walk_at "memall")
    clear N₁
    k_steps
    all_goals (try unfold Halt)
    rename Fr _ _ _ _ => F8
    rename News _ _ _ _ => N8
    rename_i AA hA1 Fo No lA hA2
    have AF : @Ne Nat AA FA := Nat.ne_of_gt lA.1
    have AD : @Ne Nat AA D5 := Nat.ne_of_gt lA.2.1
    have Aj : @Ne Nat AA j := Nat.ne_of_gt lA.2.2
    clear Fo No
    refine pick_spec (at_top K0 F8 KX T (by decide) (by decide) rfl) ⟨_, _, Heap.dictOf_iff.mpr ⟨oj2, N8.get (by first | exact mem4 | exact mem3 | exact mem5 | exact mem6), hdj2⟩⟩ (N8 (j, oj2) (by first | exact mem4 | exact mem3 | exact mem5 | exact mem6 | exact mem2)).2.1 (N8.fresh (o := oj2) (by first | exact mem4 | exact mem3 | exact mem5 | exact mem6)) (News.isList N8 (by k_mem)) hcj hI5 hcl hcl2 ha1 (by omega) ha3 ha4 (by decide) (by decide) ?_
    intro h12 tk12 t12 at12 held12 got12 k12 hj12 hq1 hq2 hq3 hq4 hq5 hq6
    refine jar_open hj12 fun t2'' t3'' oj12 hoj12 hdj12 => ?_
    have F10 := fr_led (W := [j]) F8 N8 k12 (one_in (oj := oj2) (by first | exact mem4 | exact mem3 | exact mem5 | exact mem2))
    have N10 : News s₁.heap s₁.heap.objs.size h12 [(AA, W.listOf ([] : List Value).toArray 0), (FA, W.listOf fvs.toArray n1), (D5, W.listOf cvs.toArray 0), (j, oj12)] := news_updj N8 ⟨oj2, by first | exact mem4 | exact mem3⟩ k12 hoj12 (updj [_, _, _] _ (neC Aj (neC Fj (neC Dj ne0))) ne0)
    clear N8 F8 k12
    obtain ⟨cn2, hcn2⟩ : ∃ c : Nat, got12 = c := ⟨got12.toNat, by omega⟩
    have hcb2 : cn2 ≤ 6 := by omega
    k_steps
    all_goals (try unfold Halt)
    rename Fr _ _ _ _ => Fz
    rename News _ _ _ _ => Nz
    refine range1_rows Fz Nz ?_
    intro h14 tk14 u4 u5 u6 hr Fy Ny _
    rw [hcn2] at hr
    clear Fz Nz
    k_steps
    all_goals (try unfold Halt)
    refine loop_rangeG (JA w j AA FA D5 cvs fvs n1) rfl hr (by omega) Fy Ny ?_ ?_ ?_
    · exact ⟨[], [], [], 0, oj12, at12, held12, t2'', t3'', hm1, rfl, hm3, rfl, .nil, (fun _ h => by cases h), hdj12, by omega, by omega, hq3, hq4⟩
    · clear Fy Ny hr hdj12 hdj2 hm1 hm2 hm3
      rintro i ti m₂ led h tk own I hi hnI hownI ⟨oI, hoI⟩ ⟨tgs, Ts, tl, n3, oj3, at3, held3, t2, t3, hm1, hm2, hm3, rfl, hTJ, hoff, hdj3, hb1, hb2, hb3, hb4⟩ F₁ N₁
      dsimp only [List.cons_append, List.nil_append] at N₁
      obtain ⟨rst, hrst⟩ : ∃ r, r = tl ++ own := ⟨_, rfl⟩
      rw [← hrst] at N₁
      have hoffr : OwnOff rst [AA, FA, D5, j] := by
        subst hrst
        intro p hp b hb
        rcases List.mem_append.mp hp with hp | hp
        · exact hoff p hp b hb
        · rw [hownI p hp]
          simp only [List.mem_cons, List.not_mem_nil, or_false] at hb
          rcases hb with e | e | e | e <;> rw [e]
          · exact Ne.symm (hnI _ (.head _))
          · exact Ne.symm (hnI _ (.tail _ (.head _)))
          · exact Ne.symm (hnI _ (.tail _ (.tail _ (.head _))))
          · exact Ne.symm (hnI _ (.tail _ (.tail _ (.tail _ (.head _)))))
      k_steps
      all_goals (try unfold Halt)
      rename Fr _ _ _ _ => F4
      rename News _ _ _ _ => N4
      rename_i TL hT4 lT
      obtain ⟨tvs, N5, hTV⟩ : ∃ tvs : List Value, News s₁.heap s₁.heap.objs.size hT4 ((TL, W.listOf tvs.toArray 0) :: (AA, W.listOf (Ts.map Value.ref).toArray n3) :: (FA, W.listOf fvs.toArray n1) :: (D5, W.listOf cvs.toArray 0) :: (j, oj3) :: rst) ∧ TagsAre tvs tags10 :=
        ⟨_, N4, .cons rfl (.cons rfl (.cons ⟨_, rfl⟩ (.cons ⟨_, rfl⟩ (.cons ⟨_, rfl⟩ (.cons ⟨_, rfl⟩ (.cons ⟨_, rfl⟩ (.cons ⟨_, rfl⟩ (.cons ⟨_, rfl⟩ (.cons ⟨_, rfl⟩ .nil)))))))))⟩
      clear N4
      have TLj : @Ne Nat TL j := Nat.ne_of_gt lT.2.2.2.1
      refine pick_spec (at_top K0 F4 KX T (by decide) (by decide) rfl) ⟨_, _, Heap.dictOf_iff.mpr ⟨oj3, N5.get (by first | exact mem4 | exact mem3 | exact mem5 | exact mem6), hdj3⟩⟩ (N5 (j, oj3) (by first | exact mem4 | exact mem3 | exact mem5 | exact mem6 | exact mem2)).2.1 (N5.fresh (o := oj3) (by first | exact mem4 | exact mem3 | exact mem5 | exact mem6)) (News.isList N5 (by k_mem)) hcj hI5 hcl hcl2 hb1 (by omega) hb3 hb4 (by decide) (by decide) ?_
      intro h15 tk15 t15 at15 held15 got15 k15 hj15 hr1 hr2 hr3 hr4 hr5 hr6
      refine jar_open hj15 fun t2x t3x oj15 hoj15 hdj15 => ?_
      replace F4 := fr_led (W := [j]) F4 N5 k15 (one_in (oj := oj3) (by first | exact mem4 | exact mem3 | exact mem5 | exact mem2))
      have N6 : News s₁.heap s₁.heap.objs.size h15 ((TL, W.listOf tvs.toArray 0) :: (AA, W.listOf (Ts.map Value.ref).toArray n3) :: (FA, W.listOf fvs.toArray n1) :: (D5, W.listOf cvs.toArray 0) :: (j, oj15) :: rst) := news_updj N5 ⟨oj3, by first | exact mem5 | exact mem4⟩ k15 hoj15 (updj [_, _, _, _] _ (neC TLj (neC Aj (neC Fj (neC Dj ne0)))) (fun q hq => hoffr q hq j (by first | exact mem4 | exact mem5 | exact mem3)))
      clear N5 k15
      obtain ⟨gn, rfl⟩ : ∃ gn : Nat, got15 = gn := ⟨got15.toNat, by omega⟩
      have hgn : gn < tags10.length := by show gn < 10; omega
      obtain ⟨vt, hvt1, hvt2⟩ := hTV.at_ gn tags10[gn] (by simp [hgn])
      have htm : tags10[gn] ∈ tags10 := List.getElem_mem hgn
      have hgi : ((gn : Int)).toNat = gn := by omega
      rw [← hgi] at hvt1
      k_steps
      all_goals (try unfold Halt)
      rename News _ _ _ _ => N7
      refine tail_L (vs := tvs) (News.isList N7 (.head _)) (by omega) (by omega) hvt1 ?_ (by with_unfolding_all rfl)
      replace N7 := news_sub (l := (AA, W.listOf (Ts.map Value.ref).toArray n3) :: (FA, W.listOf fvs.toArray n1) :: (D5, W.listOf cvs.toArray 0) :: (j, oj15) :: rst) N7 (fun q hq => .tail _ hq)
      have hze : (Ts.map Value.ref).length ≤ 1000 := by rw [List.length_map, hTJ.l2]; omega
      k_steps
      all_goals (try unfold Halt)
      rename Fr _ _ _ _ => F9
      rename News _ _ _ _ => N9
      rename_i D9 hD9 Fo No lD hE
      clear Fo No
      have eA : (Ts.map Value.ref).toArray.push (Value.ref D9) = ((Ts ++ [D9]).map Value.ref).toArray := by simp
      rw [eA] at N9
      obtain ⟨otup, N9', hTJ2⟩ : ∃ otup, News s₁.heap s₁.heap.objs.size hE ((D9, otup) :: (AA, W.listOf ((Ts ++ [D9]).map Value.ref).toArray (n3 + 1)) :: (FA, W.listOf fvs.toArray n1) :: (D5, W.listOf cvs.toArray 0) :: (j, oj15) :: rst) ∧ TupsJ (i + 1) (tgs ++ [tags10[gn]]) (Ts ++ [D9]) ((D9, otup) :: tl) := ⟨_, N9, hTJ.step hvt2 htm⟩
      clear N9
      have N9 := N9'
      clear N9'
      have hnA : @Ne Nat AA I := hnI _ (.head _)
      have hnF : @Ne Nat FA I := hnI _ (.tail _ (.head _))
      have hnD : @Ne Nat D5 I := hnI _ (.tail _ (.tail _ (.head _)))
      have hnj : @Ne Nat j I := hnI _ (.tail _ (.tail _ (.tail _ (.head _))))
      refine GrowPost.intro (nx := (AA, W.listOf ((Ts ++ [D9]).map Value.ref).toArray (n3 + 1)) :: (FA, W.listOf fvs.toArray n1) :: (D5, W.listOf cvs.toArray 0) :: (j, oj15) :: (D9, otup) :: tl) F9 N9 (fun q hq => ?_) (fun q hq => ?_) (fun q hq => ?_)
        ⟨tgs ++ [tags10[gn]], Ts ++ [D9], (D9, otup) :: tl, n3 + 1, oj15, at15, held15, t2x, t3x, hm1, hm2, hm3, rfl, hTJ2, ?_, hdj15, by omega, by omega, hr3, hr4⟩
      · simp only [List.mem_cons] at hq ⊢
        rcases hq with e | e | e | e | e | e
        · exact .inr (.inl e)
        · exact .inr (.inr (.inl e))
        · exact .inr (.inr (.inr (.inl e)))
        · exact .inr (.inr (.inr (.inr (.inl e))))
        · exact .inl e
        · exact .inr (.inr (.inr (.inr (.inr (by rw [hrst]; exact List.mem_append_left _ e)))))
      · exact .tail _ (.tail _ (.tail _ (.tail _ (.tail _ (by rw [hrst]; exact List.mem_append_right _ hq)))))
      · simp only [List.mem_cons] at hq
        rcases hq with e | e | e | e | e | e
        · rw [e]; exact hnA
        · rw [e]; exact hnF
        · rw [e]; exact hnD
        · rw [e]; exact hnj
        · rw [e]
          have := allLt_mem lD.2.2.2.2 (I, oI) (by rw [hrst]; exact List.mem_append_right _ hoI)
          exact Ne.symm (Nat.ne_of_lt this)
        · exact hnI q (.tail _ (.tail _ (.tail _ (.tail _ e))))
      · intro p hp b hb
        rcases List.mem_cons.mp hp with rfl | hp
        · simp only [List.mem_cons, List.not_mem_nil, or_false] at hb
          rcases hb with e | e | e | e <;> rw [e]
          · exact Ne.symm (Nat.ne_of_lt lD.1)
          · exact Ne.symm (Nat.ne_of_lt lD.2.1)
          · exact Ne.symm (Nat.ne_of_lt lD.2.2.1)
          · exact Ne.symm (Nat.ne_of_lt lD.2.2.2.1)
        · exact hoff p hp b hb
    · rintro m₂ led h tk ⟨tgs, Ts, tl, n3, oj3, at3, held3, t2, t3, hm1, hm2, hm3, rfl, hTJ, hoff, hdj3, hb1, hb2, hb3, hb4⟩ F₁ N₁
      clear Fy Ny hr hdj12 hdj2
      have hfp : ∀ x ∈ fs, x ∈ pool0 := fun x hx => hperm.mem_iff.mp (List.mem_append_left _ hx)
      have hfn : fs.Nodup := (List.nodup_append.mp (hperm.nodup_iff.mpr pool_nodup)).1
      k_steps
      all_goals (try unfold Halt)
      rename Fr _ _ _ _ => F8
      rename News _ _ _ _ => N8
      obtain ⟨ρ, args, hra, hAB, hal, hat⟩ := hTJ.ready (h := _) (fun p hp => (N8 p (by simp [hp])).1)
      refine all_spec (ρ := ρ) (args := args) (formals := fs) (fvs := fvs) (at_top K0 F8 KX T (by decide) (by decide) rfl) KX T ⟨held3, hb3, hb4, t2, t3, Heap.dictOf_iff.mpr ⟨oj3, N8.get (by first | exact mem4 | exact mem3 | exact mem5 | exact mem6), hdj3⟩⟩ (N8 (j, oj3) (by first | exact mem4 | exact mem3 | exact mem5 | exact mem6 | exact mem2)).2.1 (N8.fresh (o := oj3) (by first | exact mem4 | exact mem3 | exact mem5 | exact mem6)) (News.isList N8 (by k_mem)) hcj hI5 hcl hcl2 hb1 (by omega) (News.isList N8 (by k_mem)) Fj hfV (by rw [hra]; exact News.isList N8 (.head _)) Aj hAB (by omega) (by omega) (fun x hx => pool_len x (hfp x hx)) (fun a ha t ht => tags_len _ (hat a ha) t ht) (fun mixed hp hb => same_pool hfp hfn hat hp hb) (letter_holds hfp hat (by omega)) ?_
      intro h20 tk20 at20 U20 jf20 hc1 hc2
      refine jf_open jf20 fun held20 hd1 hd2 t4 t5 oj20 hoj20 hdj20 => ?_
      have F21 := fr_updL F8 N8 ⟨oj3, by first | exact mem5 | exact mem4⟩ U20 (fs_one rfl)
      have N21 : News s₁.heap s₁.heap.objs.size h20 [(D5, W.listOf cvs.toArray 0), (j, oj20)] := news_updL N8 ⟨oj3, by first | exact mem5 | exact mem4⟩ U20 (fs_one rfl) hoj20 (fun q hq => by
        rcases List.mem_cons.mp hq with e | hq
        · rw [e]; exact .inr ⟨mem3, Dj⟩
        · exact .inl (List.mem_singleton.mp hq))
      clear F8 N8 U20 hTJ hoff hAB hra
      k_steps
      all_goals (try unfold Halt)
      rename Fr _ _ _ _ => F22
      rename News _ _ _ _ => N22
      rename_i T1 hT1 lT1 T2 hT2 lT2 LP hLP Fo No lLP hx1 FL hx2 lFL
      clear Fo No
      have FLj : @Ne Nat FL j := Nat.ne_of_gt lFL.2.2.2.2
      have LPj : @Ne Nat LP j := Nat.ne_of_gt lLP.2.2.2
      have T2j : @Ne Nat T2 j := Nat.ne_of_gt lT2.2.2
      have T1j : @Ne Nat T1 j := Nat.ne_of_gt lT1.2
      obtain ⟨o1, o2, flv, N23, g1, g2, hflv⟩ : ∃ (o1 o2 : Obj) (flv : List Value), News s₁.heap s₁.heap.objs.size hx2 [(FL, W.listOf flv.toArray 0), (LP, W.listOf #[Value.ref T1, Value.ref T2] 0), (T2, o2), (T1, o1), (D5, W.listOf cvs.toArray 0), (j, oj20)] ∧ TupO o1 (Str.ofString "a") 1 ∧ TupO o2 (Str.ofString "ab") 2 ∧ StrsV flv formA :=
        ⟨_, _, _, N22, ⟨_, _, rfl⟩, ⟨_, _, rfl⟩, .cons (.cons .nil)⟩
      clear N22
      obtain ⟨ρ2, hra2, hAB2⟩ := pair_args (N23 (T1, o1) (by first | exact mem4 | exact mem3 | exact mem5 | exact mem6 | exact mem2)).1 (N23 (T2, o2) (by first | exact mem4 | exact mem3 | exact mem5 | exact mem6 | exact mem2)).1 g1 g2 (by decide)
      refine all_spec (ρ := ρ2) (args := pairA) (formals := formA) (fvs := flv) (at_top K0 F22 KX T (by decide) (by decide) rfl) KX T ⟨held20, hd1, hd2, t4, t5, Heap.dictOf_iff.mpr ⟨oj20, N23.get (by first | exact mem4 | exact mem3 | exact mem5 | exact mem6), hdj20⟩⟩ (N23 (j, oj20) (by first | exact mem4 | exact mem3 | exact mem5 | exact mem6 | exact mem2)).2.1 (N23.fresh (o := oj20) (by first | exact mem4 | exact mem3 | exact mem5 | exact mem6)) (News.isList N23 (by k_mem)) hcj hI5 hcl hcl2 (by omega) (by omega) (News.isList N23 (by k_mem)) FLj hflv (by unfold pairA; rw [hra2]; exact News.isList N23 (by k_mem)) LPj hAB2 (by decide) (by decide) (fun x hx => pool_len x (formA_in x hx)) (fun a ha t ht => tags_len _ (pairA_in a ha) t ht) (fun mixed hp hb => same_pool formA_in formA_nd pairA_in hp hb) (letter_holds formA_in pairA_in (by decide)) ?_
      intro h23 tk23 at23 U23 jf23 hc3 hc4
      refine jf_open jf23 fun held23 hd3 hd4 t6 t7 oj23 hoj23 hdj23 => ?_
      have F24 := fr_updL F22 N23 ⟨oj20, mem6⟩ U23 (fs_one rfl)
      have N24 : News s₁.heap s₁.heap.objs.size h23 [(LP, W.listOf #[Value.ref T1, Value.ref T2] 0), (T2, o2), (T1, o1), (D5, W.listOf cvs.toArray 0), (j, oj23)] := news_updL N23 ⟨oj20, mem6⟩ U23 (fs_one rfl) hoj23 (fun q hq => (updj [_, _, _, _] _ (neC LPj (neC T2j (neC T1j (neC Dj ne0)))) ne0 : ∀ q ∈ [(LP, W.listOf #[Value.ref T1, Value.ref T2] 0), (T2, o2), (T1, o1), (D5, W.listOf cvs.toArray 0), (j, oj23)], q = (j, oj23) ∨ (q ∈ [(LP, W.listOf #[Value.ref T1, Value.ref T2] 0), (T2, o2), (T1, o1), (D5, W.listOf cvs.toArray 0), (j, oj20)] ∧ @Ne Nat q.1 j)) q hq |>.imp id fun h => ⟨.tail _ h.1, h.2⟩)
      clear F22 N23 U23 hAB2 hra2 hflv hdj20 hoj20
      k_steps
      all_goals (try unfold Halt)
      rename Fr _ _ _ _ => F25
      rename News _ _ _ _ => N25
      rename_i FM hFM lFM
      have FMj : @Ne Nat FM j := Nat.ne_of_gt lFM.2.2.2.2
      obtain ⟨fmv, N26, hfmv⟩ : ∃ (fmv : List Value), News s₁.heap s₁.heap.objs.size hFM [(FM, W.listOf fmv.toArray 0), (LP, W.listOf #[Value.ref T1, Value.ref T2] 0), (T2, o2), (T1, o1), (D5, W.listOf cvs.toArray 0), (j, oj23)] ∧ StrsV fmv formB :=
        ⟨_, N25, .cons (.cons (.cons .nil))⟩
      clear N25
      obtain ⟨ρ3, hra3, hAB3⟩ := pair_args (N26 (T1, o1) (by first | exact mem4 | exact mem3 | exact mem5 | exact mem6 | exact mem2)).1 (N26 (T2, o2) (by first | exact mem4 | exact mem3 | exact mem5 | exact mem6 | exact mem2)).1 g1 g2 (by decide)
      refine all_spec (ρ := ρ3) (args := pairA) (formals := formB) (fvs := fmv) (at_top K0 F25 KX T (by decide) (by decide) rfl) KX T ⟨held23, hd3, hd4, t6, t7, Heap.dictOf_iff.mpr ⟨oj23, N26.get (by first | exact mem4 | exact mem3 | exact mem5 | exact mem6), hdj23⟩⟩ (N26 (j, oj23) (by first | exact mem4 | exact mem3 | exact mem5 | exact mem6 | exact mem2)).2.1 (N26.fresh (o := oj23) (by first | exact mem4 | exact mem3 | exact mem5 | exact mem6)) (News.isList N26 (by k_mem)) hcj hI5 hcl hcl2 (by omega) (by omega) (News.isList N26 (by k_mem)) FMj hfmv (by unfold pairA; rw [hra3]; exact News.isList N26 (by k_mem)) LPj hAB3 (by decide) (by decide) (fun x hx => pool_len x (formB_in x hx)) (fun a ha t ht => tags_len _ (pairA_in a ha) t ht) (fun mixed hp hb => same_pool formB_in formB_nd pairA_in hp hb) (letter_holds formB_in pairA_in (by decide)) ?_
      intro h27 tk27 at27 U27 jf27 _ _
      have F28 := fr_updL F25 N26 ⟨oj23, mem6⟩ U27 (fs_one rfl)
      have N28 : News s₁.heap s₁.heap.objs.size h27 [] := fun _ hq => by cases hq
      clear F25 N26 U27 hAB3 hra3 hfmv hdj23 hoj23 hI5 jf27
      k_steps
      all_goals (try unfold Halt)
      rename Fr _ _ _ _ => F25
      rename News _ _ _ _ => N25
      rename_i FN hFN lFN S1 hS1 lS1 S2 hS2 lS2 LQ hLQ lLQ
      obtain ⟨o3, o4, fnv, N26, g3, g4, hfnv⟩ : ∃ (o3 o4 : Obj) (fnv : List Value), News s₁.heap s₁.heap.objs.size hLQ [(LQ, W.listOf #[Value.ref S1, Value.ref S2] 0), (S2, o4), (S1, o3), (FN, W.listOf fnv.toArray 0)] ∧ TupO o3 (Str.ofString "a") 1 ∧ TupO o4 (Str.ofString "ab") 2 ∧ StrsV fnv formA :=
        ⟨_, _, _, N25, ⟨_, _, rfl⟩, ⟨_, _, rfl⟩, .cons (.cons .nil)⟩
      clear N25
      obtain ⟨ρ4, hra4, hAB4⟩ := pair_args (N26 (S1, o3) (by first | exact mem4 | exact mem3 | exact mem5 | exact mem6 | exact mem2)).1 (N26 (S2, o4) (by first | exact mem4 | exact mem3 | exact mem5 | exact mem6 | exact mem2)).1 g3 g4 (by decide)
      have hAI := hAB4.is
      rw [hra4] at hAI
      refine names_spec (fvs := fnv) (avs := [Value.ref S1, Value.ref S2]) (args := pairA) (formals := formA) (at_top K0 F25 KX T (by decide) (by decide) rfl) (News.isList N26 (by k_mem)) hfnv (News.isList N26 (by k_mem)) hAI (by decide) (by decide) (fun x hx => Nat.le_trans (pool_len x (formA_in x hx)) (by decide)) (fun a ha t ht => Nat.le_trans (tags_len _ (pairA_in a ha) t ht) (by decide)) ?_ (fun _ _ _ _ _ _ _ _ _ _ he _ _ => absurd (he.symm.trans mnA) (fun q => by cases q))
      intro h30 tk30 T30 P30 R30 op30 kvs30 rvs30 pl30 rest30 hok k30 nT nP nR hT30 hP30 hPd hPk hPlo hR30 hRI _ _
      obtain ⟨rfl, rfl⟩ := Prod.mk.inj (Except.ok.inj (hok.symm.trans mnA))
      have F31 := fr_led F25 N26 k30 (by intro b hb; cases hb)
      have N31 : News s₁.heap s₁.heap.objs.size h30 [(P30, op30)] := news_add F25 (fun _ hq => by cases hq) hP30 nP
      clear F25 N26 hAB4 hAI hra4 hok k30 nT nR hR30 hRI
      k_steps
      all_goals (try unfold Halt)
      refine kba_turn (value' := PySem.Expr.Name (PySem.Str.ofString "_") ⟨0, 0, 0, 0⟩) (fun _ => rfl) ?_
      refine item_tupleL hT30 (by decide) (by decide) rfl rfl ?_
      k_steps
      all_goals (try unfold Halt)
      rename Fr _ _ _ _ => F25
      rename News _ _ _ _ => N25
      rename Obj.IsDictOf _ _ (strPairs _) => hd6
      obtain ⟨t8, t9, hdl⟩ : ∃ t u, Obj.IsDictOf (strKind PySem.Challenge.rw_ov0042_01.row.prog w) _ [(Str.ofString "ab", Value.int 1 t), (Str.ofString "abc", Value.int 0 u)] := ⟨_, _, hd6⟩
      refine given_eq (l1 := [(Str.ofString "ab", 1), (Str.ofString "abc", 0)]) (l2 := [(Str.ofString "ab", 1), (Str.ofString "abc", 0)]) hPlo (by assumption) (Heap.dictOf_iff.mpr ⟨op30, N25.get (by k_mem), hPd⟩) (Heap.dictOf_iff.mpr ⟨_, N25.get (.head _), hdl⟩) hPk.intK intK2 (same_refl (by decide +kernel)) (by show callerA.units + 3 < cLine; decide) ?_
      have N32 : News s₁.heap s₁.heap.objs.size _ [] := news_sub N25 (fun _ hq => by cases hq)
      clear N25 hd6 hdl hPd hPk hP30 hT30
      k_steps
      all_goals (try unfold Halt)
      rename Fr _ _ _ _ => F25
      rename News _ _ _ _ => N25
      rename_i FN2 hFN2 lFN2 hA2 kA nmA hB2 kB nmB LQ2 hLQ2 lLQ2
      obtain ⟨S3, S4, o5, o6, gnv, N26, g5, g6, hgnv⟩ : ∃ (S3 S4 : Addr) (o5 o6 : Obj) (gnv : List Value), News s₁.heap s₁.heap.objs.size hLQ2 [(LQ2, W.listOf #[Value.ref S3, Value.ref S4] 0), (S4, o6), (S3, o5), (FN2, W.listOf gnv.toArray 0)] ∧ TupO o5 (Str.ofString "ab") 2 ∧ TupO o6 (Str.ofString "a") 1 ∧ StrsV gnv formA :=
        ⟨_, _, _, _, _, N25, ⟨_, _, rfl⟩, ⟨_, _, rfl⟩, .cons (.cons .nil)⟩
      clear N25 kA kB
      obtain ⟨ρ5, hra5, hAB5⟩ := pair_args (N26 (S3, o5) (by first | exact mem4 | exact mem3 | exact mem5 | exact mem6 | exact mem2)).1 (N26 (S4, o6) (by first | exact mem4 | exact mem3 | exact mem5 | exact mem6 | exact mem2)).1 g5 g6 (by decide)
      have hAI := hAB5.is
      rw [hra5] at hAI
      refine names_spec (fvs := gnv) (avs := [Value.ref S3, Value.ref S4]) (args := pairB) (formals := formA) (at_top K0 F25 KX T (by decide) (by decide) rfl) (News.isList N26 (by k_mem)) hgnv (News.isList N26 (by k_mem)) hAI (by decide) (by decide) (fun x hx => Nat.le_trans (pool_len x (formA_in x hx)) (by decide)) (fun a ha t ht => Nat.le_trans (tags_len _ (pairB_in a ha) t ht) (by decide)) ?_ (fun _ _ _ _ _ _ _ _ _ _ he _ _ => absurd (he.symm.trans mnB) (fun q => by cases q))
      intro h33 tk33 T33 P33 R33 op33 kvs33 rvs33 pl33 rest33 hok k33 nT nP nR hT33 hP33 hPd hPk hPlo2 hR33 hRI _ _
      obtain ⟨rfl, rfl⟩ := Prod.mk.inj (Except.ok.inj (hok.symm.trans mnB))
      have F34 := fr_led F25 N26 k33 (by intro b hb; cases hb)
      have N34 : News s₁.heap s₁.heap.objs.size h33 [(P33, op33)] := news_add F25 (fun _ hq => by cases hq) hP33 nP
      clear F25 N26 hAB5 hAI hra5 hok k33 nT nR hR33 hRI
      k_steps
      all_goals (try unfold Halt)
      refine kba_turn (value' := PySem.Expr.Name (PySem.Str.ofString "_") ⟨0, 0, 0, 0⟩) (fun _ => rfl) ?_
      refine item_tupleL hT33 (by decide) (by decide) rfl rfl ?_
      k_steps
      all_goals (try unfold Halt)
      rename Fr _ _ _ _ => F25
      rename News _ _ _ _ => N25
      rename Obj.IsDictOf _ _ (strPairs _) => hd6
      obtain ⟨t8', t9', hdl⟩ : ∃ t u, Obj.IsDictOf (strKind PySem.Challenge.rw_ov0042_01.row.prog w) _ [(Str.ofString "ab", Value.int 0 t), (Str.ofString "abc", Value.int 1 u)] := ⟨_, _, hd6⟩
      refine given_eq (l1 := [(Str.ofString "ab", 0), (Str.ofString "abc", 1)]) (l2 := [(Str.ofString "ab", 0), (Str.ofString "abc", 1)]) hPlo2 (by assumption) (Heap.dictOf_iff.mpr ⟨op33, N25.get (by k_mem), hPd⟩) (Heap.dictOf_iff.mpr ⟨_, N25.get (.head _), hdl⟩) hPk.intK intK2 (same_refl (by decide +kernel)) (by show callerA.units + 3 < cLine; decide) ?_
      have N35 : News s₁.heap s₁.heap.objs.size _ [] := news_sub N25 (fun _ hq => by cases hq)
      clear N25 hd6 hdl hPd hPk hP33 hT33
      k_steps)
end Mine
end
end
theorem PySem.Challenge.cw_ov0042_01_holds : PySem.Challenge.rw_ov0042_01.Holds := by
  exact Mine.law_holds
