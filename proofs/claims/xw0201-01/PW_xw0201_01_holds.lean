import PyProof.Rows.All
import Wide.All
import OpenK.AllK
import Wide.FinOn
import PySem.Challenge.RW_xw0201_01
set_option Elab.async false
set_option maxRecDepth 100000
set_option maxHeartbeats 8000000
open PySem PySem.W PyProof.Rows
namespace Mine
section
open PySem PySem.W PyProof.Rows
set_option maxRecDepth 1000000
def fNth : List Stmt → Nat → Stmt
  | s :: _, 0 => s
  | _ :: r, n + 1 => fNth r n
  | [], _ => .Pass default
noncomputable def fTop (n : Nat) : Stmt := fNth PySem.Challenge.pw_xw0201_01.main.body n
def fIn : Stmt → Nat → Stmt
  | .ClassDef _ _ _ b .., n => fNth b n
  | s, _ => s
def fArgs : Stmt → Arguments
  | .FunctionDef _ a .. => a
  | _ => ⟨[], [], none, [], [], none, []⟩
def fBody : Stmt → List Stmt
  | .FunctionDef _ _ b .. => b
  | _ => []
noncomputable def fScope : Stmt → Scope
  | .FunctionDef _ _ _ _ _ _ s .. => s
  | _ => PySem.Challenge.pw_xw0201_01.main.scope
noncomputable def hd.heap_39 : Params → Frag := by
  refine (?g : (z0 : Arguments) → z0 = fArgs (fTop 0) → (z1 : List Stmt) → z1 = fBody (fTop 0) → (z2 : Scope) → z2 = fScope (fTop 0) → (z3 : Arguments) → z3 = fArgs (fIn (fTop 2) 0) → (z4 : List Stmt) → z4 = fBody (fIn (fTop 2) 0) → (z5 : Scope) → z5 = fScope (fIn (fTop 2) 0) → (z6 : Arguments) → z6 = fArgs (fIn (fTop 6) 0) → (z7 : List Stmt) → z7 = fBody (fIn (fTop 6) 0) → (z8 : Scope) → z8 = fScope (fIn (fTop 6) 0) → (z9 : Arguments) → z9 = fArgs (fIn (fTop 7) 0) → (z10 : List Stmt) → z10 = fBody (fIn (fTop 7) 0) → (z11 : Scope) → z11 = fScope (fIn (fTop 7) 0) → (z12 : Arguments) → z12 = fArgs (fIn (fTop 7) 1) → (z13 : List Stmt) → z13 = fBody (fIn (fTop 7) 1) → (z14 : Scope) → z14 = fScope (fIn (fTop 7) 1) → (z15 : Arguments) → z15 = fArgs (fIn (fTop 7) 2) → (z16 : List Stmt) → z16 = fBody (fIn (fTop 7) 2) → (z17 : Scope) → z17 = fScope (fIn (fTop 7) 2) → (z18 : Arguments) → z18 = fArgs (fIn (fTop 7) 3) → (z19 : List Stmt) → z19 = fBody (fIn (fTop 7) 3) → (z20 : Scope) → z20 = fScope (fIn (fTop 7) 3) → (z21 : Arguments) → z21 = fArgs (fIn (fTop 7) 4) → (z22 : List Stmt) → z22 = fBody (fIn (fTop 7) 4) → (z23 : Scope) → z23 = fScope (fIn (fTop 7) 4) → (z24 : Arguments) → z24 = fArgs (fIn (fTop 7) 5) → (z25 : List Stmt) → z25 = fBody (fIn (fTop 7) 5) → (z26 : Scope) → z26 = fScope (fIn (fTop 7) 5) → (z27 : Arguments) → z27 = fArgs (fIn (fTop 7) 6) → (z28 : List Stmt) → z28 = fBody (fIn (fTop 7) 6) → (z29 : Scope) → z29 = fScope (fIn (fTop 7) 6) → (z30 : Arguments) → z30 = fArgs (fIn (fTop 7) 7) → (z31 : List Stmt) → z31 = fBody (fIn (fTop 7) 7) → (z32 : Scope) → z32 = fScope (fIn (fTop 7) 7) → (z33 : Arguments) → z33 = fArgs (fIn (fTop 7) 8) → (z34 : List Stmt) → z34 = fBody (fIn (fTop 7) 8) → (z35 : Scope) → z35 = fScope (fIn (fTop 7) 8) → (z36 : Arguments) → z36 = fArgs (fIn (fTop 7) 9) → (z37 : List Stmt) → z37 = fBody (fIn (fTop 7) 9) → (z38 : Scope) → z38 = fScope (fIn (fTop 7) 9) → (z39 : Arguments) → z39 = fArgs (fIn (fTop 7) 10) → (z40 : List Stmt) → z40 = fBody (fIn (fTop 7) 10) → (z41 : Scope) → z41 = fScope (fIn (fTop 7) 10) → (z42 : Arguments) → z42 = fArgs (fIn (fTop 7) 11) → (z43 : List Stmt) → z43 = fBody (fIn (fTop 7) 11) → (z44 : Scope) → z44 = fScope (fIn (fTop 7) 11) → (z45 : Arguments) → z45 = fArgs (fIn (fTop 7) 12) → (z46 : List Stmt) → z46 = fBody (fIn (fTop 7) 12) → (z47 : Scope) → z47 = fScope (fIn (fTop 7) 12) → (z48 : Arguments) → z48 = fArgs (fIn (fTop 7) 13) → (z49 : List Stmt) → z49 = fBody (fIn (fTop 7) 13) → (z50 : Scope) → z50 = fScope (fIn (fTop 7) 13) → (z51 : Arguments) → z51 = fArgs (fIn (fTop 7) 14) → (z52 : List Stmt) → z52 = fBody (fIn (fTop 7) 14) → (z53 : Scope) → z53 = fScope (fIn (fTop 7) 14) → (z54 : Arguments) → z54 = fArgs (fIn (fTop 7) 15) → (z55 : List Stmt) → z55 = fBody (fIn (fTop 7) 15) → (z56 : Scope) → z56 = fScope (fIn (fTop 7) 15) → (z57 : Arguments) → z57 = fArgs (fIn (fTop 7) 16) → (z58 : List Stmt) → z58 = fBody (fIn (fTop 7) 16) → (z59 : Scope) → z59 = fScope (fIn (fTop 7) 16) → (z60 : Arguments) → z60 = fArgs (fIn (fTop 7) 17) → (z61 : List Stmt) → z61 = fBody (fIn (fTop 7) 17) → (z62 : Scope) → z62 = fScope (fIn (fTop 7) 17) → (z63 : Arguments) → z63 = fArgs (fIn (fTop 7) 18) → (z64 : List Stmt) → z64 = fBody (fIn (fTop 7) 18) → (z65 : Scope) → z65 = fScope (fIn (fTop 7) 18) → (z66 : Arguments) → z66 = fArgs (fIn (fTop 7) 19) → (z67 : List Stmt) → z67 = fBody (fIn (fTop 7) 19) → (z68 : Scope) → z68 = fScope (fIn (fTop 7) 19) → (z69 : Arguments) → z69 = fArgs (fIn (fTop 7) 20) → (z70 : List Stmt) → z70 = fBody (fIn (fTop 7) 20) → (z71 : Scope) → z71 = fScope (fIn (fTop 7) 20) → (z72 : Arguments) → z72 = fArgs (fIn (fTop 7) 21) → (z73 : List Stmt) → z73 = fBody (fIn (fTop 7) 21) → (z74 : Scope) → z74 = fScope (fIn (fTop 7) 21) → (z75 : Arguments) → z75 = fArgs (fIn (fTop 7) 22) → (z76 : List Stmt) → z76 = fBody (fIn (fTop 7) 22) → (z77 : Scope) → z77 = fScope (fIn (fTop 7) 22) → (z78 : Arguments) → z78 = fArgs (fIn (fTop 7) 23) → (z79 : List Stmt) → z79 = fBody (fIn (fTop 7) 23) → (z80 : Scope) → z80 = fScope (fIn (fTop 7) 23) → (z81 : Arguments) → z81 = fArgs (fIn (fTop 7) 24) → (z82 : List Stmt) → z82 = fBody (fIn (fTop 7) 24) → (z83 : Scope) → z83 = fScope (fIn (fTop 7) 24) → (z84 : Arguments) → z84 = fArgs (fTop 9) → (z85 : List Stmt) → z85 = fBody (fTop 9) → (z86 : Scope) → z86 = fScope (fTop 9) → (z87 : Arguments) → z87 = fArgs (fTop 10) → (z88 : List Stmt) → z88 = fBody (fTop 10) → (z89 : Scope) → z89 = fScope (fTop 10) → (z90 : Arguments) → z90 = fArgs (fTop 11) → (z91 : List Stmt) → z91 = fBody (fTop 11) → (z92 : Scope) → z92 = fScope (fTop 11) → (z93 : Arguments) → z93 = fArgs (fTop 12) → (z94 : List Stmt) → z94 = fBody (fTop 12) → (z95 : Scope) → z95 = fScope (fTop 12) → (z96 : Arguments) → z96 = fArgs (fTop 13) → (z97 : List Stmt) → z97 = fBody (fTop 13) → (z98 : Scope) → z98 = fScope (fTop 13) → (z99 : Arguments) → z99 = fArgs (fTop 14) → (z100 : List Stmt) → z100 = fBody (fTop 14) → (z101 : Scope) → z101 = fScope (fTop 14) → (z102 : Arguments) → z102 = fArgs (fTop 15) → (z103 : List Stmt) → z103 = fBody (fTop 15) → (z104 : Scope) → z104 = fScope (fTop 15) → (z105 : Arguments) → z105 = fArgs (fTop 16) → (z106 : List Stmt) → z106 = fBody (fTop 16) → (z107 : Scope) → z107 = fScope (fTop 16) → (z108 : Arguments) → z108 = fArgs (fTop 17) → (z109 : List Stmt) → z109 = fBody (fTop 17) → (z110 : Scope) → z110 = fScope (fTop 17) → (z111 : Arguments) → z111 = fArgs (fTop 18) → (z112 : List Stmt) → z112 = fBody (fTop 18) → (z113 : Scope) → z113 = fScope (fTop 18) → (z114 : Arguments) → z114 = fArgs (fTop 19) → (z115 : List Stmt) → z115 = fBody (fTop 19) → (z116 : Scope) → z116 = fScope (fTop 19) → Params → Frag) ?z0 ?e0 ?z1 ?e1 ?z2 ?e2 ?z3 ?e3 ?z4 ?e4 ?z5 ?e5 ?z6 ?e6 ?z7 ?e7 ?z8 ?e8 ?z9 ?e9 ?z10 ?e10 ?z11 ?e11 ?z12 ?e12 ?z13 ?e13 ?z14 ?e14 ?z15 ?e15 ?z16 ?e16 ?z17 ?e17 ?z18 ?e18 ?z19 ?e19 ?z20 ?e20 ?z21 ?e21 ?z22 ?e22 ?z23 ?e23 ?z24 ?e24 ?z25 ?e25 ?z26 ?e26 ?z27 ?e27 ?z28 ?e28 ?z29 ?e29 ?z30 ?e30 ?z31 ?e31 ?z32 ?e32 ?z33 ?e33 ?z34 ?e34 ?z35 ?e35 ?z36 ?e36 ?z37 ?e37 ?z38 ?e38 ?z39 ?e39 ?z40 ?e40 ?z41 ?e41 ?z42 ?e42 ?z43 ?e43 ?z44 ?e44 ?z45 ?e45 ?z46 ?e46 ?z47 ?e47 ?z48 ?e48 ?z49 ?e49 ?z50 ?e50 ?z51 ?e51 ?z52 ?e52 ?z53 ?e53 ?z54 ?e54 ?z55 ?e55 ?z56 ?e56 ?z57 ?e57 ?z58 ?e58 ?z59 ?e59 ?z60 ?e60 ?z61 ?e61 ?z62 ?e62 ?z63 ?e63 ?z64 ?e64 ?z65 ?e65 ?z66 ?e66 ?z67 ?e67 ?z68 ?e68 ?z69 ?e69 ?z70 ?e70 ?z71 ?e71 ?z72 ?e72 ?z73 ?e73 ?z74 ?e74 ?z75 ?e75 ?z76 ?e76 ?z77 ?e77 ?z78 ?e78 ?z79 ?e79 ?z80 ?e80 ?z81 ?e81 ?z82 ?e82 ?z83 ?e83 ?z84 ?e84 ?z85 ?e85 ?z86 ?e86 ?z87 ?e87 ?z88 ?e88 ?z89 ?e89 ?z90 ?e90 ?z91 ?e91 ?z92 ?e92 ?z93 ?e93 ?z94 ?e94 ?z95 ?e95 ?z96 ?e96 ?z97 ?e97 ?z98 ?e98 ?z99 ?e99 ?z100 ?e100 ?z101 ?e101 ?z102 ?e102 ?z103 ?e103 ?z104 ?e104 ?z105 ?e105 ?z106 ?e106 ?z107 ?e107 ?z108 ?e108 ?z109 ?e109 ?z110 ?e110 ?z111 ?e111 ?z112 ?e112 ?z113 ?e113 ?z114 ?e114 ?z115 ?e115 ?z116 ?e116
  case g => exact fun z0 _ z1 _ z2 _ z3 _ z4 _ z5 _ z6 _ z7 _ z8 _ z9 _ z10 _ z11 _ z12 _ z13 _ z14 _ z15 _ z16 _ z17 _ z18 _ z19 _ z20 _ z21 _ z22 _ z23 _ z24 _ z25 _ z26 _ z27 _ z28 _ z29 _ z30 _ z31 _ z32 _ z33 _ z34 _ z35 _ z36 _ z37 _ z38 _ z39 _ z40 _ z41 _ z42 _ z43 _ z44 _ z45 _ z46 _ z47 _ z48 _ z49 _ z50 _ z51 _ z52 _ z53 _ z54 _ z55 _ z56 _ z57 _ z58 _ z59 _ z60 _ z61 _ z62 _ z63 _ z64 _ z65 _ z66 _ z67 _ z68 _ z69 _ z70 _ z71 _ z72 _ z73 _ z74 _ z75 _ z76 _ z77 _ z78 _ z79 _ z80 _ z81 _ z82 _ z83 _ z84 _ z85 _ z86 _ z87 _ z88 _ z89 _ z90 _ z91 _ z92 _ z93 _ z94 _ z95 _ z96 _ z97 _ z98 _ z99 _ z100 _ z101 _ z102 _ z103 _ z104 _ z105 _ z106 _ z107 _ z108 _ z109 _ z110 _ z111 _ z112 _ z113 _ z114 _ z115 _ z116 _ P => (nat_lit 2, { cls := Value.none, data := Data.dict #[{ hash := PyData.keyHash P (Str.ofString "type.__subclasses__.Exception.0"), key := Value.str (Str.ofString "type.__subclasses__.Exception.0") 221, val := Value.int 38 0 }, { hash := PyData.keyHash P (Str.ofString "type.__subclasses__.Exception.n"), key := Value.str (Str.ofString "type.__subclasses__.Exception.n") 222, val := Value.int 1 0 }] 2 }) ::
  (nat_lit 3, { cls := Value.type "dict", data := Data.dict #[{ hash := PyData.keyHash P (Str.ofString "__name__"), key := Value.str (Str.ofString "__name__") 165, val := Value.str (Str.ofString "law_xw0201_01") 537 }, { hash := PyData.keyHash P (Str.ofString "__doc__"), key := Value.str (Str.ofString "__doc__") 166, val := Value.none }, { hash := PyData.keyHash P (Str.ofString "__package__"), key := Value.str (Str.ofString "__package__") 167, val := Value.none }, { hash := PyData.keyHash P (Str.ofString "__loader__"), key := Value.str (Str.ofString "__loader__") 168, val := Value.builtin "__main__.__loader__#opaque" }, { hash := PyData.keyHash P (Str.ofString "__spec__"), key := Value.str (Str.ofString "__spec__") 169, val := Value.none }, { hash := PyData.keyHash P (Str.ofString "__annotations__"), key := Value.str (Str.ofString "__annotations__") 170, val := Value.ref 6 }, { hash := PyData.keyHash P (Str.ofString "__builtins__"), key := Value.str (Str.ofString "__builtins__") 171, val := Value.ref 4 }, { hash := PyData.keyHash P (Str.ofString "__file__"), key := Value.str (Str.ofString "__file__") 173, val := Value.str (Str.ofString "/claim/cut.py") 172 }, { hash := PyData.keyHash P (Str.ofString "__cached__"), key := Value.str (Str.ofString "__cached__") 174, val := Value.none }, { hash := PyData.keyHash P (Str.ofString "_wall"), key := Value.str (Str.ofString "_wall") 193, val := Value.ref 21 }, { hash := PyData.keyHash P (Str.ofString "MarkupError"), key := Value.str (Str.ofString "MarkupError") 224, val := Value.ref 38 }, { hash := PyData.keyHash P (Str.ofString "TreeFault"), key := Value.str (Str.ofString "TreeFault") 240, val := Value.ref 51 }, { hash := PyData.keyHash P (Str.ofString "PARENTS"), key := Value.str (Str.ofString "PARENTS") 245, val := Value.ref 54 }, { hash := PyData.keyHash P (Str.ofString "NodeRow"), key := Value.str (Str.ofString "NodeRow") 287, val := Value.ref 71 }, { hash := PyData.keyHash P (Str.ofString "Tree"), key := Value.str (Str.ofString "Tree") 536, val := Value.ref 260 }, { hash := PyData.keyHash P (Str.ofString "_law_pool"), key := Value.str (Str.ofString "_law_pool") 549, val := Value.ref 271 }, { hash := PyData.keyHash P (Str.ofString "_law_take"), key := Value.str (Str.ofString "_law_take") 558, val := Value.ref 278 }, { hash := PyData.keyHash P (Str.ofString "_law_one"), key := Value.str (Str.ofString "_law_one") 566, val := Value.ref 285 }, { hash := PyData.keyHash P (Str.ofString "_law_refused"), key := Value.str (Str.ofString "_law_refused") 573, val := Value.ref 292 }, { hash := PyData.keyHash P (Str.ofString "_law_begun"), key := Value.str (Str.ofString "_law_begun") 580, val := Value.ref 299 }, { hash := PyData.keyHash P (Str.ofString "_law_put_right"), key := Value.str (Str.ofString "_law_put_right") 598, val := Value.ref 306 }, { hash := PyData.keyHash P (Str.ofString "_law_changed_right"), key := Value.str (Str.ofString "_law_changed_right") 611, val := Value.ref 313 }, { hash := PyData.keyHash P (Str.ofString "_law_asked_right"), key := Value.str (Str.ofString "_law_asked_right") 623, val := Value.ref 320 }, { hash := PyData.keyHash P (Str.ofString "_law_stands"), key := Value.str (Str.ofString "_law_stands") 638, val := Value.ref 327 }, { hash := PyData.keyHash P (Str.ofString "_law_told_right"), key := Value.str (Str.ofString "_law_told_right") 650, val := Value.ref 334 }, { hash := PyData.keyHash P (Str.ofString "law"), key := Value.str (Str.ofString "law") 666, val := Value.ref 341 }] 26 }) ::
  (nat_lit 15, { cls := Value.type "tuple", data := Data.seq #[] }) ::
  (nat_lit 17, { cls := Value.type "tuple", data := Data.seq #[Value.str (Str.ofString "k") 190] }) ::
  (nat_lit 18, { cls := Value.type "tuple", data := Data.seq #[] }) ::
  (nat_lit 20, { cls := Value.type "code", data := Data.fields #[Value.str (Str.ofString "_wall") 187, Value.str (Str.ofString "_wall") 188, Value.str (Str.ofString "/claim/cut.py") 189, Value.int 1 0, Value.int 1 0, Value.int 0 0, Value.int 0 0, Value.int 3 0, Value.ref 15, Value.bool true, Value.int 181 0, Value.ref 16, Value.none, Value.ref 17, Value.ref 18, Value.ref 19, Value.int 191 0, Value.int 1 0, Value.str (Str.ofString "/claim/cut.py") 192] }) ::
  (nat_lit 21, { cls := Value.type "function", data := Data.func { name := Str.ofString "_wall", qualname := Str.ofString "_wall", params := z0, body := FuncBody.stmts (z1), scope := z2, globals := 3, closure := [], defaults := Value.none, kwdefaults := Value.none, pyModule := Value.str (Str.ofString "__main__") 164, code := Value.ref 20 } }) ::
  (nat_lit 22, { cls := Value.type "tuple", data := Data.seq #[Value.type "Exception"] }) ::
  (nat_lit 29, { cls := Value.type "tuple", data := Data.seq #[] }) ::
  (nat_lit 31, { cls := Value.type "tuple", data := Data.seq #[Value.str (Str.ofString "self") 211, Value.str (Str.ofString "message") 212] }) ::
  (nat_lit 32, { cls := Value.type "tuple", data := Data.seq #[] }) ::
  (nat_lit 34, { cls := Value.type "code", data := Data.fields #[Value.str (Str.ofString "__init__") 208, Value.str (Str.ofString "MarkupError.__init__") 209, Value.str (Str.ofString "/claim/cut.py") 210, Value.int 7 0, Value.int 2 0, Value.int 0 0, Value.int 0 0, Value.int 3 0, Value.ref 29, Value.bool true, Value.int 181 0, Value.ref 30, Value.none, Value.ref 31, Value.ref 32, Value.ref 33, Value.int 213 0, Value.int 7 0, Value.str (Str.ofString "/claim/cut.py") 214] }) ::
  (nat_lit 35, { cls := Value.type "function", data := Data.func { name := Str.ofString "__init__", qualname := Str.ofString "MarkupError.__init__", params := z3, body := FuncBody.stmts (z4), scope := z5, globals := 3, closure := [], defaults := Value.none, kwdefaults := Value.none, pyModule := Value.str (Str.ofString "markupmill.errors") 194, code := Value.ref 34 } }) ::
  (nat_lit 36, { cls := Value.type "tuple", data := Data.seq #[Value.str (Str.ofString "message") 216] }) ::
  (nat_lit 37, { cls := Value.type "dict", data := Data.dict #[{ hash := PyData.keyHash P (Str.ofString "__module__"), key := Value.str (Str.ofString "__module__") 203, val := Value.str (Str.ofString "markupmill.errors") 194 }, { hash := PyData.keyHash P (Str.ofString "__firstlineno__"), key := Value.str (Str.ofString "__firstlineno__") 207, val := Value.int 5 206 }, { hash := PyData.keyHash P (Str.ofString "__init__"), key := Value.str (Str.ofString "__init__") 215, val := Value.ref 35 }, { hash := PyData.keyHash P (Str.ofString "__static_attributes__"), key := Value.str (Str.ofString "__static_attributes__") 217, val := Value.ref 36 }, { hash := PyData.keyHash P (Str.ofString "__weakref__"), key := Value.str (Str.ofString "__weakref__") 219, val := Value.ref 39 }, { hash := PyData.keyHash P (Str.ofString "__doc__"), key := Value.str (Str.ofString "__doc__") 220, val := Value.none }] 3 }) ::
  (nat_lit 38, { cls := Value.type "type", data := Data.cls { name := Str.ofString "MarkupError", bases := [Value.type "Exception"], mro := [Value.ref 38, Value.type "Exception", Value.type "BaseException", Value.type "object"], ns := 37, qualname := Str.ofString "MarkupError", subclasses := [Value.ref 51] }, slots := #[some (Value.ref 22), none, some (Value.str (Str.ofString "MarkupError") 196), some (Value.str (Str.ofString "MarkupError") 204), some (Value.builtin "Exception.__new__"), some (Value.bool true)] }) ::
  (nat_lit 39, { cls := Value.type "getset_descriptor", data := Data.fields #[Value.str (Str.ofString "__weakref__") 218, Value.ref 38, Value.builtin "ExceptionGroup.__weakref__", Value.none] }) ::
  (nat_lit 42, { cls := Value.type "tuple", data := Data.seq #[Value.ref 38] }) ::
  (nat_lit 49, { cls := Value.type "tuple", data := Data.seq #[] }) ::
  (nat_lit 50, { cls := Value.type "dict", data := Data.dict #[{ hash := PyData.keyHash P (Str.ofString "__module__"), key := Value.str (Str.ofString "__module__") 232, val := Value.str (Str.ofString "markupmill.errors") 194 }, { hash := PyData.keyHash P (Str.ofString "__firstlineno__"), key := Value.str (Str.ofString "__firstlineno__") 236, val := Value.int 10 235 }, { hash := PyData.keyHash P (Str.ofString "__static_attributes__"), key := Value.str (Str.ofString "__static_attributes__") 237, val := Value.ref 49 }, { hash := PyData.keyHash P (Str.ofString "__doc__"), key := Value.str (Str.ofString "__doc__") 238, val := Value.none }] 2 }) ::
  (nat_lit 51, { cls := Value.type "type", data := Data.cls { name := Str.ofString "TreeFault", bases := [Value.ref 38], mro := [Value.ref 51, Value.ref 38, Value.type "Exception", Value.type "BaseException", Value.type "object"], ns := 50, qualname := Str.ofString "TreeFault" }, slots := #[some (Value.ref 42), none, some (Value.str (Str.ofString "TreeFault") 225), some (Value.str (Str.ofString "TreeFault") 233), some (Value.builtin "Exception.__new__"), some (Value.bool true)] }) ::
  (nat_lit 54, { cls := Value.type "tuple", data := Data.seq #[Value.str (Str.ofString "root") 243, Value.str (Str.ofString "element") 244] }) ::
  (nat_lit 62, { cls := Value.type "tuple", data := Data.seq #[] }) ::
  (nat_lit 64, { cls := Value.type "tuple", data := Data.seq #[Value.str (Str.ofString "self") 261, Value.str (Str.ofString "kind") 262, Value.str (Str.ofString "name") 263, Value.str (Str.ofString "uri") 264, Value.str (Str.ofString "local") 265, Value.str (Str.ofString "value") 266, Value.str (Str.ofString "parent") 267] }) ::
  (nat_lit 65, { cls := Value.type "tuple", data := Data.seq #[] }) ::
  (nat_lit 67, { cls := Value.type "code", data := Data.fields #[Value.str (Str.ofString "__init__") 258, Value.str (Str.ofString "NodeRow.__init__") 259, Value.str (Str.ofString "/claim/cut.py") 260, Value.int 16 0, Value.int 7 0, Value.int 0 0, Value.int 0 0, Value.int 3 0, Value.ref 62, Value.bool true, Value.int 181 0, Value.ref 63, Value.none, Value.ref 64, Value.ref 65, Value.ref 66, Value.int 268 0, Value.int 16 0, Value.str (Str.ofString "/claim/cut.py") 269] }) ::
  (nat_lit 68, { cls := Value.type "function", data := Data.func { name := Str.ofString "__init__", qualname := Str.ofString "NodeRow.__init__", params := z6, body := FuncBody.stmts (z7), scope := z8, globals := 3, closure := [], defaults := Value.none, kwdefaults := Value.none, pyModule := Value.str (Str.ofString "markupmill.tree") 241, code := Value.ref 67 } }) ::
  (nat_lit 69, { cls := Value.type "tuple", data := Data.seq #[Value.str (Str.ofString "attributes") 271, Value.str (Str.ofString "children") 272, Value.str (Str.ofString "kind") 273, Value.str (Str.ofString "local") 274, Value.str (Str.ofString "name") 275, Value.str (Str.ofString "namespaces") 276, Value.str (Str.ofString "parent") 277, Value.str (Str.ofString "uri") 278, Value.str (Str.ofString "value") 279] }) ::
  (nat_lit 70, { cls := Value.type "dict", data := Data.dict #[{ hash := PyData.keyHash P (Str.ofString "__module__"), key := Value.str (Str.ofString "__module__") 253, val := Value.str (Str.ofString "markupmill.tree") 241 }, { hash := PyData.keyHash P (Str.ofString "__firstlineno__"), key := Value.str (Str.ofString "__firstlineno__") 257, val := Value.int 14 256 }, { hash := PyData.keyHash P (Str.ofString "__init__"), key := Value.str (Str.ofString "__init__") 270, val := Value.ref 68 }, { hash := PyData.keyHash P (Str.ofString "__static_attributes__"), key := Value.str (Str.ofString "__static_attributes__") 280, val := Value.ref 69 }, { hash := PyData.keyHash P (Str.ofString "__dict__"), key := Value.str (Str.ofString "__dict__") 282, val := Value.ref 72 }, { hash := PyData.keyHash P (Str.ofString "__weakref__"), key := Value.str (Str.ofString "__weakref__") 284, val := Value.ref 73 }, { hash := PyData.keyHash P (Str.ofString "__doc__"), key := Value.str (Str.ofString "__doc__") 285, val := Value.none }] 4 }) ::
  (nat_lit 71, { cls := Value.type "type", data := Data.cls { name := Str.ofString "NodeRow", bases := [Value.type "object"], mro := [Value.ref 71, Value.type "object"], ns := 70, qualname := Str.ofString "NodeRow" }, slots := #[none, none, some (Value.str (Str.ofString "NodeRow") 246), some (Value.str (Str.ofString "NodeRow") 254), some (Value.builtin "object.__new__"), some (Value.bool true)] }) ::
  (nat_lit 72, { cls := Value.type "getset_descriptor", data := Data.fields #[Value.str (Str.ofString "__dict__") 281, Value.ref 71, Value.builtin "function.__dict__", Value.builtin "function.__dict__#set"] }) ::
  (nat_lit 73, { cls := Value.type "getset_descriptor", data := Data.fields #[Value.str (Str.ofString "__weakref__") 283, Value.ref 71, Value.builtin "ExceptionGroup.__weakref__", Value.none] }) ::
  (nat_lit 83, { cls := Value.type "tuple", data := Data.seq #[] }) ::
  (nat_lit 85, { cls := Value.type "tuple", data := Data.seq #[Value.str (Str.ofString "self") 303] }) ::
  (nat_lit 86, { cls := Value.type "tuple", data := Data.seq #[] }) ::
  (nat_lit 88, { cls := Value.type "code", data := Data.fields #[Value.str (Str.ofString "__init__") 300, Value.str (Str.ofString "Tree.__init__") 301, Value.str (Str.ofString "/claim/cut.py") 302, Value.int 28 0, Value.int 1 0, Value.int 0 0, Value.int 0 0, Value.int 3 0, Value.ref 83, Value.bool true, Value.int 181 0, Value.ref 84, Value.none, Value.ref 85, Value.ref 86, Value.ref 87, Value.int 304 0, Value.int 28 0, Value.str (Str.ofString "/claim/cut.py") 305] }) ::
  (nat_lit 89, { cls := Value.type "function", data := Data.func { name := Str.ofString "__init__", qualname := Str.ofString "Tree.__init__", params := z9, body := FuncBody.stmts (z10), scope := z11, globals := 3, closure := [], defaults := Value.none, kwdefaults := Value.none, pyModule := Value.str (Str.ofString "markupmill.tree") 241, code := Value.ref 88 } }) ::
  (nat_lit 90, { cls := Value.type "tuple", data := Data.seq #[] }) ::
  (nat_lit 92, { cls := Value.type "tuple", data := Data.seq #[Value.str (Str.ofString "self") 310, Value.str (Str.ofString "kind") 311, Value.str (Str.ofString "name") 312, Value.str (Str.ofString "uri") 313, Value.str (Str.ofString "local") 314, Value.str (Str.ofString "value") 315, Value.str (Str.ofString "parent") 316] }) ::
  (nat_lit 93, { cls := Value.type "tuple", data := Data.seq #[] }) ::
  (nat_lit 95, { cls := Value.type "code", data := Data.fields #[Value.str (Str.ofString "new_row") 307, Value.str (Str.ofString "Tree.new_row") 308, Value.str (Str.ofString "/claim/cut.py") 309, Value.int 31 0, Value.int 7 0, Value.int 0 0, Value.int 0 0, Value.int 3 0, Value.ref 90, Value.bool true, Value.int 181 0, Value.ref 91, Value.none, Value.ref 92, Value.ref 93, Value.ref 94, Value.int 317 0, Value.int 31 0, Value.str (Str.ofString "/claim/cut.py") 318] }) ::
  (nat_lit 96, { cls := Value.type "function", data := Data.func { name := Str.ofString "new_row", qualname := Str.ofString "Tree.new_row", params := z12, body := FuncBody.stmts (z13), scope := z14, globals := 3, closure := [], defaults := Value.none, kwdefaults := Value.none, pyModule := Value.str (Str.ofString "markupmill.tree") 241, code := Value.ref 95 } }) ::
  (nat_lit 97, { cls := Value.type "tuple", data := Data.seq #[] }) ::
  (nat_lit 99, { cls := Value.type "tuple", data := Data.seq #[Value.str (Str.ofString "self") 323, Value.str (Str.ofString "node") 324] }) ::
  (nat_lit 100, { cls := Value.type "tuple", data := Data.seq #[] }) ::
  (nat_lit 102, { cls := Value.type "code", data := Data.fields #[Value.str (Str.ofString "row") 320, Value.str (Str.ofString "Tree.row") 321, Value.str (Str.ofString "/claim/cut.py") 322, Value.int 35 0, Value.int 2 0, Value.int 0 0, Value.int 0 0, Value.int 3 0, Value.ref 97, Value.bool true, Value.int 181 0, Value.ref 98, Value.none, Value.ref 99, Value.ref 100, Value.ref 101, Value.int 325 0, Value.int 35 0, Value.str (Str.ofString "/claim/cut.py") 326] }) ::
  (nat_lit 103, { cls := Value.type "function", data := Data.func { name := Str.ofString "row", qualname := Str.ofString "Tree.row", params := z15, body := FuncBody.stmts (z16), scope := z17, globals := 3, closure := [], defaults := Value.none, kwdefaults := Value.none, pyModule := Value.str (Str.ofString "markupmill.tree") 241, code := Value.ref 102 } }) ::
  (nat_lit 104, { cls := Value.type "tuple", data := Data.seq #[] }) ::
  (nat_lit 106, { cls := Value.type "tuple", data := Data.seq #[Value.str (Str.ofString "self") 331] }) ::
  (nat_lit 107, { cls := Value.type "tuple", data := Data.seq #[] }) ::
  (nat_lit 109, { cls := Value.type "code", data := Data.fields #[Value.str (Str.ofString "new_root") 328, Value.str (Str.ofString "Tree.new_root") 329, Value.str (Str.ofString "/claim/cut.py") 330, Value.int 40 0, Value.int 1 0, Value.int 0 0, Value.int 0 0, Value.int 3 0, Value.ref 104, Value.bool true, Value.int 181 0, Value.ref 105, Value.none, Value.ref 106, Value.ref 107, Value.ref 108, Value.int 332 0, Value.int 40 0, Value.str (Str.ofString "/claim/cut.py") 333] }) ::
  (nat_lit 110, { cls := Value.type "function", data := Data.func { name := Str.ofString "new_root", qualname := Str.ofString "Tree.new_root", params := z18, body := FuncBody.stmts (z19), scope := z20, globals := 3, closure := [], defaults := Value.none, kwdefaults := Value.none, pyModule := Value.str (Str.ofString "markupmill.tree") 241, code := Value.ref 109 } }) ::
  (nat_lit 111, { cls := Value.type "tuple", data := Data.seq #[] }) ::
  (nat_lit 113, { cls := Value.type "tuple", data := Data.seq #[Value.str (Str.ofString "self") 338, Value.str (Str.ofString "parent") 339, Value.str (Str.ofString "kind") 340, Value.str (Str.ofString "name") 341, Value.str (Str.ofString "uri") 342, Value.str (Str.ofString "local") 343, Value.str (Str.ofString "value") 344, Value.str (Str.ofString "node") 345] }) ::
  (nat_lit 114, { cls := Value.type "tuple", data := Data.seq #[] }) ::
  (nat_lit 116, { cls := Value.type "code", data := Data.fields #[Value.str (Str.ofString "add_child") 335, Value.str (Str.ofString "Tree.add_child") 336, Value.str (Str.ofString "/claim/cut.py") 337, Value.int 43 0, Value.int 7 0, Value.int 0 0, Value.int 0 0, Value.int 3 0, Value.ref 111, Value.bool true, Value.int 181 0, Value.ref 112, Value.none, Value.ref 113, Value.ref 114, Value.ref 115, Value.int 346 0, Value.int 43 0, Value.str (Str.ofString "/claim/cut.py") 347] }) ::
  (nat_lit 117, { cls := Value.type "function", data := Data.func { name := Str.ofString "add_child", qualname := Str.ofString "Tree.add_child", params := z21, body := FuncBody.stmts (z22), scope := z23, globals := 3, closure := [], defaults := Value.none, kwdefaults := Value.none, pyModule := Value.str (Str.ofString "markupmill.tree") 241, code := Value.ref 116 } }) ::
  (nat_lit 118, { cls := Value.type "tuple", data := Data.seq #[] }) ::
  (nat_lit 120, { cls := Value.type "tuple", data := Data.seq #[Value.str (Str.ofString "self") 352, Value.str (Str.ofString "parent") 353, Value.str (Str.ofString "name") 354, Value.str (Str.ofString "uri") 355, Value.str (Str.ofString "local") 356] }) ::
  (nat_lit 121, { cls := Value.type "tuple", data := Data.seq #[] }) ::
  (nat_lit 123, { cls := Value.type "code", data := Data.fields #[Value.str (Str.ofString "add_element") 349, Value.str (Str.ofString "Tree.add_element") 350, Value.str (Str.ofString "/claim/cut.py") 351, Value.int 51 0, Value.int 5 0, Value.int 0 0, Value.int 0 0, Value.int 3 0, Value.ref 118, Value.bool true, Value.int 181 0, Value.ref 119, Value.none, Value.ref 120, Value.ref 121, Value.ref 122, Value.int 357 0, Value.int 51 0, Value.str (Str.ofString "/claim/cut.py") 358] }) ::
  (nat_lit 124, { cls := Value.type "function", data := Data.func { name := Str.ofString "add_element", qualname := Str.ofString "Tree.add_element", params := z24, body := FuncBody.stmts (z25), scope := z26, globals := 3, closure := [], defaults := Value.none, kwdefaults := Value.none, pyModule := Value.str (Str.ofString "markupmill.tree") 241, code := Value.ref 123 } }) ::
  (nat_lit 125, { cls := Value.type "tuple", data := Data.seq #[] }) ::
  (nat_lit 127, { cls := Value.type "tuple", data := Data.seq #[Value.str (Str.ofString "self") 363, Value.str (Str.ofString "parent") 364, Value.str (Str.ofString "value") 365] }) ::
  (nat_lit 128, { cls := Value.type "tuple", data := Data.seq #[] }) ::
  (nat_lit 130, { cls := Value.type "code", data := Data.fields #[Value.str (Str.ofString "add_text") 360, Value.str (Str.ofString "Tree.add_text") 361, Value.str (Str.ofString "/claim/cut.py") 362, Value.int 54 0, Value.int 3 0, Value.int 0 0, Value.int 0 0, Value.int 3 0, Value.ref 125, Value.bool true, Value.int 181 0, Value.ref 126, Value.none, Value.ref 127, Value.ref 128, Value.ref 129, Value.int 366 0, Value.int 54 0, Value.str (Str.ofString "/claim/cut.py") 367] }) ::
  (nat_lit 131, { cls := Value.type "function", data := Data.func { name := Str.ofString "add_text", qualname := Str.ofString "Tree.add_text", params := z27, body := FuncBody.stmts (z28), scope := z29, globals := 3, closure := [], defaults := Value.none, kwdefaults := Value.none, pyModule := Value.str (Str.ofString "markupmill.tree") 241, code := Value.ref 130 } }) ::
  (nat_lit 132, { cls := Value.type "tuple", data := Data.seq #[] }) ::
  (nat_lit 134, { cls := Value.type "tuple", data := Data.seq #[Value.str (Str.ofString "self") 372, Value.str (Str.ofString "parent") 373, Value.str (Str.ofString "value") 374] }) ::
  (nat_lit 135, { cls := Value.type "tuple", data := Data.seq #[] }) ::
  (nat_lit 137, { cls := Value.type "code", data := Data.fields #[Value.str (Str.ofString "add_comment") 369, Value.str (Str.ofString "Tree.add_comment") 370, Value.str (Str.ofString "/claim/cut.py") 371, Value.int 57 0, Value.int 3 0, Value.int 0 0, Value.int 0 0, Value.int 3 0, Value.ref 132, Value.bool true, Value.int 181 0, Value.ref 133, Value.none, Value.ref 134, Value.ref 135, Value.ref 136, Value.int 375 0, Value.int 57 0, Value.str (Str.ofString "/claim/cut.py") 376] }) ::
  (nat_lit 138, { cls := Value.type "function", data := Data.func { name := Str.ofString "add_comment", qualname := Str.ofString "Tree.add_comment", params := z30, body := FuncBody.stmts (z31), scope := z32, globals := 3, closure := [], defaults := Value.none, kwdefaults := Value.none, pyModule := Value.str (Str.ofString "markupmill.tree") 241, code := Value.ref 137 } }) ::
  (nat_lit 139, { cls := Value.type "tuple", data := Data.seq #[] }) ::
  (nat_lit 141, { cls := Value.type "tuple", data := Data.seq #[Value.str (Str.ofString "self") 381, Value.str (Str.ofString "parent") 382, Value.str (Str.ofString "target") 383, Value.str (Str.ofString "data") 384] }) ::
  (nat_lit 142, { cls := Value.type "tuple", data := Data.seq #[] }) ::
  (nat_lit 144, { cls := Value.type "code", data := Data.fields #[Value.str (Str.ofString "add_instruction") 378, Value.str (Str.ofString "Tree.add_instruction") 379, Value.str (Str.ofString "/claim/cut.py") 380, Value.int 60 0, Value.int 4 0, Value.int 0 0, Value.int 0 0, Value.int 3 0, Value.ref 139, Value.bool true, Value.int 181 0, Value.ref 140, Value.none, Value.ref 141, Value.ref 142, Value.ref 143, Value.int 385 0, Value.int 60 0, Value.str (Str.ofString "/claim/cut.py") 386] }) ::
  (nat_lit 145, { cls := Value.type "function", data := Data.func { name := Str.ofString "add_instruction", qualname := Str.ofString "Tree.add_instruction", params := z33, body := FuncBody.stmts (z34), scope := z35, globals := 3, closure := [], defaults := Value.none, kwdefaults := Value.none, pyModule := Value.str (Str.ofString "markupmill.tree") 241, code := Value.ref 144 } }) ::
  (nat_lit 146, { cls := Value.type "tuple", data := Data.seq #[] }) ::
  (nat_lit 148, { cls := Value.type "tuple", data := Data.seq #[Value.str (Str.ofString "self") 391, Value.str (Str.ofString "element") 392, Value.str (Str.ofString "row") 393] }) ::
  (nat_lit 149, { cls := Value.type "tuple", data := Data.seq #[] }) ::
  (nat_lit 151, { cls := Value.type "code", data := Data.fields #[Value.str (Str.ofString "element_row") 388, Value.str (Str.ofString "Tree.element_row") 389, Value.str (Str.ofString "/claim/cut.py") 390, Value.int 63 0, Value.int 2 0, Value.int 0 0, Value.int 0 0, Value.int 3 0, Value.ref 146, Value.bool true, Value.int 181 0, Value.ref 147, Value.none, Value.ref 148, Value.ref 149, Value.ref 150, Value.int 394 0, Value.int 63 0, Value.str (Str.ofString "/claim/cut.py") 395] }) ::
  (nat_lit 152, { cls := Value.type "function", data := Data.func { name := Str.ofString "element_row", qualname := Str.ofString "Tree.element_row", params := z36, body := FuncBody.stmts (z37), scope := z38, globals := 3, closure := [], defaults := Value.none, kwdefaults := Value.none, pyModule := Value.str (Str.ofString "markupmill.tree") 241, code := Value.ref 151 } }) ::
  (nat_lit 153, { cls := Value.type "tuple", data := Data.seq #[] }) ::
  (nat_lit 155, { cls := Value.type "tuple", data := Data.seq #[Value.str (Str.ofString "self") 400, Value.str (Str.ofString "element") 401, Value.str (Str.ofString "name") 402, Value.str (Str.ofString "uri") 403, Value.str (Str.ofString "local") 404, Value.str (Str.ofString "value") 405] }) ::
  (nat_lit 156, { cls := Value.type "tuple", data := Data.seq #[] }) ::
  (nat_lit 158, { cls := Value.type "code", data := Data.fields #[Value.str (Str.ofString "set_attribute") 397, Value.str (Str.ofString "Tree.set_attribute") 398, Value.str (Str.ofString "/claim/cut.py") 399, Value.int 69 0, Value.int 6 0, Value.int 0 0, Value.int 0 0, Value.int 3 0, Value.ref 153, Value.bool true, Value.int 181 0, Value.ref 154, Value.none, Value.ref 155, Value.ref 156, Value.ref 157, Value.int 406 0, Value.int 69 0, Value.str (Str.ofString "/claim/cut.py") 407] }) ::
  (nat_lit 159, { cls := Value.type "function", data := Data.func { name := Str.ofString "set_attribute", qualname := Str.ofString "Tree.set_attribute", params := z39, body := FuncBody.stmts (z40), scope := z41, globals := 3, closure := [], defaults := Value.none, kwdefaults := Value.none, pyModule := Value.str (Str.ofString "markupmill.tree") 241, code := Value.ref 158 } }) ::
  (nat_lit 160, { cls := Value.type "tuple", data := Data.seq #[] }) ::
  (nat_lit 162, { cls := Value.type "tuple", data := Data.seq #[Value.str (Str.ofString "self") 412, Value.str (Str.ofString "element") 413, Value.str (Str.ofString "prefix") 414, Value.str (Str.ofString "uri") 415] }) ::
  (nat_lit 163, { cls := Value.type "tuple", data := Data.seq #[] }) ::
  (nat_lit 165, { cls := Value.type "code", data := Data.fields #[Value.str (Str.ofString "add_namespace") 409, Value.str (Str.ofString "Tree.add_namespace") 410, Value.str (Str.ofString "/claim/cut.py") 411, Value.int 72 0, Value.int 4 0, Value.int 0 0, Value.int 0 0, Value.int 3 0, Value.ref 160, Value.bool true, Value.int 181 0, Value.ref 161, Value.none, Value.ref 162, Value.ref 163, Value.ref 164, Value.int 416 0, Value.int 72 0, Value.str (Str.ofString "/claim/cut.py") 417] }) ::
  (nat_lit 166, { cls := Value.type "function", data := Data.func { name := Str.ofString "add_namespace", qualname := Str.ofString "Tree.add_namespace", params := z42, body := FuncBody.stmts (z43), scope := z44, globals := 3, closure := [], defaults := Value.none, kwdefaults := Value.none, pyModule := Value.str (Str.ofString "markupmill.tree") 241, code := Value.ref 165 } }) ::
  (nat_lit 167, { cls := Value.type "tuple", data := Data.seq #[] }) ::
  (nat_lit 169, { cls := Value.type "tuple", data := Data.seq #[Value.str (Str.ofString "self") 422, Value.str (Str.ofString "node") 423, Value.str (Str.ofString "value") 424, Value.str (Str.ofString "row") 425] }) ::
  (nat_lit 170, { cls := Value.type "tuple", data := Data.seq #[] }) ::
  (nat_lit 172, { cls := Value.type "code", data := Data.fields #[Value.str (Str.ofString "set_value") 419, Value.str (Str.ofString "Tree.set_value") 420, Value.str (Str.ofString "/claim/cut.py") 421, Value.int 75 0, Value.int 3 0, Value.int 0 0, Value.int 0 0, Value.int 3 0, Value.ref 167, Value.bool true, Value.int 181 0, Value.ref 168, Value.none, Value.ref 169, Value.ref 170, Value.ref 171, Value.int 426 0, Value.int 75 0, Value.str (Str.ofString "/claim/cut.py") 427] }) ::
  (nat_lit 173, { cls := Value.type "function", data := Data.func { name := Str.ofString "set_value", qualname := Str.ofString "Tree.set_value", params := z45, body := FuncBody.stmts (z46), scope := z47, globals := 3, closure := [], defaults := Value.none, kwdefaults := Value.none, pyModule := Value.str (Str.ofString "markupmill.tree") 241, code := Value.ref 172 } }) ::
  (nat_lit 174, { cls := Value.type "tuple", data := Data.seq #[] }) ::
  (nat_lit 176, { cls := Value.type "tuple", data := Data.seq #[Value.str (Str.ofString "self") 432, Value.str (Str.ofString "node") 433] }) ::
  (nat_lit 177, { cls := Value.type "tuple", data := Data.seq #[] }) ::
  (nat_lit 179, { cls := Value.type "code", data := Data.fields #[Value.str (Str.ofString "kind") 429, Value.str (Str.ofString "Tree.kind") 430, Value.str (Str.ofString "/claim/cut.py") 431, Value.int 81 0, Value.int 2 0, Value.int 0 0, Value.int 0 0, Value.int 3 0, Value.ref 174, Value.bool true, Value.int 181 0, Value.ref 175, Value.none, Value.ref 176, Value.ref 177, Value.ref 178, Value.int 434 0, Value.int 81 0, Value.str (Str.ofString "/claim/cut.py") 435] }) ::
  (nat_lit 180, { cls := Value.type "function", data := Data.func { name := Str.ofString "kind", qualname := Str.ofString "Tree.kind", params := z48, body := FuncBody.stmts (z49), scope := z50, globals := 3, closure := [], defaults := Value.none, kwdefaults := Value.none, pyModule := Value.str (Str.ofString "markupmill.tree") 241, code := Value.ref 179 } }) ::
  (nat_lit 181, { cls := Value.type "tuple", data := Data.seq #[] }) ::
  (nat_lit 183, { cls := Value.type "tuple", data := Data.seq #[Value.str (Str.ofString "self") 440, Value.str (Str.ofString "node") 441] }) ::
  (nat_lit 184, { cls := Value.type "tuple", data := Data.seq #[] }) ::
  (nat_lit 186, { cls := Value.type "code", data := Data.fields #[Value.str (Str.ofString "name") 437, Value.str (Str.ofString "Tree.name") 438, Value.str (Str.ofString "/claim/cut.py") 439, Value.int 84 0, Value.int 2 0, Value.int 0 0, Value.int 0 0, Value.int 3 0, Value.ref 181, Value.bool true, Value.int 181 0, Value.ref 182, Value.none, Value.ref 183, Value.ref 184, Value.ref 185, Value.int 442 0, Value.int 84 0, Value.str (Str.ofString "/claim/cut.py") 443] }) ::
  (nat_lit 187, { cls := Value.type "function", data := Data.func { name := Str.ofString "name", qualname := Str.ofString "Tree.name", params := z51, body := FuncBody.stmts (z52), scope := z53, globals := 3, closure := [], defaults := Value.none, kwdefaults := Value.none, pyModule := Value.str (Str.ofString "markupmill.tree") 241, code := Value.ref 186 } }) ::
  (nat_lit 188, { cls := Value.type "tuple", data := Data.seq #[] }) ::
  (nat_lit 190, { cls := Value.type "tuple", data := Data.seq #[Value.str (Str.ofString "self") 448, Value.str (Str.ofString "node") 449] }) ::
  (nat_lit 191, { cls := Value.type "tuple", data := Data.seq #[] }) ::
  (nat_lit 193, { cls := Value.type "code", data := Data.fields #[Value.str (Str.ofString "uri") 445, Value.str (Str.ofString "Tree.uri") 446, Value.str (Str.ofString "/claim/cut.py") 447, Value.int 87 0, Value.int 2 0, Value.int 0 0, Value.int 0 0, Value.int 3 0, Value.ref 188, Value.bool true, Value.int 181 0, Value.ref 189, Value.none, Value.ref 190, Value.ref 191, Value.ref 192, Value.int 450 0, Value.int 87 0, Value.str (Str.ofString "/claim/cut.py") 451] }) ::
  (nat_lit 194, { cls := Value.type "function", data := Data.func { name := Str.ofString "uri", qualname := Str.ofString "Tree.uri", params := z54, body := FuncBody.stmts (z55), scope := z56, globals := 3, closure := [], defaults := Value.none, kwdefaults := Value.none, pyModule := Value.str (Str.ofString "markupmill.tree") 241, code := Value.ref 193 } }) ::
  (nat_lit 195, { cls := Value.type "tuple", data := Data.seq #[] }) ::
  (nat_lit 197, { cls := Value.type "tuple", data := Data.seq #[Value.str (Str.ofString "self") 456, Value.str (Str.ofString "node") 457] }) ::
  (nat_lit 198, { cls := Value.type "tuple", data := Data.seq #[] }) ::
  (nat_lit 200, { cls := Value.type "code", data := Data.fields #[Value.str (Str.ofString "local") 453, Value.str (Str.ofString "Tree.local") 454, Value.str (Str.ofString "/claim/cut.py") 455, Value.int 90 0, Value.int 2 0, Value.int 0 0, Value.int 0 0, Value.int 3 0, Value.ref 195, Value.bool true, Value.int 181 0, Value.ref 196, Value.none, Value.ref 197, Value.ref 198, Value.ref 199, Value.int 458 0, Value.int 90 0, Value.str (Str.ofString "/claim/cut.py") 459] }) ::
  (nat_lit 201, { cls := Value.type "function", data := Data.func { name := Str.ofString "local", qualname := Str.ofString "Tree.local", params := z57, body := FuncBody.stmts (z58), scope := z59, globals := 3, closure := [], defaults := Value.none, kwdefaults := Value.none, pyModule := Value.str (Str.ofString "markupmill.tree") 241, code := Value.ref 200 } }) ::
  (nat_lit 202, { cls := Value.type "tuple", data := Data.seq #[] }) ::
  (nat_lit 204, { cls := Value.type "tuple", data := Data.seq #[Value.str (Str.ofString "self") 464, Value.str (Str.ofString "node") 465] }) ::
  (nat_lit 205, { cls := Value.type "tuple", data := Data.seq #[] }) ::
  (nat_lit 207, { cls := Value.type "code", data := Data.fields #[Value.str (Str.ofString "value") 461, Value.str (Str.ofString "Tree.value") 462, Value.str (Str.ofString "/claim/cut.py") 463, Value.int 93 0, Value.int 2 0, Value.int 0 0, Value.int 0 0, Value.int 3 0, Value.ref 202, Value.bool true, Value.int 181 0, Value.ref 203, Value.none, Value.ref 204, Value.ref 205, Value.ref 206, Value.int 466 0, Value.int 93 0, Value.str (Str.ofString "/claim/cut.py") 467] }) ::
  (nat_lit 208, { cls := Value.type "function", data := Data.func { name := Str.ofString "value", qualname := Str.ofString "Tree.value", params := z60, body := FuncBody.stmts (z61), scope := z62, globals := 3, closure := [], defaults := Value.none, kwdefaults := Value.none, pyModule := Value.str (Str.ofString "markupmill.tree") 241, code := Value.ref 207 } }) ::
  (nat_lit 209, { cls := Value.type "tuple", data := Data.seq #[] }) ::
  (nat_lit 211, { cls := Value.type "tuple", data := Data.seq #[Value.str (Str.ofString "self") 472, Value.str (Str.ofString "node") 473] }) ::
  (nat_lit 212, { cls := Value.type "tuple", data := Data.seq #[] }) ::
  (nat_lit 214, { cls := Value.type "code", data := Data.fields #[Value.str (Str.ofString "parent") 469, Value.str (Str.ofString "Tree.parent") 470, Value.str (Str.ofString "/claim/cut.py") 471, Value.int 96 0, Value.int 2 0, Value.int 0 0, Value.int 0 0, Value.int 3 0, Value.ref 209, Value.bool true, Value.int 181 0, Value.ref 210, Value.none, Value.ref 211, Value.ref 212, Value.ref 213, Value.int 474 0, Value.int 96 0, Value.str (Str.ofString "/claim/cut.py") 475] }) ::
  (nat_lit 215, { cls := Value.type "function", data := Data.func { name := Str.ofString "parent", qualname := Str.ofString "Tree.parent", params := z63, body := FuncBody.stmts (z64), scope := z65, globals := 3, closure := [], defaults := Value.none, kwdefaults := Value.none, pyModule := Value.str (Str.ofString "markupmill.tree") 241, code := Value.ref 214 } }) ::
  (nat_lit 216, { cls := Value.type "tuple", data := Data.seq #[] }) ::
  (nat_lit 218, { cls := Value.type "tuple", data := Data.seq #[Value.str (Str.ofString "self") 480, Value.str (Str.ofString "node") 481] }) ::
  (nat_lit 219, { cls := Value.type "tuple", data := Data.seq #[] }) ::
  (nat_lit 221, { cls := Value.type "code", data := Data.fields #[Value.str (Str.ofString "children") 477, Value.str (Str.ofString "Tree.children") 478, Value.str (Str.ofString "/claim/cut.py") 479, Value.int 99 0, Value.int 2 0, Value.int 0 0, Value.int 0 0, Value.int 3 0, Value.ref 216, Value.bool true, Value.int 181 0, Value.ref 217, Value.none, Value.ref 218, Value.ref 219, Value.ref 220, Value.int 482 0, Value.int 99 0, Value.str (Str.ofString "/claim/cut.py") 483] }) ::
  (nat_lit 222, { cls := Value.type "function", data := Data.func { name := Str.ofString "children", qualname := Str.ofString "Tree.children", params := z66, body := FuncBody.stmts (z67), scope := z68, globals := 3, closure := [], defaults := Value.none, kwdefaults := Value.none, pyModule := Value.str (Str.ofString "markupmill.tree") 241, code := Value.ref 221 } }) ::
  (nat_lit 223, { cls := Value.type "tuple", data := Data.seq #[] }) ::
  (nat_lit 225, { cls := Value.type "tuple", data := Data.seq #[Value.str (Str.ofString "self") 488, Value.str (Str.ofString "node") 489] }) ::
  (nat_lit 226, { cls := Value.type "tuple", data := Data.seq #[] }) ::
  (nat_lit 228, { cls := Value.type "code", data := Data.fields #[Value.str (Str.ofString "attributes") 485, Value.str (Str.ofString "Tree.attributes") 486, Value.str (Str.ofString "/claim/cut.py") 487, Value.int 102 0, Value.int 2 0, Value.int 0 0, Value.int 0 0, Value.int 3 0, Value.ref 223, Value.bool true, Value.int 181 0, Value.ref 224, Value.none, Value.ref 225, Value.ref 226, Value.ref 227, Value.int 490 0, Value.int 102 0, Value.str (Str.ofString "/claim/cut.py") 491] }) ::
  (nat_lit 229, { cls := Value.type "function", data := Data.func { name := Str.ofString "attributes", qualname := Str.ofString "Tree.attributes", params := z69, body := FuncBody.stmts (z70), scope := z71, globals := 3, closure := [], defaults := Value.none, kwdefaults := Value.none, pyModule := Value.str (Str.ofString "markupmill.tree") 241, code := Value.ref 228 } }) ::
  (nat_lit 230, { cls := Value.type "tuple", data := Data.seq #[] }) ::
  (nat_lit 232, { cls := Value.type "tuple", data := Data.seq #[Value.str (Str.ofString "self") 496, Value.str (Str.ofString "node") 497] }) ::
  (nat_lit 233, { cls := Value.type "tuple", data := Data.seq #[] }) ::
  (nat_lit 235, { cls := Value.type "code", data := Data.fields #[Value.str (Str.ofString "namespaces") 493, Value.str (Str.ofString "Tree.namespaces") 494, Value.str (Str.ofString "/claim/cut.py") 495, Value.int 105 0, Value.int 2 0, Value.int 0 0, Value.int 0 0, Value.int 3 0, Value.ref 230, Value.bool true, Value.int 181 0, Value.ref 231, Value.none, Value.ref 232, Value.ref 233, Value.ref 234, Value.int 498 0, Value.int 105 0, Value.str (Str.ofString "/claim/cut.py") 499] }) ::
  (nat_lit 236, { cls := Value.type "function", data := Data.func { name := Str.ofString "namespaces", qualname := Str.ofString "Tree.namespaces", params := z72, body := FuncBody.stmts (z73), scope := z74, globals := 3, closure := [], defaults := Value.none, kwdefaults := Value.none, pyModule := Value.str (Str.ofString "markupmill.tree") 241, code := Value.ref 235 } }) ::
  (nat_lit 237, { cls := Value.type "tuple", data := Data.seq #[] }) ::
  (nat_lit 239, { cls := Value.type "tuple", data := Data.seq #[Value.str (Str.ofString "self") 504, Value.str (Str.ofString "node") 505] }) ::
  (nat_lit 240, { cls := Value.type "tuple", data := Data.seq #[] }) ::
  (nat_lit 242, { cls := Value.type "code", data := Data.fields #[Value.str (Str.ofString "root_of") 501, Value.str (Str.ofString "Tree.root_of") 502, Value.str (Str.ofString "/claim/cut.py") 503, Value.int 108 0, Value.int 2 0, Value.int 0 0, Value.int 0 0, Value.int 3 0, Value.ref 237, Value.bool true, Value.int 181 0, Value.ref 238, Value.none, Value.ref 239, Value.ref 240, Value.ref 241, Value.int 506 0, Value.int 108 0, Value.str (Str.ofString "/claim/cut.py") 507] }) ::
  (nat_lit 243, { cls := Value.type "function", data := Data.func { name := Str.ofString "root_of", qualname := Str.ofString "Tree.root_of", params := z75, body := FuncBody.stmts (z76), scope := z77, globals := 3, closure := [], defaults := Value.none, kwdefaults := Value.none, pyModule := Value.str (Str.ofString "markupmill.tree") 241, code := Value.ref 242 } }) ::
  (nat_lit 244, { cls := Value.type "tuple", data := Data.seq #[] }) ::
  (nat_lit 246, { cls := Value.type "tuple", data := Data.seq #[Value.str (Str.ofString "self") 512, Value.str (Str.ofString "node") 513, Value.str (Str.ofString "other") 514] }) ::
  (nat_lit 247, { cls := Value.type "tuple", data := Data.seq #[] }) ::
  (nat_lit 249, { cls := Value.type "code", data := Data.fields #[Value.str (Str.ofString "is_above") 509, Value.str (Str.ofString "Tree.is_above") 510, Value.str (Str.ofString "/claim/cut.py") 511, Value.int 111 0, Value.int 3 0, Value.int 0 0, Value.int 0 0, Value.int 3 0, Value.ref 244, Value.bool true, Value.int 181 0, Value.ref 245, Value.none, Value.ref 246, Value.ref 247, Value.ref 248, Value.int 515 0, Value.int 111 0, Value.str (Str.ofString "/claim/cut.py") 516] }) ::
  (nat_lit 250, { cls := Value.type "function", data := Data.func { name := Str.ofString "is_above", qualname := Str.ofString "Tree.is_above", params := z78, body := FuncBody.stmts (z79), scope := z80, globals := 3, closure := [], defaults := Value.none, kwdefaults := Value.none, pyModule := Value.str (Str.ofString "markupmill.tree") 241, code := Value.ref 249 } }) ::
  (nat_lit 251, { cls := Value.type "tuple", data := Data.seq #[] }) ::
  (nat_lit 253, { cls := Value.type "tuple", data := Data.seq #[Value.str (Str.ofString "self") 521, Value.str (Str.ofString "element") 522, Value.str (Str.ofString "uri") 523, Value.str (Str.ofString "local") 524] }) ::
  (nat_lit 254, { cls := Value.type "tuple", data := Data.seq #[] }) ::
  (nat_lit 256, { cls := Value.type "code", data := Data.fields #[Value.str (Str.ofString "attribute_value") 518, Value.str (Str.ofString "Tree.attribute_value") 519, Value.str (Str.ofString "/claim/cut.py") 520, Value.int 114 0, Value.int 4 0, Value.int 0 0, Value.int 0 0, Value.int 3 0, Value.ref 251, Value.bool true, Value.int 181 0, Value.ref 252, Value.none, Value.ref 253, Value.ref 254, Value.ref 255, Value.int 525 0, Value.int 114 0, Value.str (Str.ofString "/claim/cut.py") 526] }) ::
  (nat_lit 257, { cls := Value.type "function", data := Data.func { name := Str.ofString "attribute_value", qualname := Str.ofString "Tree.attribute_value", params := z81, body := FuncBody.stmts (z82), scope := z83, globals := 3, closure := [], defaults := Value.none, kwdefaults := Value.none, pyModule := Value.str (Str.ofString "markupmill.tree") 241, code := Value.ref 256 } }) ::
  (nat_lit 258, { cls := Value.type "tuple", data := Data.seq #[Value.str (Str.ofString "rows") 528] }) ::
  (nat_lit 259, { cls := Value.type "dict", data := Data.dict #[{ hash := PyData.keyHash P (Str.ofString "__module__"), key := Value.str (Str.ofString "__module__") 295, val := Value.str (Str.ofString "markupmill.tree") 241 }, { hash := PyData.keyHash P (Str.ofString "__firstlineno__"), key := Value.str (Str.ofString "__firstlineno__") 299, val := Value.int 26 298 }, { hash := PyData.keyHash P (Str.ofString "__init__"), key := Value.str (Str.ofString "__init__") 306, val := Value.ref 89 }, { hash := PyData.keyHash P (Str.ofString "new_row"), key := Value.str (Str.ofString "new_row") 319, val := Value.ref 96 }, { hash := PyData.keyHash P (Str.ofString "row"), key := Value.str (Str.ofString "row") 327, val := Value.ref 103 }, { hash := PyData.keyHash P (Str.ofString "new_root"), key := Value.str (Str.ofString "new_root") 334, val := Value.ref 110 }, { hash := PyData.keyHash P (Str.ofString "add_child"), key := Value.str (Str.ofString "add_child") 348, val := Value.ref 117 }, { hash := PyData.keyHash P (Str.ofString "add_element"), key := Value.str (Str.ofString "add_element") 359, val := Value.ref 124 }, { hash := PyData.keyHash P (Str.ofString "add_text"), key := Value.str (Str.ofString "add_text") 368, val := Value.ref 131 }, { hash := PyData.keyHash P (Str.ofString "add_comment"), key := Value.str (Str.ofString "add_comment") 377, val := Value.ref 138 }, { hash := PyData.keyHash P (Str.ofString "add_instruction"), key := Value.str (Str.ofString "add_instruction") 387, val := Value.ref 145 }, { hash := PyData.keyHash P (Str.ofString "element_row"), key := Value.str (Str.ofString "element_row") 396, val := Value.ref 152 }, { hash := PyData.keyHash P (Str.ofString "set_attribute"), key := Value.str (Str.ofString "set_attribute") 408, val := Value.ref 159 }, { hash := PyData.keyHash P (Str.ofString "add_namespace"), key := Value.str (Str.ofString "add_namespace") 418, val := Value.ref 166 }, { hash := PyData.keyHash P (Str.ofString "set_value"), key := Value.str (Str.ofString "set_value") 428, val := Value.ref 173 }, { hash := PyData.keyHash P (Str.ofString "kind"), key := Value.str (Str.ofString "kind") 436, val := Value.ref 180 }, { hash := PyData.keyHash P (Str.ofString "name"), key := Value.str (Str.ofString "name") 444, val := Value.ref 187 }, { hash := PyData.keyHash P (Str.ofString "uri"), key := Value.str (Str.ofString "uri") 452, val := Value.ref 194 }, { hash := PyData.keyHash P (Str.ofString "local"), key := Value.str (Str.ofString "local") 460, val := Value.ref 201 }, { hash := PyData.keyHash P (Str.ofString "value"), key := Value.str (Str.ofString "value") 468, val := Value.ref 208 }, { hash := PyData.keyHash P (Str.ofString "parent"), key := Value.str (Str.ofString "parent") 476, val := Value.ref 215 }, { hash := PyData.keyHash P (Str.ofString "children"), key := Value.str (Str.ofString "children") 484, val := Value.ref 222 }, { hash := PyData.keyHash P (Str.ofString "attributes"), key := Value.str (Str.ofString "attributes") 492, val := Value.ref 229 }, { hash := PyData.keyHash P (Str.ofString "namespaces"), key := Value.str (Str.ofString "namespaces") 500, val := Value.ref 236 }, { hash := PyData.keyHash P (Str.ofString "root_of"), key := Value.str (Str.ofString "root_of") 508, val := Value.ref 243 }, { hash := PyData.keyHash P (Str.ofString "is_above"), key := Value.str (Str.ofString "is_above") 517, val := Value.ref 250 }, { hash := PyData.keyHash P (Str.ofString "attribute_value"), key := Value.str (Str.ofString "attribute_value") 527, val := Value.ref 257 }, { hash := PyData.keyHash P (Str.ofString "__static_attributes__"), key := Value.str (Str.ofString "__static_attributes__") 529, val := Value.ref 258 }, { hash := PyData.keyHash P (Str.ofString "__dict__"), key := Value.str (Str.ofString "__dict__") 531, val := Value.ref 261 }, { hash := PyData.keyHash P (Str.ofString "__weakref__"), key := Value.str (Str.ofString "__weakref__") 533, val := Value.ref 262 }, { hash := PyData.keyHash P (Str.ofString "__doc__"), key := Value.str (Str.ofString "__doc__") 534, val := Value.none }] 4 }) ::
  (nat_lit 260, { cls := Value.type "type", data := Data.cls { name := Str.ofString "Tree", bases := [Value.type "object"], mro := [Value.ref 260, Value.type "object"], ns := 259, qualname := Str.ofString "Tree" }, slots := #[none, none, some (Value.str (Str.ofString "Tree") 288), some (Value.str (Str.ofString "Tree") 296), some (Value.builtin "object.__new__"), some (Value.bool true)] }) ::
  (nat_lit 261, { cls := Value.type "getset_descriptor", data := Data.fields #[Value.str (Str.ofString "__dict__") 530, Value.ref 260, Value.builtin "function.__dict__", Value.builtin "function.__dict__#set"] }) ::
  (nat_lit 262, { cls := Value.type "getset_descriptor", data := Data.fields #[Value.str (Str.ofString "__weakref__") 532, Value.ref 260, Value.builtin "ExceptionGroup.__weakref__", Value.none] }) ::
  (nat_lit 265, { cls := Value.type "tuple", data := Data.seq #[] }) ::
  (nat_lit 267, { cls := Value.type "tuple", data := Data.seq #[Value.str (Str.ofString "script") 542, Value.str (Str.ofString "k") 543, Value.str (Str.ofString "cell") 544, Value.str (Str.ofString "great") 545, Value.str (Str.ofString "mixed") 546] }) ::
  (nat_lit 268, { cls := Value.type "tuple", data := Data.seq #[] }) ::
  (nat_lit 270, { cls := Value.type "code", data := Data.fields #[Value.str (Str.ofString "_law_pool") 539, Value.str (Str.ofString "_law_pool") 540, Value.str (Str.ofString "/claim/cut.py") 541, Value.int 117 0, Value.int 2 0, Value.int 0 0, Value.int 0 0, Value.int 3 0, Value.ref 265, Value.bool true, Value.int 181 0, Value.ref 266, Value.none, Value.ref 267, Value.ref 268, Value.ref 269, Value.int 547 0, Value.int 117 0, Value.str (Str.ofString "/claim/cut.py") 548] }) ::
  (nat_lit 271, { cls := Value.type "function", data := Data.func { name := Str.ofString "_law_pool", qualname := Str.ofString "_law_pool", params := z84, body := FuncBody.stmts (z85), scope := z86, globals := 3, closure := [], defaults := Value.none, kwdefaults := Value.none, pyModule := Value.str (Str.ofString "law_xw0201_01") 537, code := Value.ref 270 } }) ::
  (nat_lit 272, { cls := Value.type "tuple", data := Data.seq #[] }) ::
  (nat_lit 274, { cls := Value.type "tuple", data := Data.seq #[Value.str (Str.ofString "source") 553, Value.str (Str.ofString "top") 554, Value.str (Str.ofString "drawn") 555] }) ::
  (nat_lit 275, { cls := Value.type "tuple", data := Data.seq #[] }) ::
  (nat_lit 277, { cls := Value.type "code", data := Data.fields #[Value.str (Str.ofString "_law_take") 550, Value.str (Str.ofString "_law_take") 551, Value.str (Str.ofString "/claim/cut.py") 552, Value.int 122 0, Value.int 2 0, Value.int 0 0, Value.int 0 0, Value.int 3 0, Value.ref 272, Value.bool true, Value.int 181 0, Value.ref 273, Value.none, Value.ref 274, Value.ref 275, Value.ref 276, Value.int 556 0, Value.int 122 0, Value.str (Str.ofString "/claim/cut.py") 557] }) ::
  (nat_lit 278, { cls := Value.type "function", data := Data.func { name := Str.ofString "_law_take", qualname := Str.ofString "_law_take", params := z87, body := FuncBody.stmts (z88), scope := z89, globals := 3, closure := [], defaults := Value.none, kwdefaults := Value.none, pyModule := Value.str (Str.ofString "law_xw0201_01") 537, code := Value.ref 277 } }) ::
  (nat_lit 279, { cls := Value.type "tuple", data := Data.seq #[] }) ::
  (nat_lit 281, { cls := Value.type "tuple", data := Data.seq #[Value.str (Str.ofString "source") 562, Value.str (Str.ofString "things") 563] }) ::
  (nat_lit 282, { cls := Value.type "tuple", data := Data.seq #[] }) ::
  (nat_lit 284, { cls := Value.type "code", data := Data.fields #[Value.str (Str.ofString "_law_one") 559, Value.str (Str.ofString "_law_one") 560, Value.str (Str.ofString "/claim/cut.py") 561, Value.int 129 0, Value.int 2 0, Value.int 0 0, Value.int 0 0, Value.int 3 0, Value.ref 279, Value.bool true, Value.int 181 0, Value.ref 280, Value.none, Value.ref 281, Value.ref 282, Value.ref 283, Value.int 564 0, Value.int 129 0, Value.str (Str.ofString "/claim/cut.py") 565] }) ::
  (nat_lit 285, { cls := Value.type "function", data := Data.func { name := Str.ofString "_law_one", qualname := Str.ofString "_law_one", params := z90, body := FuncBody.stmts (z91), scope := z92, globals := 3, closure := [], defaults := Value.none, kwdefaults := Value.none, pyModule := Value.str (Str.ofString "law_xw0201_01") 537, code := Value.ref 284 } }) ::
  (nat_lit 286, { cls := Value.type "tuple", data := Data.seq #[] }) ::
  (nat_lit 288, { cls := Value.type "tuple", data := Data.seq #[Value.str (Str.ofString "call") 570] }) ::
  (nat_lit 289, { cls := Value.type "tuple", data := Data.seq #[] }) ::
  (nat_lit 291, { cls := Value.type "code", data := Data.fields #[Value.str (Str.ofString "_law_refused") 567, Value.str (Str.ofString "_law_refused") 568, Value.str (Str.ofString "/claim/cut.py") 569, Value.int 131 0, Value.int 1 0, Value.int 0 0, Value.int 0 0, Value.int 3 0, Value.ref 286, Value.bool true, Value.int 181 0, Value.ref 287, Value.none, Value.ref 288, Value.ref 289, Value.ref 290, Value.int 571 0, Value.int 131 0, Value.str (Str.ofString "/claim/cut.py") 572] }) ::
  (nat_lit 292, { cls := Value.type "function", data := Data.func { name := Str.ofString "_law_refused", qualname := Str.ofString "_law_refused", params := z93, body := FuncBody.stmts (z94), scope := z95, globals := 3, closure := [], defaults := Value.none, kwdefaults := Value.none, pyModule := Value.str (Str.ofString "law_xw0201_01") 537, code := Value.ref 291 } }) ::
  (nat_lit 293, { cls := Value.type "tuple", data := Data.seq #[] }) ::
  (nat_lit 295, { cls := Value.type "tuple", data := Data.seq #[Value.str (Str.ofString "tree") 577] }) ::
  (nat_lit 296, { cls := Value.type "tuple", data := Data.seq #[] }) ::
  (nat_lit 298, { cls := Value.type "code", data := Data.fields #[Value.str (Str.ofString "_law_begun") 574, Value.str (Str.ofString "_law_begun") 575, Value.str (Str.ofString "/claim/cut.py") 576, Value.int 137 0, Value.int 0 0, Value.int 0 0, Value.int 0 0, Value.int 3 0, Value.ref 293, Value.bool true, Value.int 181 0, Value.ref 294, Value.none, Value.ref 295, Value.ref 296, Value.ref 297, Value.int 578 0, Value.int 137 0, Value.str (Str.ofString "/claim/cut.py") 579] }) ::
  (nat_lit 299, { cls := Value.type "function", data := Data.func { name := Str.ofString "_law_begun", qualname := Str.ofString "_law_begun", params := z96, body := FuncBody.stmts (z97), scope := z98, globals := 3, closure := [], defaults := Value.none, kwdefaults := Value.none, pyModule := Value.str (Str.ofString "law_xw0201_01") 537, code := Value.ref 298 } }) ::
  (nat_lit 300, { cls := Value.type "tuple", data := Data.seq #[] }) ::
  (nat_lit 302, { cls := Value.type "tuple", data := Data.seq #[Value.str (Str.ofString "tree") 584, Value.str (Str.ofString "book") 585, Value.str (Str.ofString "parent") 586, Value.str (Str.ofString "kind") 587, Value.str (Str.ofString "value") 588, Value.str (Str.ofString "is_let") 589, Value.str (Str.ofString "call") 590, Value.str (Str.ofString "node") 591] }) ::
  (nat_lit 303, { cls := Value.type "tuple", data := Data.seq #[Value.str (Str.ofString "tree") 592, Value.str (Str.ofString "parent") 593, Value.str (Str.ofString "kind") 594, Value.str (Str.ofString "value") 595] }) ::
  (nat_lit 305, { cls := Value.type "code", data := Data.fields #[Value.str (Str.ofString "_law_put_right") 581, Value.str (Str.ofString "_law_put_right") 582, Value.str (Str.ofString "/claim/cut.py") 583, Value.int 143 0, Value.int 5 0, Value.int 0 0, Value.int 0 0, Value.int 3 0, Value.ref 300, Value.bool true, Value.int 181 0, Value.ref 301, Value.none, Value.ref 302, Value.ref 303, Value.ref 304, Value.int 596 0, Value.int 143 0, Value.str (Str.ofString "/claim/cut.py") 597] }) ::
  (nat_lit 306, { cls := Value.type "function", data := Data.func { name := Str.ofString "_law_put_right", qualname := Str.ofString "_law_put_right", params := z99, body := FuncBody.stmts (z100), scope := z101, globals := 3, closure := [], defaults := Value.none, kwdefaults := Value.none, pyModule := Value.str (Str.ofString "law_xw0201_01") 537, code := Value.ref 305 } }) ::
  (nat_lit 307, { cls := Value.type "tuple", data := Data.seq #[] }) ::
  (nat_lit 309, { cls := Value.type "tuple", data := Data.seq #[Value.str (Str.ofString "tree") 602, Value.str (Str.ofString "book") 603, Value.str (Str.ofString "node") 604, Value.str (Str.ofString "value") 605] }) ::
  (nat_lit 310, { cls := Value.type "tuple", data := Data.seq #[Value.str (Str.ofString "tree") 606, Value.str (Str.ofString "node") 607, Value.str (Str.ofString "value") 608] }) ::
  (nat_lit 312, { cls := Value.type "code", data := Data.fields #[Value.str (Str.ofString "_law_changed_right") 599, Value.str (Str.ofString "_law_changed_right") 600, Value.str (Str.ofString "/claim/cut.py") 601, Value.int 156 0, Value.int 4 0, Value.int 0 0, Value.int 0 0, Value.int 3 0, Value.ref 307, Value.bool true, Value.int 181 0, Value.ref 308, Value.none, Value.ref 309, Value.ref 310, Value.ref 311, Value.int 609 0, Value.int 156 0, Value.str (Str.ofString "/claim/cut.py") 610] }) ::
  (nat_lit 313, { cls := Value.type "function", data := Data.func { name := Str.ofString "_law_changed_right", qualname := Str.ofString "_law_changed_right", params := z102, body := FuncBody.stmts (z103), scope := z104, globals := 3, closure := [], defaults := Value.none, kwdefaults := Value.none, pyModule := Value.str (Str.ofString "law_xw0201_01") 537, code := Value.ref 312 } }) ::
  (nat_lit 314, { cls := Value.type "tuple", data := Data.seq #[] }) ::
  (nat_lit 316, { cls := Value.type "tuple", data := Data.seq #[Value.str (Str.ofString "tree") 615, Value.str (Str.ofString "book") 616, Value.str (Str.ofString "node") 617, Value.str (Str.ofString "row") 618] }) ::
  (nat_lit 317, { cls := Value.type "tuple", data := Data.seq #[Value.str (Str.ofString "tree") 619, Value.str (Str.ofString "node") 620] }) ::
  (nat_lit 319, { cls := Value.type "code", data := Data.fields #[Value.str (Str.ofString "_law_asked_right") 612, Value.str (Str.ofString "_law_asked_right") 613, Value.str (Str.ofString "/claim/cut.py") 614, Value.int 162 0, Value.int 3 0, Value.int 0 0, Value.int 0 0, Value.int 3 0, Value.ref 314, Value.bool true, Value.int 181 0, Value.ref 315, Value.none, Value.ref 316, Value.ref 317, Value.ref 318, Value.int 621 0, Value.int 162 0, Value.str (Str.ofString "/claim/cut.py") 622] }) ::
  (nat_lit 320, { cls := Value.type "function", data := Data.func { name := Str.ofString "_law_asked_right", qualname := Str.ofString "_law_asked_right", params := z105, body := FuncBody.stmts (z106), scope := z107, globals := 3, closure := [], defaults := Value.none, kwdefaults := Value.none, pyModule := Value.str (Str.ofString "law_xw0201_01") 537, code := Value.ref 319 } }) ::
  (nat_lit 321, { cls := Value.type "tuple", data := Data.seq #[] }) ::
  (nat_lit 323, { cls := Value.type "tuple", data := Data.seq #[Value.str (Str.ofString "tree") 627, Value.str (Str.ofString "book") 628, Value.str (Str.ofString "node") 629, Value.str (Str.ofString "kind") 630, Value.str (Str.ofString "value") 631, Value.str (Str.ofString "parent") 632, Value.str (Str.ofString "children") 633] }) ::
  (nat_lit 324, { cls := Value.type "tuple", data := Data.seq #[Value.str (Str.ofString "tree") 634, Value.str (Str.ofString "book") 635] }) ::
  (nat_lit 326, { cls := Value.type "code", data := Data.fields #[Value.str (Str.ofString "_law_stands") 624, Value.str (Str.ofString "_law_stands") 625, Value.str (Str.ofString "/claim/cut.py") 626, Value.int 167 0, Value.int 2 0, Value.int 0 0, Value.int 0 0, Value.int 3 0, Value.ref 321, Value.bool true, Value.int 181 0, Value.ref 322, Value.none, Value.ref 323, Value.ref 324, Value.ref 325, Value.int 636 0, Value.int 167 0, Value.str (Str.ofString "/claim/cut.py") 637] }) ::
  (nat_lit 327, { cls := Value.type "function", data := Data.func { name := Str.ofString "_law_stands", qualname := Str.ofString "_law_stands", params := z108, body := FuncBody.stmts (z109), scope := z110, globals := 3, closure := [], defaults := Value.none, kwdefaults := Value.none, pyModule := Value.str (Str.ofString "law_xw0201_01") 537, code := Value.ref 326 } }) ::
  (nat_lit 328, { cls := Value.type "tuple", data := Data.seq #[] }) ::
  (nat_lit 330, { cls := Value.type "tuple", data := Data.seq #[Value.str (Str.ofString "tree") 642, Value.str (Str.ofString "book") 643, Value.str (Str.ofString "places") 644, Value.str (Str.ofString "parent") 645, Value.str (Str.ofString "kind") 646, Value.str (Str.ofString "node") 647] }) ::
  (nat_lit 331, { cls := Value.type "tuple", data := Data.seq #[] }) ::
  (nat_lit 333, { cls := Value.type "code", data := Data.fields #[Value.str (Str.ofString "_law_told_right") 639, Value.str (Str.ofString "_law_told_right") 640, Value.str (Str.ofString "/claim/cut.py") 641, Value.int 177 0, Value.int 0 0, Value.int 0 0, Value.int 0 0, Value.int 3 0, Value.ref 328, Value.bool true, Value.int 181 0, Value.ref 329, Value.none, Value.ref 330, Value.ref 331, Value.ref 332, Value.int 648 0, Value.int 177 0, Value.str (Str.ofString "/claim/cut.py") 649] }) ::
  (nat_lit 334, { cls := Value.type "function", data := Data.func { name := Str.ofString "_law_told_right", qualname := Str.ofString "_law_told_right", params := z111, body := FuncBody.stmts (z112), scope := z113, globals := 3, closure := [], defaults := Value.none, kwdefaults := Value.none, pyModule := Value.str (Str.ofString "law_xw0201_01") 537, code := Value.ref 333 } }) ::
  (nat_lit 335, { cls := Value.type "tuple", data := Data.seq #[] }) ::
  (nat_lit 337, { cls := Value.type "tuple", data := Data.seq #[Value.str (Str.ofString "script") 654, Value.str (Str.ofString "source") 655, Value.str (Str.ofString "tree") 656, Value.str (Str.ofString "book") 657, Value.str (Str.ofString "turn") 658, Value.str (Str.ofString "way") 659, Value.str (Str.ofString "node") 660, Value.str (Str.ofString "parent") 661, Value.str (Str.ofString "kind") 662, Value.str (Str.ofString "is_right") 663] }) ::
  (nat_lit 338, { cls := Value.type "tuple", data := Data.seq #[] }) ::
  (nat_lit 340, { cls := Value.type "code", data := Data.fields #[Value.str (Str.ofString "law") 651, Value.str (Str.ofString "law") 652, Value.str (Str.ofString "/claim/cut.py") 653, Value.int 187 0, Value.int 1 0, Value.int 0 0, Value.int 0 0, Value.int 3 0, Value.ref 335, Value.bool true, Value.int 181 0, Value.ref 336, Value.none, Value.ref 337, Value.ref 338, Value.ref 339, Value.int 664 0, Value.int 187 0, Value.str (Str.ofString "/claim/cut.py") 665] }) ::
  (nat_lit 341, { cls := Value.type "function", data := Data.func { name := Str.ofString "law", qualname := Str.ofString "law", params := z114, body := FuncBody.stmts (z115), scope := z116, globals := 3, closure := [], defaults := Value.none, kwdefaults := Value.none, pyModule := Value.str (Str.ofString "law_xw0201_01") 537, code := Value.ref 340 } }) :: []
  all_goals try (dsimp only [fTop, fIn, fNth, fArgs, fBody, fScope, PySem.Challenge.pw_xw0201_01]; rfl)
def vw : Program := view PySem.Challenge.pw_xw0201_01 [0, 2, 3, 5, 6, 7, 9, 10, 11, 12, 13, 14, 15, 16, 17, 18, 19]
noncomputable abbrev hk : Hook := kmHook hd.heap_39 [2, 3, 15, 17, 18, 20, 21, 22, 29, 31, 32, 34, 35, 36, 37, 38, 39, 42, 49, 50, 51, 54, 62, 64, 65, 67, 68, 69, 70, 71, 72, 73, 83, 85, 86, 88, 89, 90, 92, 93, 95, 96, 97, 99, 100, 102, 103, 104, 106, 107, 109, 110, 111, 113, 114, 116, 117, 118, 120, 121, 123, 124, 125, 127, 128, 130, 131, 132, 134, 135, 137, 138, 139, 141, 142, 144, 145, 146, 148, 149, 151, 152, 153, 155, 156, 158, 159, 160, 162, 163, 165, 166, 167, 169, 170, 172, 173, 174, 176, 177, 179, 180, 181, 183, 184, 186, 187, 188, 190, 191, 193, 194, 195, 197, 198, 200, 201, 202, 204, 205, 207, 208, 209, 211, 212, 214, 215, 216, 218, 219, 221, 222, 223, 225, 226, 228, 229, 230, 232, 233, 235, 236, 237, 239, 240, 242, 243, 244, 246, 247, 249, 250, 251, 253, 254, 256, 257, 258, 259, 260, 261, 262, 265, 267, 268, 270, 271, 272, 274, 275, 277, 278, 279, 281, 282, 284, 285, 286, 288, 289, 291, 292, 293, 295, 296, 298, 299, 300, 302, 303, 305, 306, 307, 309, 310, 312, 313, 314, 316, 317, 319, 320, 321, 323, 324, 326, 327, 328, 330, 331, 333, 334, 335, 337, 338, 340, 341] (fun _ => by kernel_rfl) [322, 315, 308, 301]
theorem LeftO.of_boot {p q : Program} {loose : List Str} {Xt : Shared → Bool} {α : Type} {Yf : Shared → α} {Ya : World → α} {N : Nat} {g0 : Bool}
    (e : opening p = plainProg p.main.scope.names) (hN : Nat.ble 600 N = true) (f : ∀ s, fenceModules? p s = some s)
    (run : ∀ (w : World) (os : OsState), (topFrom treeTable p w N ⟨boot_heap w.params, Array.mk [], boot_drawn, boot_toks, os⟩).map (fun s => (openSeen q loose (importedModules p.main.body) Xt g0 s, Yf s)) = some (openGood q loose, Ya w)) :
    LeftO p q loose Xt Yf Ya N g0 := fun w => by
  obtain ⟨⟨h, gs, d, k, os⟩, e1, e2⟩ := Option.map_eq_some_iff.mp (boot_open e hN f w)
  obtain ⟨rfl, rfl, rfl, rfl⟩ : h = boot_heap w.params ∧ gs = Array.mk [] ∧ d = boot_drawn ∧ k = boot_toks := by simpa using e2
  unfold openEnds
  rw [e1]
  exact run w os
theorem left_run (w : World) (os : OsState) : (topFrom treeTable PySem.Challenge.pw_xw0201_01 w 4390 ⟨boot_heap w.params, Array.mk [], boot_drawn, boot_toks, os⟩).map (fun s => (openSeen vw [] (importedModules PySem.Challenge.pw_xw0201_01.main.body) (fun s => xlAt vw [] s && recOk PySem.Challenge.rw_xw0201_01.row.records s) true s, hk.obs s)) = some (openGood vw [], hk.val w) := by
  delta topFrom
  rw [PySem.W.Fast.te14082659384304107361, PySem.W.Fast.te14364793385576792824, PySem.W.Fast.te8920871248978507458, PySem.W.Fast.te4187177175401517315, PySem.W.Fast.te5923862056798008813]
  kernel_rfl
theorem left : LeftO PySem.Challenge.rw_xw0201_01.row.toRowW.prog vw [] (fun s => xlAt vw [] s && recOk PySem.Challenge.rw_xw0201_01.row.records s) hk.obs hk.val 4390 :=
  LeftO.of_boot (by kernel_rfl) (by decide) (fun _ => rfl) left_run
theorem hd {d : DefRec} {kwd : List (Str × Expr)} (hdef : defOf vw PySem.Challenge.rw_xw0201_01.row.name = some (d, kwd)) (hp : PySem.Challenge.rw_xw0201_01.row.toRowW.prog.theDef PySem.Challenge.rw_xw0201_01.row.name = some (d.params, d.body, d.scope))
    (hk' : kwWritten? d.params.kwonlyargs d.params.kw_defaults = some kwd)
    (walk : WalkO vw [] (XL vw []) (kmHook hd.heap_39 [2, 3, 15, 17, 18, 20, 21, 22, 29, 31, 32, 34, 35, 36, 37, 38, 39, 42, 49, 50, 51, 54, 62, 64, 65, 67, 68, 69, 70, 71, 72, 73, 83, 85, 86, 88, 89, 90, 92, 93, 95, 96, 97, 99, 100, 102, 103, 104, 106, 107, 109, 110, 111, 113, 114, 116, 117, 118, 120, 121, 123, 124, 125, 127, 128, 130, 131, 132, 134, 135, 137, 138, 139, 141, 142, 144, 145, 146, 148, 149, 151, 152, 153, 155, 156, 158, 159, 160, 162, 163, 165, 166, 167, 169, 170, 172, 173, 174, 176, 177, 179, 180, 181, 183, 184, 186, 187, 188, 190, 191, 193, 194, 195, 197, 198, 200, 201, 202, 204, 205, 207, 208, 209, 211, 212, 214, 215, 216, 218, 219, 221, 222, 223, 225, 226, 228, 229, 230, 232, 233, 235, 236, 237, 239, 240, 242, 243, 244, 246, 247, 249, 250, 251, 253, 254, 256, 257, 258, 259, 260, 261, 262, 265, 267, 268, 270, 271, 272, 274, 275, 277, 278, 279, 281, 282, 284, 285, 286, 288, 289, 291, 292, 293, 295, 296, 298, 299, 300, 302, 303, 305, 306, 307, 309, 310, 312, 313, 314, 316, 317, 319, 320, 321, 323, 324, 326, 327, 328, 330, 331, 333, 334, 335, 337, 338, 340, 341] (fun _ => by kernel_rfl) [322, 315, 308, 301]).says PySem.Challenge.rw_xw0201_01.row.toRowW d kwd fun f vs => PySem.call f vs) : PySem.Challenge.rw_xw0201_01.Holds :=
  holds_law (by kernel_rfl) fun said => holds_open (left) hk.of hk.keeps (fun s e => xl_of s (Bool.and_eq_true_iff.mp e).1) XL.keeps hdef hp hk' (fun s e => recFacts_of (Bool.and_eq_true_iff.mp e).2) (by rfl) said (by kernel_rfl) ⟨rfl, rfl, rfl, rfl, rfl, by kernel_rfl⟩ (by w_witness2) walk
end
local macro_rules | `(tactic| walk_at $s:str) => `(tactic| k_extra $s)
local macro_rules | `(tactic| k_all) => `(tactic| assumption)
section
open PySem PySem.W PyProof.Rows
abbrev Led := List (Addr × Obj)
/-- the contract of a def of the text, over any frame and any ledger -/
def Ctr (w : World) (f : Addr) (args : List Value) (news : Led) (dd uu : Nat) (Post : Value → Led → Prop) : Prop :=
  ∀ (p : Program) (loose : List Str) (mean : ExcName → Option Value) (mg mb : Str → Option Value) (dp un : Nat) (gd : Option (List Code)) (cn : Str) (cs : Scope) (a : Addr) (ccd : Value) (cl : List (Str × Addr)) (outer : List Env) (A₀ : Around) (base h₀ : Heap) (L : Addr) (m : Str → Option Value) (s : Shared) (Q E : Value → Shared → Prop),
    Below A₀ base outer h₀ → Fr h₀ L s.heap m → (hd.heap_39 w.params).In h₀ → News h₀ L s.heap news → Top p loose mean mg mb h₀ → cs.kind = .function →
    dp + dd < recursionLimit → un + uu < cLine →
    (∀ v h' tk' news', Fr h₀ L h' m → News h₀ L h' news' → Post v news' → Q v { s with heap := h', toks := tk' }) →
    wpAny (model PySem.Challenge.rw_xw0201_01.row.prog w) (ktrTop dp un gd cn cs L a ccd cl outer) (call (.ref f) args) Q E s
theorem take_div {a top : Int} (ha : 0 ≤ a) (h1 : 1 ≤ top) : 0 ≤ a.fmod top ∧ a.fmod top < top ∧ 0 ≤ a.fdiv top ∧ a.fdiv top ≤ a := by
  rw [Int.fmod_eq_emod_of_nonneg _ (by omega), Int.fdiv_eq_ediv_of_nonneg _ (by omega)]
  exact ⟨Int.emod_nonneg _ (by omega), Int.emod_lt_of_pos _ (by omega), Int.ediv_nonneg ha (by omega), Int.ediv_le_self _ ha⟩
theorem lcg_mod {b : Int} (_h : 0 ≤ b) : 0 ≤ (b * 39373 + 7).fmod 2147483647 ∧ (b * 39373 + 7).fmod 2147483647 < 2147483647 := by
  rw [Int.fmod_eq_emod_of_nonneg _ (by omega)]; omega
theorem lcg_bits {b : Int} (h : 0 ≤ b) : PySem.Builtin.Int.intBits ((b * 39373 + 7).fmod 2147483647) ≤ 64 :=
  PySem.intBits_le_64 (by have := lcg_mod h; omega) (by have := lcg_mod h; omega)
theorem fmod_in {a top : Int} (h1 : 1 ≤ top) : 0 ≤ a.fmod top ∧ a.fmod top < top := by
  rw [Int.fmod_eq_emod_of_nonneg _ (by omega)]
  exact ⟨Int.emod_nonneg _ (by omega), Int.emod_lt_of_pos _ (by omega)⟩
section
theorem ln_C0_0 : True := by
  w_top off
  k_with_none
  k_with "binaryOp Mult int int" => k_dflt (refine mul_int ?_ (PySem.IntMulOk.of_right (lcg_bits (by assumption))))
  trivial
theorem take_ctr (w : World) (sl : Addr) (a b : Int) (t1 t2 t3 : Tok) (n : Nat) (top : Int) (rest : Led) (hr : ∀ p ∈ rest, p.1 ≠ sl)
   (ha : 0 ≤ a) (hb : 0 ≤ b) (hb2 : b < 2147483647) (h1 : 1 ≤ top) (h2 : top ≤ 12) :
   Ctr w 278 [.ref sl, .int top t3] ((sl, listOf [.int a t1, .int b t2].toArray n) :: rest) 10 40
     (fun v news' => ∃ r t a' t1' b' t2', v = .int r t ∧ 0 ≤ r ∧ r < top ∧ 0 ≤ a' ∧ a' ≤ a ∧ 0 ≤ b' ∧ b' < 2147483647 ∧ news' = (sl, listOf [.int a' t1', .int b' t2'].toArray n) :: rest) := by
  unfold Ctr
  k_fill
  intro p loose mean mg mb dp un gd cn cs aa ccd cl outer A₀ base h₀ L m s Q E B F X N T hk hd hu hret
  refine wpAny_call ?_
  k_dflt cell_enter
  k_steps
  · exact hret _ _ _ _ (by k_asm) (by k_asm) ⟨_, _, _, _, _, _, rfl, (take_div ha h1).1, (take_div ha h1).2.1, (take_div ha h1).2.2.1, (take_div ha h1).2.2.2, hb, hb2, rfl⟩
  · exact hret _ _ _ _ (by k_asm) (by k_asm) ⟨_, _, _, _, _, _, rfl, (fmod_in h1).1, (fmod_in h1).2, ha, Int.le_refl _, (lcg_mod hb).1, (lcg_mod hb).2, rfl⟩
end
end
section
open PySem PySem.W PySem.Calls PyProof.Rows Builtin Builtin.ObjectAttr
abbrev excObj (C t : Addr) (d : Option Addr) : Obj := { cls := .ref C, dict := d, data := .fields #[.ref t, .none, .none, .none, .bool false, .none] }
theorem refuse_exc (self : Value) (C B : Addr) : refuseLoop self "__setattr__" [.ref C, .ref B, .type "Exception", .type "BaseException", .type "object"] = pure () := by
  rw [refuseLoop_ref, refuseLoop_ref]; exact PySem.F.store_Exception.passes self
section
variable {prog : Program} {w : World} {A : Around} {E : Value → Shared → Prop} {s : Shared} {K : Frag} {C B t e L : Addr} {h₀ : Heap} {m : Str → Option Value} {rest : Led} {name : Str} {v : Value}
theorem osa_exc {cd : ClassData} {tk : Tok} {R : Result → Shared → Prop} (F : Fr h₀ L s.heap m) (X : K.In s.heap) (N : News h₀ L s.heap ((e, excObj C t none) :: rest)) (hr : ∀ p ∈ rest, p.1 ≠ e)
    (hc : clsIn K C = some cd) (hm : cd.mro = [.ref C, .ref B, .type "Exception", .type "BaseException", .type "object"]) (hh : cd.hasDict = true) (ht : takerIn K C name = some none)
    (h : ∀ d od h', Fr h₀ L h' m → News h₀ L h' ((e, excObj C t (some d)) :: (d, od) :: rest) → (∀ p ∈ rest, p.1 < d) → e < d → R (.ok (.ret .none)) { s with heap := h', toks := s.toks + 1 }) :
    codeAny (model prog w) A (.call (.builtin "object.__setattr__") ⟨[.ref e, .str name tk, v], []⟩) R s := by
  have SF := PySem.F.store_object
  have I : InstAt s.heap e (excObj C t none) C none := ⟨(N _ (.head _)).1, rfl, rfl, trivial⟩
  have hm' : Looks (model prog w) s.heap (mroOf (.ref C)) cd.mro := (looks_clsIn X hc).andThen .now
  have sub : Looks (model prog w) s.heap (isInstance (.ref e) (.type "object")) true := I.type.andThen (looks_mroIn X (by unfold mroIn; rw [hc, Option.bind_some, hm]; simp))
  refine codeAny_call_builtin SF.slot.plain SF.entry (@check_slot (model prog w) _ _ s "object.__setattr__" "object" "__setattr__" (.ref e) [.str name tk, v] [] _ SF.kind SF.split sub (SF.args (.ref e) (.str name tk) v) ?_)
  obtain ⟨attr, ha, hr'⟩ := Option.bind_eq_some_iff.mp ht
  have L3 : Looks (model prog w) s.heap (storeTaker? attr) none := by
    cases attr with
    | none => cases hr'; exact .now
    | some a =>
      obtain ⟨b, hb, e'⟩ := Option.map_eq_some_iff.mp hr'
      refine (looks_takesIn X hb).andThen ?_
      cases b
      · exact .now
      · cases e'
  rw [osa_eq, refuse_eq]
  refine wpAny_bind (wpAny_bind (I.type.here (wpAny_bind (hm'.here ?_))))
  rw [hm, refuse_exc]
  refine wpAny_pure (wpAny_bind (I.type.here (wpAny_bind ((looks_findIn X ha).here (wpAny_bind (L3.here ?_))))))
  show wpAny _ _ (storeInOwnDict (.ref e) (.ref C) (.str name tk) name v attr.isSome) _ _ _
  unfold storeInOwnDict
  refine wpAny_bind (wpAny_pure (wpAny_bind ?_))
  show wpAny _ _ (instanceDict e true) _ _ _
  unfold instanceDict
  refine wpAny_bind (wpAny_loadPart I.at_ (wpAny_bind ((looks_clsIn X hc).here ?_)))
  rw [hh]
  dsimp only
  rw [if_neg (by decide), if_neg (show ¬ ((!true || !typeHasDict (Value.ref C)) = true) from by simp [typeHasDict])]
  have lt : ∀ p ∈ (e, excObj C t none) :: rest, p.1 < s.heap.objs.size := fun p hp => Heap.lt_size (N p hp).1
  have F1 := F.push { cls := .type "dict", data := .dict #[] }
  have N1 := N.push F { cls := .type "dict", data := .dict #[] }
  refine wpAny_bind (wpAny_alloc (wpAny_bind (wpAny_updatePart (N1 _ (.tail _ (.head _))).1 (wpAny_pure ?_))))
  have hed : e < s.heap.objs.size := lt _ (.head _)
  obtain ⟨F2, N2⟩ := news_upd (pre := [(s.heap.objs.size, { cls := .type "dict", data := .dict #[] })]) (f := fun o => { o with dict := some s.heap.objs.size }) (o' := excObj C t (some s.heap.objs.size)) F1 N1
    (fun p hp => by rw [List.mem_singleton.mp hp]; exact Nat.ne_of_gt hed) hr rfl rfl
  dsimp only
  unfold storeInDict newKeyGuard
  refine wpAny_bind (wpAny_pure (wpAny_bind ?_))
  unfold nsSet
  have D2 := (N2 (s.heap.objs.size, _) (.head _)).1
  obtain ⟨F3, N3⟩ := news_upd (pre := []) (f := Obj.putName name (PyData.keyHash w.params name) (.str name s.toks) v) (o' := dictOf [⟨PyData.keyHash w.params name, .str name s.toks, v⟩] 1) F2 N2
    (fun _ hp => nomatch hp) (fun p hp => by
      rcases List.mem_cons.mp hp with rfl | hp
      · exact Nat.ne_of_lt hed
      · exact Nat.ne_of_lt (lt p (.tail _ hp))) (putName_dict _ _ _ _ [] 0) rfl
  have D3 := (N3 (s.heap.objs.size, _) (.head _)).1
  refine wpAny_bind (wpAny_bind (wpAny_askSetting (wpAny_pure (wpAny_bind (wpAny_mkText (wpAny_bind (wpAny_loadPart D2 ?_)))))))
  dsimp only
  have c : (!(#[] : Array DictEntry).any (·.key.isStr name) && (#[] : Array DictEntry).any (·.refKey)) = false := by simp
  rw [aRefKeyMayBeTheName_at, c]
  refine wpAny_updatePart D2 ?_
  refine wpAny_bind (wpAny_lookBehind D3 (pastItsLine_dict (by rw [sizeLine_eq]; simp)) ?_)
  refine wpAny_pure (h _ (dictOf [⟨PyData.keyHash w.params name, .str name s.toks, v⟩] 1) _ F3 (fun p hp => ?_) (fun p hp => lt p (.tail _ hp)) hed)
  rcases List.mem_cons.mp hp with rfl | hp
  · exact N3 _ (.tail _ (.head _))
  · rcases List.mem_cons.mp hp with rfl | hp
    · exact N3 _ (.head _)
    · exact N3 _ (.tail _ (.tail _ hp))
theorem set_exc {cd : ClassData} {Q : Unit → Shared → Prop} (F : Fr h₀ L s.heap m) (X₀ : K.In h₀) (N : News h₀ L s.heap ((e, excObj C t none) :: rest)) (hr : ∀ p ∈ rest, p.1 ≠ e)
    (hc : clsIn K C = some cd) (hm : cd.mro = [.ref C, .ref B, .type "Exception", .type "BaseException", .type "object"]) (hh : cd.hasDict = true) (hs : findIn K (.ref C) "__setattr__" = some (some (.builtin "object.__setattr__"))) (ht : takerIn K C name = some none)
    (h : ∀ d od h', Fr h₀ L h' m → News h₀ L h' ((e, excObj C t (some d)) :: (d, od) :: rest) → (∀ p ∈ rest, p.1 < d) → e < d → Q () { s with heap := h', toks := s.toks + 2 }) :
    wpAny (model prog w) A (setAttr (.ref e) name v) Q E s :=
  set_plain (od := none) (X₀.keeps F.keep) ⟨(N _ (.head _)).1, rfl, rfl, trivial⟩ hs (osa_exc (s := { s with toks := s.toks + 1 }) F (X₀.keeps F.keep) N hr hc hm hh ht fun d od h' F' N' l1 l2 => h d od h' F' N' l1 l2)
end
abbrev excTail (B : Addr) : List Value := [.ref B, .type "Exception", .type "BaseException", .type "object"]
section
variable {M : Model} {A : Around} {E : Value → Shared → Prop} {h : Heap} {g : Array GenState} {d : Drawn} {t : Nat} {os : OsState}
variable {nm q : Str} {C N B : Addr} {bs : List Value} {hdct : Bool} {sn : List Str} {sub : List Value} {ab : Bool} {col : Option Bool} {dd : Option Addr} {k0 k1 k2 k3 k5 : Option Value}
theorem tf_check_new {rest : List Value} {Q : Unit → Shared → Prop} (hC : h.get? C = some (excClassObj nm q C N bs (excTail B) hdct sn sub ab col dd k0 k1 k2 k3 k5 "Exception.__new__"))
    (hq : Q () ⟨h, g, d, t, os⟩) : wpAny M A (checkBuiltinCall "Exception.__new__" ⟨.ref C :: rest, []⟩) Q E ⟨h, g, d, t, os⟩ := by
  have F := PySem.F.excBase_Exception
  have hcont : (Value.ref C :: excTail B).contains (.type "Exception") = true := by simp
  have hstar := F.noStar
  simp only [checkBuiltinCall, F.newKind, F.newSplit, F.newRow]
  repeat (first | refine wpAny_loadPart_at hC ?_ | (refine wpAny_isSubtype_exc hC ?_; rw [hcont]) | refine wpAny_staticBase_exc hC ?_ | refine wpAny_madeBy_exc hC ?_ | simp only [bne_self_eq_false, Bool.false_eq_true, if_false] | wp_step)
  exact hq
end
section
variable {prog : Program} {w : World} {A : Around} {R : Result → Shared → Prop} {E : Value → Shared → Prop} {h : Heap} {g : Array GenState} {d : Drawn} {t : Nat} {os : OsState}
variable {nm q : Str} {C N B : Addr} {bs : List Value} {hdct : Bool} {sn : List Str} {sub : List Value} {ab : Bool} {col : Option Bool} {dd : Option Addr} {k0 k1 k2 k3 k5 : Option Value} {K : Frag}
theorem tf_new {rest : List Value} (hC : h.get? C = some (excClassObj nm q C N bs (excTail B) hdct sn sub ab col dd k0 k1 k2 k3 k5 "Exception.__new__"))
    (hq : R (.ok (.ret (.ref (h.objs.size + 1)))) ⟨(h.push { cls := .type "tuple", data := .seq rest.toArray }).push
      { cls := .ref C, data := .fields #[.ref h.objs.size, .none, .none, .none, .bool false, .none] }, g, d, t, os⟩) (hrest : rest.length ≤ sizeLine := by size_fits) :
    codeAny (model prog w) A (.builtin "Exception.__new__" ⟨.ref C :: rest, []⟩) R ⟨h, g, d, t, os⟩ := by
  have F := PySem.F.excBase_Exception
  have hends := F.ends
  have hcB : (Value.ref C :: excTail B).contains (.type "Exception") = true := by simp
  have hcA : (Value.ref C :: excTail B).contains (.type "AttributeError") = false := by simp
  have hcN : (Value.ref C :: excTail B).contains (.type "NameError") = false := by simp
  refine codeAny_builtinAt F.entry ?_
  unfold Builtin.«BaseException.__new__»
  refine PySem.wpAt_bind ?_
  show PySem.wpAt _ _ _ (stack >>= _) _ _ _
  refine PySem.wpAt_bind (PySem.wpAt_stack fun p below => PySem.wpAt_of_wpAny ?_)
  wp_walk
  refine PySem.wpAt_of_wpAny ?_
  rw [F.owner]
  repeat (first | with_reducible refine wpAny_madeHere_exc F.canon hC ?_ | with_reducible refine wpAny_loadPart_at hC ?_ | (with_reducible refine wpAny_isSubtype_exc hC ?_; first | rw [hcB] | rw [hcA] | rw [hcN]) | wp_step)
  show R _ _
  rw [Heap.size_push]
  exact hq
theorem tf_type_call {rest : List Value} {fI : Addr} {Q : Fin → Shared → Prop} (X : K.In h)
    (hC : h.get? C = some (excClassObj nm q C N bs (excTail B) hdct sn sub ab col dd k0 k1 k2 k3 k5 "Exception.__new__"))
    (hi : findIn K (.ref C) "__init__" = some (some (.ref fI))) (hf : typeIn K (.ref fI) = some (.type "function"))
    (hq : ∀ h' e, Heap.MadeExcOf h h' e (.ref C) rest →
      wpAny (model prog w) A (call (.ref fI) (.ref e :: rest)) (fun r s' => r = .none ∧ Q (.done (.ret (.ref e))) s') E ⟨h', g, d, t, os⟩) (hrest : rest.length ≤ sizeLine := by size_fits) :
    wpAny (model prog w) A (Builtin.«type.__call__» ⟨.ref C :: rest, []⟩) Q E ⟨h, g, d, t, os⟩ := by
  have F := PySem.F.excBase_Exception
  repeat (first | with_reducible refine wpAny_loadPart_at hC ?_ | with_reducible refine wpAny_madeBy_exc hC ?_ | wp_step)
  refine codeAny_call_builtin_code (Code.quiet_builtin _ F.quiet) (tf_check_new hC ?_)
  refine tf_new hC ?_ hrest
  show wpAny _ _ _ _ _ _
  have kp : ∀ b o, h.get? b = some o → ((h.push { cls := .type "tuple", data := .seq rest.toArray }).push { cls := .ref C, data := .fields #[.ref h.objs.size, .none, .none, .none, .bool false, .none] }).get? b = some o :=
    fun b o e => Heap.get?_push_of_some _ (Heap.get?_push_of_some _ e)
  have hC₁ := kp _ _ hC
  have X₁ := X.keeps kp
  have hget : ((h.push { cls := .type "tuple", data := .seq rest.toArray }).push
      { cls := .ref C, data := .fields #[.ref h.objs.size, .none, .none, .none, .bool false, .none] }).get? (h.objs.size + 1) = some
      { cls := .ref C, data := .fields #[.ref h.objs.size, .none, .none, .none, .bool false, .none] } := by heap_get
  have hcC : (Value.ref C :: excTail B).contains (.ref C) = true := by simp
  unfold isInstance
  repeat (first | with_reducible refine wpAny_loadPart_at hget ?_ | (with_reducible refine wpAny_isSubtype_exc hC₁ ?_; rw [hcC]) | wp_step)
  show wpAny _ _ (typeLookup (.ref C) _) _ _ _
  refine (looks_findIn X₁ hi).here ?_
  refine wpAny_holding (wpAny_bind ?_)
  refine (bind_fn X₁ _ hf).here ?_
  refine wpAny_bind (wpAny_mono (hq _ (h.objs.size + 1) ⟨kp, Heap.get?_none_of_le (Nat.le_succ _), h.objs.size, hget, Heap.get?_none_of_le (Nat.le_refl _), ?_⟩) (fun r s' hr => ?_) fun _ _ x => x)
  · exact Heap.get?_push_of_some _ (Heap.get?_push_at rfl rfl)
  · obtain ⟨rfl, hQ⟩ := hr
    wp_walk
    exact hQ
theorem tf_call {rest : List Value} {fI : Addr} {Q : Value → Shared → Prop} (X : K.In h)
    (hC : h.get? C = some (excClassObj nm q C N bs (excTail B) hdct sn sub ab col dd k0 k1 k2 k3 k5 "Exception.__new__"))
    (hi : findIn K (.ref C) "__init__" = some (some (.ref fI))) (hf : typeIn K (.ref fI) = some (.type "function"))
    (hq : ∀ h' e, Heap.MadeExcOf h h' e (.ref C) rest →
      wpAny (model prog w) (A.under (.builtin "type.__call__" ⟨.ref C :: rest, []⟩)) (call (.ref fI) (.ref e :: rest)) (fun r s' => r = .none ∧ Q (.ref e) s') E ⟨h', g, d, t, os⟩) (hrest : rest.length ≤ sizeLine := by size_fits) :
    wpAny (model prog w) A (call (.ref C) rest) Q E ⟨h, g, d, t, os⟩ := by
  have f1 := tc_lookup
  have f2 := tc_bind (.ref C)
  have hT : (⟨h, g, d, t, os⟩ : Shared).TypeIs (.ref C) "type" := ⟨_, hC, rfl⟩
  refine wpAny_call (codeAny_of_tree ?_)
  show wpAny _ _ (callAny (.ref C) _) _ _ _
  repeat (any_goals (first | assumption | with_reducible refine wpAny_loadPart_at hC ?_ | wp_step))
  refine ⟨rfl, ?_⟩
  refine codeAny_call_builtin_at (Code.quiet_builtin _ (by decide +kernel)) entry_typeCall (wpAny_check_type_call_sub hC (tf_type_call (hrest := hrest) X hC hi hf fun h' e hm => ?_))
  exact hq h' e hm
theorem tf_check_init {M : Model} {e : Addr} {oe : Obj} {rest : List Value} {Q : Unit → Shared → Prop}
    (hC : h.get? C = some (excClassObj nm q C N bs (excTail B) hdct sn sub ab col dd k0 k1 k2 k3 k5 "Exception.__new__")) (he : h.get? e = some oe) (hcls : oe.cls = .ref C) (hq : Q () ⟨h, g, d, t, os⟩) :
    wpAny M A (checkBuiltinCall "Exception.__init__" ⟨.ref e :: rest, []⟩) Q E ⟨h, g, d, t, os⟩ := by
  have F := PySem.F.excBase_Exception
  have hcB : (Value.ref C :: excTail B).contains (.type "Exception") = true := by simp
  have hshort := F.noStar
  simp only [checkBuiltinCall, F.initKind, F.initSplit, F.initRow]
  repeat (first | (with_reducible refine wpAny_loadPart_at he ?_; rw [hcls]) | with_reducible refine wpAny_loadPart_at hC ?_ | (with_reducible refine wpAny_isSubtype_exc hC ?_; rw [hcB]) | wp_step)
  refine wpAny_onRaise ?_
  rw [show ∀ (a b : String) (n : Nat), Bind.check ⟨.positional, "*", "Exception", .self, [⟨"args", .varPos, false⟩]⟩ a b n (List.map (fun x => x.fst) ({ pos := Value.ref e :: rest } : Args).kw) = pure () from
    fun a b n => check_star_args _ _ _ _ _ _]
  exact wpAny_pure hq
/-- Exception.__init__ upon a made exception: a new tuple of its arguments -/
theorem tf_einit {s : Shared} {h₀ : Heap} {L e t₁ : Addr} {m : Str → Option Value} {rest : Led} {od : Option Addr} {v : Value} {Q : Value → Shared → Prop} (F : Fr h₀ L s.heap m) (N₀ : News h₀ L s.heap ((e, excObj C t₁ od) :: rest)) (hr : ∀ p ∈ rest, p.1 ≠ e)
    (hC : s.heap.get? C = some (excClassObj nm q C N bs (excTail B) hdct sn sub ab col dd k0 k1 k2 k3 k5 "Exception.__new__"))
    (hq : ∀ t₂ h', Fr h₀ L h' m → News h₀ L h' ((e, excObj C t₂ od) :: (t₂, { cls := .type "tuple", data := .seq [v].toArray }) :: rest) → e < t₂ → (∀ p ∈ rest, p.1 < t₂) → Q .none { s with heap := h' }) :
    wpAny (model prog w) A (call (.builtin "Exception.__init__") [.ref e, v]) Q E s := by
  have FE := PySem.F.excBase_Exception
  obtain ⟨h, g, d, t, os⟩ := s
  have he := (N₀ _ (.head _)).1
  have lt : ∀ p ∈ (e, excObj C t₁ od) :: rest, p.1 < h.objs.size := fun p hp => Heap.lt_size (N₀ p hp).1
  refine wpAny_call (codeAny_call_builtin FE.init.plain FE.initEntry (tf_check_init hC he rfl ?_))
  have F1 := F.push { cls := .type "tuple", data := .seq [v].toArray }
  have N1 := N₀.push F { cls := .type "tuple", data := .seq [v].toArray }
  obtain ⟨F2, N2⟩ := news_upd (pre := [(h.objs.size, { cls := .type "tuple", data := .seq [v].toArray })]) (f := Obj.mapFields fun x => x.setIfInBounds 0 (Value.ref h.objs.size)) (o' := excObj C h.objs.size od) F1 N1
    (fun p hp => by rw [List.mem_singleton.mp hp]; exact Nat.ne_of_gt (lt _ (.head _))) hr rfl rfl
  wp_walk
  refine hq h.objs.size _ F2 (fun p hp => ?_) (lt _ (.head _)) fun p hp => lt p (.tail _ hp)
  rcases List.mem_cons.mp hp with rfl | hp
  · exact N2 _ (.tail _ (.head _))
  · rcases List.mem_cons.mp hp with rfl | hp
    · exact N2 _ (.head _)
    · exact N2 _ (.tail _ (.tail _ hp))
end
def tfIn (K : Frag) (C B : Addr) : Bool := match K.lookup C with
  | some ⟨.type "type", _, .cls cd, sl⟩ => (match cd.mro, sl.toList with
    | .ref C' :: bm, [_, _, _, _, some (.builtin n), _] => C' == C && bm == excTail B && n == "Exception.__new__" && !cd.hasDel && cd.hasDict
    | _, _ => false)
  | _ => false
theorem tf_at {K : Frag} {h : Heap} {C B : Addr} (q : tfIn K C B = true) (X : K.In h) : ∃ nm q N bs hdct sn sub ab col dd k0 k1 k2 k3 k5, h.get? C = some (excClassObj nm q C N bs (excTail B) hdct sn sub ab col dd k0 k1 k2 k3 k5 "Exception.__new__") := by
  unfold tfIn at q
  split at q
  · rename_i dd cd sl ho
    split at q
    · rename_i C' bm k0 k1 k2 k3 n k5 hm hs
      simp only [Bool.and_eq_true, beq_iff_eq, Bool.not_eq_true'] at q
      obtain ⟨⟨⟨⟨rfl, hbm⟩, rfl⟩, hdel⟩, hdc⟩ := q
      obtain ⟨nm, bs, mro, ns, qn, hd, sn, sub, ab, col, del⟩ := cd
      dsimp only at hm hdel hdc
      subst hm hdel hbm
      have hsl : sl = #[k0, k1, k2, k3, some (.builtin "Exception.__new__"), k5] := by
        obtain ⟨l⟩ := sl
        simp only at hs
        rw [hs]
      subst hsl
      exact ⟨nm, qn, ns, bs, hd, sn, sub, ab, col, dd, k0, k1, k2, k3, k5, X _ _ ho⟩
    · cases q
  · cases q
theorem tf_cls {K : Frag} {C B : Addr} (q : tfIn K C B = true) : ∃ cd, clsIn K C = some cd ∧ cd.mro = .ref C :: excTail B ∧ cd.hasDict = true := by
  unfold tfIn at q
  split at q
  · rename_i dd cd sl ho
    split at q
    · rename_i C' bm k0 k1 k2 k3 n k5 hm hs
      simp only [Bool.and_eq_true, beq_iff_eq, Bool.not_eq_true'] at q
      obtain ⟨⟨⟨⟨rfl, hbm⟩, rfl⟩, hdel⟩, hdc⟩ := q
      exact ⟨cd, by unfold clsIn; rw [ho], by rw [hm, hbm], hdc⟩
    · cases q
  · cases q
theorem tf_is (w : World) : tfIn (hd.heap_39 w.params) 51 38 = true := by with_unfolding_all rfl
end
section
open PySem PySem.W PySem.Calls PyProof.Rows Builtin Builtin.ObjectAttr
section
variable {prog : Program} {w : World} {A : Around} {E : Value → Shared → Prop} {s : Shared} {K : Frag} {h₀ : Heap} {L : Addr} {m : Str → Option Value}
theorem getm_exc {pl : Sem Bool} {Q : Value × List Value → Shared → Prop} (F : Fr h₀ L s.heap m) (X₀ : K.In h₀)
    (e : findCls K (.type "Exception") (.type "type") (PySem.Str.ofString "__init__") = some (.val (.builtin "Exception.__init__")))
    (h : Q (.builtin "Exception.__init__", []) { s with toks := s.toks + 1 }) :
    wpAny (model prog w) A (getMethod (.type "Exception") (PySem.Str.ofString "__init__") pl) Q E s := by
  have X := X₀.keeps F.keep
  have hstub : opaqueClassAbove (.type "Exception") = pure none := by unfold opaqueClassAbove; dsimp only; rw [show Manifest.isStub "Exception" = false by decide +kernel]; rfl
  have ht : typeOf (.type "Exception") = pure (.type "type") := by first | rfl | kernel_rfl
  have L0 : Looks (model prog w) s.heap (typeOf (.type "Exception")) (.type "type") := Looks.of_pure ht
  have hg : findIn K (.type "type") "__getattribute__" = some (some (.builtin "type.__getattribute__")) := type_tga
  unfold getMethod specialOf
  refine wpAny_bind (wpAny_bind (L0.here ((looks_findIn X hg).here ?_)))
  dsimp only
  rw [if_pos canon_tga]
  refine wpAny_bind (wpAny_mono (Q := fun v => Q (v, [])) (E := E) ?_ (fun _ _ z => wpAny_pure z) fun _ _ z => z)
  have LO : Looks (model prog w) s.heap (opaqueClassAbove (.type "Exception")) none := Looks.of_pure hstub
  refine cls_open X LO L0 hg (looks_hook X (r := none) (by rfl)) (by show subIn K _ _ = _; rfl) e ?_
  exact wpAny_pure (wpAny_pure h)
end
theorem init_ctr (w : World) (e t₁ : Addr) (msg : Str) (tk : Tok) (rest : Led) (hr : ∀ p ∈ rest, p.1 ≠ e) :
   Ctr w 35 [.ref e, .str msg tk] ((e, excObj 51 t₁ none) :: rest) 10 40
     (fun v news' => v = .none ∧ (∃ t₂ d, (e, excObj 51 t₂ (some d)) ∈ news') ∧ ∀ p ∈ rest, p ∈ news') := by
  unfold Ctr
  k_fill
  intro p loose mean mg mb dp un gd cn cs aa ccd cl outer A₀ base h₀ L m s Q E B F X N T hk hd hu hret
  refine wpAny_call ?_
  k_dflt ktr_enter
  k_steps
  (refine getm_exc (by k_asm) (by k_asm) (by k_is) ?_)
  k_steps
  rename Fr _ _ _ _ => F'
  rename News _ _ _ _ => N'
  rename Frag.In _ _ => X'
  obtain ⟨nm, q, Nn, bs, hdct, sn, sub, ab, col, dd, k0, k1, k2, k3, k5, hC⟩ := tf_at (tf_is w) (X'.keeps F'.keep)
  refine tf_einit F' N' hr hC fun t₂ h₂ F₂ N₂ l1 l2 => ?_
  k_steps
  obtain ⟨cd, hc, hm, hh⟩ := tf_cls (tf_is w)
  refine set_exc F₂ X' N₂ (fun p hp => by
    rcases List.mem_cons.mp hp with rfl | hp
    · exact Nat.ne_of_gt l1
    · exact hr p hp) hc hm hh (by k_is) (by k_is) fun d od h₃ F₃ N₃ l3 l4 => ?_
  k_steps
  exact hret _ _ _ _ (by k_asm) (by k_asm) ⟨rfl, ⟨_, _, .head _⟩, fun p hp => .tail _ (.tail _ (.tail _ hp))⟩
end
section
open PySem PySem.W PySem.Calls PyProof.Rows Builtin Builtin.ObjectAttr
section
variable {M : Model} {A : Around} {E : Value → Shared → Prop} {s' : Shared} {base g : Heap} {outer : List Env} {L a e : Addr} {m : Str → Option Value} {name : Str} {scope : Scope} {cd : Value} {Q : Unit → Shared → Prop} {news : Led}
/-- an exception of the ledger's own leaves the frame that raised it -/
theorem leave_led {ob : Obj} {a0 : Value} {vs : Array Value} (K : Below A base outer g) (F : Fr g L s'.heap m) (N : News g L s'.heap ((e, ob) :: news)) (hne : ∀ q ∈ news, q.1 ≠ e)
    (hd : ob.data = .fields vs) (h1 : vs[1]? = some .none) (h0 : vs[0]? = some a0)
    (hQ : ∀ h', RaisedSN base g outer e ob.cls news h' → RaisedN base outer e ob.cls news h' → g.UpToSlots h' → Q () { s' with heap := h' }) (hk : scope.kind = .function := by rfl) :
    wpAny M (A.deeper (envOf name scope L a cd)) (leaving (envOf name scope L a cd) (.ref e)) Q E s' := by
  have K' := K.push (name := name) (a := a) (cd := cd) F hk
  have ne0 : g.get? e = none := (N _ (.head _)).2.2
  have he := (N _ (.head _)).1
  have hin : ∀ env ∈ (envOf name scope L a cd :: outer), ∀ b, env.frame = some b → b ∈ (envOf name scope L a cd :: outer).filterMap (·.frame) := fun env he b hb => List.mem_filterMap.mpr ⟨env, he, hb⟩
  have nin : ∀ b, b ∈ e :: (envOf name scope L a cd :: outer).filterMap (·.frame) → b = e ∨ b ∈ (envOf name scope L a cd :: outer).filterMap (·.frame) := fun b hb => List.mem_cons.mp hb
  have st : base.StaysIn (hideAll s'.heap (e :: (envOf name scope L a cd :: outer).filterMap (·.frame))) := fun b o q => hideAll_get _ (K'.stays b o q) fun hm => by
    rcases nin _ hm with z | hm
    · rw [z, fresh_of_stays K.stays ne0] at q; cases q
    · rw [(K'.frames.mem hm).1] at q; cases q
  have sg : ∀ b o, g.get? b = some o → b ∉ outer.filterMap (·.frame) → (hideAll s'.heap (e :: (envOf name scope L a cd :: outer).filterMap (·.frame))).get? b = some o := fun b o q nm => hideAll_get _ (F.keep b o q) fun hm => by
    rcases nin _ hm with z | hm
    · rw [z, ne0] at q; cases q
    rcases kts_mem hm with z | z
    · rw [z, kts_self F] at q
      cases q
    · exact nm z
  have hl : ∀ q ∈ news, (hideAll s'.heap (e :: (envOf name scope L a cd :: outer).filterMap (·.frame))).get? q.1 = some q.2 ∧ g.get? q.1 = none ∧ base.get? q.1 = none := fun q hq => by
    have Nq := N q (.tail _ hq)
    refine ⟨hideAll_get _ Nq.1 fun hm => ?_, Nq.2.2, fresh_of_stays K.stays Nq.2.2⟩
    rcases nin _ hm with z | hm
    · exact hne q hq z
    obtain ⟨env, he, hf⟩ := List.mem_filterMap.mp hm
    rcases List.mem_cons.mp he with rfl | he
    · exact Nq.2.1 (Option.some.inj hf).symm
    · obtain ⟨o, ho, _⟩ := (K.frames.mem (List.mem_filterMap.mpr ⟨env, he, hf⟩)).2
      rw [Nq.2.2] at ho; cases ho
  have hen : (hideAll s'.heap (e :: (envOf name scope L a cd :: outer).filterMap (·.frame))).get? e = none := hideAll_none _ (.head _)
  refine wpAny_leaving_firstW (a0 := a0) K'.stack (funFrames_hide (K'.frames) fun env he b hb => .tail _ (hin env he b hb)) rfl he (fun b o hb => of_hideAll _ hb) hen hd h1 h0 fun h' hL => ?_
  obtain ⟨k1, ⟨_, _, k2⟩, k3, k4⟩ := hL
  have R : RaisedSN base g outer e ob.cls news h' := ⟨_, a0, st, sg, hl, k1, hen, k2, k3⟩
  exact hQ h' R R.toN ((Heap.UpToSlots.of_keeps F.keep).trans k4)
end
section
variable {prog : Program} {w : World} {A : Around} {E : Value → Shared → Prop} {s : Shared} {env : Env}
theorem raiseStmt_any {C : Addr} {nm q : Str} {N : Addr} {bs bm : List Value} {hdct : Bool} {sn : List Str} {sub : List Value} {ab : Bool} {col : Option Bool} {dd : Option Addr} {k0 k1 k2 k3 k5 : Option Value} {newId : String} {M : Model} {x : Sem Value} {Q : Flow → Shared → Prop} (hbase : bm.contains (.type "BaseException") = true) (hh : A.handled = none)
    (h : wpAny M A x (fun v s₁ => ∃ e t od, v = .ref e ∧ s₁.heap.get? C = some (excClassObj nm q C N bs bm hdct sn sub ab col dd k0 k1 k2 k3 k5 newId) ∧
      s₁.heap.get? e = some (excObj C t od) ∧ E (.ref e) s₁) E s) :
    wpAny M A (raiseStmt env (some x) none) Q E s := by
  have hcB : (Value.ref C :: bm).contains (.type "BaseException") = true := by rw [List.contains_cons, hbase, Bool.or_true]
  unfold raiseStmt
  refine wpAny_bind (wpAny_mono h (fun v s₁ h₁ => ?_) fun _ _ x => x)
  obtain ⟨e, t, od, rfl, hC, he, hE⟩ := h₁
  obtain ⟨hp, g, d, tk, os⟩ := s₁
  repeat (first | with_reducible refine wpAny_loadPart_at he ?_ | with_reducible refine wpAny_loadPart_at hC ?_ | (with_reducible refine wpAny_isSubtype_exc hC ?_; rw [hcB]) | wp_step)
  exact wpAny_raiseNew_none hh hE
end
section
variable {w : World} {E : Value → Shared → Prop} {s : Shared}
/-- raise TreeFault('..') -/
theorem raise_tf {p : Program} {loose : List Str} {mean : ExcName → Option Value} {mg mb : Str → Option Value} {dp un : Nat} {gd : Option (List Code)} {cn : Str} {cs : Scope} {a : Addr} {ccd : Value} {outer : List Env} {A₀ : Around} {base h₀ : Heap} {L : Addr} {m : Str → Option Value} {news : Led}
    {msg : Str} {np cpos pos kp : Pos} {kk : Nat} {Q : Flow → Shared → Prop}
    (B : Below A₀ base outer h₀) (F : Fr h₀ L s.heap m) (X : (hd.heap_39 w.params).In h₀) (N : News h₀ L s.heap news) (T : Top p loose mean mg mb h₀) (hk : cs.kind = .function)
    (hx : nsIn (hd.heap_39 w.params) mainGlobals "TreeFault" = some (some (.ref 51)))
    (hn : (envOf cn cs L a ccd).kindOf "TreeFault" = some .globalImplicit)
    (hi : findIn (hd.heap_39 w.params) (.ref 51) "__init__" = some (some (.ref 35))) (hf : typeIn (hd.heap_39 w.params) (.ref 35) = some (.type "function"))
    (hdp : dp + 11 < recursionLimit) (hu : un + 45 < cLine)
    (hE : ∀ e t₂ d h' tk', Fr h₀ L h' m → News h₀ L h' ((e, excObj 51 t₂ (some d)) :: news) → (∀ q ∈ news, q.1 ≠ e) → E (.ref e) { s with heap := h', toks := tk' }) :
    wpAny (model PySem.Challenge.rw_xw0201_01.row.prog w) (ktrTop dp un gd cn cs L a ccd [] outer) (exec (.Raise (some (.Call (.Name "TreeFault" np) [.Constant (.str msg) kk kp] [] cpos)) none pos) (envOf cn cs L a ccd)) Q E s := by
  obtain ⟨nm, q, Nn, bs, hdct, sn, sub, ab, col, dd, k0, k1, k2, k3, k5, hC⟩ := tf_at (tf_is w) X
  have hXs := X.keeps F.keep
  have hCs := F.keep _ _ hC
  have hbase : (excTail 38).contains (.type "BaseException") = true := by decide
  rw [arm_exec_Raise]
  have key : wpAny (model PySem.Challenge.rw_xw0201_01.row.prog w) (ktrTop dp un gd cn cs L a ccd [] outer) (eval (.Call (.Name "TreeFault" np) [.Constant (.str msg) kk kp] [] cpos) (envOf cn cs L a ccd))
      (fun v s₁ => ∃ e t od, v = .ref e ∧ s₁.heap.get? 51 = some (excClassObj nm q 51 Nn bs (excTail 38) hdct sn sub ab col dd k0 k1 k2 k3 k5 "Exception.__new__") ∧
      s₁.heap.get? e = some (excObj 51 t od) ∧ E (.ref e) s₁) E s := by
    refine wpAny_Call_ofName ?_
    refine name_K F X (topRead_of T) hx ?_ hk hn (by decide)
    unfold callWith
    refine wpAny_bind (wpAny_holding (wpAny_mono (Calls.evalArgs_plain (Q := fun a s₂ => a.kw = [] ∧ ∃ tk, a.pos = [.str msg tk] ∧ ∃ tk', s₂ = { s with toks := tk' }) ?_) (fun a s₂ h₂ => wpAny_bind (wpAny_standAt ?_)) fun _ _ x => x))
    · refine Calls.spliced_cons (Calls.Constant_str (k := kk) (pos := kp) ?_) 
      exact Calls.spliced_nil ⟨rfl, _, rfl, _, rfl⟩
    obtain ⟨apos, akw⟩ := a
    obtain ⟨hkw, tk, hp, tk', rfl⟩ := h₂
    obtain rfl : akw = [] := hkw
    obtain rfl : apos = _ := hp
    have hplain : (backTo cpos (starEach [.Constant (.str msg) kk kp] (envOf cn cs L a ccd))).any (·.1) = false := rfl
    simp only [hplain]
    refine wpAny_bind (wpAny_keeperOf_exc hCs ?_)
    refine wpAny_bind (tf_call (K := hd.heap_39 w.params) hXs hCs (fI := 35) hi hf fun h' e hm => ?_)
    have F1 := F.keeps hm.keeps
    obtain ⟨t, he, htn, ht⟩ := hm.there
    have hne : ∀ q ∈ news, q.1 ≠ e := fun q hq z => by have := (N q hq).1; rw [z, hm.new] at this; cases this
    have N1 : News h₀ L h' ((e, excObj 51 t none) :: news) := fun q hq => by
      rcases List.mem_cons.mp hq with rfl | hq
      · refine ⟨he, fun z => ?_, ?_⟩
        · obtain ⟨oL, _, _, hL, _⟩ := F.ns
          rw [← z, hm.new] at hL; cases hL
        · cases z : h₀.get? e with
          | none => rfl
          | some o => have := F.keep _ _ z; rw [hm.new] at this; cases this
      · exact ⟨hm.keeps _ _ (N q hq).1, (N q hq).2⟩
    refine init_ctr w e t msg tk news hne p loose mean mg mb _ _ _ cn cs a ccd [] outer A₀ base h₀ L m ⟨h', s.gens, s.drawn, tk', s.os⟩ _ _ B F1 X N1 T hk (by show dp + 1 + 10 < _; omega) (by have h9 : (Code.builtin "type.__call__" ⟨[Value.ref 51, Value.str msg tk], []⟩).cUnits ≤ 4 := (by (first | exact Nat.le_refl _ | exact Nat.le.step (Nat.le.step (Nat.le.step (Nat.le_refl _))))); (show un + (Code.builtin "type.__call__" ⟨[Value.ref 51, Value.str msg tk], []⟩).cUnits + 40 < cLine); omega) fun v h₂ tk₂ news' F2 N2 hP => ?_
    obtain ⟨rfl, ⟨t₂, d, hme⟩, hsub⟩ := hP
    refine ⟨rfl, wpAny_bind (wpAny_holding (wpAny_point (wpAny_pure ?_)))⟩
    refine ⟨e, t₂, some d, rfl, F2.keep _ _ hC, (N2 _ hme).1, ?_⟩
    refine hE e t₂ d h₂ tk₂ F2 (fun q hq => ?_) hne
    rcases List.mem_cons.mp hq with rfl | hq
    · exact N2 _ hme
    · exact N2 _ (hsub _ hq)
  refine wpAny_bind (wpAny_standAt (raiseStmt_any (C := 51) (nm := nm) (q := q) (N := Nn) (bs := bs) (bm := excTail 38) (hdct := hdct) (sn := sn) (sub := sub) (ab := ab) (col := col) (dd := dd) (k0 := k0) (k1 := k1) (k2 := k2) (k3 := k3) (k5 := k5) (newId := "Exception.__new__") hbase rfl ?_))
  exact (wpAny_bind (wpAny_mono key (fun v s₃ h₃ => wpAny_bind (wpAny_standAt (wpAny_pure h₃))) fun _ _ x => x))
end
end
section
open PySem PySem.W PySem.Calls PyProof.Rows
/-- a call that ends in a TreeFault, over any frame and any ledger -/
def RCtr (w : World) (f : Addr) (args : List Value) (news : Led) (dd uu : Nat) : Prop :=
  ∀ (p : Program) (loose : List Str) (mean : ExcName → Option Value) (mg mb : Str → Option Value) (dp un : Nat) (gd : Option (List Code)) (cn : Str) (cs : Scope) (a : Addr) (ccd : Value) (cl : List (Str × Addr)) (outer : List Env) (A₀ : Around) (base h₀ : Heap) (L : Addr) (m : Str → Option Value) (s : Shared) (Q E : Value → Shared → Prop),
    Below A₀ base outer h₀ → Fr h₀ L s.heap m → (hd.heap_39 w.params).In h₀ → News h₀ L s.heap news → Top p loose mean mg mb h₀ → cs.kind = .function →
    dp + dd < recursionLimit → un + uu < cLine →
    (∀ e G h' tk', Fr h₀ L G m → RaisedSN base G (envX cn cs L a ccd cl :: outer) e (.ref 51) news h' → G.UpToSlots h' → E (.ref e) { s with heap := h', toks := tk' }) →
    wpAny (model PySem.Challenge.rw_xw0201_01.row.prog w) (ktrTop dp un gd cn cs L a ccd cl outer) (call (.ref f) args) Q E s
theorem isList_of {h₀ h : Heap} {L a : Addr} {news : Led} {vs : Array Value} {c : Nat} (N : News h₀ L h news) (hm : (a, listOf vs c) ∈ news) : h.IsList a vs := ⟨_, (N _ hm).1, rfl, c, rfl⟩
section
variable {w : World} {f : Addr} {args : List Value} {news : Led} {dd uu : Nat} {p : Program} {loose : List Str} {mean : ExcName → Option Value} {mg mb : Str → Option Value} {dp un : Nat} {gd : Option (List Code)} {cn : Str} {cs : Scope} {a : Addr} {ccd : Value} {cl : List (Str × Addr)} {outer : List Env} {A₀ : Around} {base h₀ : Heap} {L : Addr} {m : Str → Option Value} {s : Shared} {Q E : Value → Shared → Prop}
theorem use_ctr {Post : Value → Led → Prop} (C : Ctr w f args news dd uu Post) (B : Below A₀ base outer h₀) (F : Fr h₀ L s.heap m) (X : (hd.heap_39 w.params).In h₀) (N : News h₀ L s.heap news) (T : Top p loose mean mg mb h₀) (hk : cs.kind = .function)
    (hd : dp + dd < recursionLimit) (hu : un + uu < cLine) (h : ∀ v h' tk' news', Fr h₀ L h' m → News h₀ L h' news' → Post v news' → Q v { s with heap := h', toks := tk' }) :
    wpAny (model PySem.Challenge.rw_xw0201_01.row.prog w) (ktrTop dp un gd cn cs L a ccd cl outer) (call (.ref f) args) Q E s :=
  C _ _ _ _ _ _ _ _ _ _ _ _ _ _ _ _ _ _ _ _ _ _ B F X N T hk hd hu h
theorem use_rctr (C : RCtr w f args news dd uu) (B : Below A₀ base outer h₀) (F : Fr h₀ L s.heap m) (X : (hd.heap_39 w.params).In h₀) (N : News h₀ L s.heap news) (T : Top p loose mean mg mb h₀) (hk : cs.kind = .function)
    (hd : dp + dd < recursionLimit) (hu : un + uu < cLine) (h : ∀ e G h' tk', Fr h₀ L G m → RaisedSN base G (envX cn cs L a ccd cl :: outer) e (.ref 51) news h' → G.UpToSlots h' → E (.ref e) { s with heap := h', toks := tk' }) :
    wpAny (model PySem.Challenge.rw_xw0201_01.row.prog w) (ktrTop dp un gd cn cs L a ccd cl outer) (call (.ref f) args) Q E s :=
  C _ _ _ _ _ _ _ _ _ _ _ _ _ _ _ _ _ _ _ _ _ _ B F X N T hk hd hu h
end
abbrev rowsD (w : World) (tkr : Tok) (rl : Addr) : Obj := dictOf [⟨PyData.keyHash w.params "rows", .str "rows" tkr, .ref rl⟩] 1
abbrev rowD (w : World) (t : Nat → Tok) (kind name uri loc value : Str) (par : Value) (c x y : Addr) : Obj :=
  dictOf [⟨PyData.keyHash w.params "kind", .str "kind" (t 0), .str kind (t 1)⟩, ⟨PyData.keyHash w.params "name", .str "name" (t 2), .str name (t 3)⟩, ⟨PyData.keyHash w.params "uri", .str "uri" (t 4), .str uri (t 5)⟩,
    ⟨PyData.keyHash w.params "local", .str "local" (t 6), .str loc (t 7)⟩, ⟨PyData.keyHash w.params "value", .str "value" (t 8), .str value (t 9)⟩, ⟨PyData.keyHash w.params "parent", .str "parent" (t 10), par⟩,
    ⟨PyData.keyHash w.params "children", .str "children" (t 11), .ref c⟩, ⟨PyData.keyHash w.params "attributes", .str "attributes" (t 12), .ref x⟩, ⟨PyData.keyHash w.params "namespaces", .str "namespaces" (t 13), .ref y⟩] 9
section
variable {prog : Program} {w : World} {A : Around} {E : Value → Shared → Prop} {s : Shared} {h₀ : Heap} {L : Addr} {news : Led}
theorem len_led {D : Addr} {vs : List Value} {c : Nat} {Q : Value → Shared → Prop} (N : News h₀ L s.heap news) (hm : (D, listOf vs.toArray c) ∈ news) (hf : vs.length ≤ 2 ^ 20) (h : Q (.int (vs.length : Int) (s.toks + 1)) { s with toks := s.toks + 1 + 1 }) :
    wpAny (model prog w) A (call (.builtin "len") [.ref D]) Q E s :=
  len_list (isList_of N hm) (by simp; omega) (by simpa using h)
theorem item_led {value slice : PySem.Expr} {D : Addr} {vs : List Value} {c : Nat} {k : Int} {u : Tok} {v : Value} {Q : Value → Shared → Prop} (N : News h₀ L s.heap news) (hm : (D, listOf vs.toArray c) ∈ news)
    (h0 : 0 ≤ k) (hhi : k < 2 ^ 63) (hx : vs[k.toNat]? = some v) (h : Q v s)
    (hs : subscripted slice false (.ref D) (.int k u) = operate [.ref D, .int k u] (getItem (.ref D) (.int k u)) := by with_unfolding_all rfl) :
    wpAny (model prog w) A (subscriptTail value slice (.ref D) (.int k u)) Q E s :=
  tail_any (isList_of N hm).typeIs slot_list_getitem.lookup (wpAny_getItem_list (isList_of N hm) h0 hhi (by simpa using hx) h) hs
end
end
local macro_rules | `(tactic| is_list) => `(tactic| exact isList_of (by k_asm) (by k_mem))
local macro_rules | `(tactic| k_mem) => `(tactic| assumption)
local macro_rules | `(tactic| k_room) => `(tactic| ktr_room)
local macro_rules | `(tactic| size_fits) => `(tactic| (rw [PySem.sizeLine_eq]; (try simp only [List.size_toArray, List.length_append, List.length_cons, List.length_nil, Array.size_push]); omega))
local macro_rules | `(tactic| k_handed) => `(tactic| assumption)
section
open PySem PySem.W PySem.Calls PyProof.Rows
theorem ln_Row1_0 : True := by
  w_top off
  k_with_none
  k_with "call builtin:len" => (k_here; (with_reducible show wpAny _ _ (call (Value.builtin "len") [Value.ref _]) _ _ _); k_dflt (refine' len_led ?k1 ?k2 ?k3 ?_; (case k1 => k_asm); (case k2 => (repeat' (first | assumption | exact List.Mem.head _ | refine List.Mem.tail _ ?_))); (case k3 => ((try simp only [List.length_cons, List.length_nil, List.length_append, List.length_map]); omega)); k_whole); (try dsimp only))
  k_with "subscriptTail" => (k_here; (with_reducible show wpAny _ _ (subscriptTail _ _ (Value.ref _) (Value.int _ _)) _ _ _); k_dflt (refine' item_led ?k1 ?k2 ?k3 ?k4 ?k5 ?_ ?k6; (case k1 => k_asm); (case k2 => (repeat' (first | assumption | exact List.Mem.head _ | refine List.Mem.tail _ ?_))); (case k3 => omega); (case k4 => omega); (case k5 => (first | assumption | (rw [List.getElem?_append_left (by omega)]; assumption))); (case k6 => with_unfolding_all rfl); k_whole); (try dsimp only))
  k_with "exec Raise some none" => (k_here; (with_reducible show wpAny _ _ (exec (Stmt.Raise (some (Expr.Call (Expr.Name (Str.ofString "TreeFault") _) [Expr.Constant (Const.str _) _ _] [] _)) none _) _) _ _ _); k_dflt (refine' raise_tf ?kB ?kF ?kX ?kN ?kT ?kk ?kx ?kn ?ki ?kf ?kd ?ku ?_; (case kB => k_asm); (case kF => k_asm); (case kX => k_asm); (case kN => k_asm); (case kT => assumption); (case kk => rfl); (case kx => k_is); (case kn => rfl); (case ki => k_is); (case kf => k_is); (case kd => ktr_room); (case ku => ktr_units); k_whole); intro eω tω dω hω tkω Fω Nω neω)
  k_with "leaving ref" => (k_here; k_dflt (refine' leave_led ?kK ?kF ?kN ?kne ?kd ?k1 ?k0 ?_; (case kF => k_asm); (case kN => k_asm); (case kK => k_asm); (case kne => k_asm); (case kd => rfl); (case k1 => rfl); (case k0 => rfl); k_whole); intro hω Sω Rω Uω; (try dsimp only at Sω Rω Uω ⊢))
  k_with "leaving ref" => (k_here; k_dflt (refine' leave_onSN ?k1 ?k2 ?k3 ?k4 ?_; (case k3 => assumption); (case k2 => assumption); (case k1 => assumption); (case k4 => assumption); k_whole); intro hω Sω Rω Uω; (try dsimp only at Sω Rω Uω ⊢))
  k_with "getAttr ref" => (k_here; k_dflt (refine' get_own ?k1 ?k2 ?k3 ?k4 ?k5 ?k6 ?k7 ?k8 ?k9 ?_; (case k1 => k_asm); (case k2 => k_asm); (case k3 => k_inst); (case k4 => k_is); (case k5 => k_is); (case k6 => k_is); (case k7 => k_is); (case k8 => k_get); (case k9 => k_handed); k_whole); (try dsimp only))
  k_with "eval Constant int" => (k_here; refine wpAny_Constant_int ?_; (try dsimp only))
  k_with "eval Constant str" => (k_here; refine Calls.Constant_str ?_; (try dsimp only))
  trivial
theorem row_ok (w : World) (tr dT rl : Addr) (tkr : Tok) (vs : List Value) (c : Nat) (news : Led) (k : Int) (tk : Tok) (v : Value)
    (h1 : (tr, instObj 260 dT) ∈ news) (h2 : (dT, dictOf [⟨PyData.keyHash w.params "rows", .str "rows" tkr, .ref rl⟩] 1) ∈ news) (h3 : (rl, listOf vs.toArray c) ∈ news)
    (k0 : 0 ≤ k) (k1 : k < (vs.length : Int)) (hv : vs[k.toNat]? = some v) (hl : vs.length ≤ 100) :
   Ctr w 103 [.ref tr, .int k tk] news 10 40 (fun v' news' => v' = v ∧ news' = news) := by
  unfold Ctr
  k_fill
  intro p loose mean mg mb dp un gd cn cs aa ccd cl outer A₀ base h₀ L m s Q E B F X N T hk hd hu hret
  refine wpAny_call ?_
  k_dflt ktr_enter
  k_steps
  exact hret _ _ _ _ (by k_asm) (by k_asm) ⟨rfl, rfl⟩
theorem row_bad (w : World) (tr dT rl : Addr) (tkr : Tok) (vs : List Value) (c : Nat) (news : Led) (k : Int) (tk : Tok)
    (h1 : (tr, instObj 260 dT) ∈ news) (h2 : (dT, dictOf [⟨PyData.keyHash w.params "rows", .str "rows" tkr, .ref rl⟩] 1) ∈ news) (h3 : (rl, listOf vs.toArray c) ∈ news)
    (hk : k < 0 ∨ (vs.length : Int) ≤ k) (hl : vs.length ≤ 100) :
   RCtr w 103 [.ref tr, .int k tk] news 20 80 := by
  unfold RCtr
  k_fill
  intro p loose mean mg mb dp un gd cn cs aa ccd cl outer A₀ base h₀ L m s Q E B F X N T hk hd hu hret
  refine wpAny_call ?_
  k_dflt ktr_enter
  k_steps
  all_goals exact hret _ _ _ _ (by k_asm) (by k_asm) (by k_asm)
end
section
open PySem PySem.W PySem.Calls PyProof.Rows
theorem ln_Meth_0 : True := by
  w_top off
  k_with_none
  k_with "call builtin:len" => (k_here; (with_reducible show wpAny _ _ (call (Value.builtin "len") [Value.ref _]) _ _ _); k_dflt (refine' len_led ?k1 ?k2 ?k3 ?_; (case k1 => k_asm); (case k2 => (repeat' (first | assumption | exact List.Mem.head _ | refine List.Mem.tail _ ?_))); (case k3 => ((try simp only [List.length_cons, List.length_nil, List.length_append, List.length_map]); omega)); k_whole); (try dsimp only))
  k_with "subscriptTail" => (k_here; (with_reducible show wpAny _ _ (subscriptTail _ _ (Value.ref _) (Value.int _ _)) _ _ _); k_dflt (refine' item_led ?k1 ?k2 ?k3 ?k4 ?k5 ?_ ?k6; (case k1 => k_asm); (case k2 => (repeat' (first | assumption | exact List.Mem.head _ | refine List.Mem.tail _ ?_))); (case k3 => omega); (case k4 => omega); (case k5 => (first | assumption | (rw [List.getElem?_append_left (by omega)]; assumption))); (case k6 => with_unfolding_all rfl); k_whole); (try dsimp only))
  k_with "exec Raise some none" => (k_here; (with_reducible show wpAny _ _ (exec (Stmt.Raise (some (Expr.Call (Expr.Name (Str.ofString "TreeFault") _) [Expr.Constant (Const.str _) _ _] [] _)) none _) _) _ _ _); k_dflt (refine' raise_tf ?kB ?kF ?kX ?kN ?kT ?kk ?kx ?kn ?ki ?kf ?kd ?ku ?_; (case kB => k_asm); (case kF => k_asm); (case kX => k_asm); (case kN => k_asm); (case kT => assumption); (case kk => rfl); (case kx => k_is); (case kn => rfl); (case ki => k_is); (case kf => k_is); (case kd => ktr_room); (case ku => ktr_units); k_whole); intro eω tω dω hω tkω Fω Nω neω)
  k_with "leaving ref" => (k_here; k_dflt (refine' leave_led ?kK ?kF ?kN ?kne ?kd ?k1 ?k0 ?_; (case kF => k_asm); (case kN => k_asm); (case kK => k_asm); (case kne => k_asm); (case kd => rfl); (case k1 => rfl); (case k0 => rfl); k_whole); intro hω Sω Rω Uω; (try dsimp only at Sω Rω Uω ⊢))
  k_with "leaving ref" => (k_here; k_dflt (refine' leave_onSN ?k1 ?k2 ?k3 ?k4 ?_; (case k3 => assumption); (case k2 => assumption); (case k1 => assumption); (case k4 => assumption); k_whole); intro hω Sω Rω Uω; (try dsimp only at Sω Rω Uω ⊢))
  k_with "getAttr ref" => (k_here; k_dflt (refine' get_own ?k1 ?k2 ?k3 ?k4 ?k5 ?k6 ?k7 ?k8 ?k9 ?_; (case k1 => k_asm); (case k2 => k_asm); (case k3 => k_inst); (case k4 => k_is); (case k5 => k_is); (case k6 => k_is); (case k7 => k_is); (case k8 => k_get); (case k9 => k_handed); k_whole); (try dsimp only))
  k_with "eval Constant int" => (k_here; refine wpAny_Constant_int ?_; (try dsimp only))
  k_with "eval Constant str" => (k_here; refine Calls.Constant_str ?_; (try dsimp only))
  k_with "call ref" => (k_here; (with_reducible show wpAny _ _ (call (Value.ref 103) _) _ _ _); k_dflt (refine' use_ctr (row_ok _ _ _ _ _ _ _ _ _ _ _ ?q1 ?q2 ?q3 ?q4 ?q5 ?q6 ?q7) ?uB ?uF ?uX ?uN ?uT ?uk ?ud ?uu ?_; (case uF => k_asm); (case uN => k_asm); (case uB => k_asm); (case uX => k_asm); (case uT => assumption); (case uk => rfl); (case q1 => (repeat' (first | assumption | exact List.Mem.head _ | refine List.Mem.tail _ ?_))); (case q2 => (repeat' (first | assumption | exact List.Mem.head _ | refine List.Mem.tail _ ?_))); (case q3 => (repeat' (first | assumption | exact List.Mem.head _ | refine List.Mem.tail _ ?_))); (case q4 => omega); (case q5 => omega); (case q6 => assumption); (case q7 => assumption); (case ud => ktr_room); (case uu => ktr_units); k_whole); intro vω hω tkω nω Fω Nω hPω; obtain ⟨e1ω, e2ω⟩ := hPω; subst e1ω; subst e2ω; (try dsimp only))
  k_with "call ref" => (k_here; (with_reducible show wpAny _ _ (call (Value.ref 103) _) _ _ _); k_dflt (refine' use_rctr (row_bad _ _ _ _ _ _ _ _ _ _ ?q1 ?q2 ?q3 ?q4 ?q7) ?uB ?uF ?uX ?uN ?uT ?uk ?ud ?uu ?_; (case uF => k_asm); (case uN => k_asm); (case uB => k_asm); (case uX => k_asm); (case uT => assumption); (case uk => rfl); (case q1 => (repeat' (first | assumption | exact List.Mem.head _ | refine List.Mem.tail _ ?_))); (case q2 => (repeat' (first | assumption | exact List.Mem.head _ | refine List.Mem.tail _ ?_))); (case q3 => (repeat' (first | assumption | exact List.Mem.head _ | refine List.Mem.tail _ ?_))); (case q4 => omega); (case q7 => assumption); (case ud => ktr_room); (case uu => ktr_units); k_whole); intro eω Gω hω tkω FGω Sω Uω; (try dsimp only))
  trivial
section
variable (w : World) (tr dT rl : Addr) (tkr : Tok) (vs : List Value) (c : Nat) (news : Led) (k : Int) (tk : Tok)
    (h1 : (tr, instObj 260 dT) ∈ news) (h2 : (dT, rowsD w tkr rl) ∈ news) (h3 : (rl, listOf vs.toArray c) ∈ news)
include h1 h2 h3
theorem kind_ok (a d cc x y : Addr) (t : Nat → Tok) (kind name uri loc value : Str) (par : Value) (h4 : (a, instObj 71 d) ∈ news) (h5 : (d, rowD w t kind name uri loc value par cc x y) ∈ news)
    (k0 : 0 ≤ k) (k1 : k < (vs.length : Int)) (hv : vs[k.toNat]? = some (.ref a)) (hl : vs.length ≤ 100) :
   Ctr w 180 [.ref tr, .int k tk] news 20 80 (fun v' news' => v' = .str kind (t 1) ∧ news' = news) := by
  unfold Ctr
  k_fill
  intro p loose mean mg mb dp un gd cn cs aa ccd cl outer A₀ base h₀ L m s Q E B F X N T hk hd hu hret
  refine wpAny_call ?_
  k_dflt ktr_enter
  k_steps
  exact hret _ _ _ _ (by k_asm) (by k_asm) ⟨rfl, rfl⟩
theorem name_ok (a d cc x y : Addr) (t : Nat → Tok) (kind name uri loc value : Str) (par : Value) (h4 : (a, instObj 71 d) ∈ news) (h5 : (d, rowD w t kind name uri loc value par cc x y) ∈ news)
    (k0 : 0 ≤ k) (k1 : k < (vs.length : Int)) (hv : vs[k.toNat]? = some (.ref a)) (hl : vs.length ≤ 100) :
   Ctr w 187 [.ref tr, .int k tk] news 20 80 (fun v' news' => v' = .str name (t 3) ∧ news' = news) := by
  unfold Ctr
  k_fill
  intro p loose mean mg mb dp un gd cn cs aa ccd cl outer A₀ base h₀ L m s Q E B F X N T hk hd hu hret
  refine wpAny_call ?_
  k_dflt ktr_enter
  k_steps
  exact hret _ _ _ _ (by k_asm) (by k_asm) ⟨rfl, rfl⟩
theorem uri_ok (a d cc x y : Addr) (t : Nat → Tok) (kind name uri loc value : Str) (par : Value) (h4 : (a, instObj 71 d) ∈ news) (h5 : (d, rowD w t kind name uri loc value par cc x y) ∈ news)
    (k0 : 0 ≤ k) (k1 : k < (vs.length : Int)) (hv : vs[k.toNat]? = some (.ref a)) (hl : vs.length ≤ 100) :
   Ctr w 194 [.ref tr, .int k tk] news 20 80 (fun v' news' => v' = .str uri (t 5) ∧ news' = news) := by
  unfold Ctr
  k_fill
  intro p loose mean mg mb dp un gd cn cs aa ccd cl outer A₀ base h₀ L m s Q E B F X N T hk hd hu hret
  refine wpAny_call ?_
  k_dflt ktr_enter
  k_steps
  exact hret _ _ _ _ (by k_asm) (by k_asm) ⟨rfl, rfl⟩
theorem loc_ok (a d cc x y : Addr) (t : Nat → Tok) (kind name uri loc value : Str) (par : Value) (h4 : (a, instObj 71 d) ∈ news) (h5 : (d, rowD w t kind name uri loc value par cc x y) ∈ news)
    (k0 : 0 ≤ k) (k1 : k < (vs.length : Int)) (hv : vs[k.toNat]? = some (.ref a)) (hl : vs.length ≤ 100) :
   Ctr w 201 [.ref tr, .int k tk] news 20 80 (fun v' news' => v' = .str loc (t 7) ∧ news' = news) := by
  unfold Ctr
  k_fill
  intro p loose mean mg mb dp un gd cn cs aa ccd cl outer A₀ base h₀ L m s Q E B F X N T hk hd hu hret
  refine wpAny_call ?_
  k_dflt ktr_enter
  k_steps
  exact hret _ _ _ _ (by k_asm) (by k_asm) ⟨rfl, rfl⟩
theorem value_ok (a d cc x y : Addr) (t : Nat → Tok) (kind name uri loc value : Str) (par : Value) (h4 : (a, instObj 71 d) ∈ news) (h5 : (d, rowD w t kind name uri loc value par cc x y) ∈ news)
    (k0 : 0 ≤ k) (k1 : k < (vs.length : Int)) (hv : vs[k.toNat]? = some (.ref a)) (hl : vs.length ≤ 100) :
   Ctr w 208 [.ref tr, .int k tk] news 20 80 (fun v' news' => v' = .str value (t 9) ∧ news' = news) := by
  unfold Ctr
  k_fill
  intro p loose mean mg mb dp un gd cn cs aa ccd cl outer A₀ base h₀ L m s Q E B F X N T hk hd hu hret
  refine wpAny_call ?_
  k_dflt ktr_enter
  k_steps
  exact hret _ _ _ _ (by k_asm) (by k_asm) ⟨rfl, rfl⟩
theorem parent_ok (a d cc x y : Addr) (t : Nat → Tok) (kind name uri loc value : Str) (par : Value) (h4 : (a, instObj 71 d) ∈ news) (h5 : (d, rowD w t kind name uri loc value par cc x y) ∈ news)
    (k0 : 0 ≤ k) (k1 : k < (vs.length : Int)) (hv : vs[k.toNat]? = some (.ref a)) (hl : vs.length ≤ 100) (hpar : par = .none ∨ ∃ i ti, par = .int i ti) :
   Ctr w 215 [.ref tr, .int k tk] news 20 80 (fun v' news' => v' = par ∧ news' = news) := by
  rcases hpar with rfl | ⟨i, ti, rfl⟩
  all_goals
    unfold Ctr
    k_fill
    intro p loose mean mg mb dp un gd cn cs aa ccd cl outer A₀ base h₀ L m s Q E B F X N T hk hd hu hret
    refine wpAny_call ?_
    k_dflt ktr_enter
    k_steps
    exact hret _ _ _ _ (by k_asm) (by k_asm) ⟨rfl, rfl⟩
theorem children_ok (a d cc x y : Addr) (t : Nat → Tok) (kind name uri loc value : Str) (par : Value) (h4 : (a, instObj 71 d) ∈ news) (h5 : (d, rowD w t kind name uri loc value par cc x y) ∈ news)
    (k0 : 0 ≤ k) (k1 : k < (vs.length : Int)) (hv : vs[k.toNat]? = some (.ref a)) (hl : vs.length ≤ 100) (ch : List Value) (cn' : Nat) (h6 : (cc, listOf ch.toArray cn') ∈ news) (hch : ch.length ≤ 100) :
   Ctr w 222 [.ref tr, .int k tk] news 20 80 (fun v' news' => ∃ D c', v' = .ref D ∧ news' = (D, listOf ch.toArray c') :: news) := by
  unfold Ctr
  k_fill
  intro p loose mean mg mb dp un gd cn cs aa ccd cl outer A₀ base h₀ L m s Q E B F X N T hk hd hu hret
  refine wpAny_call ?_
  k_dflt ktr_enter
  k_steps
  exact hret _ _ _ _ (by k_asm) (by k_asm) ⟨_, _, rfl, rfl⟩
theorem erow_ok (a d cc x y : Addr) (t : Nat → Tok) (kind name uri loc value : Str) (par : Value) (h4 : (a, instObj 71 d) ∈ news) (h5 : (d, rowD w t kind name uri loc value par cc x y) ∈ news)
    (k0 : 0 ≤ k) (k1 : k < (vs.length : Int)) (hv : vs[k.toNat]? = some (.ref a)) (hl : vs.length ≤ 100) (hkd : kind = "element") :
   Ctr w 152 [.ref tr, .int k tk] news 20 80 (fun v' news' => v' = .ref a ∧ news' = news) := by
  subst hkd
  unfold Ctr
  k_fill
  intro p loose mean mg mb dp un gd cn cs aa ccd cl outer A₀ base h₀ L m s Q E B F X N T hk hd hu hret
  refine wpAny_call ?_
  k_dflt ktr_enter
  k_steps
  exact hret _ _ _ _ (by k_asm) (by k_asm) ⟨rfl, rfl⟩
theorem erow_no (a d cc x y : Addr) (t : Nat → Tok) (kind name uri loc value : Str) (par : Value) (h4 : (a, instObj 71 d) ∈ news) (h5 : (d, rowD w t kind name uri loc value par cc x y) ∈ news)
    (k0 : 0 ≤ k) (k1 : k < (vs.length : Int)) (hv : vs[k.toNat]? = some (.ref a)) (hl : vs.length ≤ 100) (hkd : kind ≠ "element") :
   RCtr w 152 [.ref tr, .int k tk] news 30 120 := by
  unfold RCtr
  k_fill
  intro p loose mean mg mb dp un gd cn cs aa ccd cl outer A₀ base h₀ L m s Q E B F X N T hk hd hu hret
  refine wpAny_call ?_
  k_dflt ktr_enter
  k_steps
  all_goals first | exact hret _ _ _ _ (by k_asm) (by k_asm) (by k_asm) | (exfalso; simp_all)
theorem kind_bad (hk : k < 0 ∨ (vs.length : Int) ≤ k) (hl : vs.length ≤ 100) :
   RCtr w 180 [.ref tr, .int k tk] news 30 120 := by
  unfold RCtr
  k_fill
  intro p loose mean mg mb dp un gd cn cs aa ccd cl outer A₀ base h₀ L m s Q E B F X N T hk hd hu hret
  refine wpAny_call ?_
  k_dflt ktr_enter
  k_steps
  all_goals exact hret _ _ _ _ (by k_asm) (by k_asm) (by k_asm)
theorem erow_bad (hk : k < 0 ∨ (vs.length : Int) ≤ k) (hl : vs.length ≤ 100) :
   RCtr w 152 [.ref tr, .int k tk] news 30 120 := by
  unfold RCtr
  k_fill
  intro p loose mean mg mb dp un gd cn cs aa ccd cl outer A₀ base h₀ L m s Q E B F X N T hk hd hu hret
  refine wpAny_call ?_
  k_dflt ktr_enter
  k_steps
  all_goals exact hret _ _ _ _ (by k_asm) (by k_asm) (by k_asm)
end
end
section
open PySem PySem.W PySem.Calls PyProof.Rows
def isPar (k : Str) : Bool := k == "root" || k == "element"
theorem isPar_any (k : Str) {b : Bool} (h : isPar k = b) : (["root", "element"] : List Str).any (· == k) = b := by
  rw [← h, Bool.eq_iff_iff]
  simp only [List.any_cons, List.any_nil, Bool.or_false, Bool.or_eq_true, beq_iff_eq, isPar]
  constructor
  · rintro (h | h) <;> simp [← h]
  · rintro (h | h) <;> simp [h]
section
variable {prog : Program} {w : World} {A : Around} {E : Value → Shared → Prop} {s : Shared} {h₀ : Heap} {L a : Addr} {m : Str → Option Value} {K : Frag} {news : Led}
theorem in_parT {k : Str} {t t1 t2 : Tok} {dd : Option Addr} {n : Nat} {sl : Array (Option Value)} {b : Bool} {Q : Value → Shared → Prop} (F : Fr h₀ L s.heap m) (X₀ : K.In h₀) (hl : K.lookup a = some ⟨.type "tuple", dd, .seq [.str "root" t1, .str "element" t2].toArray n, sl⟩)
    (hp : isPar k = b) (h : Q (.bool b) s) : wpAny (model prog w) A (compareOp .In (.str k t) (.ref a)) Q E s :=
  in_tuple_strs (tupK (X₀.keeps F.keep) hl) (by repeat constructor) (by rw [isPar_any k hp]; exact h)
theorem notin_parT {k : Str} {t t1 t2 : Tok} {dd : Option Addr} {n : Nat} {sl : Array (Option Value)} {b : Bool} {Q : Value → Shared → Prop} (F : Fr h₀ L s.heap m) (X₀ : K.In h₀) (hl : K.lookup a = some ⟨.type "tuple", dd, .seq [.str "root" t1, .str "element" t2].toArray n, sl⟩)
    (hp : isPar k = b) (h : Q (.bool (!b)) s) : wpAny (model prog w) A (compareOp .NotIn (.str k t) (.ref a)) Q E s :=
  notin_tuple_strs (tupK (X₀.keeps F.keep) hl) (by repeat constructor) (by rw [isPar_any k hp]; exact h)
theorem in_parL {k : Str} {t t1 t2 : Tok} {c : Nat} {b : Bool} {Q : Value → Shared → Prop} (N : News h₀ L s.heap news) (hm : (a, listOf [.str "root" t1, .str "element" t2].toArray c) ∈ news)
    (hp : isPar k = b) (h : Q (.bool b) s) : wpAny (model prog w) A (compareOp .In (.str k t) (.ref a)) Q E s :=
  in_list_strs (isList_of N hm) (by repeat constructor) (by rw [isPar_any k hp]; exact h)
end
theorem ne_cons {a b : Addr} {o : Obj} {rest : Led} (h : a ≠ b) (hr : ∀ p ∈ rest, p.1 ≠ b) : ∀ p ∈ (a, o) :: rest, p.1 ≠ b := fun p hp => by
  rcases List.mem_cons.mp hp with rfl | hp
  · exact h
  · exact hr p hp
theorem ne_of_allLt {d : Addr} : ∀ {rest : Led}, AllLt d rest → ∀ p ∈ rest, p.1 ≠ d
  | [], _, _, h => nomatch h
  | _ :: _, ⟨h, hr⟩, p, hp => by
    rcases List.mem_cons.mp hp with rfl | hp
    · exact Nat.ne_of_lt h
    · exact ne_of_allLt hr p hp
def Fresh5 (rl d a cc x y : Nat) (rest : Led) : Prop := (rl < d ∧ AllLt d rest) ∧ d < a ∧ (a < cc ∧ d < cc ∧ rl < cc ∧ AllLt cc rest) ∧ (cc < x ∧ a < x ∧ d < x ∧ rl < x ∧ AllLt x rest) ∧ (x < y ∧ cc < y ∧ a < y ∧ d < y ∧ rl < y ∧ AllLt y rest)
theorem rowD_ex {w : World} {t0 t1 t2 t3 t4 t5 t6 t7 t8 t9 t10 t11 t12 t13 : Tok} {kind name uri loc value : Str} {par : Value} {c x y : Addr} :
  ∃ t, dictOf [⟨PyData.keyHash w.params "kind", .str "kind" t0, .str kind t1⟩, ⟨PyData.keyHash w.params "name", .str "name" t2, .str name t3⟩, ⟨PyData.keyHash w.params "uri", .str "uri" t4, .str uri t5⟩,
    ⟨PyData.keyHash w.params "local", .str "local" t6, .str loc t7⟩, ⟨PyData.keyHash w.params "value", .str "value" t8, .str value t9⟩, ⟨PyData.keyHash w.params "parent", .str "parent" t10, par⟩,
    ⟨PyData.keyHash w.params "children", .str "children" t11, .ref c⟩, ⟨PyData.keyHash w.params "attributes", .str "attributes" t12, .ref x⟩, ⟨PyData.keyHash w.params "namespaces", .str "namespaces" t13, .ref y⟩] 9
   = rowD w t kind name uri loc value par c x y :=
  ⟨fun i => match i with | 0 => t0 | 1 => t1 | 2 => t2 | 3 => t3 | 4 => t4 | 5 => t5 | 6 => t6 | 7 => t7 | 8 => t8 | 9 => t9 | 10 => t10 | 11 => t11 | 12 => t12 | _ => t13, rfl⟩
end
local macro_rules | `(tactic| k_all) => `(tactic| (refine ne_of_allLt ?_; first | assumption | exact And.right (by assumption) | exact And.right (And.right (by assumption)) | exact And.right (And.right (And.right (by assumption))) | exact And.right (And.right (And.right (And.right (by assumption)))) | exact And.right (And.right (And.right (And.right (And.right (by assumption)))))))
section
open PySem PySem.W PySem.Calls PyProof.Rows
theorem ln_Store_0 : True := by
  w_top off
  k_with_none
  k_with "call builtin:len" => (k_here; (with_reducible show wpAny _ _ (call (Value.builtin "len") [Value.ref _]) _ _ _); k_dflt (refine' len_led ?k1 ?k2 ?k3 ?_; (case k1 => k_asm); (case k2 => (repeat' (first | assumption | exact List.Mem.head _ | refine List.Mem.tail _ ?_))); (case k3 => ((try simp only [List.length_cons, List.length_nil, List.length_append, List.length_map]); omega)); k_whole); (try dsimp only))
  k_with "subscriptTail" => (k_here; (with_reducible show wpAny _ _ (subscriptTail _ _ (Value.ref _) (Value.int _ _)) _ _ _); k_dflt (refine' item_led ?k1 ?k2 ?k3 ?k4 ?k5 ?_ ?k6; (case k1 => k_asm); (case k2 => (repeat' (first | assumption | exact List.Mem.head _ | refine List.Mem.tail _ ?_))); (case k3 => omega); (case k4 => omega); (case k5 => (first | assumption | (rw [List.getElem?_append_left (by omega)]; assumption))); (case k6 => with_unfolding_all rfl); k_whole); (try dsimp only))
  k_with "exec Raise some none" => (k_here; (with_reducible show wpAny _ _ (exec (Stmt.Raise (some (Expr.Call (Expr.Name (Str.ofString "TreeFault") _) [Expr.Constant (Const.str _) _ _] [] _)) none _) _) _ _ _); k_dflt (refine' raise_tf ?kB ?kF ?kX ?kN ?kT ?kk ?kx ?kn ?ki ?kf ?kd ?ku ?_; (case kB => k_asm); (case kF => k_asm); (case kX => k_asm); (case kN => k_asm); (case kT => assumption); (case kk => rfl); (case kx => k_is); (case kn => rfl); (case ki => k_is); (case kf => k_is); (case kd => ktr_room); (case ku => ktr_units); k_whole); intro eω tω dω hω tkω Fω Nω neω)
  k_with "leaving ref" => (k_here; k_dflt (refine' leave_led ?kK ?kF ?kN ?kne ?kd ?k1 ?k0 ?_; (case kF => k_asm); (case kN => k_asm); (case kK => k_asm); (case kne => k_asm); (case kd => rfl); (case k1 => rfl); (case k0 => rfl); k_whole); intro hω Sω Rω Uω; (try dsimp only at Sω Rω Uω ⊢))
  k_with "leaving ref" => (k_here; k_dflt (refine' leave_onSN ?k1 ?k2 ?k3 ?k4 ?_; (case k3 => assumption); (case k2 => assumption); (case k1 => assumption); (case k4 => assumption); k_whole); intro hω Sω Rω Uω; (try dsimp only at Sω Rω Uω ⊢))
  k_with "getAttr ref" => (k_here; k_dflt (refine' get_own ?k1 ?k2 ?k3 ?k4 ?k5 ?k6 ?k7 ?k8 ?k9 ?_; (case k1 => k_asm); (case k2 => k_asm); (case k3 => k_inst); (case k4 => k_is); (case k5 => k_is); (case k6 => k_is); (case k7 => k_is); (case k8 => k_get); (case k9 => k_handed); k_whole); (try dsimp only))
  k_with "eval Constant int" => (k_here; refine wpAny_Constant_int ?_; (try dsimp only))
  k_with "eval Constant str" => (k_here; refine Calls.Constant_str ?_; (try dsimp only))
  k_with "call ref" => (k_here; (with_reducible show wpAny _ _ (call (Value.ref 103) _) _ _ _); k_dflt (refine' use_ctr (row_ok _ _ _ _ _ _ _ _ _ _ _ ?q1 ?q2 ?q3 ?q4 ?q5 ?q6 ?q7) ?uB ?uF ?uX ?uN ?uT ?uk ?ud ?uu ?_; (case uF => k_asm); (case uN => k_asm); (case uB => k_asm); (case uX => k_asm); (case uT => assumption); (case uk => rfl); (case q1 => (repeat' (first | assumption | exact List.Mem.head _ | refine List.Mem.tail _ ?_))); (case q2 => (repeat' (first | assumption | exact List.Mem.head _ | refine List.Mem.tail _ ?_))); (case q3 => (repeat' (first | assumption | exact List.Mem.head _ | refine List.Mem.tail _ ?_))); (case q4 => omega); (case q5 => omega); (case q6 => assumption); (case q7 => assumption); (case ud => ktr_room); (case uu => ktr_units); k_whole); intro vω hω tkω nω Fω Nω hPω; obtain ⟨e1ω, e2ω⟩ := hPω; subst e1ω; subst e2ω; (try dsimp only))
  k_with "call ref" => (k_here; (with_reducible show wpAny _ _ (call (Value.ref 103) _) _ _ _); k_dflt (refine' use_rctr (row_bad _ _ _ _ _ _ _ _ _ _ ?q1 ?q2 ?q3 ?q4 ?q7) ?uB ?uF ?uX ?uN ?uT ?uk ?ud ?uu ?_; (case uF => k_asm); (case uN => k_asm); (case uB => k_asm); (case uX => k_asm); (case uT => assumption); (case uk => rfl); (case q1 => (repeat' (first | assumption | exact List.Mem.head _ | refine List.Mem.tail _ ?_))); (case q2 => (repeat' (first | assumption | exact List.Mem.head _ | refine List.Mem.tail _ ?_))); (case q3 => (repeat' (first | assumption | exact List.Mem.head _ | refine List.Mem.tail _ ?_))); (case q4 => omega); (case q7 => assumption); (case ud => ktr_room); (case uu => ktr_units); k_whole); intro eω Gω hω tkω FGω Sω Uω; (try dsimp only))
  k_with "compareOp In str ref" => (k_here; (with_reducible show wpAny _ _ (compareOp CmpOp.In (Value.str _ _) (Value.ref _)) _ _ _); k_dflt (refine' in_parT ?k1 ?k2 ?k3 ?k4 ?_; (case k1 => k_asm); (case k2 => k_asm); (case k3 => k_is); (case k4 => assumption); k_whole))
  k_with "compareOp NotIn str ref" => (k_here; (with_reducible show wpAny _ _ (compareOp CmpOp.NotIn (Value.str _ _) (Value.ref _)) _ _ _); k_dflt (refine' notin_parT ?k1 ?k2 ?k3 ?k4 ?_; (case k1 => k_asm); (case k2 => k_asm); (case k3 => k_is); (case k4 => assumption); k_whole))
  k_with "compareOp In str ref" => (k_here; (with_reducible show wpAny _ _ (compareOp CmpOp.In (Value.str _ _) (Value.ref _)) _ _ _); k_dflt (refine' in_parL ?k1 ?k2 ?k4 ?_; (case k1 => k_asm); (case k2 => k_mem); (case k4 => assumption); k_whole))
  trivial
theorem setv_ok (w : World) (tr dT rl : Addr) (tkr : Tok) (vs : List Value) (c : Nat) (rest : Led) (k : Int) (tk : Tok) (nv : Str) (tn : Tok)
   (h1 : (tr, instObj 260 dT) ∈ rest) (h2 : (dT, rowsD w tkr rl) ∈ rest) (h3 : (rl, listOf vs.toArray c) ∈ rest)
   (a d cc x y : Addr) (t : Nat → Tok) (kind name uri loc value : Str) (par : Value) (h4 : (a, instObj 71 d) ∈ rest)
    (hd : ∀ p ∈ rest, p.1 ≠ d)
    (k0 : 0 ≤ k) (k1 : k < (vs.length : Int)) (hv : vs[k.toNat]? = some (.ref a)) (hl : vs.length ≤ 100) (hkd : isPar kind = false) :
   Ctr w 173 [.ref tr, .int k tk, .str nv tn] ((d, rowD w t kind name uri loc value par cc x y) :: rest) 20 80
    (fun v' news' => v' = .none ∧ ∃ t', news' = (d, rowD w t' kind name uri loc nv par cc x y) :: rest) := by
  unfold Ctr
  k_fill
  intro p loose mean mg mb dp un gd cn cs aa ccd cl outer A₀ base h₀ L m s Q E B F X N T hk hd hu hret
  refine wpAny_call ?_
  k_dflt ktr_enter
  k_steps
  exact hret _ _ _ _ (by k_asm) (by k_asm) ⟨rfl, fun i => if i = 9 then tn else t i, rfl⟩
section
variable (w : World) (tr dT rl : Addr) (tkr : Tok) (vs : List Value) (c : Nat) (news : Led) (k : Int) (tk : Tok) (nv : Str) (tn : Tok)
    (h1 : (tr, instObj 260 dT) ∈ news) (h2 : (dT, rowsD w tkr rl) ∈ news) (h3 : (rl, listOf vs.toArray c) ∈ news)
include h1 h2 h3
theorem setv_bad (hk : k < 0 ∨ (vs.length : Int) ≤ k) (hl : vs.length ≤ 100) :
   RCtr w 173 [.ref tr, .int k tk, .str nv tn] news 30 120 := by
  unfold RCtr
  k_fill
  intro p loose mean mg mb dp un gd cn cs aa ccd cl outer A₀ base h₀ L m s Q E B F X N T hk hd hu hret
  refine wpAny_call ?_
  k_dflt ktr_enter
  k_steps
  all_goals exact hret _ _ _ _ (by k_asm) (by k_asm) (by k_asm)
theorem setv_par (a d cc x y : Addr) (t : Nat → Tok) (kind name uri loc value : Str) (par : Value) (h4 : (a, instObj 71 d) ∈ news) (h5 : (d, rowD w t kind name uri loc value par cc x y) ∈ news)
    (k0 : 0 ≤ k) (k1 : k < (vs.length : Int)) (hv : vs[k.toNat]? = some (.ref a)) (hl : vs.length ≤ 100) (hkd : isPar kind = true) :
   RCtr w 173 [.ref tr, .int k tk, .str nv tn] news 30 120 := by
  unfold RCtr
  k_fill
  intro p loose mean mg mb dp un gd cn cs aa ccd cl outer A₀ base h₀ L m s Q E B F X N T hk hd hu hret
  refine wpAny_call ?_
  k_dflt ktr_enter
  k_steps
  all_goals exact hret _ _ _ _ (by k_asm) (by k_asm) (by k_asm)
end
theorem newrow (w : World) (tr dT rl : Addr) (tkr : Tok) (vs : List Value) (c : Nat) (rest : Led) (kind name uri loc value : Str) (t1 t2 t3 t4 t5 : Tok) (par : Value)
   (h1 : (tr, instObj 260 dT) ∈ rest) (h2 : (dT, rowsD w tkr rl) ∈ rest) (hd : ∀ p ∈ rest, p.1 ≠ rl) (hl : vs.length ≤ 100) (hpar : par = .none ∨ ∃ i ti, par = .int i ti) :
   Ctr w 96 [.ref tr, .str kind t1, .str name t2, .str uri t3, .str loc t4, .str value t5, par] ((rl, listOf vs.toArray c) :: rest) 30 120
    (fun v' news' => ∃ d a cc x y od tk n', v' = .int (vs.length : Int) tk ∧ news' = (y, listOf #[] 0) :: (x, listOf #[] 0) :: (cc, listOf #[] 0) :: (a, instObj 71 d) :: (d, od) :: (rl, listOf (vs ++ [Value.ref a]).toArray n') :: rest ∧
      (∃ t, od = rowD w t kind name uri loc value par cc x y) ∧ Fresh5 rl d a cc x y rest) := by
  unfold Ctr
  k_fill
  intro p loose mean mg mb dp un gd cn cs aa ccd cl outer A₀ base h₀ L m s Q E B F X N T hk hd hu hret
  refine wpAny_call ?_
  k_dflt ktr_enter
  k_steps
  exact hret _ _ _ _ (by k_asm) (by k_asm) ⟨_, _, _, _, _, _, _, _, congrArg (fun z => Value.int z _) (by simp), rfl, rowD_ex, by assumption, by assumption, by assumption, by assumption, by assumption⟩
end
section
open PySem PySem.W PySem.Calls PyProof.Rows
theorem ln_Add_0 : True := by
  w_top off
  k_with_none
  k_with "call builtin:len" => (k_here; (with_reducible show wpAny _ _ (call (Value.builtin "len") [Value.ref _]) _ _ _); k_dflt (refine' len_led ?k1 ?k2 ?k3 ?_; (case k1 => k_asm); (case k2 => (repeat' (first | assumption | exact List.Mem.head _ | refine List.Mem.tail _ ?_))); (case k3 => ((try simp only [List.length_cons, List.length_nil, List.length_append, List.length_map]); omega)); k_whole); (try dsimp only))
  k_with "subscriptTail" => (k_here; (with_reducible show wpAny _ _ (subscriptTail _ _ (Value.ref _) (Value.int _ _)) _ _ _); k_dflt (refine' item_led ?k1 ?k2 ?k3 ?k4 ?k5 ?_ ?k6; (case k1 => k_asm); (case k2 => (repeat' (first | assumption | exact List.Mem.head _ | refine List.Mem.tail _ ?_))); (case k3 => omega); (case k4 => omega); (case k5 => (first | assumption | (rw [List.getElem?_append_left (by omega)]; assumption))); (case k6 => with_unfolding_all rfl); k_whole); (try dsimp only))
  k_with "exec Raise some none" => (k_here; (with_reducible show wpAny _ _ (exec (Stmt.Raise (some (Expr.Call (Expr.Name (Str.ofString "TreeFault") _) [Expr.Constant (Const.str _) _ _] [] _)) none _) _) _ _ _); k_dflt (refine' raise_tf ?kB ?kF ?kX ?kN ?kT ?kk ?kx ?kn ?ki ?kf ?kd ?ku ?_; (case kB => k_asm); (case kF => k_asm); (case kX => k_asm); (case kN => k_asm); (case kT => assumption); (case kk => rfl); (case kx => k_is); (case kn => rfl); (case ki => k_is); (case kf => k_is); (case kd => ktr_room); (case ku => ktr_units); k_whole); intro eω tω dω hω tkω Fω Nω neω)
  k_with "leaving ref" => (k_here; k_dflt (refine' leave_led ?kK ?kF ?kN ?kne ?kd ?k1 ?k0 ?_; (case kF => k_asm); (case kN => k_asm); (case kK => k_asm); (case kne => k_asm); (case kd => rfl); (case k1 => rfl); (case k0 => rfl); k_whole); intro hω Sω Rω Uω; (try dsimp only at Sω Rω Uω ⊢))
  k_with "leaving ref" => (k_here; k_dflt (refine' leave_onSN ?k1 ?k2 ?k3 ?k4 ?_; (case k3 => assumption); (case k2 => assumption); (case k1 => assumption); (case k4 => assumption); k_whole); intro hω Sω Rω Uω; (try dsimp only at Sω Rω Uω ⊢))
  k_with "getAttr ref" => (k_here; k_dflt (refine' get_own ?k1 ?k2 ?k3 ?k4 ?k5 ?k6 ?k7 ?k8 ?k9 ?_; (case k1 => k_asm); (case k2 => k_asm); (case k3 => k_inst); (case k4 => k_is); (case k5 => k_is); (case k6 => k_is); (case k7 => k_is); (case k8 => k_get); (case k9 => k_handed); k_whole); (try dsimp only))
  k_with "eval Constant int" => (k_here; refine wpAny_Constant_int ?_; (try dsimp only))
  k_with "eval Constant str" => (k_here; refine Calls.Constant_str ?_; (try dsimp only))
  k_with "call ref" => (k_here; (with_reducible show wpAny _ _ (call (Value.ref 103) _) _ _ _); k_dflt (refine' use_ctr (row_ok _ _ _ _ _ _ _ _ _ _ _ ?q1 ?q2 ?q3 ?q4 ?q5 ?q6 ?q7) ?uB ?uF ?uX ?uN ?uT ?uk ?ud ?uu ?_; (case uF => k_asm); (case uN => k_asm); (case uB => k_asm); (case uX => k_asm); (case uT => assumption); (case uk => rfl); (case q1 => (repeat' (first | assumption | exact List.Mem.head _ | refine List.Mem.tail _ ?_))); (case q2 => (repeat' (first | assumption | exact List.Mem.head _ | refine List.Mem.tail _ ?_))); (case q3 => (repeat' (first | assumption | exact List.Mem.head _ | refine List.Mem.tail _ ?_))); (case q4 => omega); (case q5 => omega); (case q6 => assumption); (case q7 => assumption); (case ud => ktr_room); (case uu => ktr_units); k_whole); intro vω hω tkω nω Fω Nω hPω; obtain ⟨e1ω, e2ω⟩ := hPω; subst e1ω; subst e2ω; (try dsimp only))
  k_with "call ref" => (k_here; (with_reducible show wpAny _ _ (call (Value.ref 103) _) _ _ _); k_dflt (refine' use_rctr (row_bad _ _ _ _ _ _ _ _ _ _ ?q1 ?q2 ?q3 ?q4 ?q7) ?uB ?uF ?uX ?uN ?uT ?uk ?ud ?uu ?_; (case uF => k_asm); (case uN => k_asm); (case uB => k_asm); (case uX => k_asm); (case uT => assumption); (case uk => rfl); (case q1 => (repeat' (first | assumption | exact List.Mem.head _ | refine List.Mem.tail _ ?_))); (case q2 => (repeat' (first | assumption | exact List.Mem.head _ | refine List.Mem.tail _ ?_))); (case q3 => (repeat' (first | assumption | exact List.Mem.head _ | refine List.Mem.tail _ ?_))); (case q4 => omega); (case q7 => assumption); (case ud => ktr_room); (case uu => ktr_units); k_whole); intro eω Gω hω tkω FGω Sω Uω; (try dsimp only))
  k_with "compareOp In str ref" => (k_here; (with_reducible show wpAny _ _ (compareOp CmpOp.In (Value.str _ _) (Value.ref _)) _ _ _); k_dflt (refine' in_parT ?k1 ?k2 ?k3 ?k4 ?_; (case k1 => k_asm); (case k2 => k_asm); (case k3 => k_is); (case k4 => assumption); k_whole))
  k_with "compareOp NotIn str ref" => (k_here; (with_reducible show wpAny _ _ (compareOp CmpOp.NotIn (Value.str _ _) (Value.ref _)) _ _ _); k_dflt (refine' notin_parT ?k1 ?k2 ?k3 ?k4 ?_; (case k1 => k_asm); (case k2 => k_asm); (case k3 => k_is); (case k4 => assumption); k_whole))
  k_with "compareOp In str ref" => (k_here; (with_reducible show wpAny _ _ (compareOp CmpOp.In (Value.str _ _) (Value.ref _)) _ _ _); k_dflt (refine' in_parL ?k1 ?k2 ?k4 ?_; (case k1 => k_asm); (case k2 => k_mem); (case k4 => assumption); k_whole))
  k_with "call ref" => (k_here; (with_reducible show wpAny _ _ (call (Value.ref 96) _) _ _ _); k_dflt (refine' use_ctr (newrow _ _ _ _ _ _ _ _ _ _ _ _ _ _ _ _ _ _ _ ?q1 ?q2 ?q3 ?q4 ?q5) ?uB ?uF ?uX ?uN ?uT ?uk ?ud ?uu ?_; (case uF => k_asm); (case uN => k_asm); (case uB => k_asm); (case uX => k_asm); (case uT => assumption); (case uk => rfl); (case q1 => (repeat' (first | assumption | exact List.Mem.head _ | refine List.Mem.tail _ ?_))); (case q2 => (repeat' (first | assumption | exact List.Mem.head _ | refine List.Mem.tail _ ?_))); (case q3 => k_all); (case q4 => assumption); (case q5 => (first | exact Or.inl rfl | exact Or.inr ⟨_, _, rfl⟩ | assumption)); (case ud => ktr_room); (case uu => ktr_units); k_whole); intro vω hω tkω nω Fω Nω hPω; obtain ⟨dω, aω, ccω, xω, yω, odω, tk2ω, n2ω, e1ω, e2ω, ⟨tω, e3ω⟩, hqω⟩ := hPω; have l6ω := hqω; k_dflt (obtain ⟨l1ω, l2ω, l3ω, l4ω, l5ω⟩ := l6ω); subst e1ω; subst e2ω; subst e3ω; (try simp only [AllLt] at l1ω); (try simp only [AllLt] at l3ω); (try simp only [AllLt] at l4ω); (try simp only [AllLt] at l5ω); (try dsimp only))
  trivial
/-- a new node beneath none -/
theorem add_none (w : World) (tr dT rl : Addr) (tkr : Tok) (vs : List Value) (c : Nat) (rest : Led) (kind name uri loc value : Str) (t1 t2 t3 t4 t5 : Tok)
   (h1 : (tr, instObj 260 dT) ∈ rest) (h2 : (dT, rowsD w tkr rl) ∈ rest) (hd : ∀ p ∈ rest, p.1 ≠ rl) (hl : vs.length ≤ 100) :
   Ctr w 117 [.ref tr, .none, .str kind t1, .str name t2, .str uri t3, .str loc t4, .str value t5] ((rl, listOf vs.toArray c) :: rest) 50 200
    (fun v' news' => ∃ d a cc x y od tk n', v' = .int (vs.length : Int) tk ∧ news' = (y, listOf #[] 0) :: (x, listOf #[] 0) :: (cc, listOf #[] 0) :: (a, instObj 71 d) :: (d, od) :: (rl, listOf (vs ++ [Value.ref a]).toArray n') :: rest ∧
      (∃ t, od = rowD w t kind name uri loc value .none cc x y) ∧ Fresh5 rl d a cc x y rest) := by
  unfold Ctr
  k_fill
  intro p loose mean mg mb dp un gd cn cs aa ccd cl outer A₀ base h₀ L m s Q E B F X N T hk hd hu hret
  refine wpAny_call ?_
  k_dflt ktr_enter
  k_steps
  exact hret _ _ _ _ (by k_asm) (by k_asm) ⟨_, _, _, _, _, _, _, _, rfl, rfl, ⟨_, rfl⟩, by assumption⟩
theorem add_par (w : World) (tr dT rl : Addr) (tkr : Tok) (vs : List Value) (c : Nat) (rest : Led) (kind name uri loc value : Str) (t1 t2 t3 t4 t5 : Tok) (k : Int) (tk : Tok)
   (h1 : (tr, instObj 260 dT) ∈ rest) (h2 : (dT, rowsD w tkr rl) ∈ rest) (hd : ∀ p ∈ rest, p.1 ≠ rl)
   (pa pd pc px py : Addr) (pt : Nat → Tok) (pk pn pu pl pv : Str) (pp : Value) (h4 : (pa, instObj 71 pd) ∈ rest) (h5 : (pd, rowD w pt pk pn pu pl pv pp pc px py) ∈ rest) (ch : List Value) (cn' : Nat)
   (hd2 : ∀ p ∈ rest, p.1 ≠ pc) (hne : @Ne Nat pc rl)
    (k0 : 0 ≤ k) (k1 : k < (vs.length : Int)) (hv : vs[k.toNat]? = some (.ref pa)) (hl : vs.length ≤ 100) (hch : ch.length ≤ 100) (hkd : isPar pk = true) :
   Ctr w 117 [.ref tr, .int k tk, .str kind t1, .str name t2, .str uri t3, .str loc t4, .str value t5] ((rl, listOf vs.toArray c) :: (pc, listOf ch.toArray cn') :: rest) 50 200
    (fun v' news' => ∃ d a cc x y od tk2 n' n2, v' = .int (vs.length : Int) tk2 ∧ news' = (y, listOf #[] 0) :: (x, listOf #[] 0) :: (cc, listOf #[] 0) :: (a, instObj 71 d) :: (d, od) :: (rl, listOf (vs ++ [Value.ref a]).toArray n') :: (pc, listOf (ch.toArray.push (Value.int (vs.length : Int) tk2)) n2) :: rest ∧
      (∃ t, od = rowD w t kind name uri loc value (.int k tk) cc x y) ∧ Fresh5 rl d a cc x y ((pc, listOf ch.toArray cn') :: rest)) := by
  unfold Ctr
  k_fill
  intro p loose mean mg mb dp un gd cn cs aa ccd cl outer A₀ base h₀ L m s Q E B F X N T hk hd hu hret
  refine wpAny_call ?_
  k_dflt ktr_enter
  k_steps
  exact hret _ _ _ _ (by k_asm) (by k_asm) ⟨_, _, _, _, _, _, _, _, _, rfl, rfl, ⟨_, rfl⟩, by assumption⟩
section
variable (w : World) (tr dT rl : Addr) (tkr : Tok) (vs : List Value) (c : Nat) (news : Led) (kind name uri loc value : Str) (t1 t2 t3 t4 t5 : Tok) (k : Int) (tk : Tok)
    (h1 : (tr, instObj 260 dT) ∈ news) (h2 : (dT, rowsD w tkr rl) ∈ news) (h3 : (rl, listOf vs.toArray c) ∈ news)
include h1 h2 h3
theorem add_bad (hk : k < 0 ∨ (vs.length : Int) ≤ k) (hl : vs.length ≤ 100) :
   RCtr w 117 [.ref tr, .int k tk, .str kind t1, .str name t2, .str uri t3, .str loc t4, .str value t5] news 30 120 := by
  unfold RCtr
  k_fill
  intro p loose mean mg mb dp un gd cn cs aa ccd cl outer A₀ base h₀ L m s Q E B F X N T hk hd hu hret
  refine wpAny_call ?_
  k_dflt ktr_enter
  k_steps
  all_goals exact hret _ _ _ _ (by k_asm) (by k_asm) (by k_asm)
theorem add_kid (pa pd pc px py : Addr) (pt : Nat → Tok) (pk pn pu pl pv : Str) (pp : Value) (h4 : (pa, instObj 71 pd) ∈ news) (h5 : (pd, rowD w pt pk pn pu pl pv pp pc px py) ∈ news)
    (k0 : 0 ≤ k) (k1 : k < (vs.length : Int)) (hv : vs[k.toNat]? = some (.ref pa)) (hl : vs.length ≤ 100) (hkd : isPar pk = false) :
   RCtr w 117 [.ref tr, .int k tk, .str kind t1, .str name t2, .str uri t3, .str loc t4, .str value t5] news 30 120 := by
  unfold RCtr
  k_fill
  intro p loose mean mg mb dp un gd cn cs aa ccd cl outer A₀ base h₀ L m s Q E B F X N T hk hd hu hret
  refine wpAny_call ?_
  k_dflt ktr_enter
  k_steps
  all_goals exact hret _ _ _ _ (by k_asm) (by k_asm) (by k_asm)
end
end
section
open PySem PySem.W PySem.Calls PyProof.Rows
section
variable {env : Env} {outer : List Env} {L : Addr}
theorem frames_mem (hf : env.frame = some L) {b : Addr} (hm : b ∈ (env :: outer).filterMap (·.frame)) : b = L ∨ b ∈ outer.filterMap (·.frame) := by
  rw [List.filterMap_cons, hf] at hm
  exact List.mem_cons.mp hm
variable {M : Model} {A : Around} {E : Value → Shared → Prop} {s' : Shared} {base g g₂ : Heap} {e : Addr} {m : Str → Option Value} {cls : Value} {Q : Unit → Shared → Prop} {news : Led}
/-- an exception leaves one more frame, of any def -/
theorem leave_onX (hf : env.frame = some L) (K : Below A base outer g) (F : Fr g L g₂ m) (R : RaisedSN base g₂ (env :: outer) e cls news s'.heap) (hsm : g₂.UpToSlots s'.heap)
    (hQ : ∀ h', RaisedSN base g outer e cls news h' → RaisedN base outer e cls news h' → g.UpToSlots h' → Q () { s' with heap := h' }) :
    wpAny M (A.deeper env) (leaving env (.ref e)) Q E s' := by
  obtain ⟨B, a0, hB, hBG, hl, hfl⟩ := R
  refine wpAny_leaves_onW (Around.frames_deeper K.stack) hf hfl fun h' x1 x2 => ?_
  have R : RaisedSN base g outer e cls news h' := ⟨B, a0, hB, fun b o q nm => hBG b o (F.keep b o q) (fun hm => by
    rcases frames_mem hf hm with z | z
    · subst z; rw [kts_self F] at q; cases q
    · exact nm z), fun q hq => ⟨(hl q hq).1, kts_none F.keep (hl q hq).2.1, (hl q hq).2.2⟩, x1⟩
  exact hQ h' R R.toN ((Heap.UpToSlots.of_keeps F.keep).trans (hsm.trans x2))
end
section
variable {prog : Program} {w : World} {A₀ A : Around} {s : Shared} {base h₀ g₀ : Heap} {outer : List Env} {L : Addr} {m : Str → Option Value} {env : Env} {news : Led} {K : Frag} {p : Program} {loose : List Str} {mean : ExcName → Option Value} {mg mb : Str → Option Value}
  {R : Result → Shared → Prop} {name qual : Str} {params : Arguments} {body : List Stmt} {scope : Scope} {dV kV doc pm cdv ct oc : Value} {an od : Option Addr} {osl : Array (Option Value)} {f : Addr} {args : Args} {binds : List (Str × Value)}
/-- the ground of a call whose callee may catch: what stands at its start, and how it is left -/
theorem groundS (B : Below A₀ base outer h₀) (F : Fr h₀ L s.heap m) (N : News h₀ L s.heap news) (XB : K.In base) (TB : Top p loose mean mg mb base) (D : KtsDicts (outer.filterMap (·.frame)) h₀)
    (T0 : KtsTurn (outer.filterMap (·.frame)) g₀ h₀) (hA : A.frames = some (env :: outer)) (hf : env.frame = some L) (hke : env.scope.kind = .function) :
    KtsDicts ((env :: outer).filterMap (·.frame)) (hideAll s.heap (news.map (·.1))) ∧
      ∀ v s', LeaveS ((env :: outer).filterMap (·.frame)) A₀ base outer K p loose mean mg mb g₀ h₀ L m (hideAll s.heap (news.map (·.1))) R v s' → R (.ok (.ret v)) s' := by
  obtain ⟨FG, _, st, lv⟩ := groundX (R := R) B F N hA hf hke
  have nL₀ : h₀.get? L = none := kts_self F
  obtain ⟨oL, es, ep, hL, hLd, hLk, hLf⟩ := FG.ns
  refine ⟨fun b hb => ?_, fun v s' hl => ?_⟩
  · rcases frames_mem hf hb with rfl | hb
    · exact ⟨oL, es, ep, hL, hLd⟩
    · obtain ⟨o, es', n', ho, hd⟩ := D b hb
      exact ⟨o, es', n', st b o ho, hd⟩
  rcases hl with hl | ⟨g', L', m', news', T', F', N', k⟩
  · exact lv v s' hl
  obtain ⟨sl, hs⟩ := T'.up hL
  obtain ⟨T₁, S₁⟩ := kts_turn_at (h := s'.heap) (fs := outer.filterMap (·.frame)) (g := h₀)
    (fun b hb => by obtain ⟨_, o, ho, _⟩ := B.frames.mem hb; exact ⟨o, ho⟩)
    (fun b o e nmem => F'.keep b o (T'.other b o (st b o e) (fun q => by
      rcases frames_mem hf q with z | z
      · subst z; rw [nL₀] at e; cases e
      · exact nmem z)))
    (fun b o e _ => by obtain ⟨sl', hs'⟩ := T'.up (st b o e); exact ⟨sl', F'.keep _ _ hs'⟩)
  have B₃ : Below A₀ base outer (ktsHeap s'.heap (outer.filterMap (·.frame)) h₀) := ⟨B.stack, fun b o e => T₁.other b o (B.stays b o e) (fun hm => by
    rw [(B.frames.mem hm).1] at e; cases e), B.frames.of_keeps fun b o e _ => by obtain ⟨sl', hs'⟩ := T₁.up e; exact ⟨_, hs', rfl⟩⟩
  refine k _ (T0.trans T₁) ⟨⟨_, es, ep, F'.keep _ _ hs, hLd, hLk, hLf⟩, S₁, by rw [T₁.size]; exact F.above⟩ (fun q hq => ⟨(N' q hq).1, fun z => ?_, ?_⟩) B₃ (XB.keeps B₃.stays) (TB.keeps B₃.stays) (D.turn T₁)
  · have := (N' q hq).2.2; rw [z, hs] at this; cases this
  · refine T₁.none_ _ ?_
    cases z : h₀.get? q.1 with
    | none => rfl
    | some o =>
      obtain ⟨sl', hs'⟩ := T'.up (st _ _ z)
      have := (N' q hq).2.2
      rw [hs'] at this
      cases this
/-- a def without cells, called from any frame; it may catch -/
theorem callS (B : Below A₀ base outer h₀) (F : Fr h₀ L s.heap m) (X₀ : K.In h₀) (N : News h₀ L s.heap news) (T : Top p loose mean mg mb h₀) (XB : K.In base) (TB : Top p loose mean mg mb base) (D : KtsDicts (outer.filterMap (·.frame)) h₀)
    (T0 : KtsTurn (outer.filterMap (·.frame)) g₀ h₀) (hA : A.frames = some (env :: outer)) (hf : env.frame = some L) (hke : env.scope.kind = .function)
    (ho : K.lookup f = some ⟨oc, od, .func (fnOf name qual params body scope dV kV doc pm an cdv ct), osl⟩) (hcd : codeIn K cdv qual = true) (hroom : A.depth < recursionLimit)
    (hbind : BindsTo s (fnOf name qual params body scope dV kV doc pm an cdv ct) args binds) (hloc : ∀ y ∈ binds, scope.names.lookup y.1 = some .local)
    (h : ∀ g L' h₁, Fr h₀ L g m → Fr g L' h₁ (fun y => binds.reverse.lookup y) → News g L' h₁ news → Below A base (env :: outer) g → K.In g → Top p loose mean mg mb g → KtsDicts ((env :: outer).filterMap (·.frame)) g →
      wpAny (model prog w) (A.deeper (envOf qual scope L' f cdv)) (execs body (envOf qual scope L' f cdv))
        (fun fl s' => LeaveS ((env :: outer).filterMap (·.frame)) A₀ base outer K p loose mean mg mb g₀ h₀ L m g R (match fl with | .ret v => v | _ => .none) s')
        (fun e s' => wpAny (model prog w) (A.deeper (envOf qual scope L' f cdv)) (leaving (envOf qual scope L' f cdv) e) (fun _ s'' => R (.error e) s'') (fun e' s'' => R (.error e') s'') s')
        { s with heap := h₁, toks := s.toks + binds.length })
    (hco : scope.isCoroutine = false) (hgen : scope.isGenerator = false) (hk : scope.kind = .function)
    (hcell : ∀ x ∈ scope.names, x.2 ≠ .cell) : codeAny (model prog w) A (.call (.ref f) args) R s := by
  have X := X₀.keeps F.keep
  obtain ⟨FG, BG, st, _⟩ := groundX (R := R) B F N hA hf hke
  obtain ⟨DG, lv⟩ := groundS (R := R) B F N XB TB D T0 hA hf hke
  refine codeAny_call_def (fd := fnOf name qual params body scope dV kV doc pm an cdv ct) (body := body) (binds := binds) hroom (X _ _ ho) rfl (T.nolimit.keeps F.keep) (codeRec_of X hcd) rfl hbind hcell hloc (fun h₁ hns hk₁ => ?_) hco hgen hk
  exact wpAny_mono (h _ s.heap.objs.size h₁ FG ⟨hns, fun b o e => hk₁ b o (of_hideAll _ e), Nat.le_of_eq (hideAll_size _ _)⟩
    (fun p hp => ⟨hk₁ _ _ (N p hp).1, Nat.ne_of_lt (Heap.lt_size (N p hp).1), hideAll_none _ (List.mem_map_of_mem hp)⟩) BG (X₀.keeps st) (T.keeps st) DG) (fun fl s' hl => lv _ _ hl) fun _ _ y => y
/-- a def with cells, called from any frame; it may catch -/
theorem callSC (B : Below A₀ base outer h₀) (F : Fr h₀ L s.heap m) (X₀ : K.In h₀) (N : News h₀ L s.heap news) (T : Top p loose mean mg mb h₀) (XB : K.In base) (TB : Top p loose mean mg mb base) (D : KtsDicts (outer.filterMap (·.frame)) h₀)
    (T0 : KtsTurn (outer.filterMap (·.frame)) g₀ h₀) (hA : A.frames = some (env :: outer)) (hf : env.frame = some L) (hke : env.scope.kind = .function)
    (ho : K.lookup f = some ⟨oc, od, .func (fnOf name qual params body scope dV kV doc pm an cdv ct), osl⟩) (hcd : codeIn K cdv qual = true) (hroom : A.depth < recursionLimit)
    (hbind : BindsTo s (fnOf name qual params body scope dV kV doc pm an cdv ct) args binds) (hkind : (binds.all fun y => scope.names.lookup y.1 == some .local || scope.names.lookup y.1 == some .cell) = true)
    (hnd : ((cellsFrom 0 scope.names []).map (·.1)).Nodup)
    (h : ∀ g L' h₁ tk cells, Fr h₀ L g m → Fr g L' h₁ (bindL (envOfC qual scope L' f cdv).kindOf binds fun _ => none) → News g L' h₁ (cells ++ news) →
      CellsAre (bindC (envOfC qual scope L' f cdv).kindOf binds fun _ => none) (cellsFrom (L' + 1) scope.names []) cells → Below A base (env :: outer) g → K.In g → Top p loose mean mg mb g → (∀ p ∈ news, p.1 < L') → KtsDicts ((env :: outer).filterMap (·.frame)) g →
      wpAny (model prog w) (A.deeper (envOfC qual scope L' f cdv)) (execs body (envOfC qual scope L' f cdv))
        (fun fl s' => LeaveS ((env :: outer).filterMap (·.frame)) A₀ base outer K p loose mean mg mb g₀ h₀ L m g R (match fl with | .ret v => v | _ => .none) s')
        (fun e s' => wpAny (model prog w) (A.deeper (envOfC qual scope L' f cdv)) (leaving (envOfC qual scope L' f cdv) e) (fun _ s'' => R (.error e) s'') (fun e' s'' => R (.error e') s'') s')
        { s with heap := h₁, toks := tk })
    (hco : scope.isCoroutine = false) (hgen : scope.isGenerator = false) (hk : scope.kind = .function) : codeAny (model prog w) A (.call (.ref f) args) R s := by
  have X := X₀.keeps F.keep
  obtain ⟨DG, lv⟩ := groundS (R := R) B F N XB TB D T0 hA hf hke
  obtain ⟨FG, BG, st, _⟩ := groundX (R := R) B F N hA hf hke
  refine codeAny_call_function hroom (X _ _ ho) rfl hco hgen rfl (codeRec_of X hcd) (hbind _ _ _ _ ?_)
  refine wpAny_newFunctionEnv_cells hk (kindsX hkind _) fun env' he s' x => ?_
  subst he
  refine ⟨(T.nolimit.keeps F.keep).keeps x.toInCall.keep, codeAny_func ?_⟩
  obtain ⟨h₁, tk, rfl, _⟩ := x.done
  have hk₁ := x.toInCall.keep
  obtain ⟨cells, NC, Y⟩ := Cl.news (h₀ := s.heap) (Nat.le_refl _) fun n c hm => ⟨x.cell n c (lookup_of_mem_nodup (cellsFrom_names scope.names 0 (s.heap.objs.size + 1) [] [] rfl ▸ hnd) hm), x.above n c hm⟩
  refine wpAny_mono (h _ s.heap.objs.size h₁ tk cells FG ⟨x.toInCall.ns, fun b o e => hk₁ b o (of_hideAll _ e), Nat.le_of_eq (hideAll_size _ _)⟩ (fun p hp => ?_) Y BG (X₀.keeps st) (T.keeps st) (fun p hp => Heap.lt_size (N p hp).1) DG) (fun fl s' hl => lv _ _ hl) fun _ _ y => y
  rcases List.mem_append.mp hp with hp | hp
  · refine ⟨(NC p hp).1, (NC p hp).2.1, ?_⟩
    cases q : (hideAll s.heap (news.map (·.1))).get? p.1 with
    | none => rfl
    | some o => have := of_hideAll _ q; rw [(NC p hp).2.2] at this; cases this
  · exact ⟨hk₁ _ _ (N p hp).1, Nat.ne_of_lt (Heap.lt_size (N p hp).1), hideAll_none _ (List.mem_map_of_mem hp)⟩
end
end
section
open PySem PySem.W PySem.Calls PyProof.Rows
def CodeTabs (h : Heap) : Prop := CodeHd h 326 322 ∧ CodeHd h 319 315 ∧ CodeHd h 312 308 ∧ CodeHd h 305 301
/-- the contract of a def that may catch: the frames beneath may be turned -/
def CtrS (w : World) (f : Addr) (args : List Value) (news : Led) (dd uu : Nat) (Post : Value → Led → Prop) : Prop :=
  ∀ (p : Program) (loose : List Str) (mean : ExcName → Option Value) (mg mb : Str → Option Value) (dp un : Nat) (gd : Option (List Code)) (cn : Str) (cs : Scope) (a : Addr) (ccd : Value) (cl : List (Str × Addr)) (outer : List Env) (A₀ : Around) (base h₀ g₀ : Heap) (L : Addr) (m : Str → Option Value) (s : Shared) (Q E : Value → Shared → Prop),
    Below A₀ base outer h₀ → Fr h₀ L s.heap m → (hd.heap_39 w.params).In h₀ → (hd.heap_39 w.params).In base → News h₀ L s.heap news → Top p loose mean mg mb h₀ → Top p loose mean mg mb base →
    KtsDicts (outer.filterMap (·.frame)) h₀ → KtsTurn (outer.filterMap (·.frame)) g₀ h₀ → CodeTabs base → cs.kind = .function → dp + dd < recursionLimit → un + uu < cLine →
    (∀ v h' tk' news' h₀', KtsTurn (outer.filterMap (·.frame)) g₀ h₀' → Fr h₀' L h' m → News h₀' L h' news' → Below A₀ base outer h₀' → (hd.heap_39 w.params).In h₀' → Top p loose mean mg mb h₀' → KtsDicts (outer.filterMap (·.frame)) h₀' → Post v news' →
      Q v { s with heap := h', toks := tk' }) →
    wpAny (model PySem.Challenge.rw_xw0201_01.row.prog w) (ktrTop dp un gd cn cs L a ccd cl outer) (call (.ref f) args) Q E s
section
variable {w : World} {f : Addr} {args : List Value} {news : Led} {dd uu : Nat} {p : Program} {loose : List Str} {mean : ExcName → Option Value} {mg mb : Str → Option Value} {dp un : Nat} {gd : Option (List Code)} {cn : Str} {cs : Scope} {a : Addr} {ccd : Value} {cl : List (Str × Addr)} {outer : List Env} {A₀ : Around} {base h₀ g₀ : Heap} {L : Addr} {m : Str → Option Value} {s : Shared} {Q E : Value → Shared → Prop}
theorem use_ctrS {Post : Value → Led → Prop} (C : CtrS w f args news dd uu Post) (B : Below A₀ base outer h₀) (F : Fr h₀ L s.heap m) (X : (hd.heap_39 w.params).In h₀) (XB : (hd.heap_39 w.params).In base) (N : News h₀ L s.heap news) (T : Top p loose mean mg mb h₀) (TB : Top p loose mean mg mb base)
    (D : KtsDicts (outer.filterMap (·.frame)) h₀) (T0 : KtsTurn (outer.filterMap (·.frame)) g₀ h₀) (CT : CodeTabs base) (hk : cs.kind = .function)
    (hdp : dp + dd < recursionLimit) (hu : un + uu < cLine)
    (h : ∀ v h' tk' news' h₀', KtsTurn (outer.filterMap (·.frame)) g₀ h₀' → Fr h₀' L h' m → News h₀' L h' news' → Below A₀ base outer h₀' → (hd.heap_39 w.params).In h₀' → Top p loose mean mg mb h₀' → KtsDicts (outer.filterMap (·.frame)) h₀' → Post v news' →
      Q v { s with heap := h', toks := tk' }) :
    wpAny (model PySem.Challenge.rw_xw0201_01.row.prog w) (ktrTop dp un gd cn cs L a ccd cl outer) (call (.ref f) args) Q E s :=
  C _ _ _ _ _ _ _ _ _ _ _ _ _ _ _ _ _ _ _ _ _ _ _ B F X XB N T TB D T0 CT hk hdp hu h
end
theorem ln_Ref_0 : True := by
  w_top off
  k_with_none
  k_with "call builtin:len" => (k_here; (with_reducible show wpAny _ _ (call (Value.builtin "len") [Value.ref _]) _ _ _); k_dflt (refine' len_led ?k1 ?k2 ?k3 ?_; (case k1 => k_asm); (case k2 => (repeat' (first | assumption | exact List.Mem.head _ | refine List.Mem.tail _ ?_))); (case k3 => ((try simp only [List.length_cons, List.length_nil, List.length_append, List.length_map]); omega)); k_whole); (try dsimp only))
  k_with "subscriptTail" => (k_here; (with_reducible show wpAny _ _ (subscriptTail _ _ (Value.ref _) (Value.int _ _)) _ _ _); k_dflt (refine' item_led ?k1 ?k2 ?k3 ?k4 ?k5 ?_ ?k6; (case k1 => k_asm); (case k2 => (repeat' (first | assumption | exact List.Mem.head _ | refine List.Mem.tail _ ?_))); (case k3 => omega); (case k4 => omega); (case k5 => (first | assumption | (rw [List.getElem?_append_left (by omega)]; assumption))); (case k6 => with_unfolding_all rfl); k_whole); (try dsimp only))
  k_with "exec Raise some none" => (k_here; (with_reducible show wpAny _ _ (exec (Stmt.Raise (some (Expr.Call (Expr.Name (Str.ofString "TreeFault") _) [Expr.Constant (Const.str _) _ _] [] _)) none _) _) _ _ _); k_dflt (refine' raise_tf ?kB ?kF ?kX ?kN ?kT ?kk ?kx ?kn ?ki ?kf ?kd ?ku ?_; (case kB => k_asm); (case kF => k_asm); (case kX => k_asm); (case kN => k_asm); (case kT => assumption); (case kk => rfl); (case kx => k_is); (case kn => rfl); (case ki => k_is); (case kf => k_is); (case kd => ktr_room); (case ku => ktr_units); k_whole); intro eω tω dω hω tkω Fω Nω neω)
  k_with "leaving ref" => (k_here; k_dflt (refine' leave_led ?kK ?kF ?kN ?kne ?kd ?k1 ?k0 ?_; (case kF => k_asm); (case kN => k_asm); (case kK => k_asm); (case kne => k_asm); (case kd => rfl); (case k1 => rfl); (case k0 => rfl); k_whole); intro hω Sω Rω Uω; (try dsimp only at Sω Rω Uω ⊢))
  k_with "leaving ref" => (k_here; k_dflt (refine' leave_onSN ?k1 ?k2 ?k3 ?k4 ?_; (case k3 => assumption); (case k2 => assumption); (case k1 => assumption); (case k4 => assumption); k_whole); intro hω Sω Rω Uω; (try dsimp only at Sω Rω Uω ⊢))
  k_with "getAttr ref" => (k_here; k_dflt (refine' get_own ?k1 ?k2 ?k3 ?k4 ?k5 ?k6 ?k7 ?k8 ?k9 ?_; (case k1 => k_asm); (case k2 => k_asm); (case k3 => k_inst); (case k4 => k_is); (case k5 => k_is); (case k6 => k_is); (case k7 => k_is); (case k8 => k_get); (case k9 => k_handed); k_whole); (try dsimp only))
  k_with "eval Constant int" => (k_here; refine wpAny_Constant_int ?_; (try dsimp only))
  k_with "eval Constant str" => (k_here; refine Calls.Constant_str ?_; (try dsimp only))
  k_with "call ref" => (k_here; k_dflt (refine' use_rctr (by assumption) ?uB ?uF ?uX ?uN ?uT ?uk ?ud ?uu ?_; (case uF => k_asm); (case uN => k_asm); (case uB => k_asm); (case uX => k_asm); (case uT => assumption); (case uk => rfl); (case ud => ktr_room); (case uu => ktr_units); k_whole); intro eω Gω hω tkω FGω Sω Uω; (try dsimp only))
  trivial
theorem refused_raise (w : World) (fl : Addr) (news : Led) {oc : Value} {od : Option Addr} {fd : FuncData} {sl : Array (Option Value)} (hfl : (fl, (⟨oc, od, .func fd, sl⟩ : Obj)) ∈ news) (hc : RCtr w fl [] news 40 160) : CtrS w 292 [.ref fl] news 60 240 (fun v news' => v = .bool true ∧ news' = news) := by
  unfold CtrS
  k_fill
  intro p loose mean mg mb dp un gd cn cs aa ccd cl outer A₀ base h₀ g₀ L m s Q E B F X XB N T TB D T0 CT hk hd hu hret
  obtain ⟨C1, C2, C3, C4⟩ := CT
  refine wpAny_call ?_
  k_dflt (refine' callS ?k1 ?k2 ?k3 ?k4 ?k5 ?XB ?TB ?D ?T0 ?kA ?kf ?kK ?k6 ?k7 ?k8 ?k9 ?kB ?_ ?c2 ?c3 ?c4 ?c5; (case kA => exact rfl); (case kf => exact rfl); (case kK => assumption); (case k2 => k_asm); (case k1 => k_asm); (case XB => assumption); (case TB => assumption); (case D => assumption); (case T0 => assumption); (case k3 => k_asm); (case k4 => k_asm); (case k5 => k_asm); (case k6 => k_is); (case k7 => k_is); (case k8 => ktr_room); (case k9 => exact BindsTo.of_eq rfl); (case kB => exact locs rfl); (case c2 => exact rfl); (case c3 => exact rfl); (case c4 => exact rfl); (case c5 => decide); k_whole; intro g' L' h' FG' F' N' B' X' T' D'; (try dsimp only); (try k_lift B'); (try k_fold))
  k_steps
  exact hret _ _ _ _ _ (by assumption) (by k_asm) (by k_asm) (by assumption) (by assumption) (by assumption) (by assumption) ⟨rfl, rfl⟩
section
variable {prog : Program} {w : World} {A : Around} {E : Value → Shared → Prop} {s : Shared} {h₀ : Heap} {L d : Addr} {m : Str → Option Value} {news : Led} {o : Obj} {kvs : List (Int × Value)} {k : Int} {t : Tok} {v : Value}
theorem bk_in {Q : Value → Shared → Prop} (N : News h₀ L s.heap news) (hp : (d, o) ∈ news) (hd : o.IsDictOf (PySem.intKind prog w) kvs) (lo : (d == sysModules) = false) (hl : valueAt kvs k = some v) (h : Q (.bool true) { s with toks := s.toks + 1 }) :
    wpAny (model prog w) A (compareOp .In (.int k t) (.ref d)) Q E s := kda_in N hp hd lo (intKind_is _ _ _ _) true (by rw [hl]; rfl) h
theorem bk_in0 {Q : Value → Shared → Prop} (N : News h₀ L s.heap news) (hp : (d, o) ∈ news) (hd : o.IsDictOf (PySem.intKind prog w) kvs) (lo : (d == sysModules) = false) (hl : valueAt kvs k = none) (h : Q (.bool false) { s with toks := s.toks + 1 }) :
    wpAny (model prog w) A (compareOp .In (.int k t) (.ref d)) Q E s := kda_in N hp hd lo (intKind_is _ _ _ _) false (by rw [hl]; rfl) h
theorem bk_notin {Q : Value → Shared → Prop} (N : News h₀ L s.heap news) (hp : (d, o) ∈ news) (hd : o.IsDictOf (PySem.intKind prog w) kvs) (lo : (d == sysModules) = false) (hl : valueAt kvs k = some v) (h : Q (.bool false) { s with toks := s.toks + 1 }) :
    wpAny (model prog w) A (compareOp .NotIn (.int k t) (.ref d)) Q E s := kdg_notin N hp hd lo (intKind_is _ _ _ _) true (by rw [hl]; rfl) h
theorem bk_notin0 {Q : Value → Shared → Prop} (N : News h₀ L s.heap news) (hp : (d, o) ∈ news) (hd : o.IsDictOf (PySem.intKind prog w) kvs) (lo : (d == sysModules) = false) (hl : valueAt kvs k = none) (h : Q (.bool true) { s with toks := s.toks + 1 }) :
    wpAny (model prog w) A (compareOp .NotIn (.int k t) (.ref d)) Q E s := kdg_notin N hp hd lo (intKind_is _ _ _ _) false (by rw [hl]; rfl) h
theorem bk_item {value slice : PySem.Expr} {Q : Value → Shared → Prop} (N : News h₀ L s.heap news) (hp : (d, o) ∈ news) (hd : o.IsDictOf (PySem.intKind prog w) kvs) (hl : valueAt kvs k = some v) (h : Q v { s with toks := s.toks + 1 })
    (hs : subscripted slice false (.ref d) (.int k t) = operate [.ref d, .int k t] (getItem (.ref d) (.int k t)) := by with_unfolding_all rfl) (hg : ∀ r, letTemporaryGo value (.ref d) r = pure () := by intro _; with_unfolding_all rfl) :
    wpAny (model prog w) A (subscriptTail value slice (.ref d) (.int k t)) Q E s := kda_item N hp hd (intKind_is _ _ _ _) hl h hs hg
theorem bk_len {Q : Value → Shared → Prop} (N : News h₀ L s.heap news) (hp : (d, o) ∈ news) (hd : o.IsDictOf (PySem.intKind prog w) kvs) (lo : (d == sysModules) = false) (hfit : kvs.length ≤ 100) (h : Q (.int kvs.length (s.toks + 1)) { s with toks := s.toks + 1 + 1 }) :
    wpAny (model prog w) A (call (.builtin "len") [.ref d]) Q E s := kda_len N hp hd lo (by omega) h
theorem bk_set {g : Obj → Led} {Q : Unit → Shared → Prop} (F : Fr h₀ L s.heap m) (N : News h₀ L s.heap news) (U : UpdF d o news g) (hd : o.IsDictOf (PySem.intKind prog w) kvs) (hsz : kvs.length ≤ 100)
    (h : ∀ h' o', Fr h₀ L h' m → News h₀ L h' (g o') → o'.IsDictOf (PySem.intKind prog w) (stored kvs k v) → Q () { s with heap := h', toks := s.toks + 1 }) : wpAny (model prog w) A (setItem (.ref d) (.int k t) v) Q E s :=
  kda_set F N U hd (intKind_is _ _ _ _) (by rw [sizeLine_eq]; omega) h
theorem bk_getItem {Q : Value → Shared → Prop} (N : News h₀ L s.heap news) (hp : (d, o) ∈ news) (hd : o.IsDictOf (PySem.intKind prog w) kvs) (hl : valueAt kvs k = some v) (h : Q v { s with toks := s.toks + 1 }) : wpAny (model prog w) A (getItem (.ref d) (.int k t)) Q E s :=
  kdt_getItem N hp hd (intKind_is _ _ _ _) hl h
end
end
section
open PySem PySem.W PySem.Calls PyProof.Rows
/-- the table of a def's one lambda, filled -/
def TabH (P : Addr) (line col : Int) (qual : Str) (news : Led) : Prop := ∃ c' oc vs t, (P, tabObj #[rawInt line, rawInt col, .ref c']) ∈ news ∧ (c', oc) ∈ news ∧ oc.data = .fields vs ∧ vs[1]? = some (.str qual t)
end
section
open PySem PySem.W PySem.Calls PyProof.Rows
theorem ln_Chg_0 : True := by
  w_top off
  k_with_none
  k_with "call builtin:len" => (k_here; (with_reducible show wpAny _ _ (call (Value.builtin "len") [Value.ref _]) _ _ _); k_dflt (refine' len_led ?k1 ?k2 ?k3 ?_; (case k1 => k_asm); (case k2 => (repeat' (first | assumption | exact List.Mem.head _ | refine List.Mem.tail _ ?_))); (case k3 => ((try simp only [List.length_cons, List.length_nil, List.length_append, List.length_map]); omega)); k_whole); (try dsimp only))
  k_with "subscriptTail" => (k_here; (with_reducible show wpAny _ _ (subscriptTail _ _ (Value.ref _) (Value.int _ _)) _ _ _); k_dflt (refine' item_led ?k1 ?k2 ?k3 ?k4 ?k5 ?_ ?k6; (case k1 => k_asm); (case k2 => (repeat' (first | assumption | exact List.Mem.head _ | refine List.Mem.tail _ ?_))); (case k3 => omega); (case k4 => omega); (case k5 => (first | assumption | (rw [List.getElem?_append_left (by omega)]; assumption))); (case k6 => with_unfolding_all rfl); k_whole); (try dsimp only))
  k_with "exec Raise some none" => (k_here; (with_reducible show wpAny _ _ (exec (Stmt.Raise (some (Expr.Call (Expr.Name (Str.ofString "TreeFault") _) [Expr.Constant (Const.str _) _ _] [] _)) none _) _) _ _ _); k_dflt (refine' raise_tf ?kB ?kF ?kX ?kN ?kT ?kk ?kx ?kn ?ki ?kf ?kd ?ku ?_; (case kB => k_asm); (case kF => k_asm); (case kX => k_asm); (case kN => k_asm); (case kT => assumption); (case kk => rfl); (case kx => k_is); (case kn => rfl); (case ki => k_is); (case kf => k_is); (case kd => ktr_room); (case ku => ktr_units); k_whole); intro eω tω dω hω tkω Fω Nω neω)
  k_with "leaving ref" => (k_here; k_dflt (refine' leave_led ?kK ?kF ?kN ?kne ?kd ?k1 ?k0 ?_; (case kF => k_asm); (case kN => k_asm); (case kK => k_asm); (case kne => k_asm); (case kd => rfl); (case k1 => rfl); (case k0 => rfl); k_whole); intro hω Sω Rω Uω; (try dsimp only at Sω Rω Uω ⊢))
  k_with "leaving ref" => (k_here; k_dflt (refine' leave_onSN ?k1 ?k2 ?k3 ?k4 ?_; (case k3 => assumption); (case k2 => assumption); (case k1 => assumption); (case k4 => assumption); k_whole); intro hω Sω Rω Uω; (try dsimp only at Sω Rω Uω ⊢))
  k_with "getAttr ref" => (k_here; k_dflt (refine' get_own ?k1 ?k2 ?k3 ?k4 ?k5 ?k6 ?k7 ?k8 ?k9 ?_; (case k1 => k_asm); (case k2 => k_asm); (case k3 => k_inst); (case k4 => k_is); (case k5 => k_is); (case k6 => k_is); (case k7 => k_is); (case k8 => k_get); (case k9 => k_handed); k_whole); (try dsimp only))
  k_with "eval Constant int" => (k_here; refine wpAny_Constant_int ?_; (try dsimp only))
  k_with "eval Constant str" => (k_here; refine Calls.Constant_str ?_; (try dsimp only))
  k_with "call ref" => (k_here; (with_reducible show wpAny _ _ (call (Value.ref 103) _) _ _ _); k_dflt (refine' use_ctr (row_ok _ _ _ _ _ _ _ _ _ _ _ ?q1 ?q2 ?q3 ?q4 ?q5 ?q6 ?q7) ?uB ?uF ?uX ?uN ?uT ?uk ?ud ?uu ?_; (case uF => k_asm); (case uN => k_asm); (case uB => k_asm); (case uX => k_asm); (case uT => assumption); (case uk => rfl); (case q1 => (repeat' (first | assumption | exact List.Mem.head _ | refine List.Mem.tail _ ?_))); (case q2 => (repeat' (first | assumption | exact List.Mem.head _ | refine List.Mem.tail _ ?_))); (case q3 => (repeat' (first | assumption | exact List.Mem.head _ | refine List.Mem.tail _ ?_))); (case q4 => omega); (case q5 => omega); (case q6 => assumption); (case q7 => assumption); (case ud => ktr_room); (case uu => ktr_units); k_whole); intro vω hω tkω nω Fω Nω hPω; obtain ⟨e1ω, e2ω⟩ := hPω; subst e1ω; subst e2ω; (try dsimp only))
  k_with "call ref" => (k_here; (with_reducible show wpAny _ _ (call (Value.ref 103) _) _ _ _); k_dflt (refine' use_rctr (row_bad _ _ _ _ _ _ _ _ _ _ ?q1 ?q2 ?q3 ?q4 ?q7) ?uB ?uF ?uX ?uN ?uT ?uk ?ud ?uu ?_; (case uF => k_asm); (case uN => k_asm); (case uB => k_asm); (case uX => k_asm); (case uT => assumption); (case uk => rfl); (case q1 => (repeat' (first | assumption | exact List.Mem.head _ | refine List.Mem.tail _ ?_))); (case q2 => (repeat' (first | assumption | exact List.Mem.head _ | refine List.Mem.tail _ ?_))); (case q3 => (repeat' (first | assumption | exact List.Mem.head _ | refine List.Mem.tail _ ?_))); (case q4 => omega); (case q7 => assumption); (case ud => ktr_room); (case uu => ktr_units); k_whole); intro eω Gω hω tkω FGω Sω Uω; (try dsimp only))
  k_with "compareOp In str ref" => (k_here; (with_reducible show wpAny _ _ (compareOp CmpOp.In (Value.str _ _) (Value.ref _)) _ _ _); k_dflt (refine' in_parT ?k1 ?k2 ?k3 ?k4 ?_; (case k1 => k_asm); (case k2 => k_asm); (case k3 => k_is); (case k4 => assumption); k_whole))
  k_with "compareOp NotIn str ref" => (k_here; (with_reducible show wpAny _ _ (compareOp CmpOp.NotIn (Value.str _ _) (Value.ref _)) _ _ _); k_dflt (refine' notin_parT ?k1 ?k2 ?k3 ?k4 ?_; (case k1 => k_asm); (case k2 => k_asm); (case k3 => k_is); (case k4 => assumption); k_whole))
  k_with "compareOp In str ref" => (k_here; (with_reducible show wpAny _ _ (compareOp CmpOp.In (Value.str _ _) (Value.ref _)) _ _ _); k_dflt (refine' in_parL ?k1 ?k2 ?k4 ?_; (case k1 => k_asm); (case k2 => k_mem); (case k4 => assumption); k_whole))
  k_with "compareOp In int ref" => (k_here; (with_reducible show wpAny _ _ (compareOp _ (Value.int _ _) (Value.ref _)) _ _ _); k_dflt (refine' bk_in ?kN ?kp ?kd ?kl ?kh ?_; (case kN => k_asm); (case kp => (repeat' (first | assumption | exact List.Mem.head _ | refine List.Mem.tail _ ?_))); (case kd => assumption); (case kl => assumption); (case kh => assumption); k_whole); (try dsimp only))
  k_with "compareOp In int ref" => (k_here; (with_reducible show wpAny _ _ (compareOp _ (Value.int _ _) (Value.ref _)) _ _ _); k_dflt (refine' bk_in0 ?kN ?kp ?kd ?kl ?kh ?_; (case kN => k_asm); (case kp => (repeat' (first | assumption | exact List.Mem.head _ | refine List.Mem.tail _ ?_))); (case kd => assumption); (case kl => assumption); (case kh => assumption); k_whole); (try dsimp only))
  k_with "compareOp NotIn int ref" => (k_here; (with_reducible show wpAny _ _ (compareOp _ (Value.int _ _) (Value.ref _)) _ _ _); k_dflt (refine' bk_notin ?kN ?kp ?kd ?kl ?kh ?_; (case kN => k_asm); (case kp => (repeat' (first | assumption | exact List.Mem.head _ | refine List.Mem.tail _ ?_))); (case kd => assumption); (case kl => assumption); (case kh => assumption); k_whole); (try dsimp only))
  k_with "compareOp NotIn int ref" => (k_here; (with_reducible show wpAny _ _ (compareOp _ (Value.int _ _) (Value.ref _)) _ _ _); k_dflt (refine' bk_notin0 ?kN ?kp ?kd ?kl ?kh ?_; (case kN => k_asm); (case kp => (repeat' (first | assumption | exact List.Mem.head _ | refine List.Mem.tail _ ?_))); (case kd => assumption); (case kl => assumption); (case kh => assumption); k_whole); (try dsimp only))
  k_with "subscriptTail" => (k_here; (with_reducible show wpAny _ _ (subscriptTail _ _ (Value.ref _) (Value.int _ _)) _ _ _); k_dflt (refine' bk_item ?kN ?kp ?kd ?kh ?_ ?k6 ?k7; (case kN => k_asm); (case kp => (repeat' (first | assumption | exact List.Mem.head _ | refine List.Mem.tail _ ?_))); (case kd => assumption); (case kh => assumption); (case k6 => with_unfolding_all rfl); (case k7 => intro _; with_unfolding_all rfl); k_whole); (try dsimp only))
  k_with "getItem ref int" => (k_here; (with_reducible show wpAny _ _ (getItem (Value.ref _) (Value.int _ _)) _ _ _); k_dflt (refine' bk_getItem ?kN ?kp ?kd ?kh ?_; (case kN => k_asm); (case kp => (repeat' (first | assumption | exact List.Mem.head _ | refine List.Mem.tail _ ?_))); (case kd => assumption); (case kh => assumption); k_whole); (try dsimp only))
  k_with "call builtin:len" => (k_here; (with_reducible show wpAny _ _ (call (Value.builtin "len") [Value.ref _]) _ _ _); k_dflt (refine' bk_len ?kN ?kp ?kd ?kl ?kh ?_; (case kN => k_asm); (case kp => (repeat' (first | assumption | exact List.Mem.head _ | refine List.Mem.tail _ ?_))); (case kd => assumption); (case kl => assumption); (case kh => assumption); k_whole); (try dsimp only))
  k_with "setItem ref int" => (k_here; (with_reducible show wpAny _ _ (setItem (Value.ref _) (Value.int _ _) _) _ _ _); k_dflt (refine' bk_set ?kF ?kN ?kU ?kd ?kl ?_; (case kF => k_asm); (case kN => k_asm); (case kU => k_updF); (case kd => assumption); (case kl => assumption); k_whole); intro hω oω Fω Nω hdω; (try dsimp only at Nω))
  k_with "leaving ref" => (k_here; k_dflt (refine' leave_onX ?kf ?k1 ?k2 ?k3 ?k4 ?_; (case kf => exact rfl); (case k3 => assumption); (case k2 => assumption); (case k1 => assumption); (case k4 => assumption); k_whole); intro hω Sω Rω Uω; (try dsimp only at Sω Rω Uω ⊢))
  k_with "call ref" => (k_here; (with_reducible show wpAny _ _ (call (Value.ref 173) _) _ _ _); k_dflt (refine' use_rctr (setv_bad _ _ _ _ _ _ _ _ _ _ _ _ ?q1 ?q2 ?q3 ?q4 ?q5) ?uB ?uF ?uX ?uN ?uT ?uk ?ud ?uu ?_; (case uF => k_asm); (case uN => k_asm); (case uB => k_asm); (case uX => k_asm); (case uT => assumption); (case uk => rfl); (case q1 => (repeat' (first | assumption | exact List.Mem.head _ | refine List.Mem.tail _ ?_))); (case q2 => (repeat' (first | assumption | exact List.Mem.head _ | refine List.Mem.tail _ ?_))); (case q3 => (repeat' (first | assumption | exact List.Mem.head _ | refine List.Mem.tail _ ?_))); (case q4 => (first | omega | assumption)); (case q5 => assumption); (case ud => ktr_room); (case uu => ktr_units); k_whole); intro eω Gω hω tkω FGω Sω Uω; (try dsimp only))
  k_with "call ref" => (k_here; (with_reducible show wpAny _ _ (call (Value.ref 173) _) _ _ _); k_dflt (refine' use_rctr (setv_par _ _ _ _ _ _ _ _ _ _ _ _ ?q1 ?q2 ?q3 _ _ _ _ _ _ _ _ _ _ _ _ ?q4 ?q5 ?q6 ?q7 ?q8 ?q9 ?q0) ?uB ?uF ?uX ?uN ?uT ?uk ?ud ?uu ?_; (case uF => k_asm); (case uN => k_asm); (case uB => k_asm); (case uX => k_asm); (case uT => assumption); (case uk => rfl); (case q1 => (repeat' (first | assumption | exact List.Mem.head _ | refine List.Mem.tail _ ?_))); (case q2 => (repeat' (first | assumption | exact List.Mem.head _ | refine List.Mem.tail _ ?_))); (case q3 => (repeat' (first | assumption | exact List.Mem.head _ | refine List.Mem.tail _ ?_))); (case q6 => omega); (case q7 => omega); (case q8 => assumption); (case q4 => (repeat' (first | assumption | exact List.Mem.head _ | refine List.Mem.tail _ ?_))); (case q5 => (repeat' (first | assumption | exact List.Mem.head _ | refine List.Mem.tail _ ?_))); (case q9 => assumption); (case q0 => assumption); (case ud => ktr_room); (case uu => ktr_units); k_whole); intro eω Gω hω tkω FGω Sω Uω; (try dsimp only))
  k_with "call ref" => (k_here; (with_reducible show wpAny _ _ (call (Value.ref 117) _) _ _ _); k_dflt (refine' use_rctr (add_bad _ _ _ _ _ _ _ _ _ _ _ _ _ _ _ _ _ _ _ _ ?q1 ?q2 ?q3 ?q4 ?q5) ?uB ?uF ?uX ?uN ?uT ?uk ?ud ?uu ?_; (case uF => k_asm); (case uN => k_asm); (case uB => k_asm); (case uX => k_asm); (case uT => assumption); (case uk => rfl); (case q1 => (repeat' (first | assumption | exact List.Mem.head _ | refine List.Mem.tail _ ?_))); (case q2 => (repeat' (first | assumption | exact List.Mem.head _ | refine List.Mem.tail _ ?_))); (case q3 => (repeat' (first | assumption | exact List.Mem.head _ | refine List.Mem.tail _ ?_))); (case q4 => (first | omega | assumption)); (case q5 => assumption); (case ud => ktr_room); (case uu => ktr_units); k_whole); intro eω Gω hω tkω FGω Sω Uω; (try dsimp only))
  k_with "call ref" => (k_here; (with_reducible show wpAny _ _ (call (Value.ref 117) _) _ _ _); k_dflt (refine' use_rctr (add_kid _ _ _ _ _ _ _ _ _ _ _ _ _ _ _ _ _ _ _ _ ?q1 ?q2 ?q3 _ _ _ _ _ _ _ _ _ _ _ _ ?q4 ?q5 ?q6 ?q7 ?q8 ?q9 ?q0) ?uB ?uF ?uX ?uN ?uT ?uk ?ud ?uu ?_; (case uF => k_asm); (case uN => k_asm); (case uB => k_asm); (case uX => k_asm); (case uT => assumption); (case uk => rfl); (case q1 => (repeat' (first | assumption | exact List.Mem.head _ | refine List.Mem.tail _ ?_))); (case q2 => (repeat' (first | assumption | exact List.Mem.head _ | refine List.Mem.tail _ ?_))); (case q3 => (repeat' (first | assumption | exact List.Mem.head _ | refine List.Mem.tail _ ?_))); (case q6 => omega); (case q7 => omega); (case q8 => assumption); (case q4 => (repeat' (first | assumption | exact List.Mem.head _ | refine List.Mem.tail _ ?_))); (case q5 => (repeat' (first | assumption | exact List.Mem.head _ | refine List.Mem.tail _ ?_))); (case q9 => assumption); (case q0 => assumption); (case ud => ktr_room); (case uu => ktr_units); k_whole); intro eω Gω hω tkω FGω Sω Uω; (try dsimp only))
  k_with "call ref" => (k_here; (with_reducible show wpAny _ _ (call (Value.ref 152) _) _ _ _); k_dflt (refine' use_rctr (erow_bad _ _ _ _ _ _ _ _ _ _ ?q1 ?q2 ?q3 ?q4 ?q5) ?uB ?uF ?uX ?uN ?uT ?uk ?ud ?uu ?_; (case uF => k_asm); (case uN => k_asm); (case uB => k_asm); (case uX => k_asm); (case uT => assumption); (case uk => rfl); (case q1 => (repeat' (first | assumption | exact List.Mem.head _ | refine List.Mem.tail _ ?_))); (case q2 => (repeat' (first | assumption | exact List.Mem.head _ | refine List.Mem.tail _ ?_))); (case q3 => (repeat' (first | assumption | exact List.Mem.head _ | refine List.Mem.tail _ ?_))); (case q4 => (first | omega | assumption)); (case q5 => assumption); (case ud => ktr_room); (case uu => ktr_units); k_whole); intro eω Gω hω tkω FGω Sω Uω; (try dsimp only))
  k_with "call ref" => (k_here; (with_reducible show wpAny _ _ (call (Value.ref 152) _) _ _ _); k_dflt (refine' use_rctr (erow_no _ _ _ _ _ _ _ _ _ _ ?q1 ?q2 ?q3 _ _ _ _ _ _ _ _ _ _ _ _ ?q4 ?q5 ?q6 ?q7 ?q8 ?q9 ?q0) ?uB ?uF ?uX ?uN ?uT ?uk ?ud ?uu ?_; (case uF => k_asm); (case uN => k_asm); (case uB => k_asm); (case uX => k_asm); (case uT => assumption); (case uk => rfl); (case q1 => (repeat' (first | assumption | exact List.Mem.head _ | refine List.Mem.tail _ ?_))); (case q2 => (repeat' (first | assumption | exact List.Mem.head _ | refine List.Mem.tail _ ?_))); (case q3 => (repeat' (first | assumption | exact List.Mem.head _ | refine List.Mem.tail _ ?_))); (case q6 => omega); (case q7 => omega); (case q8 => assumption); (case q4 => (repeat' (first | assumption | exact List.Mem.head _ | refine List.Mem.tail _ ?_))); (case q5 => (repeat' (first | assumption | exact List.Mem.head _ | refine List.Mem.tail _ ?_))); (case q9 => assumption); (case q0 => assumption); (case ud => ktr_room); (case uu => ktr_units); k_whole); intro eω Gω hω tkω FGω Sω Uω; (try dsimp only))
  k_with "call ref" => (k_here; (with_reducible show wpAny _ _ (call (Value.ref 180) _) _ _ _); k_dflt (refine' use_rctr (kind_bad _ _ _ _ _ _ _ _ _ _ ?q1 ?q2 ?q3 ?q4 ?q5) ?uB ?uF ?uX ?uN ?uT ?uk ?ud ?uu ?_; (case uF => k_asm); (case uN => k_asm); (case uB => k_asm); (case uX => k_asm); (case uT => assumption); (case uk => rfl); (case q1 => (repeat' (first | assumption | exact List.Mem.head _ | refine List.Mem.tail _ ?_))); (case q2 => (repeat' (first | assumption | exact List.Mem.head _ | refine List.Mem.tail _ ?_))); (case q3 => (repeat' (first | assumption | exact List.Mem.head _ | refine List.Mem.tail _ ?_))); (case q4 => (first | omega | assumption)); (case q5 => assumption); (case ud => ktr_room); (case uu => ktr_units); k_whole); intro eω Gω hω tkω FGω Sω Uω; (try dsimp only))
  k_with "call ref" => (k_here; (with_reducible show wpAny _ _ (call (Value.ref 292) _) _ _ _); k_dflt (refine' use_ctrS (refused_raise _ _ _ ?qf ?qc) ?uB ?uF ?uX ?uXB ?uN ?uT ?uTB ?uD ?uT0 ?uCT ?uk ?ud ?uu ?_; (case uF => k_asm); (case uN => k_asm); (case uB => k_asm); (case uX => k_asm); (case uXB => assumption); (case uT => assumption); (case uTB => assumption); (case uD => assumption); (case uT0 => first | assumption | exact KtsTurn.refl); (case uCT => exact ⟨by assumption, by assumption, by assumption, by assumption⟩); (case uk => rfl); (case ud => ktr_room); (case uu => ktr_units); (case qf => (repeat' (first | assumption | exact List.Mem.head _ | refine List.Mem.tail _ ?_))); (case qc => (unfold RCtr; intro p9 loose9 mean9 mg9 mb9 dp9 un9 gd9 cn9 cs9 aa9 ccd9 cl9 outer9 A9 base9 h9 L9 m9 s9 Q9 E9 B9 F9 X9 N9 T9 hk9 hd9 hu9 hret9; refine wpAny_call ?_; k_dflt (refine' kla_code ?k1 ?k2 ?k3 ?k4 ?k5 ?kA ?kF ?kK ?k6 ?k7 ?k8 ?k9 ?kB ?_ ?c2 ?c3 ?c4 ?c5; (case kA => exact rfl); (case kF => exact rfl); (case kK => assumption); (case k1 => k_asm); (case k2 => k_asm); (case k3 => k_asm); (case k4 => k_asm); (case k5 => k_asm); (case k6 => k_mem); (case k7 => exact codeRec_news (by k_asm) (by k_mem) (by assumption) (by assumption)); (case k8 => ktr_room); (case k9 => exact rfl); (case c5 => decide); (case kB => exact locs rfl); (case c2 => exact rfl); (case c3 => exact rfl); (case c4 => exact rfl); k_whole; intro gω Lω hω FGω Fω Nω Bω Xω Tω; (try dsimp only); (try k_lift Bω); (try k_fold)); k_steps; all_goals exact hret9 _ _ _ _ (by k_asm) (by k_asm) (by k_asm))); k_whole); intro vω hω tkω nω gωω KTω Fω Nω Bω Xω Pω Dω hPω; obtain ⟨e1ω, e2ω⟩ := hPω; subst e1ω; subst e2ω; (try dsimp only))
  trivial
theorem chg_ok (w : World) (tr dT rl bk : Addr) (tkr : Tok) (vs : List Value) (c : Nat) (rest : Led) (k : Int) (tk : Tok)
   (h1 : (tr, instObj 260 dT) ∈ rest) (h2 : (dT, rowsD w tkr rl) ∈ rest) (h3 : (rl, listOf vs.toArray c) ∈ rest)
   (od : Obj) (kvs : List (Int × Value)) (h5 : (bk, od) ∈ rest) (hod : od.IsDictOf (PySem.intKind PySem.Challenge.rw_xw0201_01.row.prog w) kvs) (lo : (bk == sysModules) = false) (hl : vs.length ≤ 100)
   (a d cc x y : Addr) (t : Nat → Tok) (kind name uri loc value : Str) (par : Value) (h4 : (a, instObj 71 d) ∈ rest)
   (k0 : 0 ≤ k) (k1 : k < (vs.length : Int)) (hv : vs[k.toNat]? = some (.ref a)) (bl g : Addr) (u1 u2 : Tok) (bval : Str) (bpar : Value) (nb : Nat) (hva : valueAt kvs k = some (.ref bl))
   (nv : Str) (tn : Tok)
    (hd : ∀ p ∈ rest, p.1 ≠ d) (hbl : ∀ p ∈ rest, p.1 ≠ bl) (hne : @Ne Nat d bl) (hkd : isPar kind = false) :
   CtrS w 313 [.ref tr, .ref bk, .int k tk, .str nv tn] ((d, rowD w t kind name uri loc value par cc x y) :: (bl, listOf [.str kind u1, .str bval u2, bpar, .ref g].toArray nb) :: rest) 80 320
    (fun v' news' => v' = .bool true ∧ (∃ t', (d, rowD w t' kind name uri loc nv par cc x y) ∈ news') ∧ (∃ nb', (bl, listOf [.str kind u1, .str nv tn, bpar, .ref g].toArray nb') ∈ news') ∧ ∀ p ∈ rest, p ∈ news') := by
  unfold CtrS
  k_fill
  intro p loose mean mg mb dp un gd cn cs aa ccd cl outer A₀ base h₀ g₀ L m s Q E B F X XB N T TB D T0 CT hk hdp hu hret
  obtain ⟨C1, C2, C3, C4⟩ := CT
  refine wpAny_call ?_
  k_dflt (refine' callSC ?k1 ?k2 ?k3 ?k4 ?k5 ?XB ?TB ?D ?T0 ?kA ?kf ?kK ?k6 ?k7 ?k8 ?k9 ?kB ?kD ?_ ?c2 ?c3 ?c4; (case kA => exact rfl); (case kf => exact rfl); (case kK => assumption); (case k2 => k_asm); (case k1 => k_asm); (case XB => assumption); (case TB => assumption); (case D => assumption); (case T0 => assumption); (case k3 => k_asm); (case k4 => k_asm); (case k5 => k_asm); (case k6 => k_is); (case k7 => k_is); (case k8 => ktr_room); (case k9 => exact BindsTo.of_eq rfl); (case kB => exact rfl); (case kD => decide +kernel); (case c2 => exact rfl); (case c3 => exact rfl); (case c4 => exact rfl); k_whole; intro g' L' h' tk' cells' FG' F' N' Y' B' X' T' l1 D'; (try k_lt l1); k_cells Y'; (try simp only [List.cons_append, List.nil_append] at N'); (try dsimp only); (try k_lift B'); (try k_fold))
  k_steps
  exact hret _ _ _ _ _ (by assumption) (by k_asm) (by k_asm) (by assumption) (by assumption) (by assumption) (by assumption)
    ⟨rfl, ⟨fun i => if i = 9 then tn else t i, (by repeat' (first | exact List.Mem.head _ | refine List.Mem.tail _ ?_))⟩, ⟨_, (by repeat' (first | exact List.Mem.head _ | refine List.Mem.tail _ ?_))⟩, fun p hp => by repeat' (first | exact hp | refine List.Mem.tail _ ?_)⟩
theorem chg_par0 (w : World) (tr dT rl bk : Addr) (tkr : Tok) (vs : List Value) (c : Nat) (rest : Led) (k : Int) (tk : Tok)
   (h1 : (tr, instObj 260 dT) ∈ rest) (h2 : (dT, rowsD w tkr rl) ∈ rest) (h3 : (rl, listOf vs.toArray c) ∈ rest)
   (od : Obj) (kvs : List (Int × Value)) (h5 : (bk, od) ∈ rest) (hod : od.IsDictOf (PySem.intKind PySem.Challenge.rw_xw0201_01.row.prog w) kvs) (lo : (bk == sysModules) = false) (hl : vs.length ≤ 100)
   (a d cc x y : Addr) (t : Nat → Tok) (kind name uri loc value : Str) (par : Value) (h4 : (a, instObj 71 d) ∈ rest)
   (k0 : 0 ≤ k) (k1 : k < (vs.length : Int)) (hv : vs[k.toNat]? = some (.ref a)) (bl g : Addr) (u1 u2 : Tok) (bval : Str) (bpar : Value) (nb : Nat) (hva : valueAt kvs k = some (.ref bl))
   (h4' : (d, rowD w t kind name uri loc value par cc x y) ∈ rest) (h6 : (bl, listOf [.str kind u1, .str bval u2, bpar, .ref g].toArray nb) ∈ rest)
   (nv : Str) (tn : Tok)
   (hkd : isPar kind = true)
   (hP : ∀ p ∈ rest, p.1 ≠ 308)
 :
   CtrS w 313 [.ref tr, .ref bk, .int k tk, .str nv tn] ((308, tabObj #[]) :: rest) 180 720
    (fun v' news' => v' = .bool true ∧ TabH 308 158 28 ("_law_changed_right" ++ ".<locals>." ++ "<lambda>" : Str) news' ∧ ∀ p ∈ rest, p ∈ news') := by
  unfold CtrS
  k_fill
  intro p loose mean mg mb dp un gd cn cs aa ccd cl outer A₀ base h₀ g₀ L m s Q E B F X XB N T TB D T0 CT hk hdp hu hret
  obtain ⟨C1, C2, C3, C4⟩ := CT
  refine wpAny_call ?_
  k_dflt (refine' callSC ?k1 ?k2 ?k3 ?k4 ?k5 ?XB ?TB ?D ?T0 ?kA ?kf ?kK ?k6 ?k7 ?k8 ?k9 ?kB ?kD ?_ ?c2 ?c3 ?c4; (case kA => exact rfl); (case kf => exact rfl); (case kK => assumption); (case k2 => k_asm); (case k1 => k_asm); (case XB => assumption); (case TB => assumption); (case D => assumption); (case T0 => assumption); (case k3 => k_asm); (case k4 => k_asm); (case k5 => k_asm); (case k6 => k_is); (case k7 => k_is); (case k8 => ktr_room); (case k9 => exact BindsTo.of_eq rfl); (case kB => exact rfl); (case kD => decide +kernel); (case c2 => exact rfl); (case c3 => exact rfl); (case c4 => exact rfl); k_whole; intro g' L' h' tk' cells' FG' F' N' Y' B' X' T' l1 D'; (try k_lt l1); k_cells Y'; (try simp only [List.cons_append, List.nil_append] at N'); (try dsimp only); (try k_lift B'); (try k_fold))
  k_steps
  exact hret _ _ _ _ _ (by assumption) (by k_asm) (by k_asm) (by assumption) (by assumption) (by assumption) (by assumption)
    ⟨rfl, ⟨_, _, _, _, (by repeat' (first | exact List.Mem.head _ | refine List.Mem.tail _ ?_)), (by repeat' (first | exact List.Mem.head _ | refine List.Mem.tail _ ?_)), by assumption, by assumption⟩, fun p hp => by repeat' (first | exact hp | refine List.Mem.tail _ ?_)⟩
theorem chg_par (w : World) (tr dT rl bk : Addr) (tkr : Tok) (vs : List Value) (c : Nat) (rest : Led) (k : Int) (tk : Tok)
   (h1 : (tr, instObj 260 dT) ∈ rest) (h2 : (dT, rowsD w tkr rl) ∈ rest) (h3 : (rl, listOf vs.toArray c) ∈ rest)
   (od : Obj) (kvs : List (Int × Value)) (h5 : (bk, od) ∈ rest) (hod : od.IsDictOf (PySem.intKind PySem.Challenge.rw_xw0201_01.row.prog w) kvs) (lo : (bk == sysModules) = false) (hl : vs.length ≤ 100)
   (a d cc x y : Addr) (t : Nat → Tok) (kind name uri loc value : Str) (par : Value) (h4 : (a, instObj 71 d) ∈ rest)
   (k0 : 0 ≤ k) (k1 : k < (vs.length : Int)) (hv : vs[k.toNat]? = some (.ref a)) (bl g : Addr) (u1 u2 : Tok) (bval : Str) (bpar : Value) (nb : Nat) (hva : valueAt kvs k = some (.ref bl))
   (h4' : (d, rowD w t kind name uri loc value par cc x y) ∈ rest) (h6 : (bl, listOf [.str kind u1, .str bval u2, bpar, .ref g].toArray nb) ∈ rest)
   (nv : Str) (tn : Tok)
   (hkd : isPar kind = true)
   (hP : TabH 308 158 28 ("_law_changed_right" ++ ".<locals>." ++ "<lambda>" : Str) rest)
 :
   CtrS w 313 [.ref tr, .ref bk, .int k tk, .str nv tn] rest 180 720
    (fun v' news' => v' = .bool true ∧ TabH 308 158 28 ("_law_changed_right" ++ ".<locals>." ++ "<lambda>" : Str) news' ∧ ∀ p ∈ rest, p ∈ news') := by
  unfold CtrS
  k_fill
  obtain ⟨c9, oc9, vs9, t9, hP1, hP2, hP3, hP4⟩ := hP
  intro p loose mean mg mb dp un gd cn cs aa ccd cl outer A₀ base h₀ g₀ L m s Q E B F X XB N T TB D T0 CT hk hdp hu hret
  obtain ⟨C1, C2, C3, C4⟩ := CT
  refine wpAny_call ?_
  k_dflt (refine' callSC ?k1 ?k2 ?k3 ?k4 ?k5 ?XB ?TB ?D ?T0 ?kA ?kf ?kK ?k6 ?k7 ?k8 ?k9 ?kB ?kD ?_ ?c2 ?c3 ?c4; (case kA => exact rfl); (case kf => exact rfl); (case kK => assumption); (case k2 => k_asm); (case k1 => k_asm); (case XB => assumption); (case TB => assumption); (case D => assumption); (case T0 => assumption); (case k3 => k_asm); (case k4 => k_asm); (case k5 => k_asm); (case k6 => k_is); (case k7 => k_is); (case k8 => ktr_room); (case k9 => exact BindsTo.of_eq rfl); (case kB => exact rfl); (case kD => decide +kernel); (case c2 => exact rfl); (case c3 => exact rfl); (case c4 => exact rfl); k_whole; intro g' L' h' tk' cells' FG' F' N' Y' B' X' T' l1 D'; (try k_lt l1); k_cells Y'; (try simp only [List.cons_append, List.nil_append] at N'); (try dsimp only); (try k_lift B'); (try k_fold))
  k_steps
  exact hret _ _ _ _ _ (by assumption) (by k_asm) (by k_asm) (by assumption) (by assumption) (by assumption) (by assumption)
    ⟨rfl, ⟨c9, oc9, vs9, t9, (by repeat' (first | assumption | refine List.Mem.tail _ ?_)), (by repeat' (first | assumption | refine List.Mem.tail _ ?_)), hP3, hP4⟩, fun p hp => by repeat' (first | exact hp | refine List.Mem.tail _ ?_)⟩
theorem chg_bad (w : World) (tr dT rl bk : Addr) (tkr : Tok) (vs : List Value) (c : Nat) (rest : Led) (k : Int) (tk : Tok)
   (h1 : (tr, instObj 260 dT) ∈ rest) (h2 : (dT, rowsD w tkr rl) ∈ rest) (h3 : (rl, listOf vs.toArray c) ∈ rest)
   (od : Obj) (kvs : List (Int × Value)) (h5 : (bk, od) ∈ rest) (hod : od.IsDictOf (PySem.intKind PySem.Challenge.rw_xw0201_01.row.prog w) kvs) (lo : (bk == sysModules) = false) (hl : vs.length ≤ 100)
   (nv : Str) (tn : Tok)
   (hk : k < 0 ∨ (vs.length : Int) ≤ k) (hva : valueAt kvs k = none)
   (hP : TabH 308 158 28 ("_law_changed_right" ++ ".<locals>." ++ "<lambda>" : Str) rest)
 :
   CtrS w 313 [.ref tr, .ref bk, .int k tk, .str nv tn] rest 180 720
    (fun v' news' => v' = .bool true ∧ TabH 308 158 28 ("_law_changed_right" ++ ".<locals>." ++ "<lambda>" : Str) news' ∧ ∀ p ∈ rest, p ∈ news') := by
  unfold CtrS
  k_fill
  obtain ⟨c9, oc9, vs9, t9, hP1, hP2, hP3, hP4⟩ := hP
  intro p loose mean mg mb dp un gd cn cs aa ccd cl outer A₀ base h₀ g₀ L m s Q E B F X XB N T TB D T0 CT hk hdp hu hret
  obtain ⟨C1, C2, C3, C4⟩ := CT
  refine wpAny_call ?_
  k_dflt (refine' callSC ?k1 ?k2 ?k3 ?k4 ?k5 ?XB ?TB ?D ?T0 ?kA ?kf ?kK ?k6 ?k7 ?k8 ?k9 ?kB ?kD ?_ ?c2 ?c3 ?c4; (case kA => exact rfl); (case kf => exact rfl); (case kK => assumption); (case k2 => k_asm); (case k1 => k_asm); (case XB => assumption); (case TB => assumption); (case D => assumption); (case T0 => assumption); (case k3 => k_asm); (case k4 => k_asm); (case k5 => k_asm); (case k6 => k_is); (case k7 => k_is); (case k8 => ktr_room); (case k9 => exact BindsTo.of_eq rfl); (case kB => exact rfl); (case kD => decide +kernel); (case c2 => exact rfl); (case c3 => exact rfl); (case c4 => exact rfl); k_whole; intro g' L' h' tk' cells' FG' F' N' Y' B' X' T' l1 D'; (try k_lt l1); k_cells Y'; (try simp only [List.cons_append, List.nil_append] at N'); (try dsimp only); (try k_lift B'); (try k_fold))
  k_steps
  exact hret _ _ _ _ _ (by assumption) (by k_asm) (by k_asm) (by assumption) (by assumption) (by assumption) (by assumption)
    ⟨rfl, ⟨c9, oc9, vs9, t9, (by repeat' (first | assumption | refine List.Mem.tail _ ?_)), (by repeat' (first | assumption | refine List.Mem.tail _ ?_)), hP3, hP4⟩, fun p hp => by repeat' (first | exact hp | refine List.Mem.tail _ ?_)⟩
end
section
open PySem PySem.W PySem.Calls PyProof.Rows PySem.SeqAt
section
variable {A : Around} {s : Shared}
theorem all_true (n : Nat) : ((List.range n).all fun _ => true) = true := by simp [List.all_eq_true]
theorem same_str (a : Str) (t u : Tok) : EqAt A s (.str a t) (.str a u) true := by simpa using EqAt.str_str (A := A) (s := s) a t a u
theorem same_int (a : Int) (t u : Tok) : EqAt A s (.int a t) (.int a u) true := by simpa using EqAt.int_int (A := A) (s := s) a t a u
theorem ints_at {vs us : List Value} {ns : List Int} (i : IntsAre vs ns) : ∀ (_ : IntsAre us ns) (j : Nat) (x y : Value), vs[j]? = some x → us[j]? = some y → EqAt A s x y true := by
  induction i generalizing us with
  | nil => intro _ j x y hx; simp at hx
  | cons n t _ ih =>
    intro i' j x y hx hy
    cases i' with
    | cons _ u r =>
      cases j with
      | zero => simp at hx hy; subst hx; subst hy; exact same_int _ _ _
      | succ j => simp at hx hy; exact ih r j x y hx hy
theorem same_ints {l b : Addr} {vs us : List Value} {ns : List Int} (hl : s.heap.IsList l vs.toArray) (hb : s.heap.IsList b us.toArray) (i : IntsAre vs ns) (i' : IntsAre us ns) (hu : A.units < cLine) : EqAt A s (.ref l) (.ref b) true := by
  by_cases e : l = b
  · subst e; exact EqAt.same _
  · have hlen : vs.length = us.length := i.length.trans i'.length.symm
    have := RcAt.lists (A := A) (s := s) (e := fun _ => true) hl hb (by simpa using hlen) hu fun j h1 h2 => ints_at i i' j _ _ (by simp) (by simp)
    refine EqAt.of_refs e ?_
    rw [all_true] at this; exact this
/-- the items are equal, one by one -/
inductive SameL (A : Around) (s : Shared) : List Value → List Value → Prop
  | nil : SameL A s [] []
  | cons {x y xs ys} : EqAt A s x y true → SameL A s xs ys → SameL A s (x :: xs) (y :: ys)
theorem SameL.len {xs ys : List Value} (h : SameL A s xs ys) : xs.length = ys.length := by
  induction h with
  | nil => rfl
  | cons _ _ ih => simp [ih]
theorem SameL.at {xs ys : List Value} (h : SameL A s xs ys) : ∀ (j : Nat) (x y : Value), xs[j]? = some x → ys[j]? = some y → EqAt A s x y true := by
  induction h with
  | nil => intro j x y hx; simp at hx
  | cons e _ ih =>
    intro j x y hx hy
    cases j with
    | zero => simp at hx hy; subst hx; subst hy; exact e
    | succ j => simp at hx hy; exact ih j x y hx hy
end
section
variable {prog : Program} {w : World} {A : Around} {E : Value → Shared → Prop} {s : Shared} {h₀ : Heap} {L : Addr} {news : Led} {a b : Addr} {xs ys : List Value} {n n2 : Nat} {Q : Value → Shared → Prop}
abbrev tupOf (xs : List Value) (n : Nat) : Obj := { cls := .type "tuple", data := .seq xs.toArray n }
theorem tup_eq (N : News h₀ L s.heap news) (h1 : (a, tupOf xs n) ∈ news) (h2 : (b, tupOf ys n2) ∈ news) (hu : A.units < cLine) (he : SameL A.in1 s xs ys) (h : Q (.bool true) s) : wpAny (model prog w) A (compareOp .Eq (.ref a) (.ref b)) Q E s := by
  refine eq_tupleAt (e := fun _ => true) ⟨_, (N _ h1).1, rfl, n, rfl⟩ ⟨_, (N _ h2).1, rfl, n2, rfl⟩ hu (fun j q1 q2 => he.at j _ _ (by simp) (by simp)) ?_
  rw [all_true]; simpa [he.len] using h
theorem tup_ne (N : News h₀ L s.heap news) (h1 : (a, tupOf xs n) ∈ news) (h2 : (b, tupOf ys n2) ∈ news) (hu : A.units < cLine) (he : SameL A.in1 s xs ys) (h : Q (.bool false) s) : wpAny (model prog w) A (compareOp .NotEq (.ref a) (.ref b)) Q E s := by
  have := RcNeAt.tuples (A := A) (s := s) (e := fun _ => true) ⟨_, (N _ h1).1, rfl, n, rfl⟩ ⟨_, (N _ h2).1, rfl, n2, rfl⟩ hu (fun j q1 q2 => he.at j _ _ (by simp) (by simp))
  refine this prog w E Q ?_
  rw [all_true]; simpa [he.len] using h
end
end
section
open PySem PySem.W PySem.Calls PyProof.Rows
theorem ln_Ask_0 : True := by
  w_top off
  k_with_none
  k_with "call builtin:len" => (k_here; (with_reducible show wpAny _ _ (call (Value.builtin "len") [Value.ref _]) _ _ _); k_dflt (refine' len_led ?k1 ?k2 ?k3 ?_; (case k1 => k_asm); (case k2 => (repeat' (first | assumption | exact List.Mem.head _ | refine List.Mem.tail _ ?_))); (case k3 => ((try simp only [List.length_cons, List.length_nil, List.length_append, List.length_map]); omega)); k_whole); (try dsimp only))
  k_with "subscriptTail" => (k_here; (with_reducible show wpAny _ _ (subscriptTail _ _ (Value.ref _) (Value.int _ _)) _ _ _); k_dflt (refine' item_led ?k1 ?k2 ?k3 ?k4 ?k5 ?_ ?k6; (case k1 => k_asm); (case k2 => (repeat' (first | assumption | exact List.Mem.head _ | refine List.Mem.tail _ ?_))); (case k3 => omega); (case k4 => omega); (case k5 => (first | assumption | (rw [List.getElem?_append_left (by omega)]; assumption))); (case k6 => with_unfolding_all rfl); k_whole); (try dsimp only))
  k_with "exec Raise some none" => (k_here; (with_reducible show wpAny _ _ (exec (Stmt.Raise (some (Expr.Call (Expr.Name (Str.ofString "TreeFault") _) [Expr.Constant (Const.str _) _ _] [] _)) none _) _) _ _ _); k_dflt (refine' raise_tf ?kB ?kF ?kX ?kN ?kT ?kk ?kx ?kn ?ki ?kf ?kd ?ku ?_; (case kB => k_asm); (case kF => k_asm); (case kX => k_asm); (case kN => k_asm); (case kT => assumption); (case kk => rfl); (case kx => k_is); (case kn => rfl); (case ki => k_is); (case kf => k_is); (case kd => ktr_room); (case ku => ktr_units); k_whole); intro eω tω dω hω tkω Fω Nω neω)
  k_with "leaving ref" => (k_here; k_dflt (refine' leave_led ?kK ?kF ?kN ?kne ?kd ?k1 ?k0 ?_; (case kF => k_asm); (case kN => k_asm); (case kK => k_asm); (case kne => k_asm); (case kd => rfl); (case k1 => rfl); (case k0 => rfl); k_whole); intro hω Sω Rω Uω; (try dsimp only at Sω Rω Uω ⊢))
  k_with "leaving ref" => (k_here; k_dflt (refine' leave_onSN ?k1 ?k2 ?k3 ?k4 ?_; (case k3 => assumption); (case k2 => assumption); (case k1 => assumption); (case k4 => assumption); k_whole); intro hω Sω Rω Uω; (try dsimp only at Sω Rω Uω ⊢))
  k_with "getAttr ref" => (k_here; k_dflt (refine' get_own ?k1 ?k2 ?k3 ?k4 ?k5 ?k6 ?k7 ?k8 ?k9 ?_; (case k1 => k_asm); (case k2 => k_asm); (case k3 => k_inst); (case k4 => k_is); (case k5 => k_is); (case k6 => k_is); (case k7 => k_is); (case k8 => k_get); (case k9 => k_handed); k_whole); (try dsimp only))
  k_with "eval Constant int" => (k_here; refine wpAny_Constant_int ?_; (try dsimp only))
  k_with "eval Constant str" => (k_here; refine Calls.Constant_str ?_; (try dsimp only))
  k_with "call ref" => (k_here; (with_reducible show wpAny _ _ (call (Value.ref 103) _) _ _ _); k_dflt (refine' use_ctr (row_ok _ _ _ _ _ _ _ _ _ _ _ ?q1 ?q2 ?q3 ?q4 ?q5 ?q6 ?q7) ?uB ?uF ?uX ?uN ?uT ?uk ?ud ?uu ?_; (case uF => k_asm); (case uN => k_asm); (case uB => k_asm); (case uX => k_asm); (case uT => assumption); (case uk => rfl); (case q1 => (repeat' (first | assumption | exact List.Mem.head _ | refine List.Mem.tail _ ?_))); (case q2 => (repeat' (first | assumption | exact List.Mem.head _ | refine List.Mem.tail _ ?_))); (case q3 => (repeat' (first | assumption | exact List.Mem.head _ | refine List.Mem.tail _ ?_))); (case q4 => omega); (case q5 => omega); (case q6 => assumption); (case q7 => assumption); (case ud => ktr_room); (case uu => ktr_units); k_whole); intro vω hω tkω nω Fω Nω hPω; obtain ⟨e1ω, e2ω⟩ := hPω; subst e1ω; subst e2ω; (try dsimp only))
  k_with "call ref" => (k_here; (with_reducible show wpAny _ _ (call (Value.ref 103) _) _ _ _); k_dflt (refine' use_rctr (row_bad _ _ _ _ _ _ _ _ _ _ ?q1 ?q2 ?q3 ?q4 ?q7) ?uB ?uF ?uX ?uN ?uT ?uk ?ud ?uu ?_; (case uF => k_asm); (case uN => k_asm); (case uB => k_asm); (case uX => k_asm); (case uT => assumption); (case uk => rfl); (case q1 => (repeat' (first | assumption | exact List.Mem.head _ | refine List.Mem.tail _ ?_))); (case q2 => (repeat' (first | assumption | exact List.Mem.head _ | refine List.Mem.tail _ ?_))); (case q3 => (repeat' (first | assumption | exact List.Mem.head _ | refine List.Mem.tail _ ?_))); (case q4 => omega); (case q7 => assumption); (case ud => ktr_room); (case uu => ktr_units); k_whole); intro eω Gω hω tkω FGω Sω Uω; (try dsimp only))
  k_with "compareOp In str ref" => (k_here; (with_reducible show wpAny _ _ (compareOp CmpOp.In (Value.str _ _) (Value.ref _)) _ _ _); k_dflt (refine' in_parT ?k1 ?k2 ?k3 ?k4 ?_; (case k1 => k_asm); (case k2 => k_asm); (case k3 => k_is); (case k4 => assumption); k_whole))
  k_with "compareOp NotIn str ref" => (k_here; (with_reducible show wpAny _ _ (compareOp CmpOp.NotIn (Value.str _ _) (Value.ref _)) _ _ _); k_dflt (refine' notin_parT ?k1 ?k2 ?k3 ?k4 ?_; (case k1 => k_asm); (case k2 => k_asm); (case k3 => k_is); (case k4 => assumption); k_whole))
  k_with "compareOp In str ref" => (k_here; (with_reducible show wpAny _ _ (compareOp CmpOp.In (Value.str _ _) (Value.ref _)) _ _ _); k_dflt (refine' in_parL ?k1 ?k2 ?k4 ?_; (case k1 => k_asm); (case k2 => k_mem); (case k4 => assumption); k_whole))
  k_with "compareOp In int ref" => (k_here; (with_reducible show wpAny _ _ (compareOp _ (Value.int _ _) (Value.ref _)) _ _ _); k_dflt (refine' bk_in ?kN ?kp ?kd ?kl ?kh ?_; (case kN => k_asm); (case kp => (repeat' (first | assumption | exact List.Mem.head _ | refine List.Mem.tail _ ?_))); (case kd => assumption); (case kl => assumption); (case kh => assumption); k_whole); (try dsimp only))
  k_with "compareOp In int ref" => (k_here; (with_reducible show wpAny _ _ (compareOp _ (Value.int _ _) (Value.ref _)) _ _ _); k_dflt (refine' bk_in0 ?kN ?kp ?kd ?kl ?kh ?_; (case kN => k_asm); (case kp => (repeat' (first | assumption | exact List.Mem.head _ | refine List.Mem.tail _ ?_))); (case kd => assumption); (case kl => assumption); (case kh => assumption); k_whole); (try dsimp only))
  k_with "compareOp NotIn int ref" => (k_here; (with_reducible show wpAny _ _ (compareOp _ (Value.int _ _) (Value.ref _)) _ _ _); k_dflt (refine' bk_notin ?kN ?kp ?kd ?kl ?kh ?_; (case kN => k_asm); (case kp => (repeat' (first | assumption | exact List.Mem.head _ | refine List.Mem.tail _ ?_))); (case kd => assumption); (case kl => assumption); (case kh => assumption); k_whole); (try dsimp only))
  k_with "compareOp NotIn int ref" => (k_here; (with_reducible show wpAny _ _ (compareOp _ (Value.int _ _) (Value.ref _)) _ _ _); k_dflt (refine' bk_notin0 ?kN ?kp ?kd ?kl ?kh ?_; (case kN => k_asm); (case kp => (repeat' (first | assumption | exact List.Mem.head _ | refine List.Mem.tail _ ?_))); (case kd => assumption); (case kl => assumption); (case kh => assumption); k_whole); (try dsimp only))
  k_with "subscriptTail" => (k_here; (with_reducible show wpAny _ _ (subscriptTail _ _ (Value.ref _) (Value.int _ _)) _ _ _); k_dflt (refine' bk_item ?kN ?kp ?kd ?kh ?_ ?k6 ?k7; (case kN => k_asm); (case kp => (repeat' (first | assumption | exact List.Mem.head _ | refine List.Mem.tail _ ?_))); (case kd => assumption); (case kh => assumption); (case k6 => with_unfolding_all rfl); (case k7 => intro _; with_unfolding_all rfl); k_whole); (try dsimp only))
  k_with "getItem ref int" => (k_here; (with_reducible show wpAny _ _ (getItem (Value.ref _) (Value.int _ _)) _ _ _); k_dflt (refine' bk_getItem ?kN ?kp ?kd ?kh ?_; (case kN => k_asm); (case kp => (repeat' (first | assumption | exact List.Mem.head _ | refine List.Mem.tail _ ?_))); (case kd => assumption); (case kh => assumption); k_whole); (try dsimp only))
  k_with "call builtin:len" => (k_here; (with_reducible show wpAny _ _ (call (Value.builtin "len") [Value.ref _]) _ _ _); k_dflt (refine' bk_len ?kN ?kp ?kd ?kl ?kh ?_; (case kN => k_asm); (case kp => (repeat' (first | assumption | exact List.Mem.head _ | refine List.Mem.tail _ ?_))); (case kd => assumption); (case kl => assumption); (case kh => assumption); k_whole); (try dsimp only))
  k_with "setItem ref int" => (k_here; (with_reducible show wpAny _ _ (setItem (Value.ref _) (Value.int _ _) _) _ _ _); k_dflt (refine' bk_set ?kF ?kN ?kU ?kd ?kl ?_; (case kF => k_asm); (case kN => k_asm); (case kU => k_updF); (case kd => assumption); (case kl => assumption); k_whole); intro hω oω Fω Nω hdω; (try dsimp only at Nω))
  k_with "leaving ref" => (k_here; k_dflt (refine' leave_onX ?kf ?k1 ?k2 ?k3 ?k4 ?_; (case kf => exact rfl); (case k3 => assumption); (case k2 => assumption); (case k1 => assumption); (case k4 => assumption); k_whole); intro hω Sω Rω Uω; (try dsimp only at Sω Rω Uω ⊢))
  k_with "call ref" => (k_here; (with_reducible show wpAny _ _ (call (Value.ref 173) _) _ _ _); k_dflt (refine' use_rctr (setv_bad _ _ _ _ _ _ _ _ _ _ _ _ ?q1 ?q2 ?q3 ?q4 ?q5) ?uB ?uF ?uX ?uN ?uT ?uk ?ud ?uu ?_; (case uF => k_asm); (case uN => k_asm); (case uB => k_asm); (case uX => k_asm); (case uT => assumption); (case uk => rfl); (case q1 => (repeat' (first | assumption | exact List.Mem.head _ | refine List.Mem.tail _ ?_))); (case q2 => (repeat' (first | assumption | exact List.Mem.head _ | refine List.Mem.tail _ ?_))); (case q3 => (repeat' (first | assumption | exact List.Mem.head _ | refine List.Mem.tail _ ?_))); (case q4 => (first | omega | assumption)); (case q5 => assumption); (case ud => ktr_room); (case uu => ktr_units); k_whole); intro eω Gω hω tkω FGω Sω Uω; (try dsimp only))
  k_with "call ref" => (k_here; (with_reducible show wpAny _ _ (call (Value.ref 173) _) _ _ _); k_dflt (refine' use_rctr (setv_par _ _ _ _ _ _ _ _ _ _ _ _ ?q1 ?q2 ?q3 _ _ _ _ _ _ _ _ _ _ _ _ ?q4 ?q5 ?q6 ?q7 ?q8 ?q9 ?q0) ?uB ?uF ?uX ?uN ?uT ?uk ?ud ?uu ?_; (case uF => k_asm); (case uN => k_asm); (case uB => k_asm); (case uX => k_asm); (case uT => assumption); (case uk => rfl); (case q1 => (repeat' (first | assumption | exact List.Mem.head _ | refine List.Mem.tail _ ?_))); (case q2 => (repeat' (first | assumption | exact List.Mem.head _ | refine List.Mem.tail _ ?_))); (case q3 => (repeat' (first | assumption | exact List.Mem.head _ | refine List.Mem.tail _ ?_))); (case q6 => omega); (case q7 => omega); (case q8 => assumption); (case q4 => (repeat' (first | assumption | exact List.Mem.head _ | refine List.Mem.tail _ ?_))); (case q5 => (repeat' (first | assumption | exact List.Mem.head _ | refine List.Mem.tail _ ?_))); (case q9 => assumption); (case q0 => assumption); (case ud => ktr_room); (case uu => ktr_units); k_whole); intro eω Gω hω tkω FGω Sω Uω; (try dsimp only))
  k_with "call ref" => (k_here; (with_reducible show wpAny _ _ (call (Value.ref 117) _) _ _ _); k_dflt (refine' use_rctr (add_bad _ _ _ _ _ _ _ _ _ _ _ _ _ _ _ _ _ _ _ _ ?q1 ?q2 ?q3 ?q4 ?q5) ?uB ?uF ?uX ?uN ?uT ?uk ?ud ?uu ?_; (case uF => k_asm); (case uN => k_asm); (case uB => k_asm); (case uX => k_asm); (case uT => assumption); (case uk => rfl); (case q1 => (repeat' (first | assumption | exact List.Mem.head _ | refine List.Mem.tail _ ?_))); (case q2 => (repeat' (first | assumption | exact List.Mem.head _ | refine List.Mem.tail _ ?_))); (case q3 => (repeat' (first | assumption | exact List.Mem.head _ | refine List.Mem.tail _ ?_))); (case q4 => (first | omega | assumption)); (case q5 => assumption); (case ud => ktr_room); (case uu => ktr_units); k_whole); intro eω Gω hω tkω FGω Sω Uω; (try dsimp only))
  k_with "call ref" => (k_here; (with_reducible show wpAny _ _ (call (Value.ref 117) _) _ _ _); k_dflt (refine' use_rctr (add_kid _ _ _ _ _ _ _ _ _ _ _ _ _ _ _ _ _ _ _ _ ?q1 ?q2 ?q3 _ _ _ _ _ _ _ _ _ _ _ _ ?q4 ?q5 ?q6 ?q7 ?q8 ?q9 ?q0) ?uB ?uF ?uX ?uN ?uT ?uk ?ud ?uu ?_; (case uF => k_asm); (case uN => k_asm); (case uB => k_asm); (case uX => k_asm); (case uT => assumption); (case uk => rfl); (case q1 => (repeat' (first | assumption | exact List.Mem.head _ | refine List.Mem.tail _ ?_))); (case q2 => (repeat' (first | assumption | exact List.Mem.head _ | refine List.Mem.tail _ ?_))); (case q3 => (repeat' (first | assumption | exact List.Mem.head _ | refine List.Mem.tail _ ?_))); (case q6 => omega); (case q7 => omega); (case q8 => assumption); (case q4 => (repeat' (first | assumption | exact List.Mem.head _ | refine List.Mem.tail _ ?_))); (case q5 => (repeat' (first | assumption | exact List.Mem.head _ | refine List.Mem.tail _ ?_))); (case q9 => assumption); (case q0 => assumption); (case ud => ktr_room); (case uu => ktr_units); k_whole); intro eω Gω hω tkω FGω Sω Uω; (try dsimp only))
  k_with "call ref" => (k_here; (with_reducible show wpAny _ _ (call (Value.ref 152) _) _ _ _); k_dflt (refine' use_rctr (erow_bad _ _ _ _ _ _ _ _ _ _ ?q1 ?q2 ?q3 ?q4 ?q5) ?uB ?uF ?uX ?uN ?uT ?uk ?ud ?uu ?_; (case uF => k_asm); (case uN => k_asm); (case uB => k_asm); (case uX => k_asm); (case uT => assumption); (case uk => rfl); (case q1 => (repeat' (first | assumption | exact List.Mem.head _ | refine List.Mem.tail _ ?_))); (case q2 => (repeat' (first | assumption | exact List.Mem.head _ | refine List.Mem.tail _ ?_))); (case q3 => (repeat' (first | assumption | exact List.Mem.head _ | refine List.Mem.tail _ ?_))); (case q4 => (first | omega | assumption)); (case q5 => assumption); (case ud => ktr_room); (case uu => ktr_units); k_whole); intro eω Gω hω tkω FGω Sω Uω; (try dsimp only))
  k_with "call ref" => (k_here; (with_reducible show wpAny _ _ (call (Value.ref 152) _) _ _ _); k_dflt (refine' use_rctr (erow_no _ _ _ _ _ _ _ _ _ _ ?q1 ?q2 ?q3 _ _ _ _ _ _ _ _ _ _ _ _ ?q4 ?q5 ?q6 ?q7 ?q8 ?q9 ?q0) ?uB ?uF ?uX ?uN ?uT ?uk ?ud ?uu ?_; (case uF => k_asm); (case uN => k_asm); (case uB => k_asm); (case uX => k_asm); (case uT => assumption); (case uk => rfl); (case q1 => (repeat' (first | assumption | exact List.Mem.head _ | refine List.Mem.tail _ ?_))); (case q2 => (repeat' (first | assumption | exact List.Mem.head _ | refine List.Mem.tail _ ?_))); (case q3 => (repeat' (first | assumption | exact List.Mem.head _ | refine List.Mem.tail _ ?_))); (case q6 => omega); (case q7 => omega); (case q8 => assumption); (case q4 => (repeat' (first | assumption | exact List.Mem.head _ | refine List.Mem.tail _ ?_))); (case q5 => (repeat' (first | assumption | exact List.Mem.head _ | refine List.Mem.tail _ ?_))); (case q9 => assumption); (case q0 => assumption); (case ud => ktr_room); (case uu => ktr_units); k_whole); intro eω Gω hω tkω FGω Sω Uω; (try dsimp only))
  k_with "call ref" => (k_here; (with_reducible show wpAny _ _ (call (Value.ref 180) _) _ _ _); k_dflt (refine' use_rctr (kind_bad _ _ _ _ _ _ _ _ _ _ ?q1 ?q2 ?q3 ?q4 ?q5) ?uB ?uF ?uX ?uN ?uT ?uk ?ud ?uu ?_; (case uF => k_asm); (case uN => k_asm); (case uB => k_asm); (case uX => k_asm); (case uT => assumption); (case uk => rfl); (case q1 => (repeat' (first | assumption | exact List.Mem.head _ | refine List.Mem.tail _ ?_))); (case q2 => (repeat' (first | assumption | exact List.Mem.head _ | refine List.Mem.tail _ ?_))); (case q3 => (repeat' (first | assumption | exact List.Mem.head _ | refine List.Mem.tail _ ?_))); (case q4 => (first | omega | assumption)); (case q5 => assumption); (case ud => ktr_room); (case uu => ktr_units); k_whole); intro eω Gω hω tkω FGω Sω Uω; (try dsimp only))
  k_with "call ref" => (k_here; (with_reducible show wpAny _ _ (call (Value.ref 292) _) _ _ _); k_dflt (refine' use_ctrS (refused_raise _ _ _ ?qf ?qc) ?uB ?uF ?uX ?uXB ?uN ?uT ?uTB ?uD ?uT0 ?uCT ?uk ?ud ?uu ?_; (case uF => k_asm); (case uN => k_asm); (case uB => k_asm); (case uX => k_asm); (case uXB => assumption); (case uT => assumption); (case uTB => assumption); (case uD => assumption); (case uT0 => first | assumption | exact KtsTurn.refl); (case uCT => exact ⟨by assumption, by assumption, by assumption, by assumption⟩); (case uk => rfl); (case ud => ktr_room); (case uu => ktr_units); (case qf => (repeat' (first | assumption | exact List.Mem.head _ | refine List.Mem.tail _ ?_))); (case qc => (unfold RCtr; intro p9 loose9 mean9 mg9 mb9 dp9 un9 gd9 cn9 cs9 aa9 ccd9 cl9 outer9 A9 base9 h9 L9 m9 s9 Q9 E9 B9 F9 X9 N9 T9 hk9 hd9 hu9 hret9; refine wpAny_call ?_; k_dflt (refine' kla_code ?k1 ?k2 ?k3 ?k4 ?k5 ?kA ?kF ?kK ?k6 ?k7 ?k8 ?k9 ?kB ?_ ?c2 ?c3 ?c4 ?c5; (case kA => exact rfl); (case kF => exact rfl); (case kK => assumption); (case k1 => k_asm); (case k2 => k_asm); (case k3 => k_asm); (case k4 => k_asm); (case k5 => k_asm); (case k6 => k_mem); (case k7 => exact codeRec_news (by k_asm) (by k_mem) (by assumption) (by assumption)); (case k8 => ktr_room); (case k9 => exact rfl); (case c5 => decide); (case kB => exact locs rfl); (case c2 => exact rfl); (case c3 => exact rfl); (case c4 => exact rfl); k_whole; intro gω Lω hω FGω Fω Nω Bω Xω Tω; (try dsimp only); (try k_lift Bω); (try k_fold)); k_steps; all_goals exact hret9 _ _ _ _ (by k_asm) (by k_asm) (by k_asm))); k_whole); intro vω hω tkω nω gωω KTω Fω Nω Bω Xω Pω Dω hPω; obtain ⟨e1ω, e2ω⟩ := hPω; subst e1ω; subst e2ω; (try dsimp only))
  trivial
theorem ask_no0 (w : World) (tr dT rl bk : Addr) (tkr : Tok) (vs : List Value) (c : Nat) (rest : Led) (k : Int) (tk : Tok)
   (h1 : (tr, instObj 260 dT) ∈ rest) (h2 : (dT, rowsD w tkr rl) ∈ rest) (h3 : (rl, listOf vs.toArray c) ∈ rest)
   (od : Obj) (kvs : List (Int × Value)) (h5 : (bk, od) ∈ rest) (hod : od.IsDictOf (PySem.intKind PySem.Challenge.rw_xw0201_01.row.prog w) kvs) (lo : (bk == sysModules) = false) (hl : vs.length ≤ 100)
   (a d cc x y : Addr) (t : Nat → Tok) (kind name uri loc value : Str) (par : Value) (h4 : (a, instObj 71 d) ∈ rest)
   (k0 : 0 ≤ k) (k1 : k < (vs.length : Int)) (hv : vs[k.toNat]? = some (.ref a)) (bl g : Addr) (u1 u2 : Tok) (bval : Str) (bpar : Value) (nb : Nat) (hva : valueAt kvs k = some (.ref bl))
   (h4' : (d, rowD w t kind name uri loc value par cc x y) ∈ rest) (h6 : (bl, listOf [.str kind u1, .str bval u2, bpar, .ref g].toArray nb) ∈ rest)
   (hkd : (kind != ("element" : Str)) = true)
   (hP : ∀ p ∈ rest, p.1 ≠ 315)
 :
   CtrS w 320 [.ref tr, .ref bk, .int k tk] ((315, tabObj #[]) :: rest) 180 720
    (fun v' news' => v' = .bool true ∧ TabH 315 164 28 ("_law_asked_right" ++ ".<locals>." ++ "<lambda>" : Str) news' ∧ ∀ p ∈ rest, p ∈ news') := by
  unfold CtrS
  k_fill
  intro p loose mean mg mb dp un gd cn cs aa ccd cl outer A₀ base h₀ g₀ L m s Q E B F X XB N T TB D T0 CT hk hdp hu hret
  obtain ⟨C1, C2, C3, C4⟩ := CT
  refine wpAny_call ?_
  k_dflt (refine' callSC ?k1 ?k2 ?k3 ?k4 ?k5 ?XB ?TB ?D ?T0 ?kA ?kf ?kK ?k6 ?k7 ?k8 ?k9 ?kB ?kD ?_ ?c2 ?c3 ?c4; (case kA => exact rfl); (case kf => exact rfl); (case kK => assumption); (case k2 => k_asm); (case k1 => k_asm); (case XB => assumption); (case TB => assumption); (case D => assumption); (case T0 => assumption); (case k3 => k_asm); (case k4 => k_asm); (case k5 => k_asm); (case k6 => k_is); (case k7 => k_is); (case k8 => ktr_room); (case k9 => exact BindsTo.of_eq rfl); (case kB => exact rfl); (case kD => decide +kernel); (case c2 => exact rfl); (case c3 => exact rfl); (case c4 => exact rfl); k_whole; intro g' L' h' tk' cells' FG' F' N' Y' B' X' T' l1 D'; (try k_lt l1); k_cells Y'; (try simp only [List.cons_append, List.nil_append] at N'); (try dsimp only); (try k_lift B'); (try k_fold))
  k_steps
  exact hret _ _ _ _ _ (by assumption) (by k_asm) (by k_asm) (by assumption) (by assumption) (by assumption) (by assumption)
    ⟨rfl, ⟨_, _, _, _, (by repeat' (first | exact List.Mem.head _ | refine List.Mem.tail _ ?_)), (by repeat' (first | exact List.Mem.head _ | refine List.Mem.tail _ ?_)), by assumption, by assumption⟩, fun p hp => by repeat' (first | exact hp | refine List.Mem.tail _ ?_)⟩
theorem ask_no (w : World) (tr dT rl bk : Addr) (tkr : Tok) (vs : List Value) (c : Nat) (rest : Led) (k : Int) (tk : Tok)
   (h1 : (tr, instObj 260 dT) ∈ rest) (h2 : (dT, rowsD w tkr rl) ∈ rest) (h3 : (rl, listOf vs.toArray c) ∈ rest)
   (od : Obj) (kvs : List (Int × Value)) (h5 : (bk, od) ∈ rest) (hod : od.IsDictOf (PySem.intKind PySem.Challenge.rw_xw0201_01.row.prog w) kvs) (lo : (bk == sysModules) = false) (hl : vs.length ≤ 100)
   (a d cc x y : Addr) (t : Nat → Tok) (kind name uri loc value : Str) (par : Value) (h4 : (a, instObj 71 d) ∈ rest)
   (k0 : 0 ≤ k) (k1 : k < (vs.length : Int)) (hv : vs[k.toNat]? = some (.ref a)) (bl g : Addr) (u1 u2 : Tok) (bval : Str) (bpar : Value) (nb : Nat) (hva : valueAt kvs k = some (.ref bl))
   (h4' : (d, rowD w t kind name uri loc value par cc x y) ∈ rest) (h6 : (bl, listOf [.str kind u1, .str bval u2, bpar, .ref g].toArray nb) ∈ rest)
   (hkd : (kind != ("element" : Str)) = true)
   (hP : TabH 315 164 28 ("_law_asked_right" ++ ".<locals>." ++ "<lambda>" : Str) rest)
 :
   CtrS w 320 [.ref tr, .ref bk, .int k tk] rest 180 720
    (fun v' news' => v' = .bool true ∧ TabH 315 164 28 ("_law_asked_right" ++ ".<locals>." ++ "<lambda>" : Str) news' ∧ ∀ p ∈ rest, p ∈ news') := by
  unfold CtrS
  k_fill
  obtain ⟨c9, oc9, vs9, t9, hP1, hP2, hP3, hP4⟩ := hP
  intro p loose mean mg mb dp un gd cn cs aa ccd cl outer A₀ base h₀ g₀ L m s Q E B F X XB N T TB D T0 CT hk hdp hu hret
  obtain ⟨C1, C2, C3, C4⟩ := CT
  refine wpAny_call ?_
  k_dflt (refine' callSC ?k1 ?k2 ?k3 ?k4 ?k5 ?XB ?TB ?D ?T0 ?kA ?kf ?kK ?k6 ?k7 ?k8 ?k9 ?kB ?kD ?_ ?c2 ?c3 ?c4; (case kA => exact rfl); (case kf => exact rfl); (case kK => assumption); (case k2 => k_asm); (case k1 => k_asm); (case XB => assumption); (case TB => assumption); (case D => assumption); (case T0 => assumption); (case k3 => k_asm); (case k4 => k_asm); (case k5 => k_asm); (case k6 => k_is); (case k7 => k_is); (case k8 => ktr_room); (case k9 => exact BindsTo.of_eq rfl); (case kB => exact rfl); (case kD => decide +kernel); (case c2 => exact rfl); (case c3 => exact rfl); (case c4 => exact rfl); k_whole; intro g' L' h' tk' cells' FG' F' N' Y' B' X' T' l1 D'; (try k_lt l1); k_cells Y'; (try simp only [List.cons_append, List.nil_append] at N'); (try dsimp only); (try k_lift B'); (try k_fold))
  k_steps
  exact hret _ _ _ _ _ (by assumption) (by k_asm) (by k_asm) (by assumption) (by assumption) (by assumption) (by assumption)
    ⟨rfl, ⟨c9, oc9, vs9, t9, (by repeat' (first | assumption | refine List.Mem.tail _ ?_)), (by repeat' (first | assumption | refine List.Mem.tail _ ?_)), hP3, hP4⟩, fun p hp => by repeat' (first | exact hp | refine List.Mem.tail _ ?_)⟩
theorem ask_bad (w : World) (tr dT rl bk : Addr) (tkr : Tok) (vs : List Value) (c : Nat) (rest : Led) (k : Int) (tk : Tok)
   (h1 : (tr, instObj 260 dT) ∈ rest) (h2 : (dT, rowsD w tkr rl) ∈ rest) (h3 : (rl, listOf vs.toArray c) ∈ rest)
   (od : Obj) (kvs : List (Int × Value)) (h5 : (bk, od) ∈ rest) (hod : od.IsDictOf (PySem.intKind PySem.Challenge.rw_xw0201_01.row.prog w) kvs) (lo : (bk == sysModules) = false) (hl : vs.length ≤ 100)
   (hk : k < 0 ∨ (vs.length : Int) ≤ k) (hva : valueAt kvs k = none)
   (hP : TabH 315 164 28 ("_law_asked_right" ++ ".<locals>." ++ "<lambda>" : Str) rest)
 :
   CtrS w 320 [.ref tr, .ref bk, .int k tk] rest 180 720
    (fun v' news' => v' = .bool true ∧ TabH 315 164 28 ("_law_asked_right" ++ ".<locals>." ++ "<lambda>" : Str) news' ∧ ∀ p ∈ rest, p ∈ news') := by
  unfold CtrS
  k_fill
  obtain ⟨c9, oc9, vs9, t9, hP1, hP2, hP3, hP4⟩ := hP
  intro p loose mean mg mb dp un gd cn cs aa ccd cl outer A₀ base h₀ g₀ L m s Q E B F X XB N T TB D T0 CT hk hdp hu hret
  obtain ⟨C1, C2, C3, C4⟩ := CT
  refine wpAny_call ?_
  k_dflt (refine' callSC ?k1 ?k2 ?k3 ?k4 ?k5 ?XB ?TB ?D ?T0 ?kA ?kf ?kK ?k6 ?k7 ?k8 ?k9 ?kB ?kD ?_ ?c2 ?c3 ?c4; (case kA => exact rfl); (case kf => exact rfl); (case kK => assumption); (case k2 => k_asm); (case k1 => k_asm); (case XB => assumption); (case TB => assumption); (case D => assumption); (case T0 => assumption); (case k3 => k_asm); (case k4 => k_asm); (case k5 => k_asm); (case k6 => k_is); (case k7 => k_is); (case k8 => ktr_room); (case k9 => exact BindsTo.of_eq rfl); (case kB => exact rfl); (case kD => decide +kernel); (case c2 => exact rfl); (case c3 => exact rfl); (case c4 => exact rfl); k_whole; intro g' L' h' tk' cells' FG' F' N' Y' B' X' T' l1 D'; (try k_lt l1); k_cells Y'; (try simp only [List.cons_append, List.nil_append] at N'); (try dsimp only); (try k_lift B'); (try k_fold))
  k_steps
  exact hret _ _ _ _ _ (by assumption) (by k_asm) (by k_asm) (by assumption) (by assumption) (by assumption) (by assumption)
    ⟨rfl, ⟨c9, oc9, vs9, t9, (by repeat' (first | assumption | refine List.Mem.tail _ ?_)), (by repeat' (first | assumption | refine List.Mem.tail _ ?_)), hP3, hP4⟩, fun p hp => by repeat' (first | exact hp | refine List.Mem.tail _ ?_)⟩
end
section
open PySem PySem.W PySem.Calls PyProof.Rows
theorem ln_AskOk_0 : True := by
  w_top off
  k_with_none
  k_with "call builtin:len" => (k_here; (with_reducible show wpAny _ _ (call (Value.builtin "len") [Value.ref _]) _ _ _); k_dflt (refine' len_led ?k1 ?k2 ?k3 ?_; (case k1 => k_asm); (case k2 => (repeat' (first | assumption | exact List.Mem.head _ | refine List.Mem.tail _ ?_))); (case k3 => ((try simp only [List.length_cons, List.length_nil, List.length_append, List.length_map]); omega)); k_whole); (try dsimp only))
  k_with "subscriptTail" => (k_here; (with_reducible show wpAny _ _ (subscriptTail _ _ (Value.ref _) (Value.int _ _)) _ _ _); k_dflt (refine' item_led ?k1 ?k2 ?k3 ?k4 ?k5 ?_ ?k6; (case k1 => k_asm); (case k2 => (repeat' (first | assumption | exact List.Mem.head _ | refine List.Mem.tail _ ?_))); (case k3 => omega); (case k4 => omega); (case k5 => (first | assumption | (rw [List.getElem?_append_left (by omega)]; assumption))); (case k6 => with_unfolding_all rfl); k_whole); (try dsimp only))
  k_with "exec Raise some none" => (k_here; (with_reducible show wpAny _ _ (exec (Stmt.Raise (some (Expr.Call (Expr.Name (Str.ofString "TreeFault") _) [Expr.Constant (Const.str _) _ _] [] _)) none _) _) _ _ _); k_dflt (refine' raise_tf ?kB ?kF ?kX ?kN ?kT ?kk ?kx ?kn ?ki ?kf ?kd ?ku ?_; (case kB => k_asm); (case kF => k_asm); (case kX => k_asm); (case kN => k_asm); (case kT => assumption); (case kk => rfl); (case kx => k_is); (case kn => rfl); (case ki => k_is); (case kf => k_is); (case kd => ktr_room); (case ku => ktr_units); k_whole); intro eω tω dω hω tkω Fω Nω neω)
  k_with "leaving ref" => (k_here; k_dflt (refine' leave_led ?kK ?kF ?kN ?kne ?kd ?k1 ?k0 ?_; (case kF => k_asm); (case kN => k_asm); (case kK => k_asm); (case kne => k_asm); (case kd => rfl); (case k1 => rfl); (case k0 => rfl); k_whole); intro hω Sω Rω Uω; (try dsimp only at Sω Rω Uω ⊢))
  k_with "leaving ref" => (k_here; k_dflt (refine' leave_onSN ?k1 ?k2 ?k3 ?k4 ?_; (case k3 => assumption); (case k2 => assumption); (case k1 => assumption); (case k4 => assumption); k_whole); intro hω Sω Rω Uω; (try dsimp only at Sω Rω Uω ⊢))
  k_with "getAttr ref" => (k_here; k_dflt (refine' get_own ?k1 ?k2 ?k3 ?k4 ?k5 ?k6 ?k7 ?k8 ?k9 ?_; (case k1 => k_asm); (case k2 => k_asm); (case k3 => k_inst); (case k4 => k_is); (case k5 => k_is); (case k6 => k_is); (case k7 => k_is); (case k8 => k_get); (case k9 => k_handed); k_whole); (try dsimp only))
  k_with "eval Constant int" => (k_here; refine wpAny_Constant_int ?_; (try dsimp only))
  k_with "eval Constant str" => (k_here; refine Calls.Constant_str ?_; (try dsimp only))
  k_with "call ref" => (k_here; (with_reducible show wpAny _ _ (call (Value.ref 103) _) _ _ _); k_dflt (refine' use_ctr (row_ok _ _ _ _ _ _ _ _ _ _ _ ?q1 ?q2 ?q3 ?q4 ?q5 ?q6 ?q7) ?uB ?uF ?uX ?uN ?uT ?uk ?ud ?uu ?_; (case uF => k_asm); (case uN => k_asm); (case uB => k_asm); (case uX => k_asm); (case uT => assumption); (case uk => rfl); (case q1 => (repeat' (first | assumption | exact List.Mem.head _ | refine List.Mem.tail _ ?_))); (case q2 => (repeat' (first | assumption | exact List.Mem.head _ | refine List.Mem.tail _ ?_))); (case q3 => (repeat' (first | assumption | exact List.Mem.head _ | refine List.Mem.tail _ ?_))); (case q4 => omega); (case q5 => omega); (case q6 => assumption); (case q7 => assumption); (case ud => ktr_room); (case uu => ktr_units); k_whole); intro vω hω tkω nω Fω Nω hPω; obtain ⟨e1ω, e2ω⟩ := hPω; subst e1ω; subst e2ω; (try dsimp only))
  k_with "call ref" => (k_here; (with_reducible show wpAny _ _ (call (Value.ref 103) _) _ _ _); k_dflt (refine' use_rctr (row_bad _ _ _ _ _ _ _ _ _ _ ?q1 ?q2 ?q3 ?q4 ?q7) ?uB ?uF ?uX ?uN ?uT ?uk ?ud ?uu ?_; (case uF => k_asm); (case uN => k_asm); (case uB => k_asm); (case uX => k_asm); (case uT => assumption); (case uk => rfl); (case q1 => (repeat' (first | assumption | exact List.Mem.head _ | refine List.Mem.tail _ ?_))); (case q2 => (repeat' (first | assumption | exact List.Mem.head _ | refine List.Mem.tail _ ?_))); (case q3 => (repeat' (first | assumption | exact List.Mem.head _ | refine List.Mem.tail _ ?_))); (case q4 => omega); (case q7 => assumption); (case ud => ktr_room); (case uu => ktr_units); k_whole); intro eω Gω hω tkω FGω Sω Uω; (try dsimp only))
  k_with "compareOp In str ref" => (k_here; (with_reducible show wpAny _ _ (compareOp CmpOp.In (Value.str _ _) (Value.ref _)) _ _ _); k_dflt (refine' in_parT ?k1 ?k2 ?k3 ?k4 ?_; (case k1 => k_asm); (case k2 => k_asm); (case k3 => k_is); (case k4 => assumption); k_whole))
  k_with "compareOp NotIn str ref" => (k_here; (with_reducible show wpAny _ _ (compareOp CmpOp.NotIn (Value.str _ _) (Value.ref _)) _ _ _); k_dflt (refine' notin_parT ?k1 ?k2 ?k3 ?k4 ?_; (case k1 => k_asm); (case k2 => k_asm); (case k3 => k_is); (case k4 => assumption); k_whole))
  k_with "compareOp In str ref" => (k_here; (with_reducible show wpAny _ _ (compareOp CmpOp.In (Value.str _ _) (Value.ref _)) _ _ _); k_dflt (refine' in_parL ?k1 ?k2 ?k4 ?_; (case k1 => k_asm); (case k2 => k_mem); (case k4 => assumption); k_whole))
  k_with "compareOp In int ref" => (k_here; (with_reducible show wpAny _ _ (compareOp _ (Value.int _ _) (Value.ref _)) _ _ _); k_dflt (refine' bk_in ?kN ?kp ?kd ?kl ?kh ?_; (case kN => k_asm); (case kp => (repeat' (first | assumption | exact List.Mem.head _ | refine List.Mem.tail _ ?_))); (case kd => assumption); (case kl => assumption); (case kh => assumption); k_whole); (try dsimp only))
  k_with "compareOp In int ref" => (k_here; (with_reducible show wpAny _ _ (compareOp _ (Value.int _ _) (Value.ref _)) _ _ _); k_dflt (refine' bk_in0 ?kN ?kp ?kd ?kl ?kh ?_; (case kN => k_asm); (case kp => (repeat' (first | assumption | exact List.Mem.head _ | refine List.Mem.tail _ ?_))); (case kd => assumption); (case kl => assumption); (case kh => assumption); k_whole); (try dsimp only))
  k_with "compareOp NotIn int ref" => (k_here; (with_reducible show wpAny _ _ (compareOp _ (Value.int _ _) (Value.ref _)) _ _ _); k_dflt (refine' bk_notin ?kN ?kp ?kd ?kl ?kh ?_; (case kN => k_asm); (case kp => (repeat' (first | assumption | exact List.Mem.head _ | refine List.Mem.tail _ ?_))); (case kd => assumption); (case kl => assumption); (case kh => assumption); k_whole); (try dsimp only))
  k_with "compareOp NotIn int ref" => (k_here; (with_reducible show wpAny _ _ (compareOp _ (Value.int _ _) (Value.ref _)) _ _ _); k_dflt (refine' bk_notin0 ?kN ?kp ?kd ?kl ?kh ?_; (case kN => k_asm); (case kp => (repeat' (first | assumption | exact List.Mem.head _ | refine List.Mem.tail _ ?_))); (case kd => assumption); (case kl => assumption); (case kh => assumption); k_whole); (try dsimp only))
  k_with "subscriptTail" => (k_here; (with_reducible show wpAny _ _ (subscriptTail _ _ (Value.ref _) (Value.int _ _)) _ _ _); k_dflt (refine' bk_item ?kN ?kp ?kd ?kh ?_ ?k6 ?k7; (case kN => k_asm); (case kp => (repeat' (first | assumption | exact List.Mem.head _ | refine List.Mem.tail _ ?_))); (case kd => assumption); (case kh => assumption); (case k6 => with_unfolding_all rfl); (case k7 => intro _; with_unfolding_all rfl); k_whole); (try dsimp only))
  k_with "getItem ref int" => (k_here; (with_reducible show wpAny _ _ (getItem (Value.ref _) (Value.int _ _)) _ _ _); k_dflt (refine' bk_getItem ?kN ?kp ?kd ?kh ?_; (case kN => k_asm); (case kp => (repeat' (first | assumption | exact List.Mem.head _ | refine List.Mem.tail _ ?_))); (case kd => assumption); (case kh => assumption); k_whole); (try dsimp only))
  k_with "call builtin:len" => (k_here; (with_reducible show wpAny _ _ (call (Value.builtin "len") [Value.ref _]) _ _ _); k_dflt (refine' bk_len ?kN ?kp ?kd ?kl ?kh ?_; (case kN => k_asm); (case kp => (repeat' (first | assumption | exact List.Mem.head _ | refine List.Mem.tail _ ?_))); (case kd => assumption); (case kl => assumption); (case kh => assumption); k_whole); (try dsimp only))
  k_with "setItem ref int" => (k_here; (with_reducible show wpAny _ _ (setItem (Value.ref _) (Value.int _ _) _) _ _ _); k_dflt (refine' bk_set ?kF ?kN ?kU ?kd ?kl ?_; (case kF => k_asm); (case kN => k_asm); (case kU => k_updF); (case kd => assumption); (case kl => assumption); k_whole); intro hω oω Fω Nω hdω; (try dsimp only at Nω))
  k_with "leaving ref" => (k_here; k_dflt (refine' leave_onX ?kf ?k1 ?k2 ?k3 ?k4 ?_; (case kf => exact rfl); (case k3 => assumption); (case k2 => assumption); (case k1 => assumption); (case k4 => assumption); k_whole); intro hω Sω Rω Uω; (try dsimp only at Sω Rω Uω ⊢))
  k_with "call ref" => (k_here; (with_reducible show wpAny _ _ (call (Value.ref 173) _) _ _ _); k_dflt (refine' use_rctr (setv_bad _ _ _ _ _ _ _ _ _ _ _ _ ?q1 ?q2 ?q3 ?q4 ?q5) ?uB ?uF ?uX ?uN ?uT ?uk ?ud ?uu ?_; (case uF => k_asm); (case uN => k_asm); (case uB => k_asm); (case uX => k_asm); (case uT => assumption); (case uk => rfl); (case q1 => (repeat' (first | assumption | exact List.Mem.head _ | refine List.Mem.tail _ ?_))); (case q2 => (repeat' (first | assumption | exact List.Mem.head _ | refine List.Mem.tail _ ?_))); (case q3 => (repeat' (first | assumption | exact List.Mem.head _ | refine List.Mem.tail _ ?_))); (case q4 => (first | omega | assumption)); (case q5 => assumption); (case ud => ktr_room); (case uu => ktr_units); k_whole); intro eω Gω hω tkω FGω Sω Uω; (try dsimp only))
  k_with "call ref" => (k_here; (with_reducible show wpAny _ _ (call (Value.ref 173) _) _ _ _); k_dflt (refine' use_rctr (setv_par _ _ _ _ _ _ _ _ _ _ _ _ ?q1 ?q2 ?q3 _ _ _ _ _ _ _ _ _ _ _ _ ?q4 ?q5 ?q6 ?q7 ?q8 ?q9 ?q0) ?uB ?uF ?uX ?uN ?uT ?uk ?ud ?uu ?_; (case uF => k_asm); (case uN => k_asm); (case uB => k_asm); (case uX => k_asm); (case uT => assumption); (case uk => rfl); (case q1 => (repeat' (first | assumption | exact List.Mem.head _ | refine List.Mem.tail _ ?_))); (case q2 => (repeat' (first | assumption | exact List.Mem.head _ | refine List.Mem.tail _ ?_))); (case q3 => (repeat' (first | assumption | exact List.Mem.head _ | refine List.Mem.tail _ ?_))); (case q6 => omega); (case q7 => omega); (case q8 => assumption); (case q4 => (repeat' (first | assumption | exact List.Mem.head _ | refine List.Mem.tail _ ?_))); (case q5 => (repeat' (first | assumption | exact List.Mem.head _ | refine List.Mem.tail _ ?_))); (case q9 => assumption); (case q0 => assumption); (case ud => ktr_room); (case uu => ktr_units); k_whole); intro eω Gω hω tkω FGω Sω Uω; (try dsimp only))
  k_with "call ref" => (k_here; (with_reducible show wpAny _ _ (call (Value.ref 117) _) _ _ _); k_dflt (refine' use_rctr (add_bad _ _ _ _ _ _ _ _ _ _ _ _ _ _ _ _ _ _ _ _ ?q1 ?q2 ?q3 ?q4 ?q5) ?uB ?uF ?uX ?uN ?uT ?uk ?ud ?uu ?_; (case uF => k_asm); (case uN => k_asm); (case uB => k_asm); (case uX => k_asm); (case uT => assumption); (case uk => rfl); (case q1 => (repeat' (first | assumption | exact List.Mem.head _ | refine List.Mem.tail _ ?_))); (case q2 => (repeat' (first | assumption | exact List.Mem.head _ | refine List.Mem.tail _ ?_))); (case q3 => (repeat' (first | assumption | exact List.Mem.head _ | refine List.Mem.tail _ ?_))); (case q4 => (first | omega | assumption)); (case q5 => assumption); (case ud => ktr_room); (case uu => ktr_units); k_whole); intro eω Gω hω tkω FGω Sω Uω; (try dsimp only))
  k_with "call ref" => (k_here; (with_reducible show wpAny _ _ (call (Value.ref 117) _) _ _ _); k_dflt (refine' use_rctr (add_kid _ _ _ _ _ _ _ _ _ _ _ _ _ _ _ _ _ _ _ _ ?q1 ?q2 ?q3 _ _ _ _ _ _ _ _ _ _ _ _ ?q4 ?q5 ?q6 ?q7 ?q8 ?q9 ?q0) ?uB ?uF ?uX ?uN ?uT ?uk ?ud ?uu ?_; (case uF => k_asm); (case uN => k_asm); (case uB => k_asm); (case uX => k_asm); (case uT => assumption); (case uk => rfl); (case q1 => (repeat' (first | assumption | exact List.Mem.head _ | refine List.Mem.tail _ ?_))); (case q2 => (repeat' (first | assumption | exact List.Mem.head _ | refine List.Mem.tail _ ?_))); (case q3 => (repeat' (first | assumption | exact List.Mem.head _ | refine List.Mem.tail _ ?_))); (case q6 => omega); (case q7 => omega); (case q8 => assumption); (case q4 => (repeat' (first | assumption | exact List.Mem.head _ | refine List.Mem.tail _ ?_))); (case q5 => (repeat' (first | assumption | exact List.Mem.head _ | refine List.Mem.tail _ ?_))); (case q9 => assumption); (case q0 => assumption); (case ud => ktr_room); (case uu => ktr_units); k_whole); intro eω Gω hω tkω FGω Sω Uω; (try dsimp only))
  k_with "call ref" => (k_here; (with_reducible show wpAny _ _ (call (Value.ref 152) _) _ _ _); k_dflt (refine' use_rctr (erow_bad _ _ _ _ _ _ _ _ _ _ ?q1 ?q2 ?q3 ?q4 ?q5) ?uB ?uF ?uX ?uN ?uT ?uk ?ud ?uu ?_; (case uF => k_asm); (case uN => k_asm); (case uB => k_asm); (case uX => k_asm); (case uT => assumption); (case uk => rfl); (case q1 => (repeat' (first | assumption | exact List.Mem.head _ | refine List.Mem.tail _ ?_))); (case q2 => (repeat' (first | assumption | exact List.Mem.head _ | refine List.Mem.tail _ ?_))); (case q3 => (repeat' (first | assumption | exact List.Mem.head _ | refine List.Mem.tail _ ?_))); (case q4 => (first | omega | assumption)); (case q5 => assumption); (case ud => ktr_room); (case uu => ktr_units); k_whole); intro eω Gω hω tkω FGω Sω Uω; (try dsimp only))
  k_with "call ref" => (k_here; (with_reducible show wpAny _ _ (call (Value.ref 152) _) _ _ _); k_dflt (refine' use_rctr (erow_no _ _ _ _ _ _ _ _ _ _ ?q1 ?q2 ?q3 _ _ _ _ _ _ _ _ _ _ _ _ ?q4 ?q5 ?q6 ?q7 ?q8 ?q9 ?q0) ?uB ?uF ?uX ?uN ?uT ?uk ?ud ?uu ?_; (case uF => k_asm); (case uN => k_asm); (case uB => k_asm); (case uX => k_asm); (case uT => assumption); (case uk => rfl); (case q1 => (repeat' (first | assumption | exact List.Mem.head _ | refine List.Mem.tail _ ?_))); (case q2 => (repeat' (first | assumption | exact List.Mem.head _ | refine List.Mem.tail _ ?_))); (case q3 => (repeat' (first | assumption | exact List.Mem.head _ | refine List.Mem.tail _ ?_))); (case q6 => omega); (case q7 => omega); (case q8 => assumption); (case q4 => (repeat' (first | assumption | exact List.Mem.head _ | refine List.Mem.tail _ ?_))); (case q5 => (repeat' (first | assumption | exact List.Mem.head _ | refine List.Mem.tail _ ?_))); (case q9 => assumption); (case q0 => assumption); (case ud => ktr_room); (case uu => ktr_units); k_whole); intro eω Gω hω tkω FGω Sω Uω; (try dsimp only))
  k_with "call ref" => (k_here; (with_reducible show wpAny _ _ (call (Value.ref 180) _) _ _ _); k_dflt (refine' use_rctr (kind_bad _ _ _ _ _ _ _ _ _ _ ?q1 ?q2 ?q3 ?q4 ?q5) ?uB ?uF ?uX ?uN ?uT ?uk ?ud ?uu ?_; (case uF => k_asm); (case uN => k_asm); (case uB => k_asm); (case uX => k_asm); (case uT => assumption); (case uk => rfl); (case q1 => (repeat' (first | assumption | exact List.Mem.head _ | refine List.Mem.tail _ ?_))); (case q2 => (repeat' (first | assumption | exact List.Mem.head _ | refine List.Mem.tail _ ?_))); (case q3 => (repeat' (first | assumption | exact List.Mem.head _ | refine List.Mem.tail _ ?_))); (case q4 => (first | omega | assumption)); (case q5 => assumption); (case ud => ktr_room); (case uu => ktr_units); k_whole); intro eω Gω hω tkω FGω Sω Uω; (try dsimp only))
  k_with "call ref" => (k_here; (with_reducible show wpAny _ _ (call (Value.ref 292) _) _ _ _); k_dflt (refine' use_ctrS (refused_raise _ _ _ ?qf ?qc) ?uB ?uF ?uX ?uXB ?uN ?uT ?uTB ?uD ?uT0 ?uCT ?uk ?ud ?uu ?_; (case uF => k_asm); (case uN => k_asm); (case uB => k_asm); (case uX => k_asm); (case uXB => assumption); (case uT => assumption); (case uTB => assumption); (case uD => assumption); (case uT0 => first | assumption | exact KtsTurn.refl); (case uCT => exact ⟨by assumption, by assumption, by assumption, by assumption⟩); (case uk => rfl); (case ud => ktr_room); (case uu => ktr_units); (case qf => (repeat' (first | assumption | exact List.Mem.head _ | refine List.Mem.tail _ ?_))); (case qc => (unfold RCtr; intro p9 loose9 mean9 mg9 mb9 dp9 un9 gd9 cn9 cs9 aa9 ccd9 cl9 outer9 A9 base9 h9 L9 m9 s9 Q9 E9 B9 F9 X9 N9 T9 hk9 hd9 hu9 hret9; refine wpAny_call ?_; k_dflt (refine' kla_code ?k1 ?k2 ?k3 ?k4 ?k5 ?kA ?kF ?kK ?k6 ?k7 ?k8 ?k9 ?kB ?_ ?c2 ?c3 ?c4 ?c5; (case kA => exact rfl); (case kF => exact rfl); (case kK => assumption); (case k1 => k_asm); (case k2 => k_asm); (case k3 => k_asm); (case k4 => k_asm); (case k5 => k_asm); (case k6 => k_mem); (case k7 => exact codeRec_news (by k_asm) (by k_mem) (by assumption) (by assumption)); (case k8 => ktr_room); (case k9 => exact rfl); (case c5 => decide); (case kB => exact locs rfl); (case c2 => exact rfl); (case c3 => exact rfl); (case c4 => exact rfl); k_whole; intro gω Lω hω FGω Fω Nω Bω Xω Tω; (try dsimp only); (try k_lift Bω); (try k_fold)); k_steps; all_goals exact hret9 _ _ _ _ (by k_asm) (by k_asm) (by k_asm))); k_whole); intro vω hω tkω nω gωω KTω Fω Nω Bω Xω Pω Dω hPω; obtain ⟨e1ω, e2ω⟩ := hPω; subst e1ω; subst e2ω; (try dsimp only))
  k_with "compareOp Eq ref ref" => (k_here; (with_reducible show wpAny _ _ (compareOp _ (Value.ref _) (Value.ref _)) _ _ _); k_dflt (refine' tup_eq ?kN ?k1 ?k2 ?ku ?ke ?_; (case kN => k_asm); (case k1 => (repeat' (first | assumption | exact List.Mem.head _ | refine List.Mem.tail _ ?_))); (case k2 => (repeat' (first | assumption | exact List.Mem.head _ | refine List.Mem.tail _ ?_))); (case ku => ktr_units); (case ke => (repeat' (first | exact SameL.nil | refine SameL.cons ?_ ?_ | exact PySem.SeqAt.EqAt.same _ | (refine (?q9 : ∀ (A : Around) (s : Shared), PySem.SeqAt.EqAt A s _ _ true) _ _; assumption) | exact same_str _ _ _ | exact same_int _ _ _ | exact same_ints (isList_of (by k_asm) (by repeat' (first | assumption | exact List.Mem.head _ | refine List.Mem.tail _ ?_))) (isList_of (by k_asm) (by repeat' (first | assumption | exact List.Mem.head _ | refine List.Mem.tail _ ?_))) (by assumption) (by assumption) (by ktr_units)))); k_whole); (try dsimp only))
  k_with "compareOp NotEq ref ref" => (k_here; (with_reducible show wpAny _ _ (compareOp _ (Value.ref _) (Value.ref _)) _ _ _); k_dflt (refine' tup_ne ?kN ?k1 ?k2 ?ku ?ke ?_; (case kN => k_asm); (case k1 => (repeat' (first | assumption | exact List.Mem.head _ | refine List.Mem.tail _ ?_))); (case k2 => (repeat' (first | assumption | exact List.Mem.head _ | refine List.Mem.tail _ ?_))); (case ku => ktr_units); (case ke => (repeat' (first | exact SameL.nil | refine SameL.cons ?_ ?_ | exact PySem.SeqAt.EqAt.same _ | (refine (?q9 : ∀ (A : Around) (s : Shared), PySem.SeqAt.EqAt A s _ _ true) _ _; assumption) | exact same_str _ _ _ | exact same_int _ _ _ | exact same_ints (isList_of (by k_asm) (by repeat' (first | assumption | exact List.Mem.head _ | refine List.Mem.tail _ ?_))) (isList_of (by k_asm) (by repeat' (first | assumption | exact List.Mem.head _ | refine List.Mem.tail _ ?_))) (by assumption) (by assumption) (by ktr_units)))); k_whole); (try dsimp only))
  trivial
theorem ask_ok (w : World) (tr dT rl bk : Addr) (tkr : Tok) (vs : List Value) (c : Nat) (rest : Led) (k : Int) (tk : Tok)
   (h1 : (tr, instObj 260 dT) ∈ rest) (h2 : (dT, rowsD w tkr rl) ∈ rest) (h3 : (rl, listOf vs.toArray c) ∈ rest)
   (od : Obj) (kvs : List (Int × Value)) (h5 : (bk, od) ∈ rest) (hod : od.IsDictOf (PySem.intKind PySem.Challenge.rw_xw0201_01.row.prog w) kvs) (lo : (bk == sysModules) = false) (hl : vs.length ≤ 100)
   (a d cc x y : Addr) (t : Nat → Tok) (kind name uri loc value : Str) (par : Value) (h4 : (a, instObj 71 d) ∈ rest)
   (k0 : 0 ≤ k) (k1 : k < (vs.length : Int)) (hv : vs[k.toNat]? = some (.ref a)) (bl g : Addr) (u1 u2 : Tok) (bval : Str) (bpar : Value) (nb : Nat) (hva : valueAt kvs k = some (.ref bl))
   (h4' : (d, rowD w t kind name uri loc value par cc x y) ∈ rest) (h6 : (bl, listOf [.str kind u1, .str bval u2, bpar, .ref g].toArray nb) ∈ rest)
   (cv cv' : List Value) (ch : List Int) (nc ng : Nat) (h7 : (cc, listOf cv.toArray nc) ∈ rest) (h8 : (g, listOf cv'.toArray ng) ∈ rest) (i1 : IntsAre cv ch) (i2 : IntsAre cv' ch) (hch : ch.length ≤ 100)
   (hh : handedIn par = true) (hpe : ∀ (A : Around) (s : Shared), PySem.SeqAt.EqAt A s par bpar true) (hkd : kind = "element") :
   CtrS w 320 [.ref tr, .ref bk, .int k tk] rest 180 720
    (fun v' news' => v' = .bool true ∧ ∀ p ∈ rest, p ∈ news') := by
  subst hkd
  unfold CtrS
  k_fill
  intro p loose mean mg mb dp un gd cn cs aa ccd cl outer A₀ base h₀ g₀ L m s Q E B F X XB N T TB D T0 CT hk hdp hu hret
  obtain ⟨C1, C2, C3, C4⟩ := CT
  refine wpAny_call ?_
  k_dflt (refine' callSC ?k1 ?k2 ?k3 ?k4 ?k5 ?XB ?TB ?D ?T0 ?kA ?kf ?kK ?k6 ?k7 ?k8 ?k9 ?kB ?kD ?_ ?c2 ?c3 ?c4; (case kA => exact rfl); (case kf => exact rfl); (case kK => assumption); (case k2 => k_asm); (case k1 => k_asm); (case XB => assumption); (case TB => assumption); (case D => assumption); (case T0 => assumption); (case k3 => k_asm); (case k4 => k_asm); (case k5 => k_asm); (case k6 => k_is); (case k7 => k_is); (case k8 => ktr_room); (case k9 => exact BindsTo.of_eq rfl); (case kB => exact rfl); (case kD => decide +kernel); (case c2 => exact rfl); (case c3 => exact rfl); (case c4 => exact rfl); k_whole; intro g' L' h' tk' cells' FG' F' N' Y' B' X' T' l1 D'; (try k_lt l1); k_cells Y'; (try simp only [List.cons_append, List.nil_append] at N'); (try dsimp only); (try k_lift B'); (try k_fold))
  k_steps
  exact hret _ _ _ _ _ (by assumption) (by k_asm) (by k_asm) (by assumption) (by assumption) (by assumption) (by assumption)
    ⟨rfl, fun p hp => by repeat' (first | exact hp | refine List.Mem.tail _ ?_)⟩
end
section
open PySem PySem.W PySem.Calls PyProof.Rows
/-- a table of one lambda: empty yet, or filled -/
def TabE (P : Addr) (line col : Int) (qual : Str) (rest : Led) : Prop := TabH P line col qual rest ∨ ((P, tabObj #[]) : Addr × Obj) ∈ rest
/-- what a lambda leaves of the rest: all that stood, but an empty table; the table filled; what is new stands above -/
structure Grew (P : Addr) (line col : Int) (qual : Str) (news rest rest' : Led) : Prop where
  tab : TabH P line col qual rest'
  keep : ∀ p ∈ rest, p.1 ≠ P → p ∈ rest'
  same : TabH P line col qual rest → ∀ p ∈ rest, p ∈ rest'
  new : ∀ q ∈ rest', q ∈ rest ∨ q.1 = P ∨ ∀ x ∈ news, @LT.lt Nat _ x.1 q.1
section
variable {M : Model} {A : Around} {E : Value → Shared → Prop} {s : Shared} {h₀ : Heap} {L a c P : Addr} {m mg mb : Str → Option Value} {cn : Str} {cs : Scope} {ccd : Value} {cl : List (Str × Addr)} {pre rest : Led}
  {p : Program} {loose : List Str} {mean : ExcName → Option Value} {name qual : Str} {params : Arguments} {body : PySem.Expr} {scope : Scope} {pos : Pos} {firstLine : Nat} {clos : List (Str × Addr)}
/-- a lambda is made, whether its table is empty yet or filled -/
theorem lam_any {Q : Value → Shared → Prop} (F : Fr h₀ L s.heap m) (N : News h₀ L s.heap (pre ++ rest)) (T : Top p loose mean mg mb h₀) (C : CodeHd h₀ c P) (hcd : ccd = .ref c) (hT : TabE P pos.line pos.col qual rest) (hpre : ∀ q ∈ pre, q.1 ≠ P)
    (hcl : closureFor scope (envX cn cs L a ccd cl) = pure clos)
    (h : ∀ f c' ctv h' tk rest', Fr h₀ L h' m → News h₀ L h' ((f, kla_obj name qual params body scope clos ((mg "__name__").getD .none) c' ctv) :: (pre ++ rest')) → Grew P pos.line pos.col qual (pre ++ rest) rest rest' →
      (∃ oc vs t, (c', oc) ∈ rest' ∧ oc.data = .fields vs ∧ vs[1]? = some (.str qual t)) → (∀ q ∈ pre ++ rest', @LT.lt Nat _ q.1 f) → Q (.ref f) { s with heap := h', toks := tk }) :
    wpAny M A (makeFunction name qual params (.expr body) scope (envX cn cs L a ccd cl) [] [] [] pos firstLine) Q E s := by
  by_cases hf : TabH P pos.line pos.col qual rest
  · obtain ⟨c', oc, vs, t, h1, h2, h3, h4⟩ := hf
    refine kla_hit (ps := #[rawInt pos.line, rawInt pos.col, .ref c']) (c' := c') F N T C hcd (List.mem_append_right _ h1) (by simp [TriplesOk, rawInt]) (by simp [codeAmong, rawInt]) hcl fun f ctv h' tk F' N' l => ?_
    exact h f c' ctv h' tk rest F' N' ⟨⟨c', oc, vs, t, h1, h2, h3, h4⟩, fun p hp _ => hp, fun _ p hp => hp, fun q hq => .inl hq⟩ ⟨oc, vs, t, h2, h3, h4⟩ l
  · have h0 : ((P, tabObj #[]) : Addr × Obj) ∈ rest := hT.resolve_left hf
    have N0 : News h₀ L s.heap ((P, tabObj #[]) :: (pre ++ rest.filter fun q => decide (q.1 ≠ P))) := fun q hq => N q (by
      rcases List.mem_cons.mp hq with rfl | hq
      · exact List.mem_append_right _ h0
      · rcases List.mem_append.mp hq with hq | hq
        · exact List.mem_append_left _ hq
        · exact List.mem_append_right _ (List.mem_filter.mp hq).1)
    refine kla_nest (ps := #[]) (g := fun o => (P, o) :: (pre ++ rest.filter fun q => decide (q.1 ≠ P))) F N0 T C hcd (.head fun q hq => ?_) trivial rfl hcl fun f c' oc vs t ctv h' tk F' N' d1 d2 l1 l2 => ?_
    · rcases List.mem_append.mp hq with hq | hq
      · exact hpre q hq
      · have := (List.mem_filter.mp hq).2
        simpa using this
    · have up : ∀ x ∈ pre ++ rest, @LT.lt Nat _ x.1 c' := fun x hx => by
        rcases List.mem_append.mp hx with hx | hx
        · exact l1 x (.tail _ (List.mem_append_left _ hx))
        · by_cases e : x.1 = P
          · have := l1 _ (List.Mem.head _)
            rw [e]; exact this
          · exact l1 x (.tail _ (List.mem_append_right _ (List.mem_filter.mpr ⟨hx, by simpa using e⟩)))
      refine h f c' ctv h' tk ((c', oc) :: (P, tabObj (#[] ++ #[rawInt pos.line, rawInt pos.col, .ref c'])) :: rest.filter fun q => decide (q.1 ≠ P)) F' (fun q hq => N' q ?_) ⟨⟨c', oc, vs, t, .tail _ (.head _), .head _, d1, d2⟩, fun p hp hne => .tail _ (.tail _ (List.mem_filter.mpr ⟨hp, by simpa using hne⟩)), fun h => absurd h hf, fun q hq => ?_⟩ ⟨oc, vs, t, .head _, d1, d2⟩ fun q hq => ?_
      · rcases List.mem_cons.mp hq with rfl | hq
        · exact .head _
        · rcases List.mem_append.mp hq with hq | hq
          · exact .tail _ (.tail _ (.tail _ (List.mem_append_left _ hq)))
          · rcases List.mem_cons.mp hq with rfl | hq
            · exact .tail _ (.head _)
            · rcases List.mem_cons.mp hq with rfl | hq
              · exact .tail _ (.tail _ (.head _))
              · exact .tail _ (.tail _ (.tail _ (List.mem_append_right _ hq)))
      · rcases List.mem_cons.mp hq with rfl | hq
        · exact .inr (.inr up)
        · rcases List.mem_cons.mp hq with rfl | hq
          · exact .inr (.inl rfl)
          · exact .inl (List.mem_filter.mp hq).1
      · rcases List.mem_append.mp hq with hq | hq
        · exact Nat.lt_trans (up q (List.mem_append_left _ hq)) l2
        · rcases List.mem_cons.mp hq with rfl | hq
          · exact l2
          · rcases List.mem_cons.mp hq with rfl | hq
            · exact Nat.lt_trans (show @LT.lt Nat _ P c' from l1 (P, tabObj #[]) (.head _)) l2
            · exact Nat.lt_trans (up q (List.mem_append_right _ (List.mem_filter.mp hq).1)) l2
end
section
variable {P : Addr} {line col : Int} {qual : Str} {news rest rest' : Led}
theorem TabE.at (h : TabE P line col qual rest) : ∃ ps, (P, tabObj ps) ∈ rest := by
  rcases h with ⟨c', oc, vs, t, h1, _⟩ | h
  · exact ⟨_, h1⟩
  · exact ⟨_, h⟩
theorem Grew.off (G : Grew P line col qual news rest rest') {x : Addr} {o : Obj} (h : ∀ p ∈ rest, p.1 ≠ x) (hx : x ≠ P) (hm : (x, o) ∈ news) : ∀ p ∈ rest', p.1 ≠ x := fun p hp => by
  rcases G.new p hp with h1 | h1 | h1
  · exact h p h1
  · rw [h1]; exact fun e => hx e.symm
  · exact fun e => absurd (h1 _ hm) (by rw [← e]; exact Nat.lt_irrefl _)
theorem Grew.mem (G : Grew P line col qual news rest rest') {h₀ h : Heap} {L : Addr} {E : Led} (N : News h₀ L h E) (hE : ∀ p ∈ rest, p ∈ E) (hT : TabE P line col qual rest) {p : Addr × Obj} (hp : p ∈ rest) (hd : ∀ ps, p.2.data ≠ .fields ps) : p ∈ rest' := by
  obtain ⟨ps, hm⟩ := hT.at
  refine G.keep p hp fun e => ?_
  have h1 := (N p (hE p hp)).1
  have h2 := (N _ (hE _ hm)).1
  rw [e, h2] at h1
  exact hd ps (by rw [← Option.some.inj h1])
theorem Grew.lt {d : Addr} (_G : Grew P line col qual news rest rest') (h : ∀ q ∈ rest', @LT.lt Nat _ q.1 d) : AllLt d rest' := by
  clear _G
  induction rest' with
  | nil => trivial
  | cons q r ih => exact ⟨h q (.head _), ih fun p hp => h p (.tail _ hp)⟩
end
theorem allLt_at {d : Nat} {rest : Led} (h : AllLt d rest) : ∀ p ∈ rest, @LT.lt Nat _ p.1 d := by
  induction rest with
  | nil => intro p hp; cases hp
  | cons q r ih =>
    intro p hp
    rcases List.mem_cons.mp hp with rfl | hp
    · exact h.1
    · exact ih h.2 p hp
theorem Grew.less {P : Addr} {line col : Int} {qual : Str} {news E rest rest' : Led} (G : Grew P line col qual news rest rest') (h : ∀ p ∈ E, p ∈ news) : Grew P line col qual E rest rest' :=
  ⟨G.tab, G.keep, G.same, fun q hq => (G.new q hq).imp id fun h1 => h1.imp id fun h2 x hx => h2 x (h x hx)⟩
theorem all_one {α : Type} {p : α → Prop} {a : α} {l : List α} (h : p a) (hl : ∀ x ∈ l, p x) : ∀ x ∈ a :: l, p x := List.forall_mem_cons.mpr ⟨h, hl⟩
theorem TabH_up {P : Addr} {l c : Int} {q : Str} {E n : Led} (h : TabH P l c q E) (hs : ∀ p ∈ E, p ∈ n) : TabH P l c q n := by
  obtain ⟨c', oc, vs, t, a, b, x, y⟩ := h
  exact ⟨c', oc, vs, t, hs _ a, hs _ b, x, y⟩
end
section
open PySem PySem.W PySem.Calls PyProof.Rows
/-- the walk stops here -/
def Hold (P : Prop) : Prop := P
theorem hold_ {P : Prop} (h : Hold P) : P := h
theorem stored_app {kvs : List (Int × Value)} {n : Int} {v : Value} (h : valueAt kvs n = none) : stored kvs n v = kvs ++ [(n, v)] := by
  unfold stored
  rw [if_neg]
  intro ha
  have := valueAt_isSome_eq_any kvs n
  rw [h, ha] at this
  cases this
theorem valueAt_app {kvs : List (Int × Value)} {k n : Int} {v x : Value} (h : valueAt kvs n = none) (hk : valueAt kvs k = some x) : valueAt (stored kvs n v) k = some x := by
  rw [stored_app h]
  unfold valueAt at hk ⊢
  rw [List.find?_append]
  cases hf : kvs.find? (fun kv => decide (kv.1 = k)) with
  | none => rw [hf] at hk; cases hk
  | some q => rw [hf] at hk; simpa using hk
theorem ne_of_allLt_le {d e : Nat} {rest : Led} (h : AllLt d rest) (he : d ≤ e) : ∀ p ∈ rest, p.1 ≠ e := by
  induction rest with
  | nil => intro p hp; cases hp
  | cons q r ih =>
    intro p hp
    rcases List.mem_cons.mp hp with rfl | hp
    · exact Nat.ne_of_lt (Nat.lt_of_lt_of_le h.1 he)
    · exact ih h.2 p hp
theorem ne_int_same {prog : Program} {w : World} {A : Around} {E : Value → Shared → Prop} {s : Shared} {a b : Int} {t u : Tok} {Q : Value → Shared → Prop} (hab : a = b) (h : Q (.bool false) s) :
    wpAny (model prog w) A (compareOp .NotEq (.int a t) (.int b u)) Q E s := by
  subst hab
  refine ne_int ?_
  simpa using h
theorem ne_of_lts {d e : Nat} {rest : Led} (h : ∀ p ∈ rest, @LT.lt Nat _ p.1 d) (he : d ≤ e) : ∀ p ∈ rest, p.1 ≠ e := fun p hp => Nat.ne_of_lt (Nat.lt_of_lt_of_le (h p hp) he)
theorem push_mem {news : Led} {a : Addr} {vs : List Value} {x : Value} {c : Nat} (h : (a, listOf (vs.toArray.push x) c) ∈ news) : (a, listOf (vs ++ [x]).toArray c) ∈ news := by
  rwa [← List.push_toArray]
/-- an entry is drawn to the front -/
inductive Pull (d : Addr) (o : Obj) : Led → Led → Prop
  | head {r} : Pull d o ((d, o) :: r) r
  | tail {p r r'} : Pull d o r r' → Pull d o (p :: r) (p :: r')
theorem Pull.mem {d : Addr} {o : Obj} {E X : Led} (h : Pull d o E X) : ∀ p, p ∈ (d, o) :: X → p ∈ E := by
  induction h with
  | head => exact fun _ hp => hp
  | tail _ ih =>
    intro p hp
    rcases List.mem_cons.mp hp with rfl | hp
    · exact .tail _ (ih _ (.head _))
    · rcases List.mem_cons.mp hp with rfl | hp
      · exact .head _
      · exact .tail _ (ih _ (.tail _ hp))
theorem pull2 {h₀ h : Heap} {L a b : Addr} {o o2 : Obj} {E X Y : Led} (N : News h₀ L h E) (p1 : Pull a o E X) (p2 : Pull b o2 X Y) : News h₀ L h ((a, o) :: (b, o2) :: Y) := fun p hp => by
  refine N p (p1.mem p ?_)
  rcases List.mem_cons.mp hp with rfl | hp
  · exact .head _
  · exact .tail _ (p2.mem p hp)
theorem pull1 {h₀ h : Heap} {L a : Addr} {o : Obj} {E X : Led} (N : News h₀ L h E) (p1 : Pull a o E X) : News h₀ L h ((a, o) :: X) := fun p hp => N p (p1.mem p hp)
/-- what stands behind a put beneath the node k (k's children in the tree at pc, in the book at g) -/
def PutPar (w : World) (rl bk pc g : Addr) (vs : List Value) (kvs : List (Int × Value)) (ch ch' : List Value) (kind val : Str) (k : Int) (rest : Led) (news' : Led) : Prop :=
  ∃ (d a cc x y bN gN : Nat) (odb : Obj), (a, instObj 71 d) ∈ news' ∧ (∃ t tp, (d, rowD w t kind "n" "u:2" "l" val (.int k tp) cc x y) ∈ news') ∧ (∃ n, (cc, listOf ([] : List Value).toArray n) ∈ news') ∧
    (∃ n, (rl, listOf (vs ++ [Value.ref a]).toArray n) ∈ news') ∧ (∃ n t, (pc, listOf (ch ++ [Value.int (vs.length : Int) t]).toArray n) ∈ news') ∧
    odb.IsDictOf (PySem.intKind PySem.Challenge.rw_xw0201_01.row.prog w) (stored kvs (kvs.length : Int) (.ref bN)) ∧ (bk, odb) ∈ news' ∧
    (∃ n t t' tp, (bN, listOf [.str kind t, .str val t', .int k tp, .ref gN].toArray n) ∈ news') ∧ (∃ n, (gN, listOf ([] : List Value).toArray n) ∈ news') ∧
    (∃ n t, (g, listOf (ch' ++ [Value.int (kvs.length : Int) t]).toArray n) ∈ news') ∧ (∀ p ∈ rest, p ∈ news') ∧
    AllLt d rest ∧ (@LT.lt Nat _ rl d ∧ @LT.lt Nat _ pc d ∧ @LT.lt Nat _ bk d ∧ @LT.lt Nat _ g d ∧ d < a ∧ a < cc ∧ cc < gN ∧ gN < bN)
def PutNone (w : World) (rl bk : Addr) (vs : List Value) (kvs : List (Int × Value)) (kind val : Str) (rest : Led) (news' : Led) : Prop :=
  ∃ (d a cc x y bN gN : Nat) (odb : Obj), (a, instObj 71 d) ∈ news' ∧ (∃ t, (d, rowD w t kind "n" "u:2" "l" val .none cc x y) ∈ news') ∧ (∃ n, (cc, listOf ([] : List Value).toArray n) ∈ news') ∧
    (∃ n, (rl, listOf (vs ++ [Value.ref a]).toArray n) ∈ news') ∧
    odb.IsDictOf (PySem.intKind PySem.Challenge.rw_xw0201_01.row.prog w) (stored kvs (kvs.length : Int) (.ref bN)) ∧ (bk, odb) ∈ news' ∧
    (∃ n t t', (bN, listOf [.str kind t, .str val t', .none, .ref gN].toArray n) ∈ news') ∧ (∃ n, (gN, listOf ([] : List Value).toArray n) ∈ news') ∧ (∀ p ∈ rest, p ∈ news') ∧
    AllLt d rest ∧ (@LT.lt Nat _ rl d ∧ @LT.lt Nat _ bk d ∧ d < a ∧ a < cc ∧ cc < gN ∧ gN < bN)
theorem mem_push {news : Led} {a : Addr} {vs : List Value} {x : Value} {c : Nat} (h : (a, listOf (vs.toArray.push x) c) ∈ news) : (a, listOf (vs ++ [x]).toArray c) ∈ news := by
  rwa [← List.push_toArray]
theorem Pull.inv {d : Addr} {o : Obj} {E X : Led} (h : Pull d o E X) : ∀ p, p ∈ E → p = (d, o) ∨ p ∈ X := by
  induction h with
  | head => exact fun _ hp => List.mem_cons.mp hp
  | tail _ ih =>
    intro p hp
    rcases List.mem_cons.mp hp with rfl | hp
    · exact .inr (.head _)
    · rcases ih p hp with h | h
      · exact .inl h
      · exact .inr (.tail _ h)
theorem inst_ne_list {a b d C : Addr} {vs : Array Value} {c : Nat} (e : (a, instObj C d) = (b, listOf vs c)) : False := by
  injection e with _ e; injection e with e; cases e
theorem dict_ne_list {a b : Addr} {es : List DictEntry} {n : Nat} {vs : Array Value} {c : Nat} (e : (a, dictOf es n) = (b, listOf vs c)) : False := by
  injection e with _ e; injection e with _ _ e; cases e
theorem add_parP (w : World) {tr dT rl : Addr} {tkr : Tok} {vs : List Value} {c : Nat} {E X Y : Led} {kind name uri loc value : Str} {t1 t2 t3 t4 t5 : Tok} {k : Int} {tk : Tok}
   (h1 : (tr, instObj 260 dT) ∈ E) (h2 : (dT, rowsD w tkr rl) ∈ E)
   {pa pd pc px py : Addr} {pt : Nat → Tok} {pk pn pu pl pv : Str} {pp : Value} (hv : vs[k.toNat]? = some (.ref pa)) (h4 : (pa, instObj 71 pd) ∈ E) (h5 : (pd, rowD w pt pk pn pu pl pv pp pc px py) ∈ E) {ch : List Value} {cn' : Nat}
   (p1 : Pull rl (listOf vs.toArray c) E X) (p2 : Pull pc (listOf ch.toArray cn') X Y)
   (hd : ∀ p ∈ Y, p.1 ≠ rl) (hd2 : ∀ p ∈ Y, p.1 ≠ pc) (hne : @Ne Nat pc rl)
    (k0 : 0 ≤ k) (k1 : k < (vs.length : Int)) (hl : vs.length ≤ 100) (hch : ch.length ≤ 100) (hkd : isPar pk = true) :
   Ctr w 117 [.ref tr, .int k tk, .str kind t1, .str name t2, .str uri t3, .str loc t4, .str value t5] E 50 200
    (fun v' news' => ∃ d a cc x y od tk2 n' n2, v' = .int (vs.length : Int) tk2 ∧ news' = (y, listOf #[] 0) :: (x, listOf #[] 0) :: (cc, listOf #[] 0) :: (a, instObj 71 d) :: (d, od) :: (rl, listOf (vs ++ [Value.ref a]).toArray n') :: (pc, listOf (ch.toArray.push (Value.int (vs.length : Int) tk2)) n2) :: Y ∧
      (∃ t, od = rowD w t kind name uri loc value (.int k tk) cc x y) ∧ Fresh5 rl d a cc x y ((pc, listOf ch.toArray cn') :: Y)) := by
  have inY : ∀ p ∈ E, p ≠ (rl, listOf vs.toArray c) → p ≠ (pc, listOf ch.toArray cn') → p ∈ Y := fun p hp a b => by
    rcases p1.inv p hp with h | h
    · exact absurd h a
    · rcases p2.inv p h with h | h
      · exact absurd h b
      · exact h
  intro p loose mean mg mb dp un gd cn cs aa ccd cl outer A₀ base h₀ L m s Q E' B F X' N T hk hd' hu hret
  exact add_par w tr dT rl tkr vs c Y kind name uri loc value t1 t2 t3 t4 t5 k tk (inY _ h1 (fun e => inst_ne_list e) (fun e => inst_ne_list e)) (inY _ h2 (fun e => dict_ne_list e) (fun e => dict_ne_list e)) hd pa pd pc px py pt pk pn pu pl pv pp
    (inY _ h4 (fun e => inst_ne_list e) (fun e => inst_ne_list e)) (inY _ h5 (fun e => dict_ne_list e) (fun e => dict_ne_list e)) ch cn' hd2 hne k0 k1 hv hl hch hkd
    p loose mean mg mb dp un gd cn cs aa ccd cl outer A₀ base h₀ L m s Q E' B F X' (pull2 N p1 p2) T hk hd' hu hret
theorem add_noneP (w : World) {tr dT rl : Addr} {tkr : Tok} {vs : List Value} {c : Nat} {E Y : Led} {kind name uri loc value : Str} {t1 t2 t3 t4 t5 : Tok}
   (h1 : (tr, instObj 260 dT) ∈ E) (h2 : (dT, rowsD w tkr rl) ∈ E) (p1 : Pull rl (listOf vs.toArray c) E Y) (hd : ∀ p ∈ Y, p.1 ≠ rl) (hl : vs.length ≤ 100) :
   Ctr w 117 [.ref tr, .none, .str kind t1, .str name t2, .str uri t3, .str loc t4, .str value t5] E 50 200
    (fun v' news' => ∃ d a cc x y od tk n', v' = .int (vs.length : Int) tk ∧ news' = (y, listOf #[] 0) :: (x, listOf #[] 0) :: (cc, listOf #[] 0) :: (a, instObj 71 d) :: (d, od) :: (rl, listOf (vs ++ [Value.ref a]).toArray n') :: Y ∧
      (∃ t, od = rowD w t kind name uri loc value .none cc x y) ∧ Fresh5 rl d a cc x y Y) := by
  have inY : ∀ p ∈ E, p ≠ (rl, listOf vs.toArray c) → p ∈ Y := fun p hp a => (p1.inv p hp).elim (fun h => absurd h a) id
  intro p loose mean mg mb dp un gd cn cs aa ccd cl outer A₀ base h₀ L m s Q E' B F X' N T hk hd' hu hret
  exact add_none w tr dT rl tkr vs c Y kind name uri loc value t1 t2 t3 t4 t5 (inY _ h1 (fun e => inst_ne_list e)) (inY _ h2 (fun e => dict_ne_list e)) hd hl
    p loose mean mg mb dp un gd cn cs aa ccd cl outer A₀ base h₀ L m s Q E' B F X' (pull1 N p1) T hk hd' hu hret
theorem app_last {vs : List Value} {x : Value} {k : Int} (h : k = vs.length) : (vs ++ [x])[k.toNat]? = some x := by subst h; simp
end
local macro_rules | `(tactic| k_all) => `(tactic| (refine' ne_of_allLt_le ?kx ?ky; (case kx => first | assumption | exact And.right (by assumption) | exact And.right (And.right (by assumption)) | exact And.right (And.right (And.right (by assumption))) | exact And.right (And.right (And.right (And.right (by assumption)))) | exact And.right (And.right (And.right (And.right (And.right (by assumption))))) | exact And.right (And.right (And.right (And.right (And.right (And.right (by assumption)))))) | exact And.right (And.right (And.right (And.right (And.right (And.right (And.right (by assumption))))))) | exact And.right (And.right (And.right (And.right (And.right (And.right (And.right (And.right (by assumption))))))))); (case ky => omega)))
local macro_rules | `(tactic| k_all) => `(tactic| (refine' ne_of_lts ?kx ?ky; (case kx => assumption); (case ky => omega)))
section
open PySem PySem.W PySem.Calls PyProof.Rows
theorem ln_PutM_0 : True := by
  w_top off
  k_with_none
  k_with "call builtin:len" => (k_here; (with_reducible show wpAny _ _ (call (Value.builtin "len") [Value.ref _]) _ _ _); k_dflt (refine' len_led ?k1 ?k2 ?k3 ?_; (case k1 => k_asm); (case k2 => (repeat' (first | assumption | exact List.Mem.head _ | refine List.Mem.tail _ ?_))); (case k3 => ((try simp only [List.length_cons, List.length_nil, List.length_append, List.length_map]); omega)); k_whole); (try dsimp only))
  k_with "subscriptTail" => (k_here; (with_reducible show wpAny _ _ (subscriptTail _ _ (Value.ref _) (Value.int _ _)) _ _ _); k_dflt (refine' item_led ?k1 ?k2 ?k3 ?k4 ?k5 ?_ ?k6; (case k1 => k_asm); (case k2 => (repeat' (first | assumption | exact List.Mem.head _ | refine List.Mem.tail _ ?_))); (case k3 => omega); (case k4 => omega); (case k5 => (first | assumption | (rw [List.getElem?_append_left (by omega)]; assumption))); (case k6 => with_unfolding_all rfl); k_whole); (try dsimp only))
  k_with "exec Raise some none" => (k_here; (with_reducible show wpAny _ _ (exec (Stmt.Raise (some (Expr.Call (Expr.Name (Str.ofString "TreeFault") _) [Expr.Constant (Const.str _) _ _] [] _)) none _) _) _ _ _); k_dflt (refine' raise_tf ?kB ?kF ?kX ?kN ?kT ?kk ?kx ?kn ?ki ?kf ?kd ?ku ?_; (case kB => k_asm); (case kF => k_asm); (case kX => k_asm); (case kN => k_asm); (case kT => assumption); (case kk => rfl); (case kx => k_is); (case kn => rfl); (case ki => k_is); (case kf => k_is); (case kd => ktr_room); (case ku => ktr_units); k_whole); intro eω tω dω hω tkω Fω Nω neω)
  k_with "leaving ref" => (k_here; k_dflt (refine' leave_led ?kK ?kF ?kN ?kne ?kd ?k1 ?k0 ?_; (case kF => k_asm); (case kN => k_asm); (case kK => k_asm); (case kne => k_asm); (case kd => rfl); (case k1 => rfl); (case k0 => rfl); k_whole); intro hω Sω Rω Uω; (try dsimp only at Sω Rω Uω ⊢))
  k_with "leaving ref" => (k_here; k_dflt (refine' leave_onSN ?k1 ?k2 ?k3 ?k4 ?_; (case k3 => assumption); (case k2 => assumption); (case k1 => assumption); (case k4 => assumption); k_whole); intro hω Sω Rω Uω; (try dsimp only at Sω Rω Uω ⊢))
  k_with "getAttr ref" => (k_here; k_dflt (refine' get_own ?k1 ?k2 ?k3 ?k4 ?k5 ?k6 ?k7 ?k8 ?k9 ?_; (case k1 => k_asm); (case k2 => k_asm); (case k3 => k_inst); (case k4 => k_is); (case k5 => k_is); (case k6 => k_is); (case k7 => k_is); (case k8 => k_get); (case k9 => k_handed); k_whole); (try dsimp only))
  k_with "eval Constant int" => (k_here; refine wpAny_Constant_int ?_; (try dsimp only))
  k_with "eval Constant str" => (k_here; refine Calls.Constant_str ?_; (try dsimp only))
  k_with "call ref" => (k_here; (with_reducible show wpAny _ _ (call (Value.ref 103) _) _ _ _); k_dflt (refine' use_ctr (row_ok _ _ _ _ _ _ _ _ _ _ _ ?q1 ?q2 ?q3 ?q4 ?q5 ?q6 ?q7) ?uB ?uF ?uX ?uN ?uT ?uk ?ud ?uu ?_; (case uF => k_asm); (case uN => k_asm); (case uB => k_asm); (case uX => k_asm); (case uT => assumption); (case uk => rfl); (case q1 => (repeat' (first | assumption | exact List.Mem.head _ | refine List.Mem.tail _ ?_))); (case q2 => (repeat' (first | assumption | exact List.Mem.head _ | refine List.Mem.tail _ ?_))); (case q3 => (first | ((repeat' (first | assumption | exact List.Mem.head _ | refine List.Mem.tail _ ?_)); done) | (refine push_mem ?_; (repeat' (first | assumption | exact List.Mem.head _ | refine List.Mem.tail _ ?_)); done))); (case q4 => omega); (case q5 => (first | omega | ((simp only [List.length_append, List.length_cons, List.length_nil]); omega))); (case q6 => (first | assumption | (rw [List.getElem?_append_left (by omega)]; assumption) | (refine' app_last ?hz; (case hz => omega)))); (case q7 => (first | assumption | ((simp only [List.length_append, List.length_cons, List.length_nil]); omega))); (case ud => ktr_room); (case uu => ktr_units); k_whole); intro vω hω tkω nω Fω Nω hPω; obtain ⟨e1ω, e2ω⟩ := hPω; subst e1ω; subst e2ω; (try dsimp only))
  k_with "call ref" => (k_here; (with_reducible show wpAny _ _ (call (Value.ref 103) _) _ _ _); k_dflt (refine' use_rctr (row_bad _ _ _ _ _ _ _ _ _ _ ?q1 ?q2 ?q3 ?q4 ?q7) ?uB ?uF ?uX ?uN ?uT ?uk ?ud ?uu ?_; (case uF => k_asm); (case uN => k_asm); (case uB => k_asm); (case uX => k_asm); (case uT => assumption); (case uk => rfl); (case q1 => (repeat' (first | assumption | exact List.Mem.head _ | refine List.Mem.tail _ ?_))); (case q2 => (repeat' (first | assumption | exact List.Mem.head _ | refine List.Mem.tail _ ?_))); (case q3 => (first | ((repeat' (first | assumption | exact List.Mem.head _ | refine List.Mem.tail _ ?_)); done) | (refine push_mem ?_; (repeat' (first | assumption | exact List.Mem.head _ | refine List.Mem.tail _ ?_)); done))); (case q4 => omega); (case q7 => assumption); (case ud => ktr_room); (case uu => ktr_units); k_whole); intro eω Gω hω tkω FGω Sω Uω; (try dsimp only))
  k_with "compareOp In str ref" => (k_here; (with_reducible show wpAny _ _ (compareOp CmpOp.In (Value.str _ _) (Value.ref _)) _ _ _); k_dflt (refine' in_parT ?k1 ?k2 ?k3 ?k4 ?_; (case k1 => k_asm); (case k2 => k_asm); (case k3 => k_is); (case k4 => assumption); k_whole))
  k_with "compareOp NotIn str ref" => (k_here; (with_reducible show wpAny _ _ (compareOp CmpOp.NotIn (Value.str _ _) (Value.ref _)) _ _ _); k_dflt (refine' notin_parT ?k1 ?k2 ?k3 ?k4 ?_; (case k1 => k_asm); (case k2 => k_asm); (case k3 => k_is); (case k4 => assumption); k_whole))
  k_with "compareOp In str ref" => (k_here; (with_reducible show wpAny _ _ (compareOp CmpOp.In (Value.str _ _) (Value.ref _)) _ _ _); k_dflt (refine' in_parL ?k1 ?k2 ?k4 ?_; (case k1 => k_asm); (case k2 => k_mem); (case k4 => assumption); k_whole))
  k_with "compareOp In int ref" => (k_here; (with_reducible show wpAny _ _ (compareOp _ (Value.int _ _) (Value.ref _)) _ _ _); k_dflt (refine' bk_in ?kN ?kp ?kd ?kl ?kh ?_; (case kN => k_asm); (case kp => (repeat' (first | assumption | exact List.Mem.head _ | refine List.Mem.tail _ ?_))); (case kd => assumption); (case kl => assumption); (case kh => assumption); k_whole); (try dsimp only))
  k_with "compareOp In int ref" => (k_here; (with_reducible show wpAny _ _ (compareOp _ (Value.int _ _) (Value.ref _)) _ _ _); k_dflt (refine' bk_in0 ?kN ?kp ?kd ?kl ?kh ?_; (case kN => k_asm); (case kp => (repeat' (first | assumption | exact List.Mem.head _ | refine List.Mem.tail _ ?_))); (case kd => assumption); (case kl => assumption); (case kh => assumption); k_whole); (try dsimp only))
  k_with "compareOp NotIn int ref" => (k_here; (with_reducible show wpAny _ _ (compareOp _ (Value.int _ _) (Value.ref _)) _ _ _); k_dflt (refine' bk_notin ?kN ?kp ?kd ?kl ?kh ?_; (case kN => k_asm); (case kp => (repeat' (first | assumption | exact List.Mem.head _ | refine List.Mem.tail _ ?_))); (case kd => assumption); (case kl => assumption); (case kh => assumption); k_whole); (try dsimp only))
  k_with "compareOp NotIn int ref" => (k_here; (with_reducible show wpAny _ _ (compareOp _ (Value.int _ _) (Value.ref _)) _ _ _); k_dflt (refine' bk_notin0 ?kN ?kp ?kd ?kl ?kh ?_; (case kN => k_asm); (case kp => (repeat' (first | assumption | exact List.Mem.head _ | refine List.Mem.tail _ ?_))); (case kd => assumption); (case kl => assumption); (case kh => assumption); k_whole); (try dsimp only))
  k_with "subscriptTail" => (k_here; (with_reducible show wpAny _ _ (subscriptTail _ _ (Value.ref _) (Value.int _ _)) _ _ _); k_dflt (refine' bk_item ?kN ?kp ?kd ?kh ?_ ?k6 ?k7; (case kN => k_asm); (case kp => (repeat' (first | assumption | exact List.Mem.head _ | refine List.Mem.tail _ ?_))); (case kd => assumption); (case kh => (first | assumption | exact valueAt_app (by assumption) (by assumption))); (case k6 => with_unfolding_all rfl); (case k7 => intro _; with_unfolding_all rfl); k_whole); (try dsimp only))
  k_with "getItem ref int" => (k_here; (with_reducible show wpAny _ _ (getItem (Value.ref _) (Value.int _ _)) _ _ _); k_dflt (refine' bk_getItem ?kN ?kp ?kd ?kh ?_; (case kN => k_asm); (case kp => (repeat' (first | assumption | exact List.Mem.head _ | refine List.Mem.tail _ ?_))); (case kd => assumption); (case kh => assumption); k_whole); (try dsimp only))
  k_with "call builtin:len" => (k_here; (with_reducible show wpAny _ _ (call (Value.builtin "len") [Value.ref _]) _ _ _); k_dflt (refine' bk_len ?kN ?kp ?kd ?kl ?kh ?_; (case kN => k_asm); (case kp => (repeat' (first | assumption | exact List.Mem.head _ | refine List.Mem.tail _ ?_))); (case kd => assumption); (case kl => assumption); (case kh => assumption); k_whole); (try dsimp only))
  k_with "setItem ref int" => (k_here; (with_reducible show wpAny _ _ (setItem (Value.ref _) (Value.int _ _) _) _ _ _); k_dflt (refine' bk_set ?kF ?kN ?kU ?kd ?kl ?_; (case kF => k_asm); (case kN => k_asm); (case kU => k_updF); (case kd => assumption); (case kl => assumption); k_whole); intro hω oω Fω Nω hdω; (try dsimp only at Nω))
  k_with "leaving ref" => (k_here; k_dflt (refine' leave_onX ?kf ?k1 ?k2 ?k3 ?k4 ?_; (case kf => exact rfl); (case k3 => assumption); (case k2 => assumption); (case k1 => assumption); (case k4 => assumption); k_whole); intro hω Sω Rω Uω; (try dsimp only at Sω Rω Uω ⊢))
  k_with "call ref" => (k_here; (with_reducible show wpAny _ _ (call (Value.ref 173) _) _ _ _); k_dflt (refine' use_rctr (setv_bad _ _ _ _ _ _ _ _ _ _ _ _ ?q1 ?q2 ?q3 ?q4 ?q5) ?uB ?uF ?uX ?uN ?uT ?uk ?ud ?uu ?_; (case uF => k_asm); (case uN => k_asm); (case uB => k_asm); (case uX => k_asm); (case uT => assumption); (case uk => rfl); (case q1 => (repeat' (first | assumption | exact List.Mem.head _ | refine List.Mem.tail _ ?_))); (case q2 => (repeat' (first | assumption | exact List.Mem.head _ | refine List.Mem.tail _ ?_))); (case q3 => (repeat' (first | assumption | exact List.Mem.head _ | refine List.Mem.tail _ ?_))); (case q4 => (first | omega | assumption)); (case q5 => assumption); (case ud => ktr_room); (case uu => ktr_units); k_whole); intro eω Gω hω tkω FGω Sω Uω; (try dsimp only))
  k_with "call ref" => (k_here; (with_reducible show wpAny _ _ (call (Value.ref 173) _) _ _ _); k_dflt (refine' use_rctr (setv_par _ _ _ _ _ _ _ _ _ _ _ _ ?q1 ?q2 ?q3 _ _ _ _ _ _ _ _ _ _ _ _ ?q4 ?q5 ?q6 ?q7 ?q8 ?q9 ?q0) ?uB ?uF ?uX ?uN ?uT ?uk ?ud ?uu ?_; (case uF => k_asm); (case uN => k_asm); (case uB => k_asm); (case uX => k_asm); (case uT => assumption); (case uk => rfl); (case q1 => (repeat' (first | assumption | exact List.Mem.head _ | refine List.Mem.tail _ ?_))); (case q2 => (repeat' (first | assumption | exact List.Mem.head _ | refine List.Mem.tail _ ?_))); (case q3 => (repeat' (first | assumption | exact List.Mem.head _ | refine List.Mem.tail _ ?_))); (case q6 => omega); (case q7 => omega); (case q8 => assumption); (case q4 => (repeat' (first | assumption | exact List.Mem.head _ | refine List.Mem.tail _ ?_))); (case q5 => (repeat' (first | assumption | exact List.Mem.head _ | refine List.Mem.tail _ ?_))); (case q9 => assumption); (case q0 => assumption); (case ud => ktr_room); (case uu => ktr_units); k_whole); intro eω Gω hω tkω FGω Sω Uω; (try dsimp only))
  k_with "call ref" => (k_here; (with_reducible show wpAny _ _ (call (Value.ref 117) _) _ _ _); k_dflt (refine' use_rctr (add_bad _ _ _ _ _ _ _ _ _ _ _ _ _ _ _ _ _ _ _ _ ?q1 ?q2 ?q3 ?q4 ?q5) ?uB ?uF ?uX ?uN ?uT ?uk ?ud ?uu ?_; (case uF => k_asm); (case uN => k_asm); (case uB => k_asm); (case uX => k_asm); (case uT => assumption); (case uk => rfl); (case q1 => (repeat' (first | assumption | exact List.Mem.head _ | refine List.Mem.tail _ ?_))); (case q2 => (repeat' (first | assumption | exact List.Mem.head _ | refine List.Mem.tail _ ?_))); (case q3 => (repeat' (first | assumption | exact List.Mem.head _ | refine List.Mem.tail _ ?_))); (case q4 => (first | omega | assumption)); (case q5 => assumption); (case ud => ktr_room); (case uu => ktr_units); k_whole); intro eω Gω hω tkω FGω Sω Uω; (try dsimp only))
  k_with "call ref" => (k_here; (with_reducible show wpAny _ _ (call (Value.ref 117) _) _ _ _); k_dflt (refine' use_rctr (add_kid _ _ _ _ _ _ _ _ _ _ _ _ _ _ _ _ _ _ _ _ ?q1 ?q2 ?q3 _ _ _ _ _ _ _ _ _ _ _ _ ?q4 ?q5 ?q6 ?q7 ?q8 ?q9 ?q0) ?uB ?uF ?uX ?uN ?uT ?uk ?ud ?uu ?_; (case uF => k_asm); (case uN => k_asm); (case uB => k_asm); (case uX => k_asm); (case uT => assumption); (case uk => rfl); (case q1 => (repeat' (first | assumption | exact List.Mem.head _ | refine List.Mem.tail _ ?_))); (case q2 => (repeat' (first | assumption | exact List.Mem.head _ | refine List.Mem.tail _ ?_))); (case q3 => (repeat' (first | assumption | exact List.Mem.head _ | refine List.Mem.tail _ ?_))); (case q6 => omega); (case q7 => omega); (case q8 => assumption); (case q4 => (repeat' (first | assumption | exact List.Mem.head _ | refine List.Mem.tail _ ?_))); (case q5 => (repeat' (first | assumption | exact List.Mem.head _ | refine List.Mem.tail _ ?_))); (case q9 => assumption); (case q0 => assumption); (case ud => ktr_room); (case uu => ktr_units); k_whole); intro eω Gω hω tkω FGω Sω Uω; (try dsimp only))
  k_with "call ref" => (k_here; (with_reducible show wpAny _ _ (call (Value.ref 152) _) _ _ _); k_dflt (refine' use_rctr (erow_bad _ _ _ _ _ _ _ _ _ _ ?q1 ?q2 ?q3 ?q4 ?q5) ?uB ?uF ?uX ?uN ?uT ?uk ?ud ?uu ?_; (case uF => k_asm); (case uN => k_asm); (case uB => k_asm); (case uX => k_asm); (case uT => assumption); (case uk => rfl); (case q1 => (repeat' (first | assumption | exact List.Mem.head _ | refine List.Mem.tail _ ?_))); (case q2 => (repeat' (first | assumption | exact List.Mem.head _ | refine List.Mem.tail _ ?_))); (case q3 => (repeat' (first | assumption | exact List.Mem.head _ | refine List.Mem.tail _ ?_))); (case q4 => (first | omega | assumption)); (case q5 => assumption); (case ud => ktr_room); (case uu => ktr_units); k_whole); intro eω Gω hω tkω FGω Sω Uω; (try dsimp only))
  k_with "call ref" => (k_here; (with_reducible show wpAny _ _ (call (Value.ref 152) _) _ _ _); k_dflt (refine' use_rctr (erow_no _ _ _ _ _ _ _ _ _ _ ?q1 ?q2 ?q3 _ _ _ _ _ _ _ _ _ _ _ _ ?q4 ?q5 ?q6 ?q7 ?q8 ?q9 ?q0) ?uB ?uF ?uX ?uN ?uT ?uk ?ud ?uu ?_; (case uF => k_asm); (case uN => k_asm); (case uB => k_asm); (case uX => k_asm); (case uT => assumption); (case uk => rfl); (case q1 => (repeat' (first | assumption | exact List.Mem.head _ | refine List.Mem.tail _ ?_))); (case q2 => (repeat' (first | assumption | exact List.Mem.head _ | refine List.Mem.tail _ ?_))); (case q3 => (repeat' (first | assumption | exact List.Mem.head _ | refine List.Mem.tail _ ?_))); (case q6 => omega); (case q7 => omega); (case q8 => assumption); (case q4 => (repeat' (first | assumption | exact List.Mem.head _ | refine List.Mem.tail _ ?_))); (case q5 => (repeat' (first | assumption | exact List.Mem.head _ | refine List.Mem.tail _ ?_))); (case q9 => assumption); (case q0 => assumption); (case ud => ktr_room); (case uu => ktr_units); k_whole); intro eω Gω hω tkω FGω Sω Uω; (try dsimp only))
  k_with "call ref" => (k_here; (with_reducible show wpAny _ _ (call (Value.ref 180) _) _ _ _); k_dflt (refine' use_rctr (kind_bad _ _ _ _ _ _ _ _ _ _ ?q1 ?q2 ?q3 ?q4 ?q5) ?uB ?uF ?uX ?uN ?uT ?uk ?ud ?uu ?_; (case uF => k_asm); (case uN => k_asm); (case uB => k_asm); (case uX => k_asm); (case uT => assumption); (case uk => rfl); (case q1 => (repeat' (first | assumption | exact List.Mem.head _ | refine List.Mem.tail _ ?_))); (case q2 => (repeat' (first | assumption | exact List.Mem.head _ | refine List.Mem.tail _ ?_))); (case q3 => (repeat' (first | assumption | exact List.Mem.head _ | refine List.Mem.tail _ ?_))); (case q4 => (first | omega | assumption)); (case q5 => assumption); (case ud => ktr_room); (case uu => ktr_units); k_whole); intro eω Gω hω tkω FGω Sω Uω; (try dsimp only))
  k_with "call ref" => (k_here; (with_reducible show wpAny _ _ (call (Value.ref 292) _) _ _ _); k_dflt (refine' use_ctrS (refused_raise _ _ _ ?qf ?qc) ?uB ?uF ?uX ?uXB ?uN ?uT ?uTB ?uD ?uT0 ?uCT ?uk ?ud ?uu ?_; (case uF => k_asm); (case uN => k_asm); (case uB => k_asm); (case uX => k_asm); (case uXB => assumption); (case uT => assumption); (case uTB => assumption); (case uD => assumption); (case uT0 => first | assumption | exact KtsTurn.refl); (case uCT => exact ⟨by assumption, by assumption, by assumption, by assumption⟩); (case uk => rfl); (case ud => ktr_room); (case uu => ktr_units); (case qf => (repeat' (first | assumption | exact List.Mem.head _ | refine List.Mem.tail _ ?_))); (case qc => (unfold RCtr; intro p9 loose9 mean9 mg9 mb9 dp9 un9 gd9 cn9 cs9 aa9 ccd9 cl9 outer9 A9 base9 h9 L9 m9 s9 Q9 E9 B9 F9 X9 N9 T9 hk9 hd9 hu9 hret9; refine wpAny_call ?_; k_dflt (refine' kla_code ?k1 ?k2 ?k3 ?k4 ?k5 ?kA ?kF ?kK ?k6 ?k7 ?k8 ?k9 ?kB ?_ ?c2 ?c3 ?c4 ?c5; (case kA => exact rfl); (case kF => exact rfl); (case kK => assumption); (case k1 => k_asm); (case k2 => k_asm); (case k3 => k_asm); (case k4 => k_asm); (case k5 => k_asm); (case k6 => k_mem); (case k7 => exact codeRec_news (by k_asm) (by k_mem) (by assumption) (by assumption)); (case k8 => ktr_room); (case k9 => exact rfl); (case c5 => decide); (case kB => exact locs rfl); (case c2 => exact rfl); (case c3 => exact rfl); (case c4 => exact rfl); k_whole; intro gω Lω hω FGω Fω Nω Bω Xω Tω; (try dsimp only); (try k_lift Bω); (try k_fold)); k_steps; all_goals exact hret9 _ _ _ _ (by k_asm) (by k_asm) (by k_asm))); k_whole); intro vω hω tkω nω gωω KTω Fω Nω Bω Xω Pω Dω hPω; obtain ⟨e1ω, e2ω⟩ := hPω; subst e1ω; subst e2ω; (try dsimp only))
  k_with "compareOp Eq ref ref" => (k_here; (with_reducible show wpAny _ _ (compareOp _ (Value.ref _) (Value.ref _)) _ _ _); k_dflt (refine' tup_eq ?kN ?k1 ?k2 ?ku ?ke ?_; (case kN => k_asm); (case k1 => (repeat' (first | assumption | exact List.Mem.head _ | refine List.Mem.tail _ ?_))); (case k2 => (repeat' (first | assumption | exact List.Mem.head _ | refine List.Mem.tail _ ?_))); (case ku => ktr_units); (case ke => (repeat' (first | exact SameL.nil | refine SameL.cons ?_ ?_ | exact PySem.SeqAt.EqAt.same _ | (refine (?q9 : ∀ (A : Around) (s : Shared), PySem.SeqAt.EqAt A s _ _ true) _ _; assumption) | exact same_str _ _ _ | exact same_int _ _ _ | exact same_ints (isList_of (by k_asm) (by repeat' (first | assumption | exact List.Mem.head _ | refine List.Mem.tail _ ?_))) (isList_of (by k_asm) (by repeat' (first | assumption | exact List.Mem.head _ | refine List.Mem.tail _ ?_))) (by assumption) (by assumption) (by ktr_units)))); k_whole); (try dsimp only))
  k_with "compareOp NotEq ref ref" => (k_here; (with_reducible show wpAny _ _ (compareOp _ (Value.ref _) (Value.ref _)) _ _ _); k_dflt (refine' tup_ne ?kN ?k1 ?k2 ?ku ?ke ?_; (case kN => k_asm); (case k1 => (repeat' (first | assumption | exact List.Mem.head _ | refine List.Mem.tail _ ?_))); (case k2 => (repeat' (first | assumption | exact List.Mem.head _ | refine List.Mem.tail _ ?_))); (case ku => ktr_units); (case ke => (repeat' (first | exact SameL.nil | refine SameL.cons ?_ ?_ | exact PySem.SeqAt.EqAt.same _ | (refine (?q9 : ∀ (A : Around) (s : Shared), PySem.SeqAt.EqAt A s _ _ true) _ _; assumption) | exact same_str _ _ _ | exact same_int _ _ _ | exact same_ints (isList_of (by k_asm) (by repeat' (first | assumption | exact List.Mem.head _ | refine List.Mem.tail _ ?_))) (isList_of (by k_asm) (by repeat' (first | assumption | exact List.Mem.head _ | refine List.Mem.tail _ ?_))) (by assumption) (by assumption) (by ktr_units)))); k_whole); (try dsimp only))
  k_with "eval IfExp" => (k_here; refine hold_ ?_)
  k_with "compareOp NotEq int int" => (k_here; k_dflt (refine' ne_int_same ?ka ?_; (case ka => ((try simp only [List.length_append, List.length_cons, List.length_nil]); omega)); k_whole); (try dsimp only))
  k_with "call ref" => (k_here; (with_reducible show wpAny _ _ (call (Value.ref 117) _) _ _ _); k_dflt (refine' use_ctr (add_parP _ ?q1 ?q2 ?q3 ?q4 ?q5 ?p1 ?p2 ?q6 ?q7 ?q8 ?q9 ?q0 ?qa ?qb ?qc) ?uB ?uF ?uX ?uN ?uT ?uk ?ud ?uu ?_; (case uF => k_asm); (case uB => k_asm); (case uX => k_asm); (case uT => assumption); (case uk => rfl); (case uN => k_asm); (case q1 => (repeat' (first | assumption | exact List.Mem.head _ | refine List.Mem.tail _ ?_))); (case q2 => (repeat' (first | assumption | exact List.Mem.head _ | refine List.Mem.tail _ ?_))); (case q3 => assumption); (case q4 => (repeat' (first | assumption | exact List.Mem.head _ | refine List.Mem.tail _ ?_))); (case q5 => (repeat' (first | assumption | exact List.Mem.head _ | refine List.Mem.tail _ ?_))); (case p1 => (repeat' (first | exact Pull.head | refine' Pull.tail ?_))); (case p2 => (repeat' (first | exact Pull.head | refine' Pull.tail ?_))); (case q6 => k_all); (case q7 => k_all); (case q8 => omega); (case q9 => omega); (case q0 => omega); (case qa => omega); (case qb => assumption); (case qc => assumption); (case ud => ktr_room); (case uu => ktr_units); k_whole); intro vω hω tkω nω Fω Nω hPω; k_dflt (obtain ⟨dω, aω, ccω, xω, yω, odω, tk2ω, n2ω, n3ω, e1ω, e2ω, ⟨tω, e3ω⟩, hqω⟩ := hPω); subst e1ω; subst e2ω; subst e3ω; have l6ω := hqω; k_dflt (obtain ⟨l1ω, l2ω, l3ω, l4ω, l5ω⟩ := l6ω); (try simp only [AllLt] at l1ω); (try simp only [AllLt] at l3ω); (try simp only [AllLt] at l4ω); (try simp only [AllLt] at l5ω); (try dsimp only); (try k_sweep))
  k_with "call ref" => (k_here; (with_reducible show wpAny _ _ (call (Value.ref 117) _) _ _ _); k_dflt (refine' use_ctr (add_noneP _ ?q1 ?q2 ?p1 ?q6 ?qa) ?uB ?uF ?uX ?uN ?uT ?uk ?ud ?uu ?_; (case uF => k_asm); (case uB => k_asm); (case uX => k_asm); (case uT => assumption); (case uk => rfl); (case uN => k_asm); (case q1 => (repeat' (first | assumption | exact List.Mem.head _ | refine List.Mem.tail _ ?_))); (case q2 => (repeat' (first | assumption | exact List.Mem.head _ | refine List.Mem.tail _ ?_))); (case p1 => (repeat' (first | exact Pull.head | refine' Pull.tail ?_))); (case q6 => k_all); (case qa => omega); (case ud => ktr_room); (case uu => ktr_units); k_whole); intro vω hω tkω nω Fω Nω hPω; k_dflt (obtain ⟨dω, aω, ccω, xω, yω, odω, tk2ω, n2ω, e1ω, e2ω, ⟨tω, e3ω⟩, hqω⟩ := hPω); subst e1ω; subst e2ω; subst e3ω; have l6ω := hqω; k_dflt (obtain ⟨l1ω, l2ω, l3ω, l4ω, l5ω⟩ := l6ω); (try simp only [AllLt] at l1ω); (try simp only [AllLt] at l3ω); (try simp only [AllLt] at l4ω); (try simp only [AllLt] at l5ω); (try dsimp only); (try k_sweep))
  k_with "call ref" => (k_here; (with_reducible show wpAny _ _ (call (Value.ref 187) _) _ _ _); k_dflt (refine' use_ctr (name_ok _ _ _ _ _ _ _ _ _ _ ?q1 ?q2 ?q3 _ _ _ _ _ _ _ _ _ _ _ _ ?q4 ?q5 ?q6 ?q7 ?q8 ?q9) ?uB ?uF ?uX ?uN ?uT ?uk ?ud ?uu ?_; (case uF => k_asm); (case uB => k_asm); (case uX => k_asm); (case uT => assumption); (case uk => rfl); (case uN => k_asm); (case q1 => (repeat' (first | assumption | exact List.Mem.head _ | refine List.Mem.tail _ ?_))); (case q2 => (repeat' (first | assumption | exact List.Mem.head _ | refine List.Mem.tail _ ?_))); (case q3 => (first | ((repeat' (first | assumption | exact List.Mem.head _ | refine List.Mem.tail _ ?_)); done) | (refine push_mem ?_; (repeat' (first | assumption | exact List.Mem.head _ | refine List.Mem.tail _ ?_)); done))); (case q6 => ((try simp only [List.length_append, List.length_cons, List.length_nil]); omega)); (case q7 => ((try simp only [List.length_append, List.length_cons, List.length_nil]); omega)); (case q8 => (first | assumption | (refine' app_last ?hz; (case hz => omega)))); (case q4 => (repeat' (first | assumption | exact List.Mem.head _ | refine List.Mem.tail _ ?_))); (case q5 => (repeat' (first | assumption | exact List.Mem.head _ | refine List.Mem.tail _ ?_))); (case q9 => ((try simp only [List.length_append, List.length_cons, List.length_nil]); omega)); (case ud => ktr_room); (case uu => ktr_units); k_whole); intro vω hω tkω nω Fω Nω hPω; obtain ⟨e1ω, e2ω⟩ := hPω; subst e1ω; subst e2ω; (try dsimp only); (try k_sweep))
  k_with "call ref" => (k_here; (with_reducible show wpAny _ _ (call (Value.ref 194) _) _ _ _); k_dflt (refine' use_ctr (uri_ok _ _ _ _ _ _ _ _ _ _ ?q1 ?q2 ?q3 _ _ _ _ _ _ _ _ _ _ _ _ ?q4 ?q5 ?q6 ?q7 ?q8 ?q9) ?uB ?uF ?uX ?uN ?uT ?uk ?ud ?uu ?_; (case uF => k_asm); (case uB => k_asm); (case uX => k_asm); (case uT => assumption); (case uk => rfl); (case uN => k_asm); (case q1 => (repeat' (first | assumption | exact List.Mem.head _ | refine List.Mem.tail _ ?_))); (case q2 => (repeat' (first | assumption | exact List.Mem.head _ | refine List.Mem.tail _ ?_))); (case q3 => (first | ((repeat' (first | assumption | exact List.Mem.head _ | refine List.Mem.tail _ ?_)); done) | (refine push_mem ?_; (repeat' (first | assumption | exact List.Mem.head _ | refine List.Mem.tail _ ?_)); done))); (case q6 => ((try simp only [List.length_append, List.length_cons, List.length_nil]); omega)); (case q7 => ((try simp only [List.length_append, List.length_cons, List.length_nil]); omega)); (case q8 => (first | assumption | (refine' app_last ?hz; (case hz => omega)))); (case q4 => (repeat' (first | assumption | exact List.Mem.head _ | refine List.Mem.tail _ ?_))); (case q5 => (repeat' (first | assumption | exact List.Mem.head _ | refine List.Mem.tail _ ?_))); (case q9 => ((try simp only [List.length_append, List.length_cons, List.length_nil]); omega)); (case ud => ktr_room); (case uu => ktr_units); k_whole); intro vω hω tkω nω Fω Nω hPω; obtain ⟨e1ω, e2ω⟩ := hPω; subst e1ω; subst e2ω; (try dsimp only); (try k_sweep))
  k_with "call ref" => (k_here; (with_reducible show wpAny _ _ (call (Value.ref 201) _) _ _ _); k_dflt (refine' use_ctr (loc_ok _ _ _ _ _ _ _ _ _ _ ?q1 ?q2 ?q3 _ _ _ _ _ _ _ _ _ _ _ _ ?q4 ?q5 ?q6 ?q7 ?q8 ?q9) ?uB ?uF ?uX ?uN ?uT ?uk ?ud ?uu ?_; (case uF => k_asm); (case uB => k_asm); (case uX => k_asm); (case uT => assumption); (case uk => rfl); (case uN => k_asm); (case q1 => (repeat' (first | assumption | exact List.Mem.head _ | refine List.Mem.tail _ ?_))); (case q2 => (repeat' (first | assumption | exact List.Mem.head _ | refine List.Mem.tail _ ?_))); (case q3 => (first | ((repeat' (first | assumption | exact List.Mem.head _ | refine List.Mem.tail _ ?_)); done) | (refine push_mem ?_; (repeat' (first | assumption | exact List.Mem.head _ | refine List.Mem.tail _ ?_)); done))); (case q6 => ((try simp only [List.length_append, List.length_cons, List.length_nil]); omega)); (case q7 => ((try simp only [List.length_append, List.length_cons, List.length_nil]); omega)); (case q8 => (first | assumption | (refine' app_last ?hz; (case hz => omega)))); (case q4 => (repeat' (first | assumption | exact List.Mem.head _ | refine List.Mem.tail _ ?_))); (case q5 => (repeat' (first | assumption | exact List.Mem.head _ | refine List.Mem.tail _ ?_))); (case q9 => ((try simp only [List.length_append, List.length_cons, List.length_nil]); omega)); (case ud => ktr_room); (case uu => ktr_units); k_whole); intro vω hω tkω nω Fω Nω hPω; obtain ⟨e1ω, e2ω⟩ := hPω; subst e1ω; subst e2ω; (try dsimp only); (try k_sweep))
  k_with "eval Lambda" => (k_here; refine hold_ ?_)
  trivial
theorem put_parM (w : World) (tr dT rl bk : Addr) (tkr : Tok) (vs : List Value) (c : Nat) (rest : Led) (kind value : Str) (tk1 tk2 : Tok)
   (h1 : (tr, instObj 260 dT) ∈ rest) (h2 : (dT, rowsD w tkr rl) ∈ rest)
   (od : Obj) (kvs : List (Int × Value)) (hod : od.IsDictOf (PySem.intKind PySem.Challenge.rw_xw0201_01.row.prog w) kvs) (lo : (bk == sysModules) = false) (hl : vs.length ≤ 99) (hkl : kvs.length ≤ 100) (hlen : kvs.length = vs.length) (hvn : valueAt kvs (kvs.length : Int) = none)
   (d1 : ∀ p ∈ rest, p.1 ≠ rl) (d2 : ∀ p ∈ rest, p.1 ≠ bk) (n1 : @Ne Nat rl bk)
   (k : Int) (tk : Tok) (pa pd pc px py : Addr) (pt : Nat → Tok) (pk pn pu pl pv : Str) (pp : Value) (h4 : (pa, instObj 71 pd) ∈ rest) (h5 : (pd, rowD w pt pk pn pu pl pv pp pc px py) ∈ rest) (ch : List Value) (cn' : Nat) (hch : ch.length ≤ 100)
   (k0 : 0 ≤ k) (k1 : k < (vs.length : Int)) (hv : vs[k.toNat]? = some (.ref pa)) (hkd : isPar pk = true)
   (bl g : Addr) (u1 u2 : Tok) (bval : Str) (bpar : Value) (nb : Nat) (hva : valueAt kvs k = some (.ref bl)) (h6 : (bl, listOf [.str pk u1, .str bval u2, bpar, .ref g].toArray nb) ∈ rest) (ch' : List Value) (ng : Nat) (hch' : ch'.length ≤ 100)
   (d3 : ∀ p ∈ rest, p.1 ≠ pc) (d4 : ∀ p ∈ rest, p.1 ≠ g) (n2 : @Ne Nat rl pc) (n3 : @Ne Nat rl g) (n4 : @Ne Nat bk pc) (n5 : @Ne Nat bk g) (n6 : @Ne Nat pc g)
   (hP : TabE 301 146 11 ("_law_put_right" ++ ".<locals>." ++ "<lambda>" : Str) rest) (n7 : @Ne Nat rl 301) (n8 : @Ne Nat pc 301) (n9 : @Ne Nat bk 301) (n10 : @Ne Nat g 301)
 :
   CtrS w 306 [.ref tr, .ref bk, .int k tk, .str kind tk1, .str value tk2] ((rl, listOf vs.toArray c) :: (pc, listOf ch.toArray cn') :: (bk, od) :: (g, listOf ch'.toArray ng) :: rest) 280 1120
    (fun v' news' => v' = .bool true ∧ ∃ rest', Grew 301 146 11 ("_law_put_right" ++ ".<locals>." ++ "<lambda>" : Str) ((rl, listOf vs.toArray c) :: (pc, listOf ch.toArray cn') :: (bk, od) :: (g, listOf ch'.toArray ng) :: rest) rest rest' ∧ PutPar w rl bk pc g vs kvs ch ch' kind (if kind = ("element" : Str) then ("" : Str) else value) k rest' news') := by
  unfold CtrS
  k_fill
  intro p loose mean mg mb dp un gd cn cs aa ccd cl outer A₀ base h₀ g₀ L m s Q E B F X XB N T TB D T0 CT hk hdp hu hret
  obtain ⟨C1, C2, C3, C4⟩ := CT
  refine wpAny_call ?_
  k_dflt (refine' callSC ?k1 ?k2 ?k3 ?k4 ?k5 ?XB ?TB ?D ?T0 ?kA ?kf ?kK ?k6 ?k7 ?k8 ?k9 ?kB ?kD ?_ ?c2 ?c3 ?c4; (case kA => exact rfl); (case kf => exact rfl); (case kK => assumption); (case k2 => k_asm); (case k1 => k_asm); (case XB => assumption); (case TB => assumption); (case D => assumption); (case T0 => assumption); (case k3 => k_asm); (case k4 => k_asm); (case k5 => k_asm); (case k6 => k_is); (case k7 => k_is); (case k8 => ktr_room); (case k9 => exact BindsTo.of_eq rfl); (case kB => exact rfl); (case kD => decide +kernel); (case c2 => exact rfl); (case c3 => exact rfl); (case c4 => exact rfl); k_whole; intro g' L' h' tk' cells' FG' F' N' Y' B' X' T' l1 D'; (try k_lt l1); k_cells Y'; (try simp only [List.cons_append, List.nil_append] at N'); (try dsimp only); (try k_lift B'); (try k_fold))
  k_steps
  unfold Hold
  refine wpAny_mono (Q := fun v s' => Hold (∃ t tk', v = .str (if kind = "element" then "" else value) t ∧ s' = { heap := h', gens := s.gens, drawn := s.drawn, toks := tk', os := s.os })) ?_ (fun v s' hq => ?_) fun _ _ x => x
  · with_reducible refine IfExp_ ?_
    k_steps
    all_goals (unfold Hold; exact ⟨_, _, congrArg (fun z => Value.str z _) (by simp_all), rfl⟩)
  obtain ⟨tv, tk3, rfl, rfl⟩ := hq
  generalize hval : (if kind = ("element" : Str) then ("" : Str) else value) = val
  k_steps
  unfold Hold
  k_dflt (refine' kla_eval ?d0 ?_; (case d0 => exact rfl))
  rename News g' L' _ _ => NL
  rename Fr g' L' _ _ => FL
  obtain ⟨ps0, hps0⟩ := hP.at
  have h301 : @LT.lt Nat _ 301 L' := allLt_at (And.right (And.right (And.right (And.right l1)))) _ hps0
  k_dflt (refine' lam_any (pre := [_, _, _, _, _, _, _, _, _]) (rest := rest) FL NL ?T ?C ?cd hP ?pre ?cl (fun f9 c9 ctv9 h9 tk9 rest9 F9 N9 G9 hc9 lt9 => ?_); (case T => k_asm); (case cd => exact rfl); (case C => kn_code); (case cl => exact rfl); (case pre => exact all_one (neN (by omega)) (all_one (neN (by omega)) (all_one (neN (by omega)) (all_one (neN (by omega)) (all_one (neN (by omega)) (all_one n7 (all_one n8 (all_one n9 (all_one n10 (fun _ h => nomatch h)))))))))))
  obtain ⟨oc9, vs9, t9, hc1, hc2, hc3⟩ := hc9
  obtain ⟨EN, inl, NL2⟩ : ∃ EN : Led, (∀ p ∈ rest, p ∈ EN) ∧ News g' L' _ EN := ⟨_, (fun p hp => by repeat' (first | exact hp | refine List.Mem.tail _ ?_)), NL⟩
  have g1 := G9.mem NL2 inl hP h1 (fun ps e => by cases e)
  have g2 := G9.mem NL2 inl hP h2 (fun ps e => by cases e)
  have g4 := G9.mem NL2 inl hP h4 (fun ps e => by cases e)
  have g5 := G9.mem NL2 inl hP h5 (fun ps e => by cases e)
  have g6 := G9.mem NL2 inl hP h6 (fun ps e => by cases e)
  have e1 := G9.off d1 n7 (o := _) (by repeat' (first | exact List.Mem.head _ | refine List.Mem.tail _ ?_))
  have e2 := G9.off d2 n9 (o := _) (by repeat' (first | exact List.Mem.head _ | refine List.Mem.tail _ ?_))
  have e3 := G9.off d3 n8 (o := _) (by repeat' (first | exact List.Mem.head _ | refine List.Mem.tail _ ?_))
  have e4 := G9.off d4 n10 (o := _) (by repeat' (first | exact List.Mem.head _ | refine List.Mem.tail _ ?_))
  have lr := And.right (And.right (And.right (And.right l1)))
  have x1 := G9.off (x := L' + 1) (fun p hp => neN (Nat.ne_of_lt (Nat.lt_of_lt_of_le (allLt_at lr p hp) (by omega)))) (neN (by omega)) (o := _) (by repeat' (first | exact List.Mem.head _ | refine List.Mem.tail _ ?_))
  have x2 := G9.off (x := L' + 1 + 1) (fun p hp => neN (Nat.ne_of_lt (Nat.lt_of_lt_of_le (allLt_at lr p hp) (by omega)))) (neN (by omega)) (o := _) (by repeat' (first | exact List.Mem.head _ | refine List.Mem.tail _ ?_))
  have x3 := G9.off (x := L' + 1 + 1 + 1) (fun p hp => neN (Nat.ne_of_lt (Nat.lt_of_lt_of_le (allLt_at lr p hp) (by omega)))) (neN (by omega)) (o := _) (by repeat' (first | exact List.Mem.head _ | refine List.Mem.tail _ ?_))
  have x4 := G9.off (x := L' + 1 + 1 + 1 + 1) (fun p hp => neN (Nat.ne_of_lt (Nat.lt_of_lt_of_le (allLt_at lr p hp) (by omega)))) (neN (by omega)) (o := _) (by repeat' (first | exact List.Mem.head _ | refine List.Mem.tail _ ?_))
  simp only [List.cons_append, List.nil_append] at N9 lt9
  have GE := G9.less (E := (rl, listOf vs.toArray c) :: (pc, listOf ch.toArray cn') :: (bk, od) :: (g, listOf ch'.toArray ng) :: rest) (fun p hp => by repeat' (first | exact hp | refine List.Mem.tail _ ?_))
  k_lt lt9
  clear h1 h2 h4 h5 h6 d1 d2 d3 d4 NL NL2 FL hP hps0 inl G9 N lr
  dsimp only
  k_steps
  subst hval
  exact hret _ _ _ _ _ (by assumption) (by k_asm) (by k_asm) (by assumption) (by assumption) (by assumption) (by assumption)
    ⟨rfl, rest9, GE, _, _, _, _, _, _, _, _, (by repeat' (first | exact List.Mem.head _ | refine List.Mem.tail _ ?_)), ⟨_, _, (by repeat' (first | exact List.Mem.head _ | refine List.Mem.tail _ ?_))⟩, ⟨_, (by repeat' (first | exact List.Mem.head _ | refine List.Mem.tail _ ?_))⟩, ⟨_, (by repeat' (first | exact List.Mem.head _ | refine List.Mem.tail _ ?_))⟩, ⟨_, _, (by repeat' (first | exact List.Mem.head _ | refine List.Mem.tail _ ?_))⟩, by assumption, (by repeat' (first | exact List.Mem.head _ | refine List.Mem.tail _ ?_)), ⟨_, _, _, _, (by repeat' (first | exact List.Mem.head _ | refine List.Mem.tail _ ?_))⟩, ⟨_, (by repeat' (first | exact List.Mem.head _ | refine List.Mem.tail _ ?_))⟩, ⟨_, _, mem_push (by repeat' (first | exact List.Mem.head _ | refine List.Mem.tail _ ?_))⟩, fun p hp => by repeat' (first | exact hp | refine List.Mem.tail _ ?_), (by first | assumption | exact And.right (by assumption) | exact And.right (And.right (by assumption)) | exact And.right (And.right (And.right (by assumption))) | exact And.right (And.right (And.right (And.right (by assumption)))) | exact And.right (And.right (And.right (And.right (And.right (by assumption))))) | exact And.right (And.right (And.right (And.right (And.right (And.right (by assumption)))))) | exact And.right (And.right (And.right (And.right (And.right (And.right (And.right (by assumption))))))) | exact And.right (And.right (And.right (And.right (And.right (And.right (And.right (And.right (by assumption)))))))) | exact And.right (And.right (And.right (And.right (And.right (And.right (And.right (And.right (And.right (by assumption))))))))) | exact And.right (And.right (And.right (And.right (And.right (And.right (And.right (And.right (And.right (And.right (by assumption)))))))))) | exact And.right (And.right (And.right (And.right (And.right (And.right (And.right (And.right (And.right (And.right (And.right (by assumption))))))))))) | exact And.right (And.right (And.right (And.right (And.right (And.right (And.right (And.right (And.right (And.right (And.right (And.right (by assumption)))))))))))) | exact And.right (And.right (And.right (And.right (And.right (And.right (And.right (And.right (And.right (And.right (And.right (And.right (And.right (by assumption))))))))))))) | exact And.right (And.right (And.right (And.right (And.right (And.right (And.right (And.right (And.right (And.right (And.right (And.right (And.right (And.right (by assumption)))))))))))))) | exact And.right (And.right (And.right (And.right (And.right (And.right (And.right (And.right (And.right (And.right (And.right (And.right (And.right (And.right (And.right (by assumption)))))))))))))))), by omega⟩
end
section
open PySem PySem.W PySem.Calls PyProof.Rows
theorem ln_PutC_0 : True := by
  w_top off
  k_with_none
  k_with "call builtin:len" => (k_here; (with_reducible show wpAny _ _ (call (Value.builtin "len") [Value.ref _]) _ _ _); k_dflt (refine' len_led ?k1 ?k2 ?k3 ?_; (case k1 => k_asm); (case k2 => (repeat' (first | assumption | exact List.Mem.head _ | refine List.Mem.tail _ ?_))); (case k3 => ((try simp only [List.length_cons, List.length_nil, List.length_append, List.length_map]); omega)); k_whole); (try dsimp only))
  k_with "subscriptTail" => (k_here; (with_reducible show wpAny _ _ (subscriptTail _ _ (Value.ref _) (Value.int _ _)) _ _ _); k_dflt (refine' item_led ?k1 ?k2 ?k3 ?k4 ?k5 ?_ ?k6; (case k1 => k_asm); (case k2 => (repeat' (first | assumption | exact List.Mem.head _ | refine List.Mem.tail _ ?_))); (case k3 => omega); (case k4 => omega); (case k5 => (first | assumption | (rw [List.getElem?_append_left (by omega)]; assumption))); (case k6 => with_unfolding_all rfl); k_whole); (try dsimp only))
  k_with "exec Raise some none" => (k_here; (with_reducible show wpAny _ _ (exec (Stmt.Raise (some (Expr.Call (Expr.Name (Str.ofString "TreeFault") _) [Expr.Constant (Const.str _) _ _] [] _)) none _) _) _ _ _); k_dflt (refine' raise_tf ?kB ?kF ?kX ?kN ?kT ?kk ?kx ?kn ?ki ?kf ?kd ?ku ?_; (case kB => k_asm); (case kF => k_asm); (case kX => k_asm); (case kN => k_asm); (case kT => assumption); (case kk => rfl); (case kx => k_is); (case kn => rfl); (case ki => k_is); (case kf => k_is); (case kd => ktr_room); (case ku => ktr_units); k_whole); intro eω tω dω hω tkω Fω Nω neω)
  k_with "leaving ref" => (k_here; k_dflt (refine' leave_led ?kK ?kF ?kN ?kne ?kd ?k1 ?k0 ?_; (case kF => k_asm); (case kN => k_asm); (case kK => k_asm); (case kne => k_asm); (case kd => rfl); (case k1 => rfl); (case k0 => rfl); k_whole); intro hω Sω Rω Uω; (try dsimp only at Sω Rω Uω ⊢))
  k_with "leaving ref" => (k_here; k_dflt (refine' leave_onSN ?k1 ?k2 ?k3 ?k4 ?_; (case k3 => assumption); (case k2 => assumption); (case k1 => assumption); (case k4 => assumption); k_whole); intro hω Sω Rω Uω; (try dsimp only at Sω Rω Uω ⊢))
  k_with "getAttr ref" => (k_here; k_dflt (refine' get_own ?k1 ?k2 ?k3 ?k4 ?k5 ?k6 ?k7 ?k8 ?k9 ?_; (case k1 => k_asm); (case k2 => k_asm); (case k3 => k_inst); (case k4 => k_is); (case k5 => k_is); (case k6 => k_is); (case k7 => k_is); (case k8 => k_get); (case k9 => k_handed); k_whole); (try dsimp only))
  k_with "eval Constant int" => (k_here; refine wpAny_Constant_int ?_; (try dsimp only))
  k_with "eval Constant str" => (k_here; refine Calls.Constant_str ?_; (try dsimp only))
  k_with "call ref" => (k_here; (with_reducible show wpAny _ _ (call (Value.ref 103) _) _ _ _); k_dflt (refine' use_ctr (row_ok _ _ _ _ _ _ _ _ _ _ _ ?q1 ?q2 ?q3 ?q4 ?q5 ?q6 ?q7) ?uB ?uF ?uX ?uN ?uT ?uk ?ud ?uu ?_; (case uF => k_asm); (case uN => k_asm); (case uB => k_asm); (case uX => k_asm); (case uT => assumption); (case uk => rfl); (case q1 => (repeat' (first | assumption | exact List.Mem.head _ | refine List.Mem.tail _ ?_))); (case q2 => (repeat' (first | assumption | exact List.Mem.head _ | refine List.Mem.tail _ ?_))); (case q3 => (first | ((repeat' (first | assumption | exact List.Mem.head _ | refine List.Mem.tail _ ?_)); done) | (refine push_mem ?_; (repeat' (first | assumption | exact List.Mem.head _ | refine List.Mem.tail _ ?_)); done))); (case q4 => omega); (case q5 => (first | omega | ((simp only [List.length_append, List.length_cons, List.length_nil]); omega))); (case q6 => (first | assumption | (rw [List.getElem?_append_left (by omega)]; assumption) | (refine' app_last ?hz; (case hz => omega)))); (case q7 => (first | assumption | ((simp only [List.length_append, List.length_cons, List.length_nil]); omega))); (case ud => ktr_room); (case uu => ktr_units); k_whole); intro vω hω tkω nω Fω Nω hPω; obtain ⟨e1ω, e2ω⟩ := hPω; subst e1ω; subst e2ω; (try dsimp only))
  k_with "call ref" => (k_here; (with_reducible show wpAny _ _ (call (Value.ref 103) _) _ _ _); k_dflt (refine' use_rctr (row_bad _ _ _ _ _ _ _ _ _ _ ?q1 ?q2 ?q3 ?q4 ?q7) ?uB ?uF ?uX ?uN ?uT ?uk ?ud ?uu ?_; (case uF => k_asm); (case uN => k_asm); (case uB => k_asm); (case uX => k_asm); (case uT => assumption); (case uk => rfl); (case q1 => (repeat' (first | assumption | exact List.Mem.head _ | refine List.Mem.tail _ ?_))); (case q2 => (repeat' (first | assumption | exact List.Mem.head _ | refine List.Mem.tail _ ?_))); (case q3 => (first | ((repeat' (first | assumption | exact List.Mem.head _ | refine List.Mem.tail _ ?_)); done) | (refine push_mem ?_; (repeat' (first | assumption | exact List.Mem.head _ | refine List.Mem.tail _ ?_)); done))); (case q4 => omega); (case q7 => assumption); (case ud => ktr_room); (case uu => ktr_units); k_whole); intro eω Gω hω tkω FGω Sω Uω; (try dsimp only))
  k_with "compareOp In str ref" => (k_here; (with_reducible show wpAny _ _ (compareOp CmpOp.In (Value.str _ _) (Value.ref _)) _ _ _); k_dflt (refine' in_parT ?k1 ?k2 ?k3 ?k4 ?_; (case k1 => k_asm); (case k2 => k_asm); (case k3 => k_is); (case k4 => assumption); k_whole))
  k_with "compareOp NotIn str ref" => (k_here; (with_reducible show wpAny _ _ (compareOp CmpOp.NotIn (Value.str _ _) (Value.ref _)) _ _ _); k_dflt (refine' notin_parT ?k1 ?k2 ?k3 ?k4 ?_; (case k1 => k_asm); (case k2 => k_asm); (case k3 => k_is); (case k4 => assumption); k_whole))
  k_with "compareOp In str ref" => (k_here; (with_reducible show wpAny _ _ (compareOp CmpOp.In (Value.str _ _) (Value.ref _)) _ _ _); k_dflt (refine' in_parL ?k1 ?k2 ?k4 ?_; (case k1 => k_asm); (case k2 => k_mem); (case k4 => assumption); k_whole))
  k_with "compareOp In int ref" => (k_here; (with_reducible show wpAny _ _ (compareOp _ (Value.int _ _) (Value.ref _)) _ _ _); k_dflt (refine' bk_in ?kN ?kp ?kd ?kl ?kh ?_; (case kN => k_asm); (case kp => (repeat' (first | assumption | exact List.Mem.head _ | refine List.Mem.tail _ ?_))); (case kd => assumption); (case kl => assumption); (case kh => assumption); k_whole); (try dsimp only))
  k_with "compareOp In int ref" => (k_here; (with_reducible show wpAny _ _ (compareOp _ (Value.int _ _) (Value.ref _)) _ _ _); k_dflt (refine' bk_in0 ?kN ?kp ?kd ?kl ?kh ?_; (case kN => k_asm); (case kp => (repeat' (first | assumption | exact List.Mem.head _ | refine List.Mem.tail _ ?_))); (case kd => assumption); (case kl => assumption); (case kh => assumption); k_whole); (try dsimp only))
  k_with "compareOp NotIn int ref" => (k_here; (with_reducible show wpAny _ _ (compareOp _ (Value.int _ _) (Value.ref _)) _ _ _); k_dflt (refine' bk_notin ?kN ?kp ?kd ?kl ?kh ?_; (case kN => k_asm); (case kp => (repeat' (first | assumption | exact List.Mem.head _ | refine List.Mem.tail _ ?_))); (case kd => assumption); (case kl => assumption); (case kh => assumption); k_whole); (try dsimp only))
  k_with "compareOp NotIn int ref" => (k_here; (with_reducible show wpAny _ _ (compareOp _ (Value.int _ _) (Value.ref _)) _ _ _); k_dflt (refine' bk_notin0 ?kN ?kp ?kd ?kl ?kh ?_; (case kN => k_asm); (case kp => (repeat' (first | assumption | exact List.Mem.head _ | refine List.Mem.tail _ ?_))); (case kd => assumption); (case kl => assumption); (case kh => assumption); k_whole); (try dsimp only))
  k_with "subscriptTail" => (k_here; (with_reducible show wpAny _ _ (subscriptTail _ _ (Value.ref _) (Value.int _ _)) _ _ _); k_dflt (refine' bk_item ?kN ?kp ?kd ?kh ?_ ?k6 ?k7; (case kN => k_asm); (case kp => (repeat' (first | assumption | exact List.Mem.head _ | refine List.Mem.tail _ ?_))); (case kd => assumption); (case kh => (first | assumption | exact valueAt_app (by assumption) (by assumption))); (case k6 => with_unfolding_all rfl); (case k7 => intro _; with_unfolding_all rfl); k_whole); (try dsimp only))
  k_with "getItem ref int" => (k_here; (with_reducible show wpAny _ _ (getItem (Value.ref _) (Value.int _ _)) _ _ _); k_dflt (refine' bk_getItem ?kN ?kp ?kd ?kh ?_; (case kN => k_asm); (case kp => (repeat' (first | assumption | exact List.Mem.head _ | refine List.Mem.tail _ ?_))); (case kd => assumption); (case kh => assumption); k_whole); (try dsimp only))
  k_with "call builtin:len" => (k_here; (with_reducible show wpAny _ _ (call (Value.builtin "len") [Value.ref _]) _ _ _); k_dflt (refine' bk_len ?kN ?kp ?kd ?kl ?kh ?_; (case kN => k_asm); (case kp => (repeat' (first | assumption | exact List.Mem.head _ | refine List.Mem.tail _ ?_))); (case kd => assumption); (case kl => assumption); (case kh => assumption); k_whole); (try dsimp only))
  k_with "setItem ref int" => (k_here; (with_reducible show wpAny _ _ (setItem (Value.ref _) (Value.int _ _) _) _ _ _); k_dflt (refine' bk_set ?kF ?kN ?kU ?kd ?kl ?_; (case kF => k_asm); (case kN => k_asm); (case kU => k_updF); (case kd => assumption); (case kl => assumption); k_whole); intro hω oω Fω Nω hdω; (try dsimp only at Nω))
  k_with "leaving ref" => (k_here; k_dflt (refine' leave_onX ?kf ?k1 ?k2 ?k3 ?k4 ?_; (case kf => exact rfl); (case k3 => assumption); (case k2 => assumption); (case k1 => assumption); (case k4 => assumption); k_whole); intro hω Sω Rω Uω; (try dsimp only at Sω Rω Uω ⊢))
  k_with "call ref" => (k_here; (with_reducible show wpAny _ _ (call (Value.ref 173) _) _ _ _); k_dflt (refine' use_rctr (setv_bad _ _ _ _ _ _ _ _ _ _ _ _ ?q1 ?q2 ?q3 ?q4 ?q5) ?uB ?uF ?uX ?uN ?uT ?uk ?ud ?uu ?_; (case uF => k_asm); (case uN => k_asm); (case uB => k_asm); (case uX => k_asm); (case uT => assumption); (case uk => rfl); (case q1 => (repeat' (first | assumption | exact List.Mem.head _ | refine List.Mem.tail _ ?_))); (case q2 => (repeat' (first | assumption | exact List.Mem.head _ | refine List.Mem.tail _ ?_))); (case q3 => (repeat' (first | assumption | exact List.Mem.head _ | refine List.Mem.tail _ ?_))); (case q4 => (first | omega | assumption)); (case q5 => assumption); (case ud => ktr_room); (case uu => ktr_units); k_whole); intro eω Gω hω tkω FGω Sω Uω; (try dsimp only))
  k_with "call ref" => (k_here; (with_reducible show wpAny _ _ (call (Value.ref 173) _) _ _ _); k_dflt (refine' use_rctr (setv_par _ _ _ _ _ _ _ _ _ _ _ _ ?q1 ?q2 ?q3 _ _ _ _ _ _ _ _ _ _ _ _ ?q4 ?q5 ?q6 ?q7 ?q8 ?q9 ?q0) ?uB ?uF ?uX ?uN ?uT ?uk ?ud ?uu ?_; (case uF => k_asm); (case uN => k_asm); (case uB => k_asm); (case uX => k_asm); (case uT => assumption); (case uk => rfl); (case q1 => (repeat' (first | assumption | exact List.Mem.head _ | refine List.Mem.tail _ ?_))); (case q2 => (repeat' (first | assumption | exact List.Mem.head _ | refine List.Mem.tail _ ?_))); (case q3 => (repeat' (first | assumption | exact List.Mem.head _ | refine List.Mem.tail _ ?_))); (case q6 => omega); (case q7 => omega); (case q8 => assumption); (case q4 => (repeat' (first | assumption | exact List.Mem.head _ | refine List.Mem.tail _ ?_))); (case q5 => (repeat' (first | assumption | exact List.Mem.head _ | refine List.Mem.tail _ ?_))); (case q9 => assumption); (case q0 => assumption); (case ud => ktr_room); (case uu => ktr_units); k_whole); intro eω Gω hω tkω FGω Sω Uω; (try dsimp only))
  k_with "call ref" => (k_here; (with_reducible show wpAny _ _ (call (Value.ref 117) _) _ _ _); k_dflt (refine' use_rctr (add_bad _ _ _ _ _ _ _ _ _ _ _ _ _ _ _ _ _ _ _ _ ?q1 ?q2 ?q3 ?q4 ?q5) ?uB ?uF ?uX ?uN ?uT ?uk ?ud ?uu ?_; (case uF => k_asm); (case uN => k_asm); (case uB => k_asm); (case uX => k_asm); (case uT => assumption); (case uk => rfl); (case q1 => (repeat' (first | assumption | exact List.Mem.head _ | refine List.Mem.tail _ ?_))); (case q2 => (repeat' (first | assumption | exact List.Mem.head _ | refine List.Mem.tail _ ?_))); (case q3 => (repeat' (first | assumption | exact List.Mem.head _ | refine List.Mem.tail _ ?_))); (case q4 => (first | omega | assumption)); (case q5 => assumption); (case ud => ktr_room); (case uu => ktr_units); k_whole); intro eω Gω hω tkω FGω Sω Uω; (try dsimp only))
  k_with "call ref" => (k_here; (with_reducible show wpAny _ _ (call (Value.ref 117) _) _ _ _); k_dflt (refine' use_rctr (add_kid _ _ _ _ _ _ _ _ _ _ _ _ _ _ _ _ _ _ _ _ ?q1 ?q2 ?q3 _ _ _ _ _ _ _ _ _ _ _ _ ?q4 ?q5 ?q6 ?q7 ?q8 ?q9 ?q0) ?uB ?uF ?uX ?uN ?uT ?uk ?ud ?uu ?_; (case uF => k_asm); (case uN => k_asm); (case uB => k_asm); (case uX => k_asm); (case uT => assumption); (case uk => rfl); (case q1 => (repeat' (first | assumption | exact List.Mem.head _ | refine List.Mem.tail _ ?_))); (case q2 => (repeat' (first | assumption | exact List.Mem.head _ | refine List.Mem.tail _ ?_))); (case q3 => (repeat' (first | assumption | exact List.Mem.head _ | refine List.Mem.tail _ ?_))); (case q6 => omega); (case q7 => omega); (case q8 => assumption); (case q4 => (repeat' (first | assumption | exact List.Mem.head _ | refine List.Mem.tail _ ?_))); (case q5 => (repeat' (first | assumption | exact List.Mem.head _ | refine List.Mem.tail _ ?_))); (case q9 => assumption); (case q0 => assumption); (case ud => ktr_room); (case uu => ktr_units); k_whole); intro eω Gω hω tkω FGω Sω Uω; (try dsimp only))
  k_with "call ref" => (k_here; (with_reducible show wpAny _ _ (call (Value.ref 152) _) _ _ _); k_dflt (refine' use_rctr (erow_bad _ _ _ _ _ _ _ _ _ _ ?q1 ?q2 ?q3 ?q4 ?q5) ?uB ?uF ?uX ?uN ?uT ?uk ?ud ?uu ?_; (case uF => k_asm); (case uN => k_asm); (case uB => k_asm); (case uX => k_asm); (case uT => assumption); (case uk => rfl); (case q1 => (repeat' (first | assumption | exact List.Mem.head _ | refine List.Mem.tail _ ?_))); (case q2 => (repeat' (first | assumption | exact List.Mem.head _ | refine List.Mem.tail _ ?_))); (case q3 => (repeat' (first | assumption | exact List.Mem.head _ | refine List.Mem.tail _ ?_))); (case q4 => (first | omega | assumption)); (case q5 => assumption); (case ud => ktr_room); (case uu => ktr_units); k_whole); intro eω Gω hω tkω FGω Sω Uω; (try dsimp only))
  k_with "call ref" => (k_here; (with_reducible show wpAny _ _ (call (Value.ref 152) _) _ _ _); k_dflt (refine' use_rctr (erow_no _ _ _ _ _ _ _ _ _ _ ?q1 ?q2 ?q3 _ _ _ _ _ _ _ _ _ _ _ _ ?q4 ?q5 ?q6 ?q7 ?q8 ?q9 ?q0) ?uB ?uF ?uX ?uN ?uT ?uk ?ud ?uu ?_; (case uF => k_asm); (case uN => k_asm); (case uB => k_asm); (case uX => k_asm); (case uT => assumption); (case uk => rfl); (case q1 => (repeat' (first | assumption | exact List.Mem.head _ | refine List.Mem.tail _ ?_))); (case q2 => (repeat' (first | assumption | exact List.Mem.head _ | refine List.Mem.tail _ ?_))); (case q3 => (repeat' (first | assumption | exact List.Mem.head _ | refine List.Mem.tail _ ?_))); (case q6 => omega); (case q7 => omega); (case q8 => assumption); (case q4 => (repeat' (first | assumption | exact List.Mem.head _ | refine List.Mem.tail _ ?_))); (case q5 => (repeat' (first | assumption | exact List.Mem.head _ | refine List.Mem.tail _ ?_))); (case q9 => assumption); (case q0 => assumption); (case ud => ktr_room); (case uu => ktr_units); k_whole); intro eω Gω hω tkω FGω Sω Uω; (try dsimp only))
  k_with "call ref" => (k_here; (with_reducible show wpAny _ _ (call (Value.ref 180) _) _ _ _); k_dflt (refine' use_rctr (kind_bad _ _ _ _ _ _ _ _ _ _ ?q1 ?q2 ?q3 ?q4 ?q5) ?uB ?uF ?uX ?uN ?uT ?uk ?ud ?uu ?_; (case uF => k_asm); (case uN => k_asm); (case uB => k_asm); (case uX => k_asm); (case uT => assumption); (case uk => rfl); (case q1 => (repeat' (first | assumption | exact List.Mem.head _ | refine List.Mem.tail _ ?_))); (case q2 => (repeat' (first | assumption | exact List.Mem.head _ | refine List.Mem.tail _ ?_))); (case q3 => (repeat' (first | assumption | exact List.Mem.head _ | refine List.Mem.tail _ ?_))); (case q4 => (first | omega | assumption)); (case q5 => assumption); (case ud => ktr_room); (case uu => ktr_units); k_whole); intro eω Gω hω tkω FGω Sω Uω; (try dsimp only))
  k_with "call ref" => (k_here; (with_reducible show wpAny _ _ (call (Value.ref 292) _) _ _ _); k_dflt (refine' use_ctrS (refused_raise _ _ _ ?qf ?qc) ?uB ?uF ?uX ?uXB ?uN ?uT ?uTB ?uD ?uT0 ?uCT ?uk ?ud ?uu ?_; (case uF => k_asm); (case uN => k_asm); (case uB => k_asm); (case uX => k_asm); (case uXB => assumption); (case uT => assumption); (case uTB => assumption); (case uD => assumption); (case uT0 => first | assumption | exact KtsTurn.refl); (case uCT => exact ⟨by assumption, by assumption, by assumption, by assumption⟩); (case uk => rfl); (case ud => ktr_room); (case uu => ktr_units); (case qf => (repeat' (first | assumption | exact List.Mem.head _ | refine List.Mem.tail _ ?_))); (case qc => (unfold RCtr; intro p9 loose9 mean9 mg9 mb9 dp9 un9 gd9 cn9 cs9 aa9 ccd9 cl9 outer9 A9 base9 h9 L9 m9 s9 Q9 E9 B9 F9 X9 N9 T9 hk9 hd9 hu9 hret9; refine wpAny_call ?_; k_dflt (refine' kla_code ?k1 ?k2 ?k3 ?k4 ?k5 ?kA ?kF ?kK ?k6 ?k7 ?k8 ?k9 ?kB ?_ ?c2 ?c3 ?c4 ?c5; (case kA => exact rfl); (case kF => exact rfl); (case kK => assumption); (case k1 => k_asm); (case k2 => k_asm); (case k3 => k_asm); (case k4 => k_asm); (case k5 => k_asm); (case k6 => k_mem); (case k7 => exact codeRec_news (by k_asm) (by k_mem) (by assumption) (by assumption)); (case k8 => ktr_room); (case k9 => exact rfl); (case c5 => decide); (case kB => exact locs rfl); (case c2 => exact rfl); (case c3 => exact rfl); (case c4 => exact rfl); k_whole; intro gω Lω hω FGω Fω Nω Bω Xω Tω; (try dsimp only); (try k_lift Bω); (try k_fold)); k_steps; all_goals exact hret9 _ _ _ _ (by k_asm) (by k_asm) (by k_asm))); k_whole); intro vω hω tkω nω gωω KTω Fω Nω Bω Xω Pω Dω hPω; obtain ⟨e1ω, e2ω⟩ := hPω; subst e1ω; subst e2ω; (try dsimp only))
  k_with "compareOp Eq ref ref" => (k_here; (with_reducible show wpAny _ _ (compareOp _ (Value.ref _) (Value.ref _)) _ _ _); k_dflt (refine' tup_eq ?kN ?k1 ?k2 ?ku ?ke ?_; (case kN => k_asm); (case k1 => (repeat' (first | assumption | exact List.Mem.head _ | refine List.Mem.tail _ ?_))); (case k2 => (repeat' (first | assumption | exact List.Mem.head _ | refine List.Mem.tail _ ?_))); (case ku => ktr_units); (case ke => (repeat' (first | exact SameL.nil | refine SameL.cons ?_ ?_ | exact PySem.SeqAt.EqAt.same _ | (refine (?q9 : ∀ (A : Around) (s : Shared), PySem.SeqAt.EqAt A s _ _ true) _ _; assumption) | exact same_str _ _ _ | exact same_int _ _ _ | exact same_ints (isList_of (by k_asm) (by repeat' (first | assumption | exact List.Mem.head _ | refine List.Mem.tail _ ?_))) (isList_of (by k_asm) (by repeat' (first | assumption | exact List.Mem.head _ | refine List.Mem.tail _ ?_))) (by assumption) (by assumption) (by ktr_units)))); k_whole); (try dsimp only))
  k_with "compareOp NotEq ref ref" => (k_here; (with_reducible show wpAny _ _ (compareOp _ (Value.ref _) (Value.ref _)) _ _ _); k_dflt (refine' tup_ne ?kN ?k1 ?k2 ?ku ?ke ?_; (case kN => k_asm); (case k1 => (repeat' (first | assumption | exact List.Mem.head _ | refine List.Mem.tail _ ?_))); (case k2 => (repeat' (first | assumption | exact List.Mem.head _ | refine List.Mem.tail _ ?_))); (case ku => ktr_units); (case ke => (repeat' (first | exact SameL.nil | refine SameL.cons ?_ ?_ | exact PySem.SeqAt.EqAt.same _ | (refine (?q9 : ∀ (A : Around) (s : Shared), PySem.SeqAt.EqAt A s _ _ true) _ _; assumption) | exact same_str _ _ _ | exact same_int _ _ _ | exact same_ints (isList_of (by k_asm) (by repeat' (first | assumption | exact List.Mem.head _ | refine List.Mem.tail _ ?_))) (isList_of (by k_asm) (by repeat' (first | assumption | exact List.Mem.head _ | refine List.Mem.tail _ ?_))) (by assumption) (by assumption) (by ktr_units)))); k_whole); (try dsimp only))
  k_with "eval IfExp" => (k_here; refine hold_ ?_)
  k_with "compareOp NotEq int int" => (k_here; k_dflt (refine' ne_int_same ?ka ?_; (case ka => ((try simp only [List.length_append, List.length_cons, List.length_nil]); omega)); k_whole); (try dsimp only))
  k_with "call ref" => (k_here; (with_reducible show wpAny _ _ (call (Value.ref 117) _) _ _ _); k_dflt (refine' use_ctr (add_parP _ ?q1 ?q2 ?q3 ?q4 ?q5 ?p1 ?p2 ?q6 ?q7 ?q8 ?q9 ?q0 ?qa ?qb ?qc) ?uB ?uF ?uX ?uN ?uT ?uk ?ud ?uu ?_; (case uF => k_asm); (case uB => k_asm); (case uX => k_asm); (case uT => assumption); (case uk => rfl); (case uN => k_asm); (case q1 => (repeat' (first | assumption | exact List.Mem.head _ | refine List.Mem.tail _ ?_))); (case q2 => (repeat' (first | assumption | exact List.Mem.head _ | refine List.Mem.tail _ ?_))); (case q3 => assumption); (case q4 => (repeat' (first | assumption | exact List.Mem.head _ | refine List.Mem.tail _ ?_))); (case q5 => (repeat' (first | assumption | exact List.Mem.head _ | refine List.Mem.tail _ ?_))); (case p1 => (repeat' (first | exact Pull.head | refine' Pull.tail ?_))); (case p2 => (repeat' (first | exact Pull.head | refine' Pull.tail ?_))); (case q6 => k_all); (case q7 => k_all); (case q8 => omega); (case q9 => omega); (case q0 => omega); (case qa => omega); (case qb => assumption); (case qc => assumption); (case ud => ktr_room); (case uu => ktr_units); k_whole); intro vω hω tkω nω Fω Nω hPω; k_dflt (obtain ⟨dω, aω, ccω, xω, yω, odω, tk2ω, n2ω, n3ω, e1ω, e2ω, ⟨tω, e3ω⟩, hqω⟩ := hPω); subst e1ω; subst e2ω; subst e3ω; have l6ω := hqω; k_dflt (obtain ⟨l1ω, l2ω, l3ω, l4ω, l5ω⟩ := l6ω); (try simp only [AllLt] at l1ω); (try simp only [AllLt] at l3ω); (try simp only [AllLt] at l4ω); (try simp only [AllLt] at l5ω); (try dsimp only); (try k_sweep))
  k_with "call ref" => (k_here; (with_reducible show wpAny _ _ (call (Value.ref 117) _) _ _ _); k_dflt (refine' use_ctr (add_noneP _ ?q1 ?q2 ?p1 ?q6 ?qa) ?uB ?uF ?uX ?uN ?uT ?uk ?ud ?uu ?_; (case uF => k_asm); (case uB => k_asm); (case uX => k_asm); (case uT => assumption); (case uk => rfl); (case uN => k_asm); (case q1 => (repeat' (first | assumption | exact List.Mem.head _ | refine List.Mem.tail _ ?_))); (case q2 => (repeat' (first | assumption | exact List.Mem.head _ | refine List.Mem.tail _ ?_))); (case p1 => (repeat' (first | exact Pull.head | refine' Pull.tail ?_))); (case q6 => k_all); (case qa => omega); (case ud => ktr_room); (case uu => ktr_units); k_whole); intro vω hω tkω nω Fω Nω hPω; k_dflt (obtain ⟨dω, aω, ccω, xω, yω, odω, tk2ω, n2ω, e1ω, e2ω, ⟨tω, e3ω⟩, hqω⟩ := hPω); subst e1ω; subst e2ω; subst e3ω; have l6ω := hqω; k_dflt (obtain ⟨l1ω, l2ω, l3ω, l4ω, l5ω⟩ := l6ω); (try simp only [AllLt] at l1ω); (try simp only [AllLt] at l3ω); (try simp only [AllLt] at l4ω); (try simp only [AllLt] at l5ω); (try dsimp only); (try k_sweep))
  k_with "call ref" => (k_here; (with_reducible show wpAny _ _ (call (Value.ref 187) _) _ _ _); k_dflt (refine' use_ctr (name_ok _ _ _ _ _ _ _ _ _ _ ?q1 ?q2 ?q3 _ _ _ _ _ _ _ _ _ _ _ _ ?q4 ?q5 ?q6 ?q7 ?q8 ?q9) ?uB ?uF ?uX ?uN ?uT ?uk ?ud ?uu ?_; (case uF => k_asm); (case uB => k_asm); (case uX => k_asm); (case uT => assumption); (case uk => rfl); (case uN => k_asm); (case q1 => (repeat' (first | assumption | exact List.Mem.head _ | refine List.Mem.tail _ ?_))); (case q2 => (repeat' (first | assumption | exact List.Mem.head _ | refine List.Mem.tail _ ?_))); (case q3 => (first | ((repeat' (first | assumption | exact List.Mem.head _ | refine List.Mem.tail _ ?_)); done) | (refine push_mem ?_; (repeat' (first | assumption | exact List.Mem.head _ | refine List.Mem.tail _ ?_)); done))); (case q6 => ((try simp only [List.length_append, List.length_cons, List.length_nil]); omega)); (case q7 => ((try simp only [List.length_append, List.length_cons, List.length_nil]); omega)); (case q8 => (first | assumption | (refine' app_last ?hz; (case hz => omega)))); (case q4 => (repeat' (first | assumption | exact List.Mem.head _ | refine List.Mem.tail _ ?_))); (case q5 => (repeat' (first | assumption | exact List.Mem.head _ | refine List.Mem.tail _ ?_))); (case q9 => ((try simp only [List.length_append, List.length_cons, List.length_nil]); omega)); (case ud => ktr_room); (case uu => ktr_units); k_whole); intro vω hω tkω nω Fω Nω hPω; obtain ⟨e1ω, e2ω⟩ := hPω; subst e1ω; subst e2ω; (try dsimp only); (try k_sweep))
  k_with "call ref" => (k_here; (with_reducible show wpAny _ _ (call (Value.ref 194) _) _ _ _); k_dflt (refine' use_ctr (uri_ok _ _ _ _ _ _ _ _ _ _ ?q1 ?q2 ?q3 _ _ _ _ _ _ _ _ _ _ _ _ ?q4 ?q5 ?q6 ?q7 ?q8 ?q9) ?uB ?uF ?uX ?uN ?uT ?uk ?ud ?uu ?_; (case uF => k_asm); (case uB => k_asm); (case uX => k_asm); (case uT => assumption); (case uk => rfl); (case uN => k_asm); (case q1 => (repeat' (first | assumption | exact List.Mem.head _ | refine List.Mem.tail _ ?_))); (case q2 => (repeat' (first | assumption | exact List.Mem.head _ | refine List.Mem.tail _ ?_))); (case q3 => (first | ((repeat' (first | assumption | exact List.Mem.head _ | refine List.Mem.tail _ ?_)); done) | (refine push_mem ?_; (repeat' (first | assumption | exact List.Mem.head _ | refine List.Mem.tail _ ?_)); done))); (case q6 => ((try simp only [List.length_append, List.length_cons, List.length_nil]); omega)); (case q7 => ((try simp only [List.length_append, List.length_cons, List.length_nil]); omega)); (case q8 => (first | assumption | (refine' app_last ?hz; (case hz => omega)))); (case q4 => (repeat' (first | assumption | exact List.Mem.head _ | refine List.Mem.tail _ ?_))); (case q5 => (repeat' (first | assumption | exact List.Mem.head _ | refine List.Mem.tail _ ?_))); (case q9 => ((try simp only [List.length_append, List.length_cons, List.length_nil]); omega)); (case ud => ktr_room); (case uu => ktr_units); k_whole); intro vω hω tkω nω Fω Nω hPω; obtain ⟨e1ω, e2ω⟩ := hPω; subst e1ω; subst e2ω; (try dsimp only); (try k_sweep))
  k_with "call ref" => (k_here; (with_reducible show wpAny _ _ (call (Value.ref 201) _) _ _ _); k_dflt (refine' use_ctr (loc_ok _ _ _ _ _ _ _ _ _ _ ?q1 ?q2 ?q3 _ _ _ _ _ _ _ _ _ _ _ _ ?q4 ?q5 ?q6 ?q7 ?q8 ?q9) ?uB ?uF ?uX ?uN ?uT ?uk ?ud ?uu ?_; (case uF => k_asm); (case uB => k_asm); (case uX => k_asm); (case uT => assumption); (case uk => rfl); (case uN => k_asm); (case q1 => (repeat' (first | assumption | exact List.Mem.head _ | refine List.Mem.tail _ ?_))); (case q2 => (repeat' (first | assumption | exact List.Mem.head _ | refine List.Mem.tail _ ?_))); (case q3 => (first | ((repeat' (first | assumption | exact List.Mem.head _ | refine List.Mem.tail _ ?_)); done) | (refine push_mem ?_; (repeat' (first | assumption | exact List.Mem.head _ | refine List.Mem.tail _ ?_)); done))); (case q6 => ((try simp only [List.length_append, List.length_cons, List.length_nil]); omega)); (case q7 => ((try simp only [List.length_append, List.length_cons, List.length_nil]); omega)); (case q8 => (first | assumption | (refine' app_last ?hz; (case hz => omega)))); (case q4 => (repeat' (first | assumption | exact List.Mem.head _ | refine List.Mem.tail _ ?_))); (case q5 => (repeat' (first | assumption | exact List.Mem.head _ | refine List.Mem.tail _ ?_))); (case q9 => ((try simp only [List.length_append, List.length_cons, List.length_nil]); omega)); (case ud => ktr_room); (case uu => ktr_units); k_whole); intro vω hω tkω nω Fω Nω hPω; obtain ⟨e1ω, e2ω⟩ := hPω; subst e1ω; subst e2ω; (try dsimp only); (try k_sweep))
  trivial
theorem put_none (w : World) (tr dT rl bk : Addr) (tkr : Tok) (vs : List Value) (c : Nat) (rest : Led) (kind value : Str) (tk1 tk2 : Tok)
   (h1 : (tr, instObj 260 dT) ∈ rest) (h2 : (dT, rowsD w tkr rl) ∈ rest)
   (od : Obj) (kvs : List (Int × Value)) (hod : od.IsDictOf (PySem.intKind PySem.Challenge.rw_xw0201_01.row.prog w) kvs) (lo : (bk == sysModules) = false) (hl : vs.length ≤ 99) (hkl : kvs.length ≤ 100) (hlen : kvs.length = vs.length) (hvn : valueAt kvs (kvs.length : Int) = none)
   (d1 : ∀ p ∈ rest, p.1 ≠ rl) (d2 : ∀ p ∈ rest, p.1 ≠ bk) (n1 : @Ne Nat rl bk)
   (hP : TabH 301 146 11 ("_law_put_right" ++ ".<locals>." ++ "<lambda>" : Str) rest)
 :
   CtrS w 306 [.ref tr, .ref bk, .none, .str kind tk1, .str value tk2] ((rl, listOf vs.toArray c) :: (bk, od) :: rest) 280 1120
    (fun v' news' => v' = .bool true ∧ TabH 301 146 11 ("_law_put_right" ++ ".<locals>." ++ "<lambda>" : Str) news' ∧ PutNone w rl bk vs kvs kind (if kind = ("element" : Str) then ("" : Str) else value) rest news') := by
  unfold CtrS
  k_fill
  obtain ⟨c9, oc9, vs9, t9, hP1, hP2, hP3, hP4⟩ := hP
  intro p loose mean mg mb dp un gd cn cs aa ccd cl outer A₀ base h₀ g₀ L m s Q E B F X XB N T TB D T0 CT hk hdp hu hret
  obtain ⟨C1, C2, C3, C4⟩ := CT
  refine wpAny_call ?_
  k_dflt (refine' callSC ?k1 ?k2 ?k3 ?k4 ?k5 ?XB ?TB ?D ?T0 ?kA ?kf ?kK ?k6 ?k7 ?k8 ?k9 ?kB ?kD ?_ ?c2 ?c3 ?c4; (case kA => exact rfl); (case kf => exact rfl); (case kK => assumption); (case k2 => k_asm); (case k1 => k_asm); (case XB => assumption); (case TB => assumption); (case D => assumption); (case T0 => assumption); (case k3 => k_asm); (case k4 => k_asm); (case k5 => k_asm); (case k6 => k_is); (case k7 => k_is); (case k8 => ktr_room); (case k9 => exact BindsTo.of_eq rfl); (case kB => exact rfl); (case kD => decide +kernel); (case c2 => exact rfl); (case c3 => exact rfl); (case c4 => exact rfl); k_whole; intro g' L' h' tk' cells' FG' F' N' Y' B' X' T' l1 D'; (try k_lt l1); k_cells Y'; (try simp only [List.cons_append, List.nil_append] at N'); (try dsimp only); (try k_lift B'); (try k_fold))
  k_steps
  unfold Hold
  refine wpAny_mono (Q := fun v s' => Hold (∃ t tk', v = .str (if kind = "element" then "" else value) t ∧ s' = { heap := h', gens := s.gens, drawn := s.drawn, toks := tk', os := s.os })) ?_ (fun v s' hq => ?_) fun _ _ x => x
  · with_reducible refine IfExp_ ?_
    k_steps
    all_goals (unfold Hold; exact ⟨_, _, congrArg (fun z => Value.str z _) (by simp_all), rfl⟩)
  obtain ⟨tv, tk3, rfl, rfl⟩ := hq
  generalize hval : (if kind = ("element" : Str) then ("" : Str) else value) = val
  k_steps
  subst hval
  exact hret _ _ _ _ _ (by assumption) (by k_asm) (by k_asm) (by assumption) (by assumption) (by assumption) (by assumption)
    ⟨rfl, ⟨c9, oc9, vs9, t9, (by repeat' (first | assumption | refine List.Mem.tail _ ?_)), (by repeat' (first | assumption | refine List.Mem.tail _ ?_)), hP3, hP4⟩, _, _, _, _, _, _, _, _, (by repeat' (first | exact List.Mem.head _ | refine List.Mem.tail _ ?_)), ⟨_, (by repeat' (first | exact List.Mem.head _ | refine List.Mem.tail _ ?_))⟩, ⟨_, (by repeat' (first | exact List.Mem.head _ | refine List.Mem.tail _ ?_))⟩, ⟨_, (by repeat' (first | exact List.Mem.head _ | refine List.Mem.tail _ ?_))⟩, by assumption, (by repeat' (first | exact List.Mem.head _ | refine List.Mem.tail _ ?_)), ⟨_, _, _, (by repeat' (first | exact List.Mem.head _ | refine List.Mem.tail _ ?_))⟩, ⟨_, (by repeat' (first | exact List.Mem.head _ | refine List.Mem.tail _ ?_))⟩, fun p hp => by repeat' (first | exact hp | refine List.Mem.tail _ ?_), (by first | assumption | exact And.right (by assumption) | exact And.right (And.right (by assumption)) | exact And.right (And.right (And.right (by assumption))) | exact And.right (And.right (And.right (And.right (by assumption)))) | exact And.right (And.right (And.right (And.right (And.right (by assumption))))) | exact And.right (And.right (And.right (And.right (And.right (And.right (by assumption)))))) | exact And.right (And.right (And.right (And.right (And.right (And.right (And.right (by assumption))))))) | exact And.right (And.right (And.right (And.right (And.right (And.right (And.right (And.right (by assumption)))))))) | exact And.right (And.right (And.right (And.right (And.right (And.right (And.right (And.right (And.right (by assumption))))))))) | exact And.right (And.right (And.right (And.right (And.right (And.right (And.right (And.right (And.right (And.right (by assumption)))))))))) | exact And.right (And.right (And.right (And.right (And.right (And.right (And.right (And.right (And.right (And.right (And.right (by assumption))))))))))) | exact And.right (And.right (And.right (And.right (And.right (And.right (And.right (And.right (And.right (And.right (And.right (And.right (by assumption)))))))))))) | exact And.right (And.right (And.right (And.right (And.right (And.right (And.right (And.right (And.right (And.right (And.right (And.right (And.right (by assumption))))))))))))) | exact And.right (And.right (And.right (And.right (And.right (And.right (And.right (And.right (And.right (And.right (And.right (And.right (And.right (And.right (by assumption)))))))))))))) | exact And.right (And.right (And.right (And.right (And.right (And.right (And.right (And.right (And.right (And.right (And.right (And.right (And.right (And.right (And.right (by assumption)))))))))))))))), by omega⟩
end
section
open PySem PySem.W PySem.Calls PyProof.Rows
theorem ln_PutE_0 : True := by
  w_top off
  k_with_none
  k_with "call builtin:len" => (k_here; (with_reducible show wpAny _ _ (call (Value.builtin "len") [Value.ref _]) _ _ _); k_dflt (refine' len_led ?k1 ?k2 ?k3 ?_; (case k1 => k_asm); (case k2 => (repeat' (first | assumption | exact List.Mem.head _ | refine List.Mem.tail _ ?_))); (case k3 => ((try simp only [List.length_cons, List.length_nil, List.length_append, List.length_map]); omega)); k_whole); (try dsimp only))
  k_with "subscriptTail" => (k_here; (with_reducible show wpAny _ _ (subscriptTail _ _ (Value.ref _) (Value.int _ _)) _ _ _); k_dflt (refine' item_led ?k1 ?k2 ?k3 ?k4 ?k5 ?_ ?k6; (case k1 => k_asm); (case k2 => (repeat' (first | assumption | exact List.Mem.head _ | refine List.Mem.tail _ ?_))); (case k3 => omega); (case k4 => omega); (case k5 => (first | assumption | (rw [List.getElem?_append_left (by omega)]; assumption))); (case k6 => with_unfolding_all rfl); k_whole); (try dsimp only))
  k_with "exec Raise some none" => (k_here; (with_reducible show wpAny _ _ (exec (Stmt.Raise (some (Expr.Call (Expr.Name (Str.ofString "TreeFault") _) [Expr.Constant (Const.str _) _ _] [] _)) none _) _) _ _ _); k_dflt (refine' raise_tf ?kB ?kF ?kX ?kN ?kT ?kk ?kx ?kn ?ki ?kf ?kd ?ku ?_; (case kB => k_asm); (case kF => k_asm); (case kX => k_asm); (case kN => k_asm); (case kT => assumption); (case kk => rfl); (case kx => k_is); (case kn => rfl); (case ki => k_is); (case kf => k_is); (case kd => ktr_room); (case ku => ktr_units); k_whole); intro eω tω dω hω tkω Fω Nω neω)
  k_with "leaving ref" => (k_here; k_dflt (refine' leave_led ?kK ?kF ?kN ?kne ?kd ?k1 ?k0 ?_; (case kF => k_asm); (case kN => k_asm); (case kK => k_asm); (case kne => k_asm); (case kd => rfl); (case k1 => rfl); (case k0 => rfl); k_whole); intro hω Sω Rω Uω; (try dsimp only at Sω Rω Uω ⊢))
  k_with "leaving ref" => (k_here; k_dflt (refine' leave_onSN ?k1 ?k2 ?k3 ?k4 ?_; (case k3 => assumption); (case k2 => assumption); (case k1 => assumption); (case k4 => assumption); k_whole); intro hω Sω Rω Uω; (try dsimp only at Sω Rω Uω ⊢))
  k_with "getAttr ref" => (k_here; k_dflt (refine' get_own ?k1 ?k2 ?k3 ?k4 ?k5 ?k6 ?k7 ?k8 ?k9 ?_; (case k1 => k_asm); (case k2 => k_asm); (case k3 => k_inst); (case k4 => k_is); (case k5 => k_is); (case k6 => k_is); (case k7 => k_is); (case k8 => k_get); (case k9 => k_handed); k_whole); (try dsimp only))
  k_with "eval Constant int" => (k_here; refine wpAny_Constant_int ?_; (try dsimp only))
  k_with "eval Constant str" => (k_here; refine Calls.Constant_str ?_; (try dsimp only))
  k_with "call ref" => (k_here; (with_reducible show wpAny _ _ (call (Value.ref 103) _) _ _ _); k_dflt (refine' use_ctr (row_ok _ _ _ _ _ _ _ _ _ _ _ ?q1 ?q2 ?q3 ?q4 ?q5 ?q6 ?q7) ?uB ?uF ?uX ?uN ?uT ?uk ?ud ?uu ?_; (case uF => k_asm); (case uN => k_asm); (case uB => k_asm); (case uX => k_asm); (case uT => assumption); (case uk => rfl); (case q1 => (repeat' (first | assumption | exact List.Mem.head _ | refine List.Mem.tail _ ?_))); (case q2 => (repeat' (first | assumption | exact List.Mem.head _ | refine List.Mem.tail _ ?_))); (case q3 => (first | ((repeat' (first | assumption | exact List.Mem.head _ | refine List.Mem.tail _ ?_)); done) | (refine push_mem ?_; (repeat' (first | assumption | exact List.Mem.head _ | refine List.Mem.tail _ ?_)); done))); (case q4 => omega); (case q5 => (first | omega | ((simp only [List.length_append, List.length_cons, List.length_nil]); omega))); (case q6 => (first | assumption | (rw [List.getElem?_append_left (by omega)]; assumption) | (refine' app_last ?hz; (case hz => omega)))); (case q7 => (first | assumption | ((simp only [List.length_append, List.length_cons, List.length_nil]); omega))); (case ud => ktr_room); (case uu => ktr_units); k_whole); intro vω hω tkω nω Fω Nω hPω; obtain ⟨e1ω, e2ω⟩ := hPω; subst e1ω; subst e2ω; (try dsimp only))
  k_with "call ref" => (k_here; (with_reducible show wpAny _ _ (call (Value.ref 103) _) _ _ _); k_dflt (refine' use_rctr (row_bad _ _ _ _ _ _ _ _ _ _ ?q1 ?q2 ?q3 ?q4 ?q7) ?uB ?uF ?uX ?uN ?uT ?uk ?ud ?uu ?_; (case uF => k_asm); (case uN => k_asm); (case uB => k_asm); (case uX => k_asm); (case uT => assumption); (case uk => rfl); (case q1 => (repeat' (first | assumption | exact List.Mem.head _ | refine List.Mem.tail _ ?_))); (case q2 => (repeat' (first | assumption | exact List.Mem.head _ | refine List.Mem.tail _ ?_))); (case q3 => (first | ((repeat' (first | assumption | exact List.Mem.head _ | refine List.Mem.tail _ ?_)); done) | (refine push_mem ?_; (repeat' (first | assumption | exact List.Mem.head _ | refine List.Mem.tail _ ?_)); done))); (case q4 => omega); (case q7 => assumption); (case ud => ktr_room); (case uu => ktr_units); k_whole); intro eω Gω hω tkω FGω Sω Uω; (try dsimp only))
  k_with "compareOp In str ref" => (k_here; (with_reducible show wpAny _ _ (compareOp CmpOp.In (Value.str _ _) (Value.ref _)) _ _ _); k_dflt (refine' in_parT ?k1 ?k2 ?k3 ?k4 ?_; (case k1 => k_asm); (case k2 => k_asm); (case k3 => k_is); (case k4 => assumption); k_whole))
  k_with "compareOp NotIn str ref" => (k_here; (with_reducible show wpAny _ _ (compareOp CmpOp.NotIn (Value.str _ _) (Value.ref _)) _ _ _); k_dflt (refine' notin_parT ?k1 ?k2 ?k3 ?k4 ?_; (case k1 => k_asm); (case k2 => k_asm); (case k3 => k_is); (case k4 => assumption); k_whole))
  k_with "compareOp In str ref" => (k_here; (with_reducible show wpAny _ _ (compareOp CmpOp.In (Value.str _ _) (Value.ref _)) _ _ _); k_dflt (refine' in_parL ?k1 ?k2 ?k4 ?_; (case k1 => k_asm); (case k2 => k_mem); (case k4 => assumption); k_whole))
  k_with "compareOp In int ref" => (k_here; (with_reducible show wpAny _ _ (compareOp _ (Value.int _ _) (Value.ref _)) _ _ _); k_dflt (refine' bk_in ?kN ?kp ?kd ?kl ?kh ?_; (case kN => k_asm); (case kp => (repeat' (first | assumption | exact List.Mem.head _ | refine List.Mem.tail _ ?_))); (case kd => assumption); (case kl => assumption); (case kh => assumption); k_whole); (try dsimp only))
  k_with "compareOp In int ref" => (k_here; (with_reducible show wpAny _ _ (compareOp _ (Value.int _ _) (Value.ref _)) _ _ _); k_dflt (refine' bk_in0 ?kN ?kp ?kd ?kl ?kh ?_; (case kN => k_asm); (case kp => (repeat' (first | assumption | exact List.Mem.head _ | refine List.Mem.tail _ ?_))); (case kd => assumption); (case kl => assumption); (case kh => assumption); k_whole); (try dsimp only))
  k_with "compareOp NotIn int ref" => (k_here; (with_reducible show wpAny _ _ (compareOp _ (Value.int _ _) (Value.ref _)) _ _ _); k_dflt (refine' bk_notin ?kN ?kp ?kd ?kl ?kh ?_; (case kN => k_asm); (case kp => (repeat' (first | assumption | exact List.Mem.head _ | refine List.Mem.tail _ ?_))); (case kd => assumption); (case kl => assumption); (case kh => assumption); k_whole); (try dsimp only))
  k_with "compareOp NotIn int ref" => (k_here; (with_reducible show wpAny _ _ (compareOp _ (Value.int _ _) (Value.ref _)) _ _ _); k_dflt (refine' bk_notin0 ?kN ?kp ?kd ?kl ?kh ?_; (case kN => k_asm); (case kp => (repeat' (first | assumption | exact List.Mem.head _ | refine List.Mem.tail _ ?_))); (case kd => assumption); (case kl => assumption); (case kh => assumption); k_whole); (try dsimp only))
  k_with "subscriptTail" => (k_here; (with_reducible show wpAny _ _ (subscriptTail _ _ (Value.ref _) (Value.int _ _)) _ _ _); k_dflt (refine' bk_item ?kN ?kp ?kd ?kh ?_ ?k6 ?k7; (case kN => k_asm); (case kp => (repeat' (first | assumption | exact List.Mem.head _ | refine List.Mem.tail _ ?_))); (case kd => assumption); (case kh => (first | assumption | exact valueAt_app (by assumption) (by assumption))); (case k6 => with_unfolding_all rfl); (case k7 => intro _; with_unfolding_all rfl); k_whole); (try dsimp only))
  k_with "getItem ref int" => (k_here; (with_reducible show wpAny _ _ (getItem (Value.ref _) (Value.int _ _)) _ _ _); k_dflt (refine' bk_getItem ?kN ?kp ?kd ?kh ?_; (case kN => k_asm); (case kp => (repeat' (first | assumption | exact List.Mem.head _ | refine List.Mem.tail _ ?_))); (case kd => assumption); (case kh => assumption); k_whole); (try dsimp only))
  k_with "call builtin:len" => (k_here; (with_reducible show wpAny _ _ (call (Value.builtin "len") [Value.ref _]) _ _ _); k_dflt (refine' bk_len ?kN ?kp ?kd ?kl ?kh ?_; (case kN => k_asm); (case kp => (repeat' (first | assumption | exact List.Mem.head _ | refine List.Mem.tail _ ?_))); (case kd => assumption); (case kl => assumption); (case kh => assumption); k_whole); (try dsimp only))
  k_with "setItem ref int" => (k_here; (with_reducible show wpAny _ _ (setItem (Value.ref _) (Value.int _ _) _) _ _ _); k_dflt (refine' bk_set ?kF ?kN ?kU ?kd ?kl ?_; (case kF => k_asm); (case kN => k_asm); (case kU => k_updF); (case kd => assumption); (case kl => assumption); k_whole); intro hω oω Fω Nω hdω; (try dsimp only at Nω))
  k_with "leaving ref" => (k_here; k_dflt (refine' leave_onX ?kf ?k1 ?k2 ?k3 ?k4 ?_; (case kf => exact rfl); (case k3 => assumption); (case k2 => assumption); (case k1 => assumption); (case k4 => assumption); k_whole); intro hω Sω Rω Uω; (try dsimp only at Sω Rω Uω ⊢))
  k_with "call ref" => (k_here; (with_reducible show wpAny _ _ (call (Value.ref 173) _) _ _ _); k_dflt (refine' use_rctr (setv_bad _ _ _ _ _ _ _ _ _ _ _ _ ?q1 ?q2 ?q3 ?q4 ?q5) ?uB ?uF ?uX ?uN ?uT ?uk ?ud ?uu ?_; (case uF => k_asm); (case uN => k_asm); (case uB => k_asm); (case uX => k_asm); (case uT => assumption); (case uk => rfl); (case q1 => (repeat' (first | assumption | exact List.Mem.head _ | refine List.Mem.tail _ ?_))); (case q2 => (repeat' (first | assumption | exact List.Mem.head _ | refine List.Mem.tail _ ?_))); (case q3 => (repeat' (first | assumption | exact List.Mem.head _ | refine List.Mem.tail _ ?_))); (case q4 => (first | omega | assumption)); (case q5 => assumption); (case ud => ktr_room); (case uu => ktr_units); k_whole); intro eω Gω hω tkω FGω Sω Uω; (try dsimp only))
  k_with "call ref" => (k_here; (with_reducible show wpAny _ _ (call (Value.ref 173) _) _ _ _); k_dflt (refine' use_rctr (setv_par _ _ _ _ _ _ _ _ _ _ _ _ ?q1 ?q2 ?q3 _ _ _ _ _ _ _ _ _ _ _ _ ?q4 ?q5 ?q6 ?q7 ?q8 ?q9 ?q0) ?uB ?uF ?uX ?uN ?uT ?uk ?ud ?uu ?_; (case uF => k_asm); (case uN => k_asm); (case uB => k_asm); (case uX => k_asm); (case uT => assumption); (case uk => rfl); (case q1 => (repeat' (first | assumption | exact List.Mem.head _ | refine List.Mem.tail _ ?_))); (case q2 => (repeat' (first | assumption | exact List.Mem.head _ | refine List.Mem.tail _ ?_))); (case q3 => (repeat' (first | assumption | exact List.Mem.head _ | refine List.Mem.tail _ ?_))); (case q6 => omega); (case q7 => omega); (case q8 => assumption); (case q4 => (repeat' (first | assumption | exact List.Mem.head _ | refine List.Mem.tail _ ?_))); (case q5 => (repeat' (first | assumption | exact List.Mem.head _ | refine List.Mem.tail _ ?_))); (case q9 => assumption); (case q0 => assumption); (case ud => ktr_room); (case uu => ktr_units); k_whole); intro eω Gω hω tkω FGω Sω Uω; (try dsimp only))
  k_with "call ref" => (k_here; (with_reducible show wpAny _ _ (call (Value.ref 117) _) _ _ _); k_dflt (refine' use_rctr (add_bad _ _ _ _ _ _ _ _ _ _ _ _ _ _ _ _ _ _ _ _ ?q1 ?q2 ?q3 ?q4 ?q5) ?uB ?uF ?uX ?uN ?uT ?uk ?ud ?uu ?_; (case uF => k_asm); (case uN => k_asm); (case uB => k_asm); (case uX => k_asm); (case uT => assumption); (case uk => rfl); (case q1 => (repeat' (first | assumption | exact List.Mem.head _ | refine List.Mem.tail _ ?_))); (case q2 => (repeat' (first | assumption | exact List.Mem.head _ | refine List.Mem.tail _ ?_))); (case q3 => (repeat' (first | assumption | exact List.Mem.head _ | refine List.Mem.tail _ ?_))); (case q4 => (first | omega | assumption)); (case q5 => assumption); (case ud => ktr_room); (case uu => ktr_units); k_whole); intro eω Gω hω tkω FGω Sω Uω; (try dsimp only))
  k_with "call ref" => (k_here; (with_reducible show wpAny _ _ (call (Value.ref 117) _) _ _ _); k_dflt (refine' use_rctr (add_kid _ _ _ _ _ _ _ _ _ _ _ _ _ _ _ _ _ _ _ _ ?q1 ?q2 ?q3 _ _ _ _ _ _ _ _ _ _ _ _ ?q4 ?q5 ?q6 ?q7 ?q8 ?q9 ?q0) ?uB ?uF ?uX ?uN ?uT ?uk ?ud ?uu ?_; (case uF => k_asm); (case uN => k_asm); (case uB => k_asm); (case uX => k_asm); (case uT => assumption); (case uk => rfl); (case q1 => (repeat' (first | assumption | exact List.Mem.head _ | refine List.Mem.tail _ ?_))); (case q2 => (repeat' (first | assumption | exact List.Mem.head _ | refine List.Mem.tail _ ?_))); (case q3 => (repeat' (first | assumption | exact List.Mem.head _ | refine List.Mem.tail _ ?_))); (case q6 => omega); (case q7 => omega); (case q8 => assumption); (case q4 => (repeat' (first | assumption | exact List.Mem.head _ | refine List.Mem.tail _ ?_))); (case q5 => (repeat' (first | assumption | exact List.Mem.head _ | refine List.Mem.tail _ ?_))); (case q9 => assumption); (case q0 => assumption); (case ud => ktr_room); (case uu => ktr_units); k_whole); intro eω Gω hω tkω FGω Sω Uω; (try dsimp only))
  k_with "call ref" => (k_here; (with_reducible show wpAny _ _ (call (Value.ref 152) _) _ _ _); k_dflt (refine' use_rctr (erow_bad _ _ _ _ _ _ _ _ _ _ ?q1 ?q2 ?q3 ?q4 ?q5) ?uB ?uF ?uX ?uN ?uT ?uk ?ud ?uu ?_; (case uF => k_asm); (case uN => k_asm); (case uB => k_asm); (case uX => k_asm); (case uT => assumption); (case uk => rfl); (case q1 => (repeat' (first | assumption | exact List.Mem.head _ | refine List.Mem.tail _ ?_))); (case q2 => (repeat' (first | assumption | exact List.Mem.head _ | refine List.Mem.tail _ ?_))); (case q3 => (repeat' (first | assumption | exact List.Mem.head _ | refine List.Mem.tail _ ?_))); (case q4 => (first | omega | assumption)); (case q5 => assumption); (case ud => ktr_room); (case uu => ktr_units); k_whole); intro eω Gω hω tkω FGω Sω Uω; (try dsimp only))
  k_with "call ref" => (k_here; (with_reducible show wpAny _ _ (call (Value.ref 152) _) _ _ _); k_dflt (refine' use_rctr (erow_no _ _ _ _ _ _ _ _ _ _ ?q1 ?q2 ?q3 _ _ _ _ _ _ _ _ _ _ _ _ ?q4 ?q5 ?q6 ?q7 ?q8 ?q9 ?q0) ?uB ?uF ?uX ?uN ?uT ?uk ?ud ?uu ?_; (case uF => k_asm); (case uN => k_asm); (case uB => k_asm); (case uX => k_asm); (case uT => assumption); (case uk => rfl); (case q1 => (repeat' (first | assumption | exact List.Mem.head _ | refine List.Mem.tail _ ?_))); (case q2 => (repeat' (first | assumption | exact List.Mem.head _ | refine List.Mem.tail _ ?_))); (case q3 => (repeat' (first | assumption | exact List.Mem.head _ | refine List.Mem.tail _ ?_))); (case q6 => omega); (case q7 => omega); (case q8 => assumption); (case q4 => (repeat' (first | assumption | exact List.Mem.head _ | refine List.Mem.tail _ ?_))); (case q5 => (repeat' (first | assumption | exact List.Mem.head _ | refine List.Mem.tail _ ?_))); (case q9 => assumption); (case q0 => assumption); (case ud => ktr_room); (case uu => ktr_units); k_whole); intro eω Gω hω tkω FGω Sω Uω; (try dsimp only))
  k_with "call ref" => (k_here; (with_reducible show wpAny _ _ (call (Value.ref 180) _) _ _ _); k_dflt (refine' use_rctr (kind_bad _ _ _ _ _ _ _ _ _ _ ?q1 ?q2 ?q3 ?q4 ?q5) ?uB ?uF ?uX ?uN ?uT ?uk ?ud ?uu ?_; (case uF => k_asm); (case uN => k_asm); (case uB => k_asm); (case uX => k_asm); (case uT => assumption); (case uk => rfl); (case q1 => (repeat' (first | assumption | exact List.Mem.head _ | refine List.Mem.tail _ ?_))); (case q2 => (repeat' (first | assumption | exact List.Mem.head _ | refine List.Mem.tail _ ?_))); (case q3 => (repeat' (first | assumption | exact List.Mem.head _ | refine List.Mem.tail _ ?_))); (case q4 => (first | omega | assumption)); (case q5 => assumption); (case ud => ktr_room); (case uu => ktr_units); k_whole); intro eω Gω hω tkω FGω Sω Uω; (try dsimp only))
  k_with "call ref" => (k_here; (with_reducible show wpAny _ _ (call (Value.ref 292) _) _ _ _); k_dflt (refine' use_ctrS (refused_raise _ _ _ ?qf ?qc) ?uB ?uF ?uX ?uXB ?uN ?uT ?uTB ?uD ?uT0 ?uCT ?uk ?ud ?uu ?_; (case uF => k_asm); (case uN => k_asm); (case uB => k_asm); (case uX => k_asm); (case uXB => assumption); (case uT => assumption); (case uTB => assumption); (case uD => assumption); (case uT0 => first | assumption | exact KtsTurn.refl); (case uCT => exact ⟨by assumption, by assumption, by assumption, by assumption⟩); (case uk => rfl); (case ud => ktr_room); (case uu => ktr_units); (case qf => (repeat' (first | assumption | exact List.Mem.head _ | refine List.Mem.tail _ ?_))); (case qc => (unfold RCtr; intro p9 loose9 mean9 mg9 mb9 dp9 un9 gd9 cn9 cs9 aa9 ccd9 cl9 outer9 A9 base9 h9 L9 m9 s9 Q9 E9 B9 F9 X9 N9 T9 hk9 hd9 hu9 hret9; refine wpAny_call ?_; k_dflt (refine' kla_code ?k1 ?k2 ?k3 ?k4 ?k5 ?kA ?kF ?kK ?k6 ?k7 ?k8 ?k9 ?kB ?_ ?c2 ?c3 ?c4 ?c5; (case kA => exact rfl); (case kF => exact rfl); (case kK => assumption); (case k1 => k_asm); (case k2 => k_asm); (case k3 => k_asm); (case k4 => k_asm); (case k5 => k_asm); (case k6 => k_mem); (case k7 => exact codeRec_news (by k_asm) (by k_mem) (by assumption) (by assumption)); (case k8 => ktr_room); (case k9 => exact rfl); (case c5 => decide); (case kB => exact locs rfl); (case c2 => exact rfl); (case c3 => exact rfl); (case c4 => exact rfl); k_whole; intro gω Lω hω FGω Fω Nω Bω Xω Tω; (try dsimp only); (try k_lift Bω); (try k_fold)); k_steps; all_goals exact hret9 _ _ _ _ (by k_asm) (by k_asm) (by k_asm))); k_whole); intro vω hω tkω nω gωω KTω Fω Nω Bω Xω Pω Dω hPω; obtain ⟨e1ω, e2ω⟩ := hPω; subst e1ω; subst e2ω; (try dsimp only))
  k_with "compareOp Eq ref ref" => (k_here; (with_reducible show wpAny _ _ (compareOp _ (Value.ref _) (Value.ref _)) _ _ _); k_dflt (refine' tup_eq ?kN ?k1 ?k2 ?ku ?ke ?_; (case kN => k_asm); (case k1 => (repeat' (first | assumption | exact List.Mem.head _ | refine List.Mem.tail _ ?_))); (case k2 => (repeat' (first | assumption | exact List.Mem.head _ | refine List.Mem.tail _ ?_))); (case ku => ktr_units); (case ke => (repeat' (first | exact SameL.nil | refine SameL.cons ?_ ?_ | exact PySem.SeqAt.EqAt.same _ | (refine (?q9 : ∀ (A : Around) (s : Shared), PySem.SeqAt.EqAt A s _ _ true) _ _; assumption) | exact same_str _ _ _ | exact same_int _ _ _ | exact same_ints (isList_of (by k_asm) (by repeat' (first | assumption | exact List.Mem.head _ | refine List.Mem.tail _ ?_))) (isList_of (by k_asm) (by repeat' (first | assumption | exact List.Mem.head _ | refine List.Mem.tail _ ?_))) (by assumption) (by assumption) (by ktr_units)))); k_whole); (try dsimp only))
  k_with "compareOp NotEq ref ref" => (k_here; (with_reducible show wpAny _ _ (compareOp _ (Value.ref _) (Value.ref _)) _ _ _); k_dflt (refine' tup_ne ?kN ?k1 ?k2 ?ku ?ke ?_; (case kN => k_asm); (case k1 => (repeat' (first | assumption | exact List.Mem.head _ | refine List.Mem.tail _ ?_))); (case k2 => (repeat' (first | assumption | exact List.Mem.head _ | refine List.Mem.tail _ ?_))); (case ku => ktr_units); (case ke => (repeat' (first | exact SameL.nil | refine SameL.cons ?_ ?_ | exact PySem.SeqAt.EqAt.same _ | (refine (?q9 : ∀ (A : Around) (s : Shared), PySem.SeqAt.EqAt A s _ _ true) _ _; assumption) | exact same_str _ _ _ | exact same_int _ _ _ | exact same_ints (isList_of (by k_asm) (by repeat' (first | assumption | exact List.Mem.head _ | refine List.Mem.tail _ ?_))) (isList_of (by k_asm) (by repeat' (first | assumption | exact List.Mem.head _ | refine List.Mem.tail _ ?_))) (by assumption) (by assumption) (by ktr_units)))); k_whole); (try dsimp only))
  k_with "eval IfExp" => (k_here; refine hold_ ?_)
  k_with "compareOp NotEq int int" => (k_here; k_dflt (refine' ne_int_same ?ka ?_; (case ka => ((try simp only [List.length_append, List.length_cons, List.length_nil]); omega)); k_whole); (try dsimp only))
  k_with "call ref" => (k_here; (with_reducible show wpAny _ _ (call (Value.ref 117) _) _ _ _); k_dflt (refine' use_ctr (add_parP _ ?q1 ?q2 ?q3 ?q4 ?q5 ?p1 ?p2 ?q6 ?q7 ?q8 ?q9 ?q0 ?qa ?qb ?qc) ?uB ?uF ?uX ?uN ?uT ?uk ?ud ?uu ?_; (case uF => k_asm); (case uB => k_asm); (case uX => k_asm); (case uT => assumption); (case uk => rfl); (case uN => k_asm); (case q1 => (repeat' (first | assumption | exact List.Mem.head _ | refine List.Mem.tail _ ?_))); (case q2 => (repeat' (first | assumption | exact List.Mem.head _ | refine List.Mem.tail _ ?_))); (case q3 => assumption); (case q4 => (repeat' (first | assumption | exact List.Mem.head _ | refine List.Mem.tail _ ?_))); (case q5 => (repeat' (first | assumption | exact List.Mem.head _ | refine List.Mem.tail _ ?_))); (case p1 => (repeat' (first | exact Pull.head | refine' Pull.tail ?_))); (case p2 => (repeat' (first | exact Pull.head | refine' Pull.tail ?_))); (case q6 => k_all); (case q7 => k_all); (case q8 => omega); (case q9 => omega); (case q0 => omega); (case qa => omega); (case qb => assumption); (case qc => assumption); (case ud => ktr_room); (case uu => ktr_units); k_whole); intro vω hω tkω nω Fω Nω hPω; k_dflt (obtain ⟨dω, aω, ccω, xω, yω, odω, tk2ω, n2ω, n3ω, e1ω, e2ω, ⟨tω, e3ω⟩, hqω⟩ := hPω); subst e1ω; subst e2ω; subst e3ω; have l6ω := hqω; k_dflt (obtain ⟨l1ω, l2ω, l3ω, l4ω, l5ω⟩ := l6ω); (try simp only [AllLt] at l1ω); (try simp only [AllLt] at l3ω); (try simp only [AllLt] at l4ω); (try simp only [AllLt] at l5ω); (try dsimp only); (try k_sweep))
  k_with "call ref" => (k_here; (with_reducible show wpAny _ _ (call (Value.ref 117) _) _ _ _); k_dflt (refine' use_ctr (add_noneP _ ?q1 ?q2 ?p1 ?q6 ?qa) ?uB ?uF ?uX ?uN ?uT ?uk ?ud ?uu ?_; (case uF => k_asm); (case uB => k_asm); (case uX => k_asm); (case uT => assumption); (case uk => rfl); (case uN => k_asm); (case q1 => (repeat' (first | assumption | exact List.Mem.head _ | refine List.Mem.tail _ ?_))); (case q2 => (repeat' (first | assumption | exact List.Mem.head _ | refine List.Mem.tail _ ?_))); (case p1 => (repeat' (first | exact Pull.head | refine' Pull.tail ?_))); (case q6 => k_all); (case qa => omega); (case ud => ktr_room); (case uu => ktr_units); k_whole); intro vω hω tkω nω Fω Nω hPω; k_dflt (obtain ⟨dω, aω, ccω, xω, yω, odω, tk2ω, n2ω, e1ω, e2ω, ⟨tω, e3ω⟩, hqω⟩ := hPω); subst e1ω; subst e2ω; subst e3ω; have l6ω := hqω; k_dflt (obtain ⟨l1ω, l2ω, l3ω, l4ω, l5ω⟩ := l6ω); (try simp only [AllLt] at l1ω); (try simp only [AllLt] at l3ω); (try simp only [AllLt] at l4ω); (try simp only [AllLt] at l5ω); (try dsimp only); (try k_sweep))
  k_with "call ref" => (k_here; (with_reducible show wpAny _ _ (call (Value.ref 187) _) _ _ _); k_dflt (refine' use_ctr (name_ok _ _ _ _ _ _ _ _ _ _ ?q1 ?q2 ?q3 _ _ _ _ _ _ _ _ _ _ _ _ ?q4 ?q5 ?q6 ?q7 ?q8 ?q9) ?uB ?uF ?uX ?uN ?uT ?uk ?ud ?uu ?_; (case uF => k_asm); (case uB => k_asm); (case uX => k_asm); (case uT => assumption); (case uk => rfl); (case uN => k_asm); (case q1 => (repeat' (first | assumption | exact List.Mem.head _ | refine List.Mem.tail _ ?_))); (case q2 => (repeat' (first | assumption | exact List.Mem.head _ | refine List.Mem.tail _ ?_))); (case q3 => (first | ((repeat' (first | assumption | exact List.Mem.head _ | refine List.Mem.tail _ ?_)); done) | (refine push_mem ?_; (repeat' (first | assumption | exact List.Mem.head _ | refine List.Mem.tail _ ?_)); done))); (case q6 => ((try simp only [List.length_append, List.length_cons, List.length_nil]); omega)); (case q7 => ((try simp only [List.length_append, List.length_cons, List.length_nil]); omega)); (case q8 => (first | assumption | (refine' app_last ?hz; (case hz => omega)))); (case q4 => (repeat' (first | assumption | exact List.Mem.head _ | refine List.Mem.tail _ ?_))); (case q5 => (repeat' (first | assumption | exact List.Mem.head _ | refine List.Mem.tail _ ?_))); (case q9 => ((try simp only [List.length_append, List.length_cons, List.length_nil]); omega)); (case ud => ktr_room); (case uu => ktr_units); k_whole); intro vω hω tkω nω Fω Nω hPω; obtain ⟨e1ω, e2ω⟩ := hPω; subst e1ω; subst e2ω; (try dsimp only); (try k_sweep))
  k_with "call ref" => (k_here; (with_reducible show wpAny _ _ (call (Value.ref 194) _) _ _ _); k_dflt (refine' use_ctr (uri_ok _ _ _ _ _ _ _ _ _ _ ?q1 ?q2 ?q3 _ _ _ _ _ _ _ _ _ _ _ _ ?q4 ?q5 ?q6 ?q7 ?q8 ?q9) ?uB ?uF ?uX ?uN ?uT ?uk ?ud ?uu ?_; (case uF => k_asm); (case uB => k_asm); (case uX => k_asm); (case uT => assumption); (case uk => rfl); (case uN => k_asm); (case q1 => (repeat' (first | assumption | exact List.Mem.head _ | refine List.Mem.tail _ ?_))); (case q2 => (repeat' (first | assumption | exact List.Mem.head _ | refine List.Mem.tail _ ?_))); (case q3 => (first | ((repeat' (first | assumption | exact List.Mem.head _ | refine List.Mem.tail _ ?_)); done) | (refine push_mem ?_; (repeat' (first | assumption | exact List.Mem.head _ | refine List.Mem.tail _ ?_)); done))); (case q6 => ((try simp only [List.length_append, List.length_cons, List.length_nil]); omega)); (case q7 => ((try simp only [List.length_append, List.length_cons, List.length_nil]); omega)); (case q8 => (first | assumption | (refine' app_last ?hz; (case hz => omega)))); (case q4 => (repeat' (first | assumption | exact List.Mem.head _ | refine List.Mem.tail _ ?_))); (case q5 => (repeat' (first | assumption | exact List.Mem.head _ | refine List.Mem.tail _ ?_))); (case q9 => ((try simp only [List.length_append, List.length_cons, List.length_nil]); omega)); (case ud => ktr_room); (case uu => ktr_units); k_whole); intro vω hω tkω nω Fω Nω hPω; obtain ⟨e1ω, e2ω⟩ := hPω; subst e1ω; subst e2ω; (try dsimp only); (try k_sweep))
  k_with "call ref" => (k_here; (with_reducible show wpAny _ _ (call (Value.ref 201) _) _ _ _); k_dflt (refine' use_ctr (loc_ok _ _ _ _ _ _ _ _ _ _ ?q1 ?q2 ?q3 _ _ _ _ _ _ _ _ _ _ _ _ ?q4 ?q5 ?q6 ?q7 ?q8 ?q9) ?uB ?uF ?uX ?uN ?uT ?uk ?ud ?uu ?_; (case uF => k_asm); (case uB => k_asm); (case uX => k_asm); (case uT => assumption); (case uk => rfl); (case uN => k_asm); (case q1 => (repeat' (first | assumption | exact List.Mem.head _ | refine List.Mem.tail _ ?_))); (case q2 => (repeat' (first | assumption | exact List.Mem.head _ | refine List.Mem.tail _ ?_))); (case q3 => (first | ((repeat' (first | assumption | exact List.Mem.head _ | refine List.Mem.tail _ ?_)); done) | (refine push_mem ?_; (repeat' (first | assumption | exact List.Mem.head _ | refine List.Mem.tail _ ?_)); done))); (case q6 => ((try simp only [List.length_append, List.length_cons, List.length_nil]); omega)); (case q7 => ((try simp only [List.length_append, List.length_cons, List.length_nil]); omega)); (case q8 => (first | assumption | (refine' app_last ?hz; (case hz => omega)))); (case q4 => (repeat' (first | assumption | exact List.Mem.head _ | refine List.Mem.tail _ ?_))); (case q5 => (repeat' (first | assumption | exact List.Mem.head _ | refine List.Mem.tail _ ?_))); (case q9 => ((try simp only [List.length_append, List.length_cons, List.length_nil]); omega)); (case ud => ktr_room); (case uu => ktr_units); k_whole); intro vω hω tkω nω Fω Nω hPω; obtain ⟨e1ω, e2ω⟩ := hPω; subst e1ω; subst e2ω; (try dsimp only); (try k_sweep))
  trivial
theorem put_kid (w : World) (tr dT rl bk : Addr) (tkr : Tok) (vs : List Value) (c : Nat) (rest : Led) (k : Int) (tk : Tok)
   (h1 : (tr, instObj 260 dT) ∈ rest) (h2 : (dT, rowsD w tkr rl) ∈ rest) (h3 : (rl, listOf vs.toArray c) ∈ rest)
   (od : Obj) (kvs : List (Int × Value)) (h5 : (bk, od) ∈ rest) (hod : od.IsDictOf (PySem.intKind PySem.Challenge.rw_xw0201_01.row.prog w) kvs) (lo : (bk == sysModules) = false) (hl : vs.length ≤ 100)
   (a d cc x y : Addr) (t : Nat → Tok) (pk name uri loc pv : Str) (pp : Value) (h4 : (a, instObj 71 d) ∈ rest)
   (k0 : 0 ≤ k) (k1 : k < (vs.length : Int)) (hv : vs[k.toNat]? = some (.ref a)) (bl g : Addr) (u1 u2 : Tok) (bval : Str) (bpp : Value) (nb : Nat) (hva : valueAt kvs k = some (.ref bl))
   (h4' : (d, rowD w t pk name uri loc pv pp cc x y) ∈ rest) (h6 : (bl, listOf [.str pk u1, .str bval u2, bpar, .ref g].toArray nb) ∈ rest)
   (kind value : Str) (tk1 tk2 : Tok)
   (hkd : isPar pk = false)
   (hP : TabH 301 146 11 ("_law_put_right" ++ ".<locals>." ++ "<lambda>" : Str) rest)
 :
   CtrS w 306 [.ref tr, .ref bk, .int k tk, .str kind tk1, .str value tk2] rest 180 720
    (fun v' news' => v' = .bool true ∧ TabH 301 146 11 ("_law_put_right" ++ ".<locals>." ++ "<lambda>" : Str) news' ∧ ∀ p ∈ rest, p ∈ news') := by
  unfold CtrS
  k_fill
  obtain ⟨c9, oc9, vs9, t9, hP1, hP2, hP3, hP4⟩ := hP
  intro p loose mean mg mb dp un gd cn cs aa ccd cl outer A₀ base h₀ g₀ L m s Q E B F X XB N T TB D T0 CT hk hdp hu hret
  obtain ⟨C1, C2, C3, C4⟩ := CT
  refine wpAny_call ?_
  k_dflt (refine' callSC ?k1 ?k2 ?k3 ?k4 ?k5 ?XB ?TB ?D ?T0 ?kA ?kf ?kK ?k6 ?k7 ?k8 ?k9 ?kB ?kD ?_ ?c2 ?c3 ?c4; (case kA => exact rfl); (case kf => exact rfl); (case kK => assumption); (case k2 => k_asm); (case k1 => k_asm); (case XB => assumption); (case TB => assumption); (case D => assumption); (case T0 => assumption); (case k3 => k_asm); (case k4 => k_asm); (case k5 => k_asm); (case k6 => k_is); (case k7 => k_is); (case k8 => ktr_room); (case k9 => exact BindsTo.of_eq rfl); (case kB => exact rfl); (case kD => decide +kernel); (case c2 => exact rfl); (case c3 => exact rfl); (case c4 => exact rfl); k_whole; intro g' L' h' tk' cells' FG' F' N' Y' B' X' T' l1 D'; (try k_lt l1); k_cells Y'; (try simp only [List.cons_append, List.nil_append] at N'); (try dsimp only); (try k_lift B'); (try k_fold))
  k_steps
  unfold Hold
  refine wpAny_mono (Q := fun v s' => Hold (∃ t tk', v = .str (if kind = "element" then "" else value) t ∧ s' = { heap := h', gens := s.gens, drawn := s.drawn, toks := tk', os := s.os })) ?_ (fun v s' hq => ?_) fun _ _ x => x
  · with_reducible refine IfExp_ ?_
    k_steps
    all_goals (unfold Hold; exact ⟨_, _, congrArg (fun z => Value.str z _) (by simp_all), rfl⟩)
  obtain ⟨tv, tk3, rfl, rfl⟩ := hq
  generalize hval : (if kind = ("element" : Str) then ("" : Str) else value) = val
  k_steps
  exact hret _ _ _ _ _ (by assumption) (by k_asm) (by k_asm) (by assumption) (by assumption) (by assumption) (by assumption)
    ⟨rfl, ⟨c9, oc9, vs9, t9, (by repeat' (first | assumption | refine List.Mem.tail _ ?_)), (by repeat' (first | assumption | refine List.Mem.tail _ ?_)), hP3, hP4⟩, fun p hp => by repeat' (first | exact hp | refine List.Mem.tail _ ?_)⟩
end
section
open PySem PySem.W PySem.Calls PyProof.Rows
theorem ln_PutF_0 : True := by
  w_top off
  k_with_none
  k_with "call builtin:len" => (k_here; (with_reducible show wpAny _ _ (call (Value.builtin "len") [Value.ref _]) _ _ _); k_dflt (refine' len_led ?k1 ?k2 ?k3 ?_; (case k1 => k_asm); (case k2 => (repeat' (first | assumption | exact List.Mem.head _ | refine List.Mem.tail _ ?_))); (case k3 => ((try simp only [List.length_cons, List.length_nil, List.length_append, List.length_map]); omega)); k_whole); (try dsimp only))
  k_with "subscriptTail" => (k_here; (with_reducible show wpAny _ _ (subscriptTail _ _ (Value.ref _) (Value.int _ _)) _ _ _); k_dflt (refine' item_led ?k1 ?k2 ?k3 ?k4 ?k5 ?_ ?k6; (case k1 => k_asm); (case k2 => (repeat' (first | assumption | exact List.Mem.head _ | refine List.Mem.tail _ ?_))); (case k3 => omega); (case k4 => omega); (case k5 => (first | assumption | (rw [List.getElem?_append_left (by omega)]; assumption))); (case k6 => with_unfolding_all rfl); k_whole); (try dsimp only))
  k_with "exec Raise some none" => (k_here; (with_reducible show wpAny _ _ (exec (Stmt.Raise (some (Expr.Call (Expr.Name (Str.ofString "TreeFault") _) [Expr.Constant (Const.str _) _ _] [] _)) none _) _) _ _ _); k_dflt (refine' raise_tf ?kB ?kF ?kX ?kN ?kT ?kk ?kx ?kn ?ki ?kf ?kd ?ku ?_; (case kB => k_asm); (case kF => k_asm); (case kX => k_asm); (case kN => k_asm); (case kT => assumption); (case kk => rfl); (case kx => k_is); (case kn => rfl); (case ki => k_is); (case kf => k_is); (case kd => ktr_room); (case ku => ktr_units); k_whole); intro eω tω dω hω tkω Fω Nω neω)
  k_with "leaving ref" => (k_here; k_dflt (refine' leave_led ?kK ?kF ?kN ?kne ?kd ?k1 ?k0 ?_; (case kF => k_asm); (case kN => k_asm); (case kK => k_asm); (case kne => k_asm); (case kd => rfl); (case k1 => rfl); (case k0 => rfl); k_whole); intro hω Sω Rω Uω; (try dsimp only at Sω Rω Uω ⊢))
  k_with "leaving ref" => (k_here; k_dflt (refine' leave_onSN ?k1 ?k2 ?k3 ?k4 ?_; (case k3 => assumption); (case k2 => assumption); (case k1 => assumption); (case k4 => assumption); k_whole); intro hω Sω Rω Uω; (try dsimp only at Sω Rω Uω ⊢))
  k_with "getAttr ref" => (k_here; k_dflt (refine' get_own ?k1 ?k2 ?k3 ?k4 ?k5 ?k6 ?k7 ?k8 ?k9 ?_; (case k1 => k_asm); (case k2 => k_asm); (case k3 => k_inst); (case k4 => k_is); (case k5 => k_is); (case k6 => k_is); (case k7 => k_is); (case k8 => k_get); (case k9 => k_handed); k_whole); (try dsimp only))
  k_with "eval Constant int" => (k_here; refine wpAny_Constant_int ?_; (try dsimp only))
  k_with "eval Constant str" => (k_here; refine Calls.Constant_str ?_; (try dsimp only))
  k_with "call ref" => (k_here; (with_reducible show wpAny _ _ (call (Value.ref 103) _) _ _ _); k_dflt (refine' use_ctr (row_ok _ _ _ _ _ _ _ _ _ _ _ ?q1 ?q2 ?q3 ?q4 ?q5 ?q6 ?q7) ?uB ?uF ?uX ?uN ?uT ?uk ?ud ?uu ?_; (case uF => k_asm); (case uN => k_asm); (case uB => k_asm); (case uX => k_asm); (case uT => assumption); (case uk => rfl); (case q1 => (repeat' (first | assumption | exact List.Mem.head _ | refine List.Mem.tail _ ?_))); (case q2 => (repeat' (first | assumption | exact List.Mem.head _ | refine List.Mem.tail _ ?_))); (case q3 => (first | ((repeat' (first | assumption | exact List.Mem.head _ | refine List.Mem.tail _ ?_)); done) | (refine push_mem ?_; (repeat' (first | assumption | exact List.Mem.head _ | refine List.Mem.tail _ ?_)); done))); (case q4 => omega); (case q5 => (first | omega | ((simp only [List.length_append, List.length_cons, List.length_nil]); omega))); (case q6 => (first | assumption | (rw [List.getElem?_append_left (by omega)]; assumption) | (refine' app_last ?hz; (case hz => omega)))); (case q7 => (first | assumption | ((simp only [List.length_append, List.length_cons, List.length_nil]); omega))); (case ud => ktr_room); (case uu => ktr_units); k_whole); intro vω hω tkω nω Fω Nω hPω; obtain ⟨e1ω, e2ω⟩ := hPω; subst e1ω; subst e2ω; (try dsimp only))
  k_with "call ref" => (k_here; (with_reducible show wpAny _ _ (call (Value.ref 103) _) _ _ _); k_dflt (refine' use_rctr (row_bad _ _ _ _ _ _ _ _ _ _ ?q1 ?q2 ?q3 ?q4 ?q7) ?uB ?uF ?uX ?uN ?uT ?uk ?ud ?uu ?_; (case uF => k_asm); (case uN => k_asm); (case uB => k_asm); (case uX => k_asm); (case uT => assumption); (case uk => rfl); (case q1 => (repeat' (first | assumption | exact List.Mem.head _ | refine List.Mem.tail _ ?_))); (case q2 => (repeat' (first | assumption | exact List.Mem.head _ | refine List.Mem.tail _ ?_))); (case q3 => (first | ((repeat' (first | assumption | exact List.Mem.head _ | refine List.Mem.tail _ ?_)); done) | (refine push_mem ?_; (repeat' (first | assumption | exact List.Mem.head _ | refine List.Mem.tail _ ?_)); done))); (case q4 => omega); (case q7 => assumption); (case ud => ktr_room); (case uu => ktr_units); k_whole); intro eω Gω hω tkω FGω Sω Uω; (try dsimp only))
  k_with "compareOp In str ref" => (k_here; (with_reducible show wpAny _ _ (compareOp CmpOp.In (Value.str _ _) (Value.ref _)) _ _ _); k_dflt (refine' in_parT ?k1 ?k2 ?k3 ?k4 ?_; (case k1 => k_asm); (case k2 => k_asm); (case k3 => k_is); (case k4 => assumption); k_whole))
  k_with "compareOp NotIn str ref" => (k_here; (with_reducible show wpAny _ _ (compareOp CmpOp.NotIn (Value.str _ _) (Value.ref _)) _ _ _); k_dflt (refine' notin_parT ?k1 ?k2 ?k3 ?k4 ?_; (case k1 => k_asm); (case k2 => k_asm); (case k3 => k_is); (case k4 => assumption); k_whole))
  k_with "compareOp In str ref" => (k_here; (with_reducible show wpAny _ _ (compareOp CmpOp.In (Value.str _ _) (Value.ref _)) _ _ _); k_dflt (refine' in_parL ?k1 ?k2 ?k4 ?_; (case k1 => k_asm); (case k2 => k_mem); (case k4 => assumption); k_whole))
  k_with "compareOp In int ref" => (k_here; (with_reducible show wpAny _ _ (compareOp _ (Value.int _ _) (Value.ref _)) _ _ _); k_dflt (refine' bk_in ?kN ?kp ?kd ?kl ?kh ?_; (case kN => k_asm); (case kp => (repeat' (first | assumption | exact List.Mem.head _ | refine List.Mem.tail _ ?_))); (case kd => assumption); (case kl => assumption); (case kh => assumption); k_whole); (try dsimp only))
  k_with "compareOp In int ref" => (k_here; (with_reducible show wpAny _ _ (compareOp _ (Value.int _ _) (Value.ref _)) _ _ _); k_dflt (refine' bk_in0 ?kN ?kp ?kd ?kl ?kh ?_; (case kN => k_asm); (case kp => (repeat' (first | assumption | exact List.Mem.head _ | refine List.Mem.tail _ ?_))); (case kd => assumption); (case kl => assumption); (case kh => assumption); k_whole); (try dsimp only))
  k_with "compareOp NotIn int ref" => (k_here; (with_reducible show wpAny _ _ (compareOp _ (Value.int _ _) (Value.ref _)) _ _ _); k_dflt (refine' bk_notin ?kN ?kp ?kd ?kl ?kh ?_; (case kN => k_asm); (case kp => (repeat' (first | assumption | exact List.Mem.head _ | refine List.Mem.tail _ ?_))); (case kd => assumption); (case kl => assumption); (case kh => assumption); k_whole); (try dsimp only))
  k_with "compareOp NotIn int ref" => (k_here; (with_reducible show wpAny _ _ (compareOp _ (Value.int _ _) (Value.ref _)) _ _ _); k_dflt (refine' bk_notin0 ?kN ?kp ?kd ?kl ?kh ?_; (case kN => k_asm); (case kp => (repeat' (first | assumption | exact List.Mem.head _ | refine List.Mem.tail _ ?_))); (case kd => assumption); (case kl => assumption); (case kh => assumption); k_whole); (try dsimp only))
  k_with "subscriptTail" => (k_here; (with_reducible show wpAny _ _ (subscriptTail _ _ (Value.ref _) (Value.int _ _)) _ _ _); k_dflt (refine' bk_item ?kN ?kp ?kd ?kh ?_ ?k6 ?k7; (case kN => k_asm); (case kp => (repeat' (first | assumption | exact List.Mem.head _ | refine List.Mem.tail _ ?_))); (case kd => assumption); (case kh => (first | assumption | exact valueAt_app (by assumption) (by assumption))); (case k6 => with_unfolding_all rfl); (case k7 => intro _; with_unfolding_all rfl); k_whole); (try dsimp only))
  k_with "getItem ref int" => (k_here; (with_reducible show wpAny _ _ (getItem (Value.ref _) (Value.int _ _)) _ _ _); k_dflt (refine' bk_getItem ?kN ?kp ?kd ?kh ?_; (case kN => k_asm); (case kp => (repeat' (first | assumption | exact List.Mem.head _ | refine List.Mem.tail _ ?_))); (case kd => assumption); (case kh => assumption); k_whole); (try dsimp only))
  k_with "call builtin:len" => (k_here; (with_reducible show wpAny _ _ (call (Value.builtin "len") [Value.ref _]) _ _ _); k_dflt (refine' bk_len ?kN ?kp ?kd ?kl ?kh ?_; (case kN => k_asm); (case kp => (repeat' (first | assumption | exact List.Mem.head _ | refine List.Mem.tail _ ?_))); (case kd => assumption); (case kl => assumption); (case kh => assumption); k_whole); (try dsimp only))
  k_with "setItem ref int" => (k_here; (with_reducible show wpAny _ _ (setItem (Value.ref _) (Value.int _ _) _) _ _ _); k_dflt (refine' bk_set ?kF ?kN ?kU ?kd ?kl ?_; (case kF => k_asm); (case kN => k_asm); (case kU => k_updF); (case kd => assumption); (case kl => assumption); k_whole); intro hω oω Fω Nω hdω; (try dsimp only at Nω))
  k_with "leaving ref" => (k_here; k_dflt (refine' leave_onX ?kf ?k1 ?k2 ?k3 ?k4 ?_; (case kf => exact rfl); (case k3 => assumption); (case k2 => assumption); (case k1 => assumption); (case k4 => assumption); k_whole); intro hω Sω Rω Uω; (try dsimp only at Sω Rω Uω ⊢))
  k_with "call ref" => (k_here; (with_reducible show wpAny _ _ (call (Value.ref 173) _) _ _ _); k_dflt (refine' use_rctr (setv_bad _ _ _ _ _ _ _ _ _ _ _ _ ?q1 ?q2 ?q3 ?q4 ?q5) ?uB ?uF ?uX ?uN ?uT ?uk ?ud ?uu ?_; (case uF => k_asm); (case uN => k_asm); (case uB => k_asm); (case uX => k_asm); (case uT => assumption); (case uk => rfl); (case q1 => (repeat' (first | assumption | exact List.Mem.head _ | refine List.Mem.tail _ ?_))); (case q2 => (repeat' (first | assumption | exact List.Mem.head _ | refine List.Mem.tail _ ?_))); (case q3 => (repeat' (first | assumption | exact List.Mem.head _ | refine List.Mem.tail _ ?_))); (case q4 => (first | omega | assumption)); (case q5 => assumption); (case ud => ktr_room); (case uu => ktr_units); k_whole); intro eω Gω hω tkω FGω Sω Uω; (try dsimp only))
  k_with "call ref" => (k_here; (with_reducible show wpAny _ _ (call (Value.ref 173) _) _ _ _); k_dflt (refine' use_rctr (setv_par _ _ _ _ _ _ _ _ _ _ _ _ ?q1 ?q2 ?q3 _ _ _ _ _ _ _ _ _ _ _ _ ?q4 ?q5 ?q6 ?q7 ?q8 ?q9 ?q0) ?uB ?uF ?uX ?uN ?uT ?uk ?ud ?uu ?_; (case uF => k_asm); (case uN => k_asm); (case uB => k_asm); (case uX => k_asm); (case uT => assumption); (case uk => rfl); (case q1 => (repeat' (first | assumption | exact List.Mem.head _ | refine List.Mem.tail _ ?_))); (case q2 => (repeat' (first | assumption | exact List.Mem.head _ | refine List.Mem.tail _ ?_))); (case q3 => (repeat' (first | assumption | exact List.Mem.head _ | refine List.Mem.tail _ ?_))); (case q6 => omega); (case q7 => omega); (case q8 => assumption); (case q4 => (repeat' (first | assumption | exact List.Mem.head _ | refine List.Mem.tail _ ?_))); (case q5 => (repeat' (first | assumption | exact List.Mem.head _ | refine List.Mem.tail _ ?_))); (case q9 => assumption); (case q0 => assumption); (case ud => ktr_room); (case uu => ktr_units); k_whole); intro eω Gω hω tkω FGω Sω Uω; (try dsimp only))
  k_with "call ref" => (k_here; (with_reducible show wpAny _ _ (call (Value.ref 117) _) _ _ _); k_dflt (refine' use_rctr (add_bad _ _ _ _ _ _ _ _ _ _ _ _ _ _ _ _ _ _ _ _ ?q1 ?q2 ?q3 ?q4 ?q5) ?uB ?uF ?uX ?uN ?uT ?uk ?ud ?uu ?_; (case uF => k_asm); (case uN => k_asm); (case uB => k_asm); (case uX => k_asm); (case uT => assumption); (case uk => rfl); (case q1 => (repeat' (first | assumption | exact List.Mem.head _ | refine List.Mem.tail _ ?_))); (case q2 => (repeat' (first | assumption | exact List.Mem.head _ | refine List.Mem.tail _ ?_))); (case q3 => (repeat' (first | assumption | exact List.Mem.head _ | refine List.Mem.tail _ ?_))); (case q4 => (first | omega | assumption)); (case q5 => assumption); (case ud => ktr_room); (case uu => ktr_units); k_whole); intro eω Gω hω tkω FGω Sω Uω; (try dsimp only))
  k_with "call ref" => (k_here; (with_reducible show wpAny _ _ (call (Value.ref 117) _) _ _ _); k_dflt (refine' use_rctr (add_kid _ _ _ _ _ _ _ _ _ _ _ _ _ _ _ _ _ _ _ _ ?q1 ?q2 ?q3 _ _ _ _ _ _ _ _ _ _ _ _ ?q4 ?q5 ?q6 ?q7 ?q8 ?q9 ?q0) ?uB ?uF ?uX ?uN ?uT ?uk ?ud ?uu ?_; (case uF => k_asm); (case uN => k_asm); (case uB => k_asm); (case uX => k_asm); (case uT => assumption); (case uk => rfl); (case q1 => (repeat' (first | assumption | exact List.Mem.head _ | refine List.Mem.tail _ ?_))); (case q2 => (repeat' (first | assumption | exact List.Mem.head _ | refine List.Mem.tail _ ?_))); (case q3 => (repeat' (first | assumption | exact List.Mem.head _ | refine List.Mem.tail _ ?_))); (case q6 => omega); (case q7 => omega); (case q8 => assumption); (case q4 => (repeat' (first | assumption | exact List.Mem.head _ | refine List.Mem.tail _ ?_))); (case q5 => (repeat' (first | assumption | exact List.Mem.head _ | refine List.Mem.tail _ ?_))); (case q9 => assumption); (case q0 => assumption); (case ud => ktr_room); (case uu => ktr_units); k_whole); intro eω Gω hω tkω FGω Sω Uω; (try dsimp only))
  k_with "call ref" => (k_here; (with_reducible show wpAny _ _ (call (Value.ref 152) _) _ _ _); k_dflt (refine' use_rctr (erow_bad _ _ _ _ _ _ _ _ _ _ ?q1 ?q2 ?q3 ?q4 ?q5) ?uB ?uF ?uX ?uN ?uT ?uk ?ud ?uu ?_; (case uF => k_asm); (case uN => k_asm); (case uB => k_asm); (case uX => k_asm); (case uT => assumption); (case uk => rfl); (case q1 => (repeat' (first | assumption | exact List.Mem.head _ | refine List.Mem.tail _ ?_))); (case q2 => (repeat' (first | assumption | exact List.Mem.head _ | refine List.Mem.tail _ ?_))); (case q3 => (repeat' (first | assumption | exact List.Mem.head _ | refine List.Mem.tail _ ?_))); (case q4 => (first | omega | assumption)); (case q5 => assumption); (case ud => ktr_room); (case uu => ktr_units); k_whole); intro eω Gω hω tkω FGω Sω Uω; (try dsimp only))
  k_with "call ref" => (k_here; (with_reducible show wpAny _ _ (call (Value.ref 152) _) _ _ _); k_dflt (refine' use_rctr (erow_no _ _ _ _ _ _ _ _ _ _ ?q1 ?q2 ?q3 _ _ _ _ _ _ _ _ _ _ _ _ ?q4 ?q5 ?q6 ?q7 ?q8 ?q9 ?q0) ?uB ?uF ?uX ?uN ?uT ?uk ?ud ?uu ?_; (case uF => k_asm); (case uN => k_asm); (case uB => k_asm); (case uX => k_asm); (case uT => assumption); (case uk => rfl); (case q1 => (repeat' (first | assumption | exact List.Mem.head _ | refine List.Mem.tail _ ?_))); (case q2 => (repeat' (first | assumption | exact List.Mem.head _ | refine List.Mem.tail _ ?_))); (case q3 => (repeat' (first | assumption | exact List.Mem.head _ | refine List.Mem.tail _ ?_))); (case q6 => omega); (case q7 => omega); (case q8 => assumption); (case q4 => (repeat' (first | assumption | exact List.Mem.head _ | refine List.Mem.tail _ ?_))); (case q5 => (repeat' (first | assumption | exact List.Mem.head _ | refine List.Mem.tail _ ?_))); (case q9 => assumption); (case q0 => assumption); (case ud => ktr_room); (case uu => ktr_units); k_whole); intro eω Gω hω tkω FGω Sω Uω; (try dsimp only))
  k_with "call ref" => (k_here; (with_reducible show wpAny _ _ (call (Value.ref 180) _) _ _ _); k_dflt (refine' use_rctr (kind_bad _ _ _ _ _ _ _ _ _ _ ?q1 ?q2 ?q3 ?q4 ?q5) ?uB ?uF ?uX ?uN ?uT ?uk ?ud ?uu ?_; (case uF => k_asm); (case uN => k_asm); (case uB => k_asm); (case uX => k_asm); (case uT => assumption); (case uk => rfl); (case q1 => (repeat' (first | assumption | exact List.Mem.head _ | refine List.Mem.tail _ ?_))); (case q2 => (repeat' (first | assumption | exact List.Mem.head _ | refine List.Mem.tail _ ?_))); (case q3 => (repeat' (first | assumption | exact List.Mem.head _ | refine List.Mem.tail _ ?_))); (case q4 => (first | omega | assumption)); (case q5 => assumption); (case ud => ktr_room); (case uu => ktr_units); k_whole); intro eω Gω hω tkω FGω Sω Uω; (try dsimp only))
  k_with "call ref" => (k_here; (with_reducible show wpAny _ _ (call (Value.ref 292) _) _ _ _); k_dflt (refine' use_ctrS (refused_raise _ _ _ ?qf ?qc) ?uB ?uF ?uX ?uXB ?uN ?uT ?uTB ?uD ?uT0 ?uCT ?uk ?ud ?uu ?_; (case uF => k_asm); (case uN => k_asm); (case uB => k_asm); (case uX => k_asm); (case uXB => assumption); (case uT => assumption); (case uTB => assumption); (case uD => assumption); (case uT0 => first | assumption | exact KtsTurn.refl); (case uCT => exact ⟨by assumption, by assumption, by assumption, by assumption⟩); (case uk => rfl); (case ud => ktr_room); (case uu => ktr_units); (case qf => (repeat' (first | assumption | exact List.Mem.head _ | refine List.Mem.tail _ ?_))); (case qc => (unfold RCtr; intro p9 loose9 mean9 mg9 mb9 dp9 un9 gd9 cn9 cs9 aa9 ccd9 cl9 outer9 A9 base9 h9 L9 m9 s9 Q9 E9 B9 F9 X9 N9 T9 hk9 hd9 hu9 hret9; refine wpAny_call ?_; k_dflt (refine' kla_code ?k1 ?k2 ?k3 ?k4 ?k5 ?kA ?kF ?kK ?k6 ?k7 ?k8 ?k9 ?kB ?_ ?c2 ?c3 ?c4 ?c5; (case kA => exact rfl); (case kF => exact rfl); (case kK => assumption); (case k1 => k_asm); (case k2 => k_asm); (case k3 => k_asm); (case k4 => k_asm); (case k5 => k_asm); (case k6 => k_mem); (case k7 => exact codeRec_news (by k_asm) (by k_mem) (by assumption) (by assumption)); (case k8 => ktr_room); (case k9 => exact rfl); (case c5 => decide); (case kB => exact locs rfl); (case c2 => exact rfl); (case c3 => exact rfl); (case c4 => exact rfl); k_whole; intro gω Lω hω FGω Fω Nω Bω Xω Tω; (try dsimp only); (try k_lift Bω); (try k_fold)); k_steps; all_goals exact hret9 _ _ _ _ (by k_asm) (by k_asm) (by k_asm))); k_whole); intro vω hω tkω nω gωω KTω Fω Nω Bω Xω Pω Dω hPω; obtain ⟨e1ω, e2ω⟩ := hPω; subst e1ω; subst e2ω; (try dsimp only))
  k_with "compareOp Eq ref ref" => (k_here; (with_reducible show wpAny _ _ (compareOp _ (Value.ref _) (Value.ref _)) _ _ _); k_dflt (refine' tup_eq ?kN ?k1 ?k2 ?ku ?ke ?_; (case kN => k_asm); (case k1 => (repeat' (first | assumption | exact List.Mem.head _ | refine List.Mem.tail _ ?_))); (case k2 => (repeat' (first | assumption | exact List.Mem.head _ | refine List.Mem.tail _ ?_))); (case ku => ktr_units); (case ke => (repeat' (first | exact SameL.nil | refine SameL.cons ?_ ?_ | exact PySem.SeqAt.EqAt.same _ | (refine (?q9 : ∀ (A : Around) (s : Shared), PySem.SeqAt.EqAt A s _ _ true) _ _; assumption) | exact same_str _ _ _ | exact same_int _ _ _ | exact same_ints (isList_of (by k_asm) (by repeat' (first | assumption | exact List.Mem.head _ | refine List.Mem.tail _ ?_))) (isList_of (by k_asm) (by repeat' (first | assumption | exact List.Mem.head _ | refine List.Mem.tail _ ?_))) (by assumption) (by assumption) (by ktr_units)))); k_whole); (try dsimp only))
  k_with "compareOp NotEq ref ref" => (k_here; (with_reducible show wpAny _ _ (compareOp _ (Value.ref _) (Value.ref _)) _ _ _); k_dflt (refine' tup_ne ?kN ?k1 ?k2 ?ku ?ke ?_; (case kN => k_asm); (case k1 => (repeat' (first | assumption | exact List.Mem.head _ | refine List.Mem.tail _ ?_))); (case k2 => (repeat' (first | assumption | exact List.Mem.head _ | refine List.Mem.tail _ ?_))); (case ku => ktr_units); (case ke => (repeat' (first | exact SameL.nil | refine SameL.cons ?_ ?_ | exact PySem.SeqAt.EqAt.same _ | (refine (?q9 : ∀ (A : Around) (s : Shared), PySem.SeqAt.EqAt A s _ _ true) _ _; assumption) | exact same_str _ _ _ | exact same_int _ _ _ | exact same_ints (isList_of (by k_asm) (by repeat' (first | assumption | exact List.Mem.head _ | refine List.Mem.tail _ ?_))) (isList_of (by k_asm) (by repeat' (first | assumption | exact List.Mem.head _ | refine List.Mem.tail _ ?_))) (by assumption) (by assumption) (by ktr_units)))); k_whole); (try dsimp only))
  k_with "eval IfExp" => (k_here; refine hold_ ?_)
  k_with "compareOp NotEq int int" => (k_here; k_dflt (refine' ne_int_same ?ka ?_; (case ka => ((try simp only [List.length_append, List.length_cons, List.length_nil]); omega)); k_whole); (try dsimp only))
  k_with "call ref" => (k_here; (with_reducible show wpAny _ _ (call (Value.ref 117) _) _ _ _); k_dflt (refine' use_ctr (add_parP _ ?q1 ?q2 ?q3 ?q4 ?q5 ?p1 ?p2 ?q6 ?q7 ?q8 ?q9 ?q0 ?qa ?qb ?qc) ?uB ?uF ?uX ?uN ?uT ?uk ?ud ?uu ?_; (case uF => k_asm); (case uB => k_asm); (case uX => k_asm); (case uT => assumption); (case uk => rfl); (case uN => k_asm); (case q1 => (repeat' (first | assumption | exact List.Mem.head _ | refine List.Mem.tail _ ?_))); (case q2 => (repeat' (first | assumption | exact List.Mem.head _ | refine List.Mem.tail _ ?_))); (case q3 => assumption); (case q4 => (repeat' (first | assumption | exact List.Mem.head _ | refine List.Mem.tail _ ?_))); (case q5 => (repeat' (first | assumption | exact List.Mem.head _ | refine List.Mem.tail _ ?_))); (case p1 => (repeat' (first | exact Pull.head | refine' Pull.tail ?_))); (case p2 => (repeat' (first | exact Pull.head | refine' Pull.tail ?_))); (case q6 => k_all); (case q7 => k_all); (case q8 => omega); (case q9 => omega); (case q0 => omega); (case qa => omega); (case qb => assumption); (case qc => assumption); (case ud => ktr_room); (case uu => ktr_units); k_whole); intro vω hω tkω nω Fω Nω hPω; k_dflt (obtain ⟨dω, aω, ccω, xω, yω, odω, tk2ω, n2ω, n3ω, e1ω, e2ω, ⟨tω, e3ω⟩, hqω⟩ := hPω); subst e1ω; subst e2ω; subst e3ω; have l6ω := hqω; k_dflt (obtain ⟨l1ω, l2ω, l3ω, l4ω, l5ω⟩ := l6ω); (try simp only [AllLt] at l1ω); (try simp only [AllLt] at l3ω); (try simp only [AllLt] at l4ω); (try simp only [AllLt] at l5ω); (try dsimp only); (try k_sweep))
  k_with "call ref" => (k_here; (with_reducible show wpAny _ _ (call (Value.ref 117) _) _ _ _); k_dflt (refine' use_ctr (add_noneP _ ?q1 ?q2 ?p1 ?q6 ?qa) ?uB ?uF ?uX ?uN ?uT ?uk ?ud ?uu ?_; (case uF => k_asm); (case uB => k_asm); (case uX => k_asm); (case uT => assumption); (case uk => rfl); (case uN => k_asm); (case q1 => (repeat' (first | assumption | exact List.Mem.head _ | refine List.Mem.tail _ ?_))); (case q2 => (repeat' (first | assumption | exact List.Mem.head _ | refine List.Mem.tail _ ?_))); (case p1 => (repeat' (first | exact Pull.head | refine' Pull.tail ?_))); (case q6 => k_all); (case qa => omega); (case ud => ktr_room); (case uu => ktr_units); k_whole); intro vω hω tkω nω Fω Nω hPω; k_dflt (obtain ⟨dω, aω, ccω, xω, yω, odω, tk2ω, n2ω, e1ω, e2ω, ⟨tω, e3ω⟩, hqω⟩ := hPω); subst e1ω; subst e2ω; subst e3ω; have l6ω := hqω; k_dflt (obtain ⟨l1ω, l2ω, l3ω, l4ω, l5ω⟩ := l6ω); (try simp only [AllLt] at l1ω); (try simp only [AllLt] at l3ω); (try simp only [AllLt] at l4ω); (try simp only [AllLt] at l5ω); (try dsimp only); (try k_sweep))
  k_with "call ref" => (k_here; (with_reducible show wpAny _ _ (call (Value.ref 187) _) _ _ _); k_dflt (refine' use_ctr (name_ok _ _ _ _ _ _ _ _ _ _ ?q1 ?q2 ?q3 _ _ _ _ _ _ _ _ _ _ _ _ ?q4 ?q5 ?q6 ?q7 ?q8 ?q9) ?uB ?uF ?uX ?uN ?uT ?uk ?ud ?uu ?_; (case uF => k_asm); (case uB => k_asm); (case uX => k_asm); (case uT => assumption); (case uk => rfl); (case uN => k_asm); (case q1 => (repeat' (first | assumption | exact List.Mem.head _ | refine List.Mem.tail _ ?_))); (case q2 => (repeat' (first | assumption | exact List.Mem.head _ | refine List.Mem.tail _ ?_))); (case q3 => (first | ((repeat' (first | assumption | exact List.Mem.head _ | refine List.Mem.tail _ ?_)); done) | (refine push_mem ?_; (repeat' (first | assumption | exact List.Mem.head _ | refine List.Mem.tail _ ?_)); done))); (case q6 => ((try simp only [List.length_append, List.length_cons, List.length_nil]); omega)); (case q7 => ((try simp only [List.length_append, List.length_cons, List.length_nil]); omega)); (case q8 => (first | assumption | (refine' app_last ?hz; (case hz => omega)))); (case q4 => (repeat' (first | assumption | exact List.Mem.head _ | refine List.Mem.tail _ ?_))); (case q5 => (repeat' (first | assumption | exact List.Mem.head _ | refine List.Mem.tail _ ?_))); (case q9 => ((try simp only [List.length_append, List.length_cons, List.length_nil]); omega)); (case ud => ktr_room); (case uu => ktr_units); k_whole); intro vω hω tkω nω Fω Nω hPω; obtain ⟨e1ω, e2ω⟩ := hPω; subst e1ω; subst e2ω; (try dsimp only); (try k_sweep))
  k_with "call ref" => (k_here; (with_reducible show wpAny _ _ (call (Value.ref 194) _) _ _ _); k_dflt (refine' use_ctr (uri_ok _ _ _ _ _ _ _ _ _ _ ?q1 ?q2 ?q3 _ _ _ _ _ _ _ _ _ _ _ _ ?q4 ?q5 ?q6 ?q7 ?q8 ?q9) ?uB ?uF ?uX ?uN ?uT ?uk ?ud ?uu ?_; (case uF => k_asm); (case uB => k_asm); (case uX => k_asm); (case uT => assumption); (case uk => rfl); (case uN => k_asm); (case q1 => (repeat' (first | assumption | exact List.Mem.head _ | refine List.Mem.tail _ ?_))); (case q2 => (repeat' (first | assumption | exact List.Mem.head _ | refine List.Mem.tail _ ?_))); (case q3 => (first | ((repeat' (first | assumption | exact List.Mem.head _ | refine List.Mem.tail _ ?_)); done) | (refine push_mem ?_; (repeat' (first | assumption | exact List.Mem.head _ | refine List.Mem.tail _ ?_)); done))); (case q6 => ((try simp only [List.length_append, List.length_cons, List.length_nil]); omega)); (case q7 => ((try simp only [List.length_append, List.length_cons, List.length_nil]); omega)); (case q8 => (first | assumption | (refine' app_last ?hz; (case hz => omega)))); (case q4 => (repeat' (first | assumption | exact List.Mem.head _ | refine List.Mem.tail _ ?_))); (case q5 => (repeat' (first | assumption | exact List.Mem.head _ | refine List.Mem.tail _ ?_))); (case q9 => ((try simp only [List.length_append, List.length_cons, List.length_nil]); omega)); (case ud => ktr_room); (case uu => ktr_units); k_whole); intro vω hω tkω nω Fω Nω hPω; obtain ⟨e1ω, e2ω⟩ := hPω; subst e1ω; subst e2ω; (try dsimp only); (try k_sweep))
  k_with "call ref" => (k_here; (with_reducible show wpAny _ _ (call (Value.ref 201) _) _ _ _); k_dflt (refine' use_ctr (loc_ok _ _ _ _ _ _ _ _ _ _ ?q1 ?q2 ?q3 _ _ _ _ _ _ _ _ _ _ _ _ ?q4 ?q5 ?q6 ?q7 ?q8 ?q9) ?uB ?uF ?uX ?uN ?uT ?uk ?ud ?uu ?_; (case uF => k_asm); (case uB => k_asm); (case uX => k_asm); (case uT => assumption); (case uk => rfl); (case uN => k_asm); (case q1 => (repeat' (first | assumption | exact List.Mem.head _ | refine List.Mem.tail _ ?_))); (case q2 => (repeat' (first | assumption | exact List.Mem.head _ | refine List.Mem.tail _ ?_))); (case q3 => (first | ((repeat' (first | assumption | exact List.Mem.head _ | refine List.Mem.tail _ ?_)); done) | (refine push_mem ?_; (repeat' (first | assumption | exact List.Mem.head _ | refine List.Mem.tail _ ?_)); done))); (case q6 => ((try simp only [List.length_append, List.length_cons, List.length_nil]); omega)); (case q7 => ((try simp only [List.length_append, List.length_cons, List.length_nil]); omega)); (case q8 => (first | assumption | (refine' app_last ?hz; (case hz => omega)))); (case q4 => (repeat' (first | assumption | exact List.Mem.head _ | refine List.Mem.tail _ ?_))); (case q5 => (repeat' (first | assumption | exact List.Mem.head _ | refine List.Mem.tail _ ?_))); (case q9 => ((try simp only [List.length_append, List.length_cons, List.length_nil]); omega)); (case ud => ktr_room); (case uu => ktr_units); k_whole); intro vω hω tkω nω Fω Nω hPω; obtain ⟨e1ω, e2ω⟩ := hPω; subst e1ω; subst e2ω; (try dsimp only); (try k_sweep))
  trivial
theorem put_bad (w : World) (tr dT rl bk : Addr) (tkr : Tok) (vs : List Value) (c : Nat) (rest : Led) (k : Int) (tk : Tok)
   (h1 : (tr, instObj 260 dT) ∈ rest) (h2 : (dT, rowsD w tkr rl) ∈ rest) (h3 : (rl, listOf vs.toArray c) ∈ rest)
   (od : Obj) (kvs : List (Int × Value)) (h5 : (bk, od) ∈ rest) (hod : od.IsDictOf (PySem.intKind PySem.Challenge.rw_xw0201_01.row.prog w) kvs) (lo : (bk == sysModules) = false) (hl : vs.length ≤ 100)
   (kind value : Str) (tk1 tk2 : Tok)
   (hk : k < 0 ∨ (vs.length : Int) ≤ k) (hva : valueAt kvs k = none)
   (hP : TabH 301 146 11 ("_law_put_right" ++ ".<locals>." ++ "<lambda>" : Str) rest)
 :
   CtrS w 306 [.ref tr, .ref bk, .int k tk, .str kind tk1, .str value tk2] rest 180 720
    (fun v' news' => v' = .bool true ∧ TabH 301 146 11 ("_law_put_right" ++ ".<locals>." ++ "<lambda>" : Str) news' ∧ ∀ p ∈ rest, p ∈ news') := by
  unfold CtrS
  k_fill
  obtain ⟨c9, oc9, vs9, t9, hP1, hP2, hP3, hP4⟩ := hP
  intro p loose mean mg mb dp un gd cn cs aa ccd cl outer A₀ base h₀ g₀ L m s Q E B F X XB N T TB D T0 CT hk hdp hu hret
  obtain ⟨C1, C2, C3, C4⟩ := CT
  refine wpAny_call ?_
  k_dflt (refine' callSC ?k1 ?k2 ?k3 ?k4 ?k5 ?XB ?TB ?D ?T0 ?kA ?kf ?kK ?k6 ?k7 ?k8 ?k9 ?kB ?kD ?_ ?c2 ?c3 ?c4; (case kA => exact rfl); (case kf => exact rfl); (case kK => assumption); (case k2 => k_asm); (case k1 => k_asm); (case XB => assumption); (case TB => assumption); (case D => assumption); (case T0 => assumption); (case k3 => k_asm); (case k4 => k_asm); (case k5 => k_asm); (case k6 => k_is); (case k7 => k_is); (case k8 => ktr_room); (case k9 => exact BindsTo.of_eq rfl); (case kB => exact rfl); (case kD => decide +kernel); (case c2 => exact rfl); (case c3 => exact rfl); (case c4 => exact rfl); k_whole; intro g' L' h' tk' cells' FG' F' N' Y' B' X' T' l1 D'; (try k_lt l1); k_cells Y'; (try simp only [List.cons_append, List.nil_append] at N'); (try dsimp only); (try k_lift B'); (try k_fold))
  k_steps
  unfold Hold
  refine wpAny_mono (Q := fun v s' => Hold (∃ t tk', v = .str (if kind = "element" then "" else value) t ∧ s' = { heap := h', gens := s.gens, drawn := s.drawn, toks := tk', os := s.os })) ?_ (fun v s' hq => ?_) fun _ _ x => x
  · with_reducible refine IfExp_ ?_
    k_steps
    all_goals (unfold Hold; exact ⟨_, _, congrArg (fun z => Value.str z _) (by simp_all), rfl⟩)
  obtain ⟨tv, tk3, rfl, rfl⟩ := hq
  generalize hval : (if kind = ("element" : Str) then ("" : Str) else value) = val
  k_steps
  exact hret _ _ _ _ _ (by assumption) (by k_asm) (by k_asm) (by assumption) (by assumption) (by assumption) (by assumption)
    ⟨rfl, ⟨c9, oc9, vs9, t9, (by repeat' (first | assumption | refine List.Mem.tail _ ?_)), (by repeat' (first | assumption | refine List.Mem.tail _ ?_)), hP3, hP4⟩, fun p hp => by repeat' (first | exact hp | refine List.Mem.tail _ ?_)⟩
end
section
open PySem PySem.W PySem.Calls PyProof.Rows
abbrev upto (n : Nat) : List Int := (List.range n).map fun i : Nat => (i : Int)
theorem upto_sorted (n : Nat) : (upto n).Pairwise (· ≤ ·) := by
  unfold upto
  rw [List.pairwise_map]
  exact (List.pairwise_lt_range (n := n)).imp fun h => by omega
theorem ints_of {n : Nat} : ∀ {vs : List Value} (k : Nat), (∀ (j : Nat) (v : Value), vs[j]? = some v → ∃ t, v = .int ((k + j : Nat) : Int) t) → vs.length = n → IntsAre vs ((List.range' k n).map fun i : Nat => (i : Int)) := by
  induction n with
  | zero => intro vs k h hl; rw [List.length_eq_zero_iff] at hl; subst hl; exact .nil
  | succ n ih =>
    intro vs k h hl
    cases vs with
    | nil => simp at hl
    | cons v r =>
      obtain ⟨t, rfl⟩ := h 0 v rfl
      rw [List.range'_succ, List.map_cons]
      refine .cons _ _ (ih (k + 1) (fun j v hv => ?_) (by simpa using hl))
      obtain ⟨t, e⟩ := h (j + 1) v (by simpa using hv)
      exact ⟨t, by rw [e]; congr 1; omega⟩
section
variable {prog : Program} {w : World} {A : Around} {E : Value → Shared → Prop} {s : Shared} {h₀ : Heap} {L D bk : Addr} {m : Str → Option Value} {news rest : Led} {od : Obj} {kvs : List (Int × Value)} {Q : Value → Shared → Prop}
theorem lsort_led {vs : List Value} {ns : List Int} {n : Nat} (F : Fr h₀ L s.heap m) (N : News h₀ L s.heap ((D, listOf vs.toArray n) :: rest)) (hD : ∀ p ∈ rest, p.1 ≠ D) (hi : IntsAre vs ns) (hs : ns.Pairwise (· ≤ ·)) (hpos : 0 < vs.length) (h64 : vs.length < 64)
    (h : ∀ vs' c h', Fr h₀ L h' m → News h₀ L h' ((D, listOf vs'.toArray c) :: rest) → IntsAre vs' ns → Q .none { s with heap := h' }) :
    wpAny (model prog w) A (call (.builtin "list.sort") [.ref D]) Q E s := by
  have z := N _ (.head _)
  refine wpAny_call_entry PyProof.Rows.slot_list_sort ⟨_, z.1, rfl⟩ PyProof.Rows.entry_list_sort (list_sort_tree (n := n) (vs := vs) z.1 hi h64 fun out ns' hI hp hP => ⟨.none, rfl, ?_⟩) (PyProof.Rows.args_list_sort _)
  have hns : ns' = ns := lks_uniq hp hP hs
  subst hns
  have hlen : out.size ≠ 0 := by
    have h1 := hI.length
    have h2 := hi.length
    have h4 : out.toList.length = out.size := Array.length_toList
    omega
  have hv : vs.toArray.size ≠ 0 := by simp; intro e; subst e; simp at hpos
  have F1 : Fr h₀ L (s.heap.update D (Obj.mapSeq fun _ => (#[] : Array Value))) m := F.change (Heap.SameBut.update ..) z.2.1 z.2.2
  have N1 := ki_turn (pre := []) (fun _ => (#[] : Array Value)) (its' := #[]) (n' := n + 1) N (fun _ hp => nomatch hp) hD rfl (by rw [if_neg (by simpa using fun h => hv h.symm)])
  have N2 := News.grown N1 fun _ _ e => Heap.get?_push_of_some (seqObj "tuple" vs.toArray 0) e
  have N3 := News.grown N2 fun _ _ e => Heap.get?_push_of_some (seqObj "list" #[] 0) e
  have N4 := ki_turn (pre := []) (fun _ => out) (its' := out) (n' := n + 2) N3 (fun _ hp => nomatch hp) hD rfl (by rw [if_neg (by simpa using hlen)])
  have F4 : Fr h₀ L ((((s.heap.update D (Obj.mapSeq fun _ => (#[] : Array Value))).push (seqObj "tuple" vs.toArray 0)).push (seqObj "list" #[] 0)).update D (Obj.mapSeq fun _ => out)) m :=
    ((F1.push (seqObj "tuple" vs.toArray 0)).push (seqObj "list" #[] 0)).change (Heap.SameBut.update ..) z.2.1 z.2.2
  refine h out.toList (n + 2) _ F4 ?_ hI
  rw [Array.toArray_toList]
  exact N4
theorem sorted_bk (hh : A.handled = none) (F : Fr h₀ L s.heap m) (N : News h₀ L s.heap news) (hp : (bk, od) ∈ news) (hod : od.IsDictOf (PySem.intKind prog w) kvs) (lo : (bk == sysModules) = false) (hn : kvs.length < 64) (hpos : 0 < kvs.length)
    (hk : ∀ (i : Nat) (k : Int) (x : Value), kvs[i]? = some (k, x) → k = (i : Int))
    (h : ∀ D vs c h' tk, Fr h₀ L h' m → News h₀ L h' ((D, listOf vs.toArray c) :: news) → (∀ q ∈ news, q.1 < D) → IntsAre vs (upto kvs.length) → Q (.ref D) { s with heap := h', toks := tk }) :
    wpAny (model prog w) A (call (.builtin "sorted") [.ref bk]) Q E s := by
  obtain ⟨ep, hat⟩ := KdkAt.of hod
  refine kdu_sorted (kdl_dict (knd := PySem.intKind prog w) (kvs := kvs) (ep := ep) lo) hh F N (hat.dictAt (N _ hp).1) (by rw [sizeLine_eq]; omega) fun D h' tk vs F' N' l1 hl hv => ?_
  have hi : IntsAre vs (upto kvs.length) := by
    have := ints_of (n := kvs.length) (vs := vs) 0 (fun j v hj => by
      obtain ⟨k, x, hx, hkk⟩ := hv j v hj
      obtain ⟨t, e⟩ := Value.isInt_shape hkk
      refine ⟨t, ?_⟩
      rw [e, hk j k x hx, Nat.zero_add]) hl
    rwa [← List.range_eq_range'] at this
  refine lsort_led (s := { s with heap := h', toks := tk }) F' N' (fun p hp => Nat.ne_of_lt (l1 p hp)) hi (upto_sorted _) (by omega) (by omega) fun vs' c h'' F'' N'' hi' => ?_
  exact h D vs' c h'' tk F'' N'' l1 hi'
end
end
section
open PySem PySem.W PySem.Calls PyProof.Rows PySem.SeqAt
theorem neA {a b : Addr} (h : @Ne Nat a b) : a ≠ b := h
/-- a node: its row in the tree and its line in the book -/
structure Nd where
  a : Addr
  d : Addr
  c : Addr
  x : Addr
  y : Addr
  b : Addr
  g : Addr
  t : Nat → Tok
  kind : Str
  name : Str
  uri : Str
  loc : Str
  val : Str
  u1 : Tok
  u2 : Tok
  par : Option Int
  tp : Tok
  tq : Tok
  ch : List Int
  cv : List Value
  gv : List Value
  nc : Nat
  nb : Nat
  ng : Nat
abbrev parV (o : Option Int) (t : Tok) : Value := match o with
  | none => .none
  | some k => .int k t
theorem parV_or (o : Option Int) (t : Tok) : parV o t = .none ∨ ∃ i ti, parV o t = .int i ti := by
  cases o with
  | none => exact .inl rfl
  | some k => exact .inr ⟨k, t, rfl⟩
theorem parV_handed (o : Option Int) (t : Tok) : handedIn (parV o t) = true := by cases o <;> rfl
theorem parV_same (o : Option Int) (t u : Tok) (A : Around) (s : Shared) : EqAt A s (parV o t) (parV o u) true := by
  cases o with
  | none => exact EqAt.same _
  | some k => exact same_int _ _ _
abbrev Nd.rowO (w : World) (r : Nd) : Obj := rowD w r.t r.kind r.name r.uri r.loc r.val (parV r.par r.tp) r.c r.x r.y
abbrev Nd.lineO (r : Nd) : Obj := listOf [.str r.kind r.u1, .str r.val r.u2, parV r.par r.tq, .ref r.g].toArray r.nb
def Nd.led (w : World) (r : Nd) : Led := [(r.a, instObj 71 r.d), (r.d, r.rowO w), (r.c, listOf r.cv.toArray r.nc), (r.b, r.lineO), (r.g, listOf r.gv.toArray r.ng)]
structure Sto where
  tr : Addr
  dT : Addr
  rl : Addr
  bk : Addr
  tkr : Tok
  cR : Nat
  od : Obj
  rows : List Nd
def refs (rows : List Nd) : List Value := rows.map fun r => Value.ref r.a
def kvF : Nat → List Nd → List (Int × Value)
  | _, [] => []
  | i, r :: rs => ((i : Int), .ref r.b) :: kvF (i + 1) rs
def Sto.led (w : World) (st : Sto) : Led := (st.tr, instObj 260 st.dT) :: (st.dT, rowsD w st.tkr st.rl) :: (st.rl, listOf (refs st.rows).toArray st.cR) :: (st.bk, st.od) :: st.rows.flatMap (Nd.led w)
structure Sto.Wf (w : World) (st : Sto) : Prop where
  hod : st.od.IsDictOf (PySem.intKind PySem.Challenge.rw_xw0201_01.row.prog w) (kvF 0 st.rows)
  lo : (st.bk == sysModules) = false
  kids : ∀ r ∈ st.rows, IntsAre r.cv r.ch ∧ IntsAre r.gv r.ch ∧ r.ch.length ≤ st.rows.length
  nodup : ((st.led w).map (·.1)).Nodup
  pos : 0 < st.rows.length
  fits : st.rows.length ≤ 60
theorem kvF_len (i : Nat) (rs : List Nd) : (kvF i rs).length = rs.length := by
  induction rs generalizing i with
  | nil => rfl
  | cons r rs ih => simp [kvF, ih]
theorem refs_len (rs : List Nd) : (refs rs).length = rs.length := by simp [refs]
theorem refs_at {rs : List Nd} {j : Nat} {r : Nd} (h : rs[j]? = some r) : (refs rs)[j]? = some (.ref r.a) := by simp [refs, h]
theorem kvF_at {i j : Nat} {rs : List Nd} {k : Int} {x : Value} (h : (kvF i rs)[j]? = some (k, x)) : k = ((i + j : Nat) : Int) := by
  induction rs generalizing i j with
  | nil => simp [kvF] at h
  | cons r rs ih =>
    cases j with
    | zero => simp [kvF] at h; rw [← h.1]; simp
    | succ j =>
      have := ih (i := i + 1) (j := j) (by simpa [kvF] using h)
      rw [this]; congr 1; omega
theorem kvF_hit {i j : Nat} {rs : List Nd} {r : Nd} (h : rs[j]? = some r) : valueAt (kvF i rs) ((i + j : Nat) : Int) = some (.ref r.b) := by
  induction rs generalizing i j with
  | nil => simp at h
  | cons q rs ih =>
    cases j with
    | zero => simp at h; subst h; simp [kvF, valueAt]
    | succ j =>
      have := ih (i := i + 1) (j := j) (by simpa using h)
      unfold valueAt at this ⊢
      rw [kvF, List.find?_cons_of_neg (by simp; omega)]
      rw [show i + (j + 1) = i + 1 + j by omega]; exact this
theorem kvF_miss {i : Nat} {rs : List Nd} {k : Int} (h : k < (i : Int) ∨ (i : Int) + rs.length ≤ k) : valueAt (kvF i rs) k = none := by
  induction rs generalizing i with
  | nil => rfl
  | cons q rs ih =>
    have := ih (i := i + 1) (by simp at h; omega)
    unfold valueAt at this ⊢
    rw [kvF, List.find?_cons_of_neg (by simp at h ⊢; omega)]
    exact this
theorem kvF_app (i : Nat) (rs : List Nd) (r : Nd) : kvF i (rs ++ [r]) = kvF i rs ++ [(((i + rs.length : Nat) : Int), .ref r.b)] := by
  induction rs generalizing i with
  | nil => simp [kvF]
  | cons q rs ih =>
    simp only [List.cons_append, kvF, ih, List.length_cons]
    congr 4; omega
theorem nd_mem {w : World} {rs : List Nd} {r : Nd} (h : r ∈ rs) : ∀ p ∈ r.led w, p ∈ rs.flatMap (Nd.led w) := fun p hp => List.mem_flatMap.mpr ⟨r, h, hp⟩
/-- the ledger holds the state -/
structure Holds5 (w : World) (r : Nd) (E : Led) : Prop where
  ha : (r.a, instObj 71 r.d) ∈ E
  hd : (r.d, r.rowO w) ∈ E
  hc : (r.c, listOf r.cv.toArray r.nc) ∈ E
  hb : (r.b, r.lineO) ∈ E
  hg : (r.g, listOf r.gv.toArray r.ng) ∈ E
theorem holds5 {w : World} {r : Nd} {E : Led} (h : ∀ p ∈ r.led w, p ∈ E) : Holds5 w r E :=
  ⟨h _ (.head _), h _ (.tail _ (.head _)), h _ (.tail _ (.tail _ (.head _))), h _ (.tail _ (.tail _ (.tail _ (.head _)))), h _ (.tail _ (.tail _ (.tail _ (.tail _ (.head _)))))⟩
theorem Sto.at {w : World} {st : Sto} {E : Led} (h : ∀ p ∈ st.led w, p ∈ E) : (st.tr, instObj 260 st.dT) ∈ E ∧ (st.dT, rowsD w st.tkr st.rl) ∈ E ∧ (st.rl, listOf (refs st.rows).toArray st.cR) ∈ E ∧ (st.bk, st.od) ∈ E ∧ ∀ r ∈ st.rows, Holds5 w r E :=
  ⟨h _ (.head _), h _ (.tail _ (.head _)), h _ (.tail _ (.tail _ (.head _))), h _ (.tail _ (.tail _ (.tail _ (.head _)))), fun r hr => holds5 fun p hp => h p (.tail _ (.tail _ (.tail _ (.tail _ (nd_mem hr p hp)))))⟩
theorem upto_at {n i : Nat} {k : Int} (h : (upto n)[i]? = some k) : k = (i : Int) ∧ i < n := by
  unfold upto at h
  rw [List.getElem?_map] at h
  cases hr : (List.range n)[i]? with
  | none => rw [hr] at h; simp at h
  | some j =>
    have hi : i < n := by
      rcases Nat.lt_or_ge i n with h | h
      · exact h
      · rw [List.getElem?_eq_none (by simpa using h)] at hr; cases hr
    rw [hr] at h
    rw [List.getElem?_range hi] at hr
    simp at h hr
    subst hr
    exact ⟨h.symm, hi⟩
/-- the places that a deed may write -/
def Nd.fkeys (r : Nd) : List Addr := [r.d, r.c, r.b, r.g]
def Sto.fkeys (st : Sto) : List Addr := st.rl :: st.bk :: st.rows.flatMap Nd.fkeys
/-- what a node is, as the law sees it -/
abbrev Face := Str × Str × Option Int × List Int
def Nd.face (r : Nd) : Face := (r.kind, r.val, r.par, r.ch)
def Sto.faces (st : Sto) : List Face := st.rows.map Nd.face
theorem allLt_mem {d : Nat} {rest : Led} (h : AllLt d rest) : ∀ p ∈ rest, @LT.lt Nat _ p.1 d := by
  induction rest with
  | nil => intro p hp; cases hp
  | cons q r ih =>
    intro p hp
    rcases List.mem_cons.mp hp with rfl | hp
    · exact h.1
    · exact ih h.2 p hp
/-- the table of _law_stands's two lambdas, filled -/
def TabS (news : Led) : Prop := ∃ c' oc vs t c2 oc2 vs2 t2, (322, tabObj #[rawInt 175, rawInt 0, .ref c', rawInt 176, rawInt 0, .ref c2]) ∈ news ∧ (c', oc) ∈ news ∧ oc.data = .fields vs ∧ vs[1]? = some (.str ("_law_stands" ++ ".<locals>." ++ "<lambda>" : Str) t) ∧
  (c2, oc2) ∈ news ∧ oc2.data = .fields vs2 ∧ vs2[1]? = some (.str ("_law_stands" ++ ".<locals>." ++ "<lambda>" : Str) t2)
end
section
open PySem PySem.W PySem.Calls PyProof.Rows
theorem ln_StandsM_0 : True := by
  w_top off
  k_with_none
  k_with "call builtin:len" => (k_here; (with_reducible show wpAny _ _ (call (Value.builtin "len") [Value.ref _]) _ _ _); k_dflt (refine' len_led ?k1 ?k2 ?k3 ?_; (case k1 => k_asm); (case k2 => (repeat' (first | assumption | exact List.Mem.head _ | refine List.Mem.tail _ ?_))); (case k3 => ((try simp only [List.length_cons, List.length_nil, List.length_append, List.length_map]); omega)); k_whole); (try dsimp only))
  k_with "subscriptTail" => (k_here; (with_reducible show wpAny _ _ (subscriptTail _ _ (Value.ref _) (Value.int _ _)) _ _ _); k_dflt (refine' item_led ?k1 ?k2 ?k3 ?k4 ?k5 ?_ ?k6; (case k1 => k_asm); (case k2 => (repeat' (first | assumption | exact List.Mem.head _ | refine List.Mem.tail _ ?_))); (case k3 => omega); (case k4 => omega); (case k5 => (first | assumption | (rw [List.getElem?_append_left (by omega)]; assumption))); (case k6 => with_unfolding_all rfl); k_whole); (try dsimp only))
  k_with "exec Raise some none" => (k_here; (with_reducible show wpAny _ _ (exec (Stmt.Raise (some (Expr.Call (Expr.Name (Str.ofString "TreeFault") _) [Expr.Constant (Const.str _) _ _] [] _)) none _) _) _ _ _); k_dflt (refine' raise_tf ?kB ?kF ?kX ?kN ?kT ?kk ?kx ?kn ?ki ?kf ?kd ?ku ?_; (case kB => k_asm); (case kF => k_asm); (case kX => k_asm); (case kN => k_asm); (case kT => assumption); (case kk => rfl); (case kx => k_is); (case kn => rfl); (case ki => k_is); (case kf => k_is); (case kd => ktr_room); (case ku => ktr_units); k_whole); intro eω tω dω hω tkω Fω Nω neω)
  k_with "leaving ref" => (k_here; k_dflt (refine' leave_led ?kK ?kF ?kN ?kne ?kd ?k1 ?k0 ?_; (case kF => k_asm); (case kN => k_asm); (case kK => k_asm); (case kne => k_asm); (case kd => rfl); (case k1 => rfl); (case k0 => rfl); k_whole); intro hω Sω Rω Uω; (try dsimp only at Sω Rω Uω ⊢))
  k_with "leaving ref" => (k_here; k_dflt (refine' leave_onSN ?k1 ?k2 ?k3 ?k4 ?_; (case k3 => assumption); (case k2 => assumption); (case k1 => assumption); (case k4 => assumption); k_whole); intro hω Sω Rω Uω; (try dsimp only at Sω Rω Uω ⊢))
  k_with "getAttr ref" => (k_here; k_dflt (refine' get_own ?k1 ?k2 ?k3 ?k4 ?k5 ?k6 ?k7 ?k8 ?k9 ?_; (case k1 => k_asm); (case k2 => k_asm); (case k3 => k_inst); (case k4 => k_is); (case k5 => k_is); (case k6 => k_is); (case k7 => k_is); (case k8 => k_get); (case k9 => k_handed); k_whole); (try dsimp only))
  k_with "eval Constant int" => (k_here; refine wpAny_Constant_int ?_; (try dsimp only))
  k_with "eval Constant str" => (k_here; refine Calls.Constant_str ?_; (try dsimp only))
  k_with "call ref" => (k_here; (with_reducible show wpAny _ _ (call (Value.ref 103) _) _ _ _); k_dflt (refine' use_ctr (row_ok _ _ _ _ _ _ _ _ _ _ _ ?q1 ?q2 ?q3 ?q4 ?q5 ?q6 ?q7) ?uB ?uF ?uX ?uN ?uT ?uk ?ud ?uu ?_; (case uF => k_asm); (case uN => k_asm); (case uB => k_asm); (case uX => k_asm); (case uT => assumption); (case uk => rfl); (case q1 => (repeat' (first | assumption | exact List.Mem.head _ | refine List.Mem.tail _ ?_))); (case q2 => (repeat' (first | assumption | exact List.Mem.head _ | refine List.Mem.tail _ ?_))); (case q3 => (repeat' (first | assumption | exact List.Mem.head _ | refine List.Mem.tail _ ?_))); (case q4 => omega); (case q5 => omega); (case q6 => assumption); (case q7 => assumption); (case ud => ktr_room); (case uu => ktr_units); k_whole); intro vω hω tkω nω Fω Nω hPω; obtain ⟨e1ω, e2ω⟩ := hPω; subst e1ω; subst e2ω; (try dsimp only))
  k_with "call ref" => (k_here; (with_reducible show wpAny _ _ (call (Value.ref 103) _) _ _ _); k_dflt (refine' use_rctr (row_bad _ _ _ _ _ _ _ _ _ _ ?q1 ?q2 ?q3 ?q4 ?q7) ?uB ?uF ?uX ?uN ?uT ?uk ?ud ?uu ?_; (case uF => k_asm); (case uN => k_asm); (case uB => k_asm); (case uX => k_asm); (case uT => assumption); (case uk => rfl); (case q1 => (repeat' (first | assumption | exact List.Mem.head _ | refine List.Mem.tail _ ?_))); (case q2 => (repeat' (first | assumption | exact List.Mem.head _ | refine List.Mem.tail _ ?_))); (case q3 => (repeat' (first | assumption | exact List.Mem.head _ | refine List.Mem.tail _ ?_))); (case q4 => omega); (case q7 => assumption); (case ud => ktr_room); (case uu => ktr_units); k_whole); intro eω Gω hω tkω FGω Sω Uω; (try dsimp only))
  k_with "compareOp In str ref" => (k_here; (with_reducible show wpAny _ _ (compareOp CmpOp.In (Value.str _ _) (Value.ref _)) _ _ _); k_dflt (refine' in_parT ?k1 ?k2 ?k3 ?k4 ?_; (case k1 => k_asm); (case k2 => k_asm); (case k3 => k_is); (case k4 => assumption); k_whole))
  k_with "compareOp NotIn str ref" => (k_here; (with_reducible show wpAny _ _ (compareOp CmpOp.NotIn (Value.str _ _) (Value.ref _)) _ _ _); k_dflt (refine' notin_parT ?k1 ?k2 ?k3 ?k4 ?_; (case k1 => k_asm); (case k2 => k_asm); (case k3 => k_is); (case k4 => assumption); k_whole))
  k_with "compareOp In str ref" => (k_here; (with_reducible show wpAny _ _ (compareOp CmpOp.In (Value.str _ _) (Value.ref _)) _ _ _); k_dflt (refine' in_parL ?k1 ?k2 ?k4 ?_; (case k1 => k_asm); (case k2 => k_mem); (case k4 => assumption); k_whole))
  k_with "compareOp In int ref" => (k_here; (with_reducible show wpAny _ _ (compareOp _ (Value.int _ _) (Value.ref _)) _ _ _); k_dflt (refine' bk_in ?kN ?kp ?kd ?kl ?kh ?_; (case kN => k_asm); (case kp => (repeat' (first | assumption | exact List.Mem.head _ | refine List.Mem.tail _ ?_))); (case kd => assumption); (case kl => assumption); (case kh => assumption); k_whole); (try dsimp only))
  k_with "compareOp In int ref" => (k_here; (with_reducible show wpAny _ _ (compareOp _ (Value.int _ _) (Value.ref _)) _ _ _); k_dflt (refine' bk_in0 ?kN ?kp ?kd ?kl ?kh ?_; (case kN => k_asm); (case kp => (repeat' (first | assumption | exact List.Mem.head _ | refine List.Mem.tail _ ?_))); (case kd => assumption); (case kl => assumption); (case kh => assumption); k_whole); (try dsimp only))
  k_with "compareOp NotIn int ref" => (k_here; (with_reducible show wpAny _ _ (compareOp _ (Value.int _ _) (Value.ref _)) _ _ _); k_dflt (refine' bk_notin ?kN ?kp ?kd ?kl ?kh ?_; (case kN => k_asm); (case kp => (repeat' (first | assumption | exact List.Mem.head _ | refine List.Mem.tail _ ?_))); (case kd => assumption); (case kl => assumption); (case kh => assumption); k_whole); (try dsimp only))
  k_with "compareOp NotIn int ref" => (k_here; (with_reducible show wpAny _ _ (compareOp _ (Value.int _ _) (Value.ref _)) _ _ _); k_dflt (refine' bk_notin0 ?kN ?kp ?kd ?kl ?kh ?_; (case kN => k_asm); (case kp => (repeat' (first | assumption | exact List.Mem.head _ | refine List.Mem.tail _ ?_))); (case kd => assumption); (case kl => assumption); (case kh => assumption); k_whole); (try dsimp only))
  k_with "subscriptTail" => (k_here; (with_reducible show wpAny _ _ (subscriptTail _ _ (Value.ref _) (Value.int _ _)) _ _ _); k_dflt (refine' bk_item ?kN ?kp ?kd ?kh ?_ ?k6 ?k7; (case kN => k_asm); (case kp => (repeat' (first | assumption | exact List.Mem.head _ | refine List.Mem.tail _ ?_))); (case kd => assumption); (case kh => assumption); (case k6 => with_unfolding_all rfl); (case k7 => intro _; with_unfolding_all rfl); k_whole); (try dsimp only))
  k_with "getItem ref int" => (k_here; (with_reducible show wpAny _ _ (getItem (Value.ref _) (Value.int _ _)) _ _ _); k_dflt (refine' bk_getItem ?kN ?kp ?kd ?kh ?_; (case kN => k_asm); (case kp => (repeat' (first | assumption | exact List.Mem.head _ | refine List.Mem.tail _ ?_))); (case kd => assumption); (case kh => assumption); k_whole); (try dsimp only))
  k_with "call builtin:len" => (k_here; (with_reducible show wpAny _ _ (call (Value.builtin "len") [Value.ref _]) _ _ _); k_dflt (refine' bk_len ?kN ?kp ?kd ?kl ?kh ?_; (case kN => k_asm); (case kp => (repeat' (first | assumption | exact List.Mem.head _ | refine List.Mem.tail _ ?_))); (case kd => assumption); (case kl => assumption); (case kh => assumption); k_whole); (try dsimp only))
  k_with "setItem ref int" => (k_here; (with_reducible show wpAny _ _ (setItem (Value.ref _) (Value.int _ _) _) _ _ _); k_dflt (refine' bk_set ?kF ?kN ?kU ?kd ?kl ?_; (case kF => k_asm); (case kN => k_asm); (case kU => k_updF); (case kd => assumption); (case kl => assumption); k_whole); intro hω oω Fω Nω hdω; (try dsimp only at Nω))
  k_with "leaving ref" => (k_here; k_dflt (refine' leave_onX ?kf ?k1 ?k2 ?k3 ?k4 ?_; (case kf => exact rfl); (case k3 => assumption); (case k2 => assumption); (case k1 => assumption); (case k4 => assumption); k_whole); intro hω Sω Rω Uω; (try dsimp only at Sω Rω Uω ⊢))
  k_with "call ref" => (k_here; (with_reducible show wpAny _ _ (call (Value.ref 173) _) _ _ _); k_dflt (refine' use_rctr (setv_bad _ _ _ _ _ _ _ _ _ _ _ _ ?q1 ?q2 ?q3 ?q4 ?q5) ?uB ?uF ?uX ?uN ?uT ?uk ?ud ?uu ?_; (case uF => k_asm); (case uN => k_asm); (case uB => k_asm); (case uX => k_asm); (case uT => assumption); (case uk => rfl); (case q1 => (repeat' (first | assumption | exact List.Mem.head _ | refine List.Mem.tail _ ?_))); (case q2 => (repeat' (first | assumption | exact List.Mem.head _ | refine List.Mem.tail _ ?_))); (case q3 => (repeat' (first | assumption | exact List.Mem.head _ | refine List.Mem.tail _ ?_))); (case q4 => (first | omega | assumption)); (case q5 => assumption); (case ud => ktr_room); (case uu => ktr_units); k_whole); intro eω Gω hω tkω FGω Sω Uω; (try dsimp only))
  k_with "call ref" => (k_here; (with_reducible show wpAny _ _ (call (Value.ref 173) _) _ _ _); k_dflt (refine' use_rctr (setv_par _ _ _ _ _ _ _ _ _ _ _ _ ?q1 ?q2 ?q3 _ _ _ _ _ _ _ _ _ _ _ _ ?q4 ?q5 ?q6 ?q7 ?q8 ?q9 ?q0) ?uB ?uF ?uX ?uN ?uT ?uk ?ud ?uu ?_; (case uF => k_asm); (case uN => k_asm); (case uB => k_asm); (case uX => k_asm); (case uT => assumption); (case uk => rfl); (case q1 => (repeat' (first | assumption | exact List.Mem.head _ | refine List.Mem.tail _ ?_))); (case q2 => (repeat' (first | assumption | exact List.Mem.head _ | refine List.Mem.tail _ ?_))); (case q3 => (repeat' (first | assumption | exact List.Mem.head _ | refine List.Mem.tail _ ?_))); (case q6 => omega); (case q7 => omega); (case q8 => assumption); (case q4 => (repeat' (first | assumption | exact List.Mem.head _ | refine List.Mem.tail _ ?_))); (case q5 => (repeat' (first | assumption | exact List.Mem.head _ | refine List.Mem.tail _ ?_))); (case q9 => assumption); (case q0 => assumption); (case ud => ktr_room); (case uu => ktr_units); k_whole); intro eω Gω hω tkω FGω Sω Uω; (try dsimp only))
  k_with "call ref" => (k_here; (with_reducible show wpAny _ _ (call (Value.ref 117) _) _ _ _); k_dflt (refine' use_rctr (add_bad _ _ _ _ _ _ _ _ _ _ _ _ _ _ _ _ _ _ _ _ ?q1 ?q2 ?q3 ?q4 ?q5) ?uB ?uF ?uX ?uN ?uT ?uk ?ud ?uu ?_; (case uF => k_asm); (case uN => k_asm); (case uB => k_asm); (case uX => k_asm); (case uT => assumption); (case uk => rfl); (case q1 => (repeat' (first | assumption | exact List.Mem.head _ | refine List.Mem.tail _ ?_))); (case q2 => (repeat' (first | assumption | exact List.Mem.head _ | refine List.Mem.tail _ ?_))); (case q3 => (repeat' (first | assumption | exact List.Mem.head _ | refine List.Mem.tail _ ?_))); (case q4 => (first | omega | assumption)); (case q5 => assumption); (case ud => ktr_room); (case uu => ktr_units); k_whole); intro eω Gω hω tkω FGω Sω Uω; (try dsimp only))
  k_with "call ref" => (k_here; (with_reducible show wpAny _ _ (call (Value.ref 117) _) _ _ _); k_dflt (refine' use_rctr (add_kid _ _ _ _ _ _ _ _ _ _ _ _ _ _ _ _ _ _ _ _ ?q1 ?q2 ?q3 _ _ _ _ _ _ _ _ _ _ _ _ ?q4 ?q5 ?q6 ?q7 ?q8 ?q9 ?q0) ?uB ?uF ?uX ?uN ?uT ?uk ?ud ?uu ?_; (case uF => k_asm); (case uN => k_asm); (case uB => k_asm); (case uX => k_asm); (case uT => assumption); (case uk => rfl); (case q1 => (repeat' (first | assumption | exact List.Mem.head _ | refine List.Mem.tail _ ?_))); (case q2 => (repeat' (first | assumption | exact List.Mem.head _ | refine List.Mem.tail _ ?_))); (case q3 => (repeat' (first | assumption | exact List.Mem.head _ | refine List.Mem.tail _ ?_))); (case q6 => omega); (case q7 => omega); (case q8 => assumption); (case q4 => (repeat' (first | assumption | exact List.Mem.head _ | refine List.Mem.tail _ ?_))); (case q5 => (repeat' (first | assumption | exact List.Mem.head _ | refine List.Mem.tail _ ?_))); (case q9 => assumption); (case q0 => assumption); (case ud => ktr_room); (case uu => ktr_units); k_whole); intro eω Gω hω tkω FGω Sω Uω; (try dsimp only))
  k_with "call ref" => (k_here; (with_reducible show wpAny _ _ (call (Value.ref 152) _) _ _ _); k_dflt (refine' use_rctr (erow_bad _ _ _ _ _ _ _ _ _ _ ?q1 ?q2 ?q3 ?q4 ?q5) ?uB ?uF ?uX ?uN ?uT ?uk ?ud ?uu ?_; (case uF => k_asm); (case uN => k_asm); (case uB => k_asm); (case uX => k_asm); (case uT => assumption); (case uk => rfl); (case q1 => (repeat' (first | assumption | exact List.Mem.head _ | refine List.Mem.tail _ ?_))); (case q2 => (repeat' (first | assumption | exact List.Mem.head _ | refine List.Mem.tail _ ?_))); (case q3 => (repeat' (first | assumption | exact List.Mem.head _ | refine List.Mem.tail _ ?_))); (case q4 => (first | omega | assumption)); (case q5 => assumption); (case ud => ktr_room); (case uu => ktr_units); k_whole); intro eω Gω hω tkω FGω Sω Uω; (try dsimp only))
  k_with "call ref" => (k_here; (with_reducible show wpAny _ _ (call (Value.ref 152) _) _ _ _); k_dflt (refine' use_rctr (erow_no _ _ _ _ _ _ _ _ _ _ ?q1 ?q2 ?q3 _ _ _ _ _ _ _ _ _ _ _ _ ?q4 ?q5 ?q6 ?q7 ?q8 ?q9 ?q0) ?uB ?uF ?uX ?uN ?uT ?uk ?ud ?uu ?_; (case uF => k_asm); (case uN => k_asm); (case uB => k_asm); (case uX => k_asm); (case uT => assumption); (case uk => rfl); (case q1 => (repeat' (first | assumption | exact List.Mem.head _ | refine List.Mem.tail _ ?_))); (case q2 => (repeat' (first | assumption | exact List.Mem.head _ | refine List.Mem.tail _ ?_))); (case q3 => (repeat' (first | assumption | exact List.Mem.head _ | refine List.Mem.tail _ ?_))); (case q6 => omega); (case q7 => omega); (case q8 => assumption); (case q4 => (repeat' (first | assumption | exact List.Mem.head _ | refine List.Mem.tail _ ?_))); (case q5 => (repeat' (first | assumption | exact List.Mem.head _ | refine List.Mem.tail _ ?_))); (case q9 => assumption); (case q0 => assumption); (case ud => ktr_room); (case uu => ktr_units); k_whole); intro eω Gω hω tkω FGω Sω Uω; (try dsimp only))
  k_with "call ref" => (k_here; (with_reducible show wpAny _ _ (call (Value.ref 180) _) _ _ _); k_dflt (refine' use_rctr (kind_bad _ _ _ _ _ _ _ _ _ _ ?q1 ?q2 ?q3 ?q4 ?q5) ?uB ?uF ?uX ?uN ?uT ?uk ?ud ?uu ?_; (case uF => k_asm); (case uN => k_asm); (case uB => k_asm); (case uX => k_asm); (case uT => assumption); (case uk => rfl); (case q1 => (repeat' (first | assumption | exact List.Mem.head _ | refine List.Mem.tail _ ?_))); (case q2 => (repeat' (first | assumption | exact List.Mem.head _ | refine List.Mem.tail _ ?_))); (case q3 => (repeat' (first | assumption | exact List.Mem.head _ | refine List.Mem.tail _ ?_))); (case q4 => (first | omega | assumption)); (case q5 => assumption); (case ud => ktr_room); (case uu => ktr_units); k_whole); intro eω Gω hω tkω FGω Sω Uω; (try dsimp only))
  k_with "call ref" => (k_here; (with_reducible show wpAny _ _ (call (Value.ref 292) _) _ _ _); k_dflt (refine' use_ctrS (refused_raise _ _ _ ?qf ?qc) ?uB ?uF ?uX ?uXB ?uN ?uT ?uTB ?uD ?uT0 ?uCT ?uk ?ud ?uu ?_; (case uF => k_asm); (case uN => k_asm); (case uB => k_asm); (case uX => k_asm); (case uXB => assumption); (case uT => assumption); (case uTB => assumption); (case uD => assumption); (case uT0 => first | assumption | exact KtsTurn.refl); (case uCT => exact ⟨by assumption, by assumption, by assumption, by assumption⟩); (case uk => rfl); (case ud => ktr_room); (case uu => ktr_units); (case qf => (repeat' (first | assumption | exact List.Mem.head _ | refine List.Mem.tail _ ?_))); (case qc => (unfold RCtr; intro p9 loose9 mean9 mg9 mb9 dp9 un9 gd9 cn9 cs9 aa9 ccd9 cl9 outer9 A9 base9 h9 L9 m9 s9 Q9 E9 B9 F9 X9 N9 T9 hk9 hd9 hu9 hret9; refine wpAny_call ?_; k_dflt (refine' kla_code ?k1 ?k2 ?k3 ?k4 ?k5 ?kA ?kF ?kK ?k6 ?k7 ?k8 ?k9 ?kB ?_ ?c2 ?c3 ?c4 ?c5; (case kA => exact rfl); (case kF => exact rfl); (case kK => assumption); (case k1 => k_asm); (case k2 => k_asm); (case k3 => k_asm); (case k4 => k_asm); (case k5 => k_asm); (case k6 => k_mem); (case k7 => exact codeRec_news (by k_asm) (by k_mem) (by assumption) (by assumption)); (case k8 => ktr_room); (case k9 => exact rfl); (case c5 => decide); (case kB => exact locs rfl); (case c2 => exact rfl); (case c3 => exact rfl); (case c4 => exact rfl); k_whole; intro gω Lω hω FGω Fω Nω Bω Xω Tω; (try dsimp only); (try k_lift Bω); (try k_fold)); k_steps; all_goals exact hret9 _ _ _ _ (by k_asm) (by k_asm) (by k_asm))); k_whole); intro vω hω tkω nω gωω KTω Fω Nω Bω Xω Pω Dω hPω; obtain ⟨e1ω, e2ω⟩ := hPω; subst e1ω; subst e2ω; (try dsimp only))
  k_with "compareOp Eq ref ref" => (k_here; (with_reducible show wpAny _ _ (compareOp _ (Value.ref _) (Value.ref _)) _ _ _); k_dflt (refine' tup_eq ?kN ?k1 ?k2 ?ku ?ke ?_; (case kN => k_asm); (case k1 => (repeat' (first | assumption | exact List.Mem.head _ | refine List.Mem.tail _ ?_))); (case k2 => (repeat' (first | assumption | exact List.Mem.head _ | refine List.Mem.tail _ ?_))); (case ku => ktr_units); (case ke => (repeat' (first | exact SameL.nil | refine SameL.cons ?_ ?_ | exact PySem.SeqAt.EqAt.same _ | (refine (?q9 : ∀ (A : Around) (s : Shared), PySem.SeqAt.EqAt A s _ _ true) _ _; assumption) | exact same_str _ _ _ | exact same_int _ _ _ | exact same_ints (isList_of (by k_asm) (by repeat' (first | assumption | exact List.Mem.head _ | refine List.Mem.tail _ ?_))) (isList_of (by k_asm) (by repeat' (first | assumption | exact List.Mem.head _ | refine List.Mem.tail _ ?_))) (by assumption) (by assumption) (by ktr_units)))); k_whole); (try dsimp only))
  k_with "compareOp NotEq ref ref" => (k_here; (with_reducible show wpAny _ _ (compareOp _ (Value.ref _) (Value.ref _)) _ _ _); k_dflt (refine' tup_ne ?kN ?k1 ?k2 ?ku ?ke ?_; (case kN => k_asm); (case k1 => (repeat' (first | assumption | exact List.Mem.head _ | refine List.Mem.tail _ ?_))); (case k2 => (repeat' (first | assumption | exact List.Mem.head _ | refine List.Mem.tail _ ?_))); (case ku => ktr_units); (case ke => (repeat' (first | exact SameL.nil | refine SameL.cons ?_ ?_ | exact PySem.SeqAt.EqAt.same _ | (refine (?q9 : ∀ (A : Around) (s : Shared), PySem.SeqAt.EqAt A s _ _ true) _ _; assumption) | exact same_str _ _ _ | exact same_int _ _ _ | exact same_ints (isList_of (by k_asm) (by repeat' (first | assumption | exact List.Mem.head _ | refine List.Mem.tail _ ?_))) (isList_of (by k_asm) (by repeat' (first | assumption | exact List.Mem.head _ | refine List.Mem.tail _ ?_))) (by assumption) (by assumption) (by ktr_units)))); k_whole); (try dsimp only))
  k_with "call ref" => (k_here; (with_reducible show wpAny _ _ (call (Value.ref 180) _) _ _ _); k_dflt (refine' use_ctr (kind_ok _ _ _ _ _ _ _ _ _ _ ?q1 ?q2 ?q3 _ _ _ _ _ _ _ _ _ _ _ _ ?q4 ?q5 ?q6 ?q7 ?q8 ?q9) ?uB ?uF ?uX ?uN ?uT ?uk ?ud ?uu ?_; (case uF => k_asm); (case uN => k_asm); (case uB => k_asm); (case uX => k_asm); (case uT => assumption); (case uk => rfl); (case q1 => (repeat' (first | assumption | exact List.Mem.head _ | refine List.Mem.tail _ ?_))); (case q2 => (repeat' (first | assumption | exact List.Mem.head _ | refine List.Mem.tail _ ?_))); (case q3 => (repeat' (first | assumption | exact List.Mem.head _ | refine List.Mem.tail _ ?_))); (case q8 => assumption); (case q6 => omega); (case q7 => omega); (case q4 => (repeat' (first | assumption | exact List.Mem.head _ | refine List.Mem.tail _ ?_))); (case q5 => (repeat' (first | assumption | exact List.Mem.head _ | refine List.Mem.tail _ ?_))); (case q9 => assumption); (case ud => ktr_room); (case uu => ktr_units); k_whole); intro vω hω tkω nω Fω Nω hPω; obtain ⟨e1ω, e2ω⟩ := hPω; subst e1ω; subst e2ω; (try dsimp only))
  k_with "call ref" => (k_here; (with_reducible show wpAny _ _ (call (Value.ref 208) _) _ _ _); k_dflt (refine' use_ctr (value_ok _ _ _ _ _ _ _ _ _ _ ?q1 ?q2 ?q3 _ _ _ _ _ _ _ _ _ _ _ _ ?q4 ?q5 ?q6 ?q7 ?q8 ?q9) ?uB ?uF ?uX ?uN ?uT ?uk ?ud ?uu ?_; (case uF => k_asm); (case uN => k_asm); (case uB => k_asm); (case uX => k_asm); (case uT => assumption); (case uk => rfl); (case q1 => (repeat' (first | assumption | exact List.Mem.head _ | refine List.Mem.tail _ ?_))); (case q2 => (repeat' (first | assumption | exact List.Mem.head _ | refine List.Mem.tail _ ?_))); (case q3 => (repeat' (first | assumption | exact List.Mem.head _ | refine List.Mem.tail _ ?_))); (case q8 => assumption); (case q6 => omega); (case q7 => omega); (case q4 => (repeat' (first | assumption | exact List.Mem.head _ | refine List.Mem.tail _ ?_))); (case q5 => (repeat' (first | assumption | exact List.Mem.head _ | refine List.Mem.tail _ ?_))); (case q9 => assumption); (case ud => ktr_room); (case uu => ktr_units); k_whole); intro vω hω tkω nω Fω Nω hPω; obtain ⟨e1ω, e2ω⟩ := hPω; subst e1ω; subst e2ω; (try dsimp only))
  k_with "call ref" => (k_here; (with_reducible show wpAny _ _ (call (Value.ref 215) _) _ _ _); k_dflt (refine' use_ctr (parent_ok _ _ _ _ _ _ _ _ _ _ ?q1 ?q2 ?q3 _ _ _ _ _ _ _ _ _ _ _ _ ?q4 ?q5 ?q6 ?q7 ?q8 ?q9 ?qa) ?uB ?uF ?uX ?uN ?uT ?uk ?ud ?uu ?_; (case uF => k_asm); (case uN => k_asm); (case uB => k_asm); (case uX => k_asm); (case uT => assumption); (case uk => rfl); (case q1 => (repeat' (first | assumption | exact List.Mem.head _ | refine List.Mem.tail _ ?_))); (case q2 => (repeat' (first | assumption | exact List.Mem.head _ | refine List.Mem.tail _ ?_))); (case q3 => (repeat' (first | assumption | exact List.Mem.head _ | refine List.Mem.tail _ ?_))); (case q8 => assumption); (case q6 => omega); (case q7 => omega); (case q4 => (repeat' (first | assumption | exact List.Mem.head _ | refine List.Mem.tail _ ?_))); (case q5 => (repeat' (first | assumption | exact List.Mem.head _ | refine List.Mem.tail _ ?_))); (case q9 => assumption); (case qa => exact parV_or _ _); (case ud => ktr_room); (case uu => ktr_units); k_whole); intro vω hω tkω nω Fω Nω hPω; obtain ⟨e1ω, e2ω⟩ := hPω; subst e1ω; subst e2ω; (try dsimp only))
  k_with "call ref" => (k_here; (with_reducible show wpAny _ _ (call (Value.ref 222) _) _ _ _); k_dflt (refine' use_ctr (children_ok _ _ _ _ _ _ _ _ _ _ ?q1 ?q2 ?q3 _ _ _ _ _ _ _ _ _ _ _ _ ?q4 ?q5 ?q6 ?q7 ?q8 ?q9 _ _ ?qa ?qb) ?uB ?uF ?uX ?uN ?uT ?uk ?ud ?uu ?_; (case uF => k_asm); (case uN => k_asm); (case uB => k_asm); (case uX => k_asm); (case uT => assumption); (case uk => rfl); (case q1 => (repeat' (first | assumption | exact List.Mem.head _ | refine List.Mem.tail _ ?_))); (case q2 => (repeat' (first | assumption | exact List.Mem.head _ | refine List.Mem.tail _ ?_))); (case q3 => (repeat' (first | assumption | exact List.Mem.head _ | refine List.Mem.tail _ ?_))); (case q8 => assumption); (case q6 => omega); (case q7 => omega); (case q4 => (repeat' (first | assumption | exact List.Mem.head _ | refine List.Mem.tail _ ?_))); (case q5 => (repeat' (first | assumption | exact List.Mem.head _ | refine List.Mem.tail _ ?_))); (case q9 => assumption); (case qa => (repeat' (first | assumption | exact List.Mem.head _ | refine List.Mem.tail _ ?_))); (case qb => assumption); (case ud => ktr_room); (case uu => ktr_units); k_whole); intro vω hω tkω nω Fω Nω hPω; obtain ⟨dω, cω, e1ω, e2ω⟩ := hPω; subst e1ω; subst e2ω; (try dsimp only))
  trivial
theorem News.led_mid1 {h₀ h : Heap} {L : Addr} {a b d : Addr × Obj} {rest own : Led} (N : News h₀ L h ((d :: a :: b :: rest) ++ own)) : News h₀ L h (a :: b :: (rest ++ d :: own)) := fun p hp => N p (by
  simp only [List.mem_cons, List.mem_append] at hp ⊢
  rcases hp with h | h | h | h | h <;> simp [h])
theorem News.tail1 {h₀ h : Heap} {L : Addr} {a : Addr × Obj} {r : Led} (N : News h₀ L h (a :: r)) : News h₀ L h r := fun p hp => N p (.tail _ hp)
theorem stands_okM (w : World) (st : Sto) (rest : Led) (hst : ∀ p ∈ st.led w, p ∈ rest) (wf : st.Wf w) (hP : TabS rest ∨ ((322, tabObj #[]) : Addr × Obj) ∈ rest) :
   CtrS w 327 [.ref st.tr, .ref st.bk] rest 180 720 (fun v' news' => v' = .bool true ∧ TabS news' ∧ ∀ p ∈ rest, p.1 ≠ 322 ∨ TabS rest → p ∈ news') := by
  obtain ⟨h1, h2, h3, h5, hnd⟩ := Sto.at hst
  obtain ⟨hod, lo, hkids, -, hpos, hfit⟩ := wf
  unfold CtrS
  k_fill
  intro p loose mean mg mb dp un gd cn cs aa ccd cl outer A₀ base h₀ g₀ L m s Q E B F X XB N T TB D T0 CT hk hdp hu hret
  obtain ⟨C1, C2, C3, C4⟩ := CT
  refine wpAny_call ?_
  k_dflt (refine' callSC ?k1 ?k2 ?k3 ?k4 ?k5 ?XB ?TB ?D ?T0 ?kA ?kf ?kK ?k6 ?k7 ?k8 ?k9 ?kB ?kD ?_ ?c2 ?c3 ?c4; (case kA => exact rfl); (case kf => exact rfl); (case kK => assumption); (case k2 => k_asm); (case k1 => k_asm); (case XB => assumption); (case TB => assumption); (case D => assumption); (case T0 => assumption); (case k3 => k_asm); (case k4 => k_asm); (case k5 => k_asm); (case k6 => k_is); (case k7 => k_is); (case k8 => ktr_room); (case k9 => exact BindsTo.of_eq rfl); (case kB => exact rfl); (case kD => decide +kernel); (case c2 => exact rfl); (case c3 => exact rfl); (case c4 => exact rfl); k_whole; intro g' L' h' tk' cells' FG' F' N' Y' B' X' T' l1 D'; (try k_lt l1); k_cells Y'; (try simp only [List.cons_append, List.nil_append] at N'); (try dsimp only); (try k_lift B'); (try k_fold))
  k_steps
  rename News _ _ _ (_ :: _ :: _) => N2
  rename Fr g' _ _ _ => F2
  refine' sorted_bk rfl F2 N2 (by repeat' (first | assumption | exact List.Mem.head _ | refine List.Mem.tail _ ?_)) hod lo (by rw [kvF_len]; omega) (by rw [kvF_len]; omega) (fun i k x hx => by simpa using kvF_at hx) (fun D vs c hp3 tk3 F3 N3 l3 hi => ?_)
  dsimp only
  rw [kvF_len] at hi
  refine' iter_invNL (fun _ _ nx => nx = (D, W.listOf vs.toArray c) :: (L' + 1 + 1, _) :: (L' + 1, _) :: rest) rfl (List.Mem.head _) hi F3 N3 rfl ?_ ?_
  · rintro i n t m₁ news₁ hp4 tk4 own hn _ _ _ rfl F4 N4
    obtain ⟨rfl, hin⟩ := upto_at hn
    obtain ⟨r, hr⟩ : ∃ r, st.rows[i]? = some r := ⟨_, List.getElem?_eq_getElem hin⟩
    have N5 := News.led_mid1 N4
    have hlo := List.mem_of_getElem? hr
    obtain ⟨i1, i2, hch⟩ := hkids r hlo
    obtain ⟨q1, q2, q3, q4, q5⟩ := hnd r hlo
    have hcl : r.cv.length ≤ 100 := by rw [i1.length]; omega
    have hv : (refs st.rows)[((i : Nat) : Int).toNat]? = some (.ref r.a) := by simpa using refs_at hr
    have hva : valueAt (kvF 0 st.rows) ((i : Nat) : Int) = some (.ref r.b) := by simpa using kvF_hit (i := 0) hr
    have hL : (refs st.rows).length ≤ 100 := by rw [refs_len]; omega
    have k0 : (0 : Int) ≤ ((i : Nat) : Int) := by omega
    have k1 : ((i : Nat) : Int) < ((refs st.rows).length : Int) := by rw [refs_len]; omega
    replace h1 := List.mem_append_left ((D, W.listOf vs.toArray c) :: own) h1
    replace h2 := List.mem_append_left ((D, W.listOf vs.toArray c) :: own) h2
    replace h3 := List.mem_append_left ((D, W.listOf vs.toArray c) :: own) h3
    replace h5 := List.mem_append_left ((D, W.listOf vs.toArray c) :: own) h5
    replace q1 := List.mem_append_left ((D, W.listOf vs.toArray c) :: own) q1
    replace q2 := List.mem_append_left ((D, W.listOf vs.toArray c) :: own) q2
    replace q3 := List.mem_append_left ((D, W.listOf vs.toArray c) :: own) q3
    replace q4 := List.mem_append_left ((D, W.listOf vs.toArray c) :: own) q4
    replace q5 := List.mem_append_left ((D, W.listOf vs.toArray c) :: own) q5
    have hsub : ∀ p ∈ rest, p ∈ rest ++ (D, W.listOf vs.toArray c) :: own := fun p hp => List.mem_append_left _ hp
    have hsubo : ∀ p ∈ own, p ∈ rest ++ (D, W.listOf vs.toArray c) :: own := fun p hp => List.mem_append_right _ (.tail _ hp)
    have hsubd : (D, W.listOf vs.toArray c) ∈ rest ++ (D, W.listOf vs.toArray c) :: own := List.mem_append_right _ (.head _)
    have hpe := parV_same r.par r.tp r.tq
    clear hi hn hlo hnd hkids hst hP
    generalize rest ++ (D, W.listOf vs.toArray c) :: own = rest2 at *
    clear N4 F2 N2 F3 N3
    k_steps
    refine InvEndN.intro (by assumption) (by assumption) ⟨List.Mem.head _, rfl⟩ rfl (fun p hp => ?_) (fun p hp => ?_)
    · rcases List.mem_cons.mp hp with rfl | hp
      · repeat' (first | assumption | exact List.Mem.head _ | refine List.Mem.tail _ ?_)
      · rcases List.mem_cons.mp hp with rfl | hp
        · repeat' (first | assumption | exact List.Mem.head _ | refine List.Mem.tail _ ?_)
        · rcases List.mem_cons.mp hp with rfl | hp
          · repeat' (first | assumption | exact List.Mem.head _ | refine List.Mem.tail _ ?_)
          · repeat' (first | exact hsub _ hp | refine List.Mem.tail _ ?_)
    · repeat' (first | exact hsubo _ hp | refine List.Mem.tail _ ?_)
  · rintro m₁ news₁ hp4 tk4 _ rfl F4 N4
    dsimp only
    clear hi N3 N2 F3 F2
    replace N4 := News.tail1 N4
    have hkl : (kvF 0 st.rows).length = st.rows.length := kvF_len _ _
    have hkl2 : (kvF 0 st.rows).length ≤ 100 := by omega
    have hrl : (refs st.rows).length = st.rows.length := refs_len _
    have hrl2 : (refs st.rows).length ≤ 100 := by omega
    clear hst hnd hkids
    by_cases hf : TabS rest
    · obtain ⟨c9, oc9, vs9, t9, c8, oc8, vs8, t8, hP1, hP2, hP3, hP4, hP5, hP6, hP7⟩ := hf
      clear hP
      k_steps
      exact hret _ _ _ _ _ (by assumption) (by k_asm) (by k_asm) (by assumption) (by assumption) (by assumption) (by assumption) ⟨rfl, ⟨c9, oc9, vs9, t9, c8, oc8, vs8, t8, (by repeat' (first | assumption | exact List.Mem.head _ | refine List.Mem.tail _ ?_)), (by repeat' (first | assumption | exact List.Mem.head _ | refine List.Mem.tail _ ?_)), hP3, hP4, (by repeat' (first | assumption | exact List.Mem.head _ | refine List.Mem.tail _ ?_)), hP6, hP7⟩, fun p hp _ => by repeat' (first | exact hp | refine List.Mem.tail _ ?_)⟩
    · have hP0 := hP.resolve_left hf
      obtain ⟨rest0, r1, r2⟩ : ∃ rest0 : Led, (∀ p ∈ rest, p.1 ≠ 322 → p ∈ rest0) ∧ ∀ p ∈ rest0, p ∈ rest ∧ p.1 ≠ 322 :=
        ⟨rest.filter fun p => decide (p.1 ≠ 322), fun p hp h => List.mem_filter.mpr ⟨hp, by simpa using h⟩, fun p hp => by
          have := List.mem_filter.mp hp
          exact ⟨this.1, by simpa using this.2⟩⟩
      have r3 : ∀ p ∈ rest0, p.1 ≠ 322 := fun p hp => (r2 p hp).2
      obtain ⟨EN, hEN, N6⟩ : ∃ EN : Led, (∀ p ∈ rest, p ∈ EN) ∧ News g' L' hp4 EN := ⟨_, (fun p hp => by repeat' (first | exact hp | refine List.Mem.tail _ ?_)), N4⟩
      have up : ∀ p ∈ rest, (∀ ps, p.2.data ≠ .fields ps) → p ∈ rest0 := fun p hp hd => r1 p hp fun e => by
        have z1 := (N6 p (hEN p hp)).1
        have z2 := (N6 _ (hEN _ hP0)).1
        rw [e, z2] at z1
        exact hd #[] (by rw [← Option.some.inj z1])
      have dbk : ∀ ps, st.od.data ≠ .fields ps := fun ps e => by
        obtain ⟨es, ep, _, hd, _⟩ := hod
        rw [hd] at e; cases e
      have g1 := up _ h1 fun ps e => by cases e
      have g2 := up _ h2 fun ps e => by cases e
      have g3 := up _ h3 fun ps e => by cases e
      have g5 := up _ h5 dbk
      have h322 : @LT.lt Nat _ 322 L' := l1 _ hP0
      replace N4 : News g' L' hp4 ((322, tabObj #[]) :: (L' + 1 + 1, _) :: (L' + 1, _) :: rest0) := fun p hp => N4 p (by
        rcases List.mem_cons.mp hp with rfl | hp
        · exact .tail _ (.tail _ hP0)
        · rcases List.mem_cons.mp hp with rfl | hp
          · exact .head _
          · rcases List.mem_cons.mp hp with rfl | hp
            · exact .tail _ (.head _)
            · exact .tail _ (.tail _ (r2 p hp).1))
      clear h1 h2 h3 h5 up N6 hEN hP N
      k_steps
      exact hret _ _ _ _ _ (by assumption) (by k_asm) (by k_asm) (by assumption) (by assumption) (by assumption) (by assumption) ⟨rfl, ⟨_, _, _, _, _, _, _, _, (by repeat' (first | assumption | exact List.Mem.head _ | refine List.Mem.tail _ ?_)), (by repeat' (first | assumption | exact List.Mem.head _ | refine List.Mem.tail _ ?_)), by assumption, by assumption, (by repeat' (first | assumption | exact List.Mem.head _ | refine List.Mem.tail _ ?_)), by assumption, by assumption⟩, fun p hp hor => by
        have hp := r1 p hp (hor.resolve_right hf)
        repeat' (first | exact hp | refine List.Mem.tail _ ?_)⟩
end
section
open PySem PySem.W PySem.Calls PyProof.Rows
/-- what _law_begun leaves -/
def BegunAt (w : World) (rest : Led) (v : Value) (news' : Led) : Prop := ∃ (st : Sto) (tp : Addr) (n : Nat), v = .ref tp ∧ (tp, tupOf [.ref st.tr, .ref st.bk] n) ∈ news' ∧ st.Wf w ∧
  st.faces = ([("root", "", none, [1]), ("element", "", some 0, [2]), ("text", "t", some 1, [])] : List (Str × Str × Option Int × List Int)) ∧ (∀ p ∈ st.led w, p ∈ news') ∧ (∀ p ∈ rest, p ∈ news') ∧ ∀ p ∈ rest, p.1 ∉ st.fkeys
def nat_ (l : List Nat) (i : Nat) : Nat := (l[i]?).getD 0
theorem nat_at {l : List Nat} {i : Nat} (h : i < l.length) : nat_ l i = l[i] := by
  unfold nat_
  rw [List.getElem?_eq_getElem h]; rfl
def Inc : List Nat → Prop
  | a :: b :: r => a < b ∧ Inc (b :: r)
  | _ => True
theorem Inc.le : ∀ {l : List Nat} {a : Nat}, Inc (a :: l) → ∀ x ∈ l, a < x
  | [], _, _, _, h => nomatch h
  | b :: l, a, ⟨h1, h2⟩, x, hx => by
    rcases List.mem_cons.mp hx with rfl | hx
    · exact h1
    · exact Nat.lt_trans h1 (Inc.le h2 x hx)
theorem Inc.tail : ∀ {l : List Nat} {a : Nat}, Inc (a :: l) → Inc l
  | [], _, _ => trivial
  | _ :: _, _, h => h.2
theorem Inc.pw : ∀ {l : List Nat}, Inc l → l.Pairwise (· < ·)
  | [], _ => .nil
  | _ :: _, h => .cons (Inc.le h) (Inc.pw (Inc.tail h))
theorem inc_lt {l : List Nat} (h : Inc l) {i j : Nat} (hij : i < j) (hj : j < l.length) : nat_ l i < nat_ l j := by
  rw [nat_at (Nat.lt_trans hij hj), nat_at hj]
  exact List.pairwise_iff_getElem.mp h.pw i j _ _ hij
theorem inc_nodup {l : List Nat} (h : Inc l) {n : Nat} (hn : l.length = n) {is : List Nat} (hi : is.Nodup) (hl : ∀ i ∈ is, i < n) : (is.map (nat_ l)).Nodup := by
  unfold List.Nodup
  rw [List.pairwise_map]
  refine List.Pairwise.imp_of_mem (fun {i j} hi' hj' hne => ?_) hi
  rcases Nat.lt_or_gt_of_ne hne with h1 | h1
  · exact Nat.ne_of_lt (inc_lt h h1 (hn ▸ hl j hj'))
  · exact Nat.ne_of_gt (inc_lt h h1 (hn ▸ hl i hi'))
theorem inc_le {l : List Nat} (h : Inc l) {n : Nat} (hn : l.length = n) {k : Nat} {is : List Nat} (hl : ∀ i ∈ is, k ≤ i ∧ i < n) : ∀ y ∈ is.map (nat_ l), nat_ l k ≤ y := fun y hy => by
  obtain ⟨i, hi, rfl⟩ := List.mem_map.mp hy
  obtain ⟨h1, h2⟩ := hl i hi
  rcases Nat.eq_or_lt_of_le h1 with rfl | h1
  · exact Nat.le_refl _
  · exact Nat.le_of_lt (inc_lt h h1 (hn ▸ h2))
theorem mem_one {α : Type} {p : α → Prop} {a : α} {l : List α} (h : p a) (hl : ∀ x ∈ l, p x) : ∀ x ∈ a :: l, p x := List.forall_mem_cons.mpr ⟨h, hl⟩
theorem begun_end (w : World) {news' rest : Led} {tp dT tr rl d0 a0 c0 d1 a1 c1 d2 a2 c2 bk g0 b0 g1 b1 g2 b2 x0 y0 x1 y1 x2 y2 cR n n0 n1 n2 m0 m1 m2 o0 o1 o2 : Nat} {od : Obj} {tkr s0 s1 s2 q0 q1 e0 e1 f0 f1 z0 z1 z2 j0 j1 j2 i1 i2 : Tok} {t0 t1 t2 : Nat → Tok}
   (h0 : (tp, tupOf [.ref tr, .ref bk] n) ∈ news') (hod : od.IsDictOf (PySem.intKind PySem.Challenge.rw_xw0201_01.row.prog w) (intKeyPairs [(.int 0 s0, .ref b0), (.int 1 s1, .ref b1), (.int 2 s2, .ref b2)])) (lo : (bk == sysModules) = false)
   (h1 : (bk, od) ∈ news') (h2 : (tr, instObj 260 dT) ∈ news') (h3 : (dT, rowsD w tkr rl) ∈ news') (h4 : (rl, listOf [.ref a0, .ref a1, .ref a2].toArray cR) ∈ news')
   (r0 : (a0, instObj 71 d0) ∈ news') (r1 : (a1, instObj 71 d1) ∈ news') (r2 : (a2, instObj 71 d2) ∈ news')
   (u0 : (d0, rowD w t0 "root" "" "" "" "" .none c0 x0 y0) ∈ news') (u1 : (d1, rowD w t1 "element" "e" "u:1" "e" "" (.int 0 i1) c1 x1 y1) ∈ news') (u2 : (d2, rowD w t2 "text" "" "" "" "t" (.int 1 i2) c2 x2 y2) ∈ news')
   (v0 : (c0, listOf [.int 1 q0].toArray n0) ∈ news') (v1 : (c1, listOf [.int 2 q1].toArray n1) ∈ news') (v2 : (c2, listOf [].toArray n2) ∈ news')
   (k0 : (b0, listOf [.str "root" z0, .str "" j0, .none, .ref g0].toArray m0) ∈ news') (k1 : (b1, listOf [.str "element" z1, .str "" j1, .int 0 e0, .ref g1].toArray m1) ∈ news') (k2 : (b2, listOf [.str "text" z2, .str "t" j2, .int 1 e1, .ref g2].toArray m2) ∈ news')
   (p0 : (g0, listOf [.int 1 f0].toArray o0) ∈ news') (p1 : (g1, listOf [.int 2 f1].toArray o1) ∈ news') (p2 : (g2, listOf [].toArray o2) ∈ news')
   (hrest : ∀ p ∈ rest, p ∈ news') (hlt : AllLt rl rest) (hch : dT < tr ∧ tr < rl ∧ rl < d0 ∧ d0 < a0 ∧ a0 < c0 ∧ c0 < d1 ∧ d1 < a1 ∧ a1 < c1 ∧ c1 < d2 ∧ d2 < a2 ∧ a2 < c2 ∧ c2 < bk ∧ bk < g0 ∧ g0 < b0 ∧ b0 < g1 ∧ g1 < b1 ∧ b1 < g2 ∧ g2 < b2) : BegunAt w rest (.ref tp) news' := by
  let A : Nd := ⟨a0, d0, c0, x0, y0, b0, g0, t0, "root", "", "", "", "", z0, j0, none, 0, 0, [1], [.int 1 q0], [.int 1 f0], n0, m0, o0⟩
  let B : Nd := ⟨a1, d1, c1, x1, y1, b1, g1, t1, "element", "e", "u:1", "e", "", z1, j1, some 0, i1, e0, [2], [.int 2 q1], [.int 2 f1], n1, m1, o1⟩
  let C : Nd := ⟨a2, d2, c2, x2, y2, b2, g2, t2, "text", "", "", "", "t", z2, j2, some 1, i2, e1, [], [], [], n2, m2, o2⟩
  let st : Sto := ⟨tr, dT, rl, bk, tkr, cR, od, [A, B, C]⟩
  have inc : Inc [dT, tr, rl, d0, a0, c0, d1, a1, c1, d2, a2, c2, bk, g0, b0, g1, b1, g2, b2] := by
    obtain ⟨e1, e2, e3, e4, e5, e6, e7, e8, e9, f1, f2, f3, f4, f5, f6, f7, f8, f9⟩ := hch
    exact ⟨e1, e2, e3, e4, e5, e6, e7, e8, e9, f1, f2, f3, f4, f5, f6, f7, f8, f9, trivial⟩
  refine ⟨st, tp, n, rfl, h0, ⟨hod, lo, ?_, ?_, (by show 0 < 3; omega), (by show 3 ≤ 60; omega)⟩, rfl, ?_, hrest, fun p hp hk => ?_⟩
  · exact mem_one ⟨.cons _ _ .nil, .cons _ _ .nil, by show 1 ≤ 3; omega⟩ (mem_one ⟨.cons _ _ .nil, .cons _ _ .nil, by show 1 ≤ 3; omega⟩ (mem_one ⟨.nil, .nil, by show 0 ≤ 3; omega⟩ fun _ h => nomatch h))
  · exact inc_nodup inc (n := 19) rfl (is := [1, 0, 2, 12, 4, 3, 5, 14, 13, 7, 6, 8, 16, 15, 10, 9, 11, 18, 17]) (by decide) (by decide)
  · exact mem_one h2 (mem_one h3 (mem_one h4 (mem_one h1 (mem_one r0 (mem_one u0 (mem_one v0 (mem_one k0 (mem_one p0 (mem_one r1 (mem_one u1 (mem_one v1 (mem_one k1 (mem_one p1 (mem_one r2 (mem_one u2 (mem_one v2 (mem_one k2 (mem_one p2 fun _ h => nomatch h))))))))))))))))))
  · have h := allLt_mem hlt p hp
    have h2 := inc_le inc (n := 19) rfl (k := 2) (is := [2, 12, 3, 5, 14, 13, 6, 8, 16, 15, 9, 11, 18, 17]) (by decide) p.1 hk
    exact absurd h (Nat.not_lt.mpr h2)
theorem ln_Begun_0 : True := by
  w_top off
  k_with_none
  k_with "call builtin:len" => (k_here; (with_reducible show wpAny _ _ (call (Value.builtin "len") [Value.ref _]) _ _ _); k_dflt (refine' len_led ?k1 ?k2 ?k3 ?_; (case k1 => k_asm); (case k2 => (repeat' (first | assumption | exact List.Mem.head _ | refine List.Mem.tail _ ?_))); (case k3 => ((try simp only [List.length_cons, List.length_nil, List.length_append, List.length_map]); omega)); k_whole); (try dsimp only))
  k_with "subscriptTail" => (k_here; (with_reducible show wpAny _ _ (subscriptTail _ _ (Value.ref _) (Value.int _ _)) _ _ _); k_dflt (refine' item_led ?k1 ?k2 ?k3 ?k4 ?k5 ?_ ?k6; (case k1 => k_asm); (case k2 => (repeat' (first | assumption | exact List.Mem.head _ | refine List.Mem.tail _ ?_))); (case k3 => omega); (case k4 => omega); (case k5 => (first | assumption | (rw [List.getElem?_append_left (by omega)]; assumption))); (case k6 => with_unfolding_all rfl); k_whole); (try dsimp only))
  k_with "exec Raise some none" => (k_here; (with_reducible show wpAny _ _ (exec (Stmt.Raise (some (Expr.Call (Expr.Name (Str.ofString "TreeFault") _) [Expr.Constant (Const.str _) _ _] [] _)) none _) _) _ _ _); k_dflt (refine' raise_tf ?kB ?kF ?kX ?kN ?kT ?kk ?kx ?kn ?ki ?kf ?kd ?ku ?_; (case kB => k_asm); (case kF => k_asm); (case kX => k_asm); (case kN => k_asm); (case kT => assumption); (case kk => rfl); (case kx => k_is); (case kn => rfl); (case ki => k_is); (case kf => k_is); (case kd => ktr_room); (case ku => ktr_units); k_whole); intro eω tω dω hω tkω Fω Nω neω)
  k_with "leaving ref" => (k_here; k_dflt (refine' leave_led ?kK ?kF ?kN ?kne ?kd ?k1 ?k0 ?_; (case kF => k_asm); (case kN => k_asm); (case kK => k_asm); (case kne => k_asm); (case kd => rfl); (case k1 => rfl); (case k0 => rfl); k_whole); intro hω Sω Rω Uω; (try dsimp only at Sω Rω Uω ⊢))
  k_with "leaving ref" => (k_here; k_dflt (refine' leave_onSN ?k1 ?k2 ?k3 ?k4 ?_; (case k3 => assumption); (case k2 => assumption); (case k1 => assumption); (case k4 => assumption); k_whole); intro hω Sω Rω Uω; (try dsimp only at Sω Rω Uω ⊢))
  k_with "getAttr ref" => (k_here; k_dflt (refine' get_own ?k1 ?k2 ?k3 ?k4 ?k5 ?k6 ?k7 ?k8 ?k9 ?_; (case k1 => k_asm); (case k2 => k_asm); (case k3 => k_inst); (case k4 => k_is); (case k5 => k_is); (case k6 => k_is); (case k7 => k_is); (case k8 => k_get); (case k9 => k_handed); k_whole); (try dsimp only))
  k_with "eval Constant int" => (k_here; refine wpAny_Constant_int ?_; (try dsimp only))
  k_with "eval Constant str" => (k_here; refine Calls.Constant_str ?_; (try dsimp only))
  k_with "call ref" => (k_here; (with_reducible show wpAny _ _ (call (Value.ref 103) _) _ _ _); k_dflt (refine' use_ctr (row_ok _ _ _ _ _ _ _ _ _ _ _ ?q1 ?q2 ?q3 ?q4 ?q5 ?q6 ?q7) ?uB ?uF ?uX ?uN ?uT ?uk ?ud ?uu ?_; (case uF => k_asm); (case uN => k_asm); (case uB => k_asm); (case uX => k_asm); (case uT => assumption); (case uk => rfl); (case q1 => (repeat' (first | assumption | exact List.Mem.head _ | refine List.Mem.tail _ ?_))); (case q2 => (repeat' (first | assumption | exact List.Mem.head _ | refine List.Mem.tail _ ?_))); (case q3 => (first | ((repeat' (first | assumption | exact List.Mem.head _ | refine List.Mem.tail _ ?_)); done) | (refine push_mem ?_; (repeat' (first | assumption | exact List.Mem.head _ | refine List.Mem.tail _ ?_)); done))); (case q4 => omega); (case q5 => (first | omega | ((simp only [List.length_append, List.length_cons, List.length_nil]); omega))); (case q6 => (first | assumption | (rw [List.getElem?_append_left (by omega)]; assumption) | (refine' app_last ?hz; (case hz => omega)))); (case q7 => (first | assumption | ((simp only [List.length_append, List.length_cons, List.length_nil]); omega))); (case ud => ktr_room); (case uu => ktr_units); k_whole); intro vω hω tkω nω Fω Nω hPω; obtain ⟨e1ω, e2ω⟩ := hPω; subst e1ω; subst e2ω; (try dsimp only))
  k_with "call ref" => (k_here; (with_reducible show wpAny _ _ (call (Value.ref 103) _) _ _ _); k_dflt (refine' use_rctr (row_bad _ _ _ _ _ _ _ _ _ _ ?q1 ?q2 ?q3 ?q4 ?q7) ?uB ?uF ?uX ?uN ?uT ?uk ?ud ?uu ?_; (case uF => k_asm); (case uN => k_asm); (case uB => k_asm); (case uX => k_asm); (case uT => assumption); (case uk => rfl); (case q1 => (repeat' (first | assumption | exact List.Mem.head _ | refine List.Mem.tail _ ?_))); (case q2 => (repeat' (first | assumption | exact List.Mem.head _ | refine List.Mem.tail _ ?_))); (case q3 => (first | ((repeat' (first | assumption | exact List.Mem.head _ | refine List.Mem.tail _ ?_)); done) | (refine push_mem ?_; (repeat' (first | assumption | exact List.Mem.head _ | refine List.Mem.tail _ ?_)); done))); (case q4 => omega); (case q7 => assumption); (case ud => ktr_room); (case uu => ktr_units); k_whole); intro eω Gω hω tkω FGω Sω Uω; (try dsimp only))
  k_with "compareOp In str ref" => (k_here; (with_reducible show wpAny _ _ (compareOp CmpOp.In (Value.str _ _) (Value.ref _)) _ _ _); k_dflt (refine' in_parT ?k1 ?k2 ?k3 ?k4 ?_; (case k1 => k_asm); (case k2 => k_asm); (case k3 => k_is); (case k4 => assumption); k_whole))
  k_with "compareOp NotIn str ref" => (k_here; (with_reducible show wpAny _ _ (compareOp CmpOp.NotIn (Value.str _ _) (Value.ref _)) _ _ _); k_dflt (refine' notin_parT ?k1 ?k2 ?k3 ?k4 ?_; (case k1 => k_asm); (case k2 => k_asm); (case k3 => k_is); (case k4 => assumption); k_whole))
  k_with "compareOp In str ref" => (k_here; (with_reducible show wpAny _ _ (compareOp CmpOp.In (Value.str _ _) (Value.ref _)) _ _ _); k_dflt (refine' in_parL ?k1 ?k2 ?k4 ?_; (case k1 => k_asm); (case k2 => k_mem); (case k4 => assumption); k_whole))
  k_with "call ref" => (k_here; (with_reducible show wpAny _ _ (call (Value.ref 96) _) _ _ _); k_dflt (refine' use_ctr (newrow _ _ _ _ _ _ _ _ _ _ _ _ _ _ _ _ _ _ _ ?q1 ?q2 ?q3 ?q4 ?q5) ?uB ?uF ?uX ?uN ?uT ?uk ?ud ?uu ?_; (case uF => k_asm); (case uN => k_asm); (case uB => k_asm); (case uX => k_asm); (case uT => assumption); (case uk => rfl); (case q1 => (repeat' (first | assumption | exact List.Mem.head _ | refine List.Mem.tail _ ?_))); (case q2 => (repeat' (first | assumption | exact List.Mem.head _ | refine List.Mem.tail _ ?_))); (case q3 => k_all); (case q4 => assumption); (case q5 => (first | exact Or.inl rfl | exact Or.inr ⟨_, _, rfl⟩ | assumption)); (case ud => ktr_room); (case uu => ktr_units); k_whole); intro vω hω tkω nω Fω Nω hPω; obtain ⟨dω, aω, ccω, xω, yω, odω, tk2ω, n2ω, e1ω, e2ω, ⟨tω, e3ω⟩, hqω⟩ := hPω; have l6ω := hqω; k_dflt (obtain ⟨l1ω, l2ω, l3ω, l4ω, l5ω⟩ := l6ω); subst e1ω; subst e2ω; subst e3ω; (try simp only [AllLt] at l1ω); (try simp only [AllLt] at l3ω); (try simp only [AllLt] at l4ω); (try simp only [AllLt] at l5ω); (try dsimp only))
  k_with "eval IfExp" => (k_here; refine hold_ ?_)
  k_with "compareOp NotEq int int" => (k_here; k_dflt (refine' ne_int_same ?ka ?_; (case ka => ((try simp only [List.length_append, List.length_cons, List.length_nil]); omega)); k_whole); (try dsimp only))
  k_with "call ref" => (k_here; (with_reducible show wpAny _ _ (call (Value.ref 117) _) _ _ _); k_dflt (refine' use_ctr (add_parP _ ?q1 ?q2 ?q3 ?q4 ?q5 ?p1 ?p2 ?q6 ?q7 ?q8 ?q9 ?q0 ?qa ?qb ?qc) ?uB ?uF ?uX ?uN ?uT ?uk ?ud ?uu ?_; (case uF => k_asm); (case uB => k_asm); (case uX => k_asm); (case uT => assumption); (case uk => rfl); (case uN => k_asm); (case q1 => (repeat' (first | assumption | exact List.Mem.head _ | refine List.Mem.tail _ ?_))); (case q2 => (repeat' (first | assumption | exact List.Mem.head _ | refine List.Mem.tail _ ?_))); (case q3 => assumption); (case q4 => (repeat' (first | assumption | exact List.Mem.head _ | refine List.Mem.tail _ ?_))); (case q5 => (repeat' (first | assumption | exact List.Mem.head _ | refine List.Mem.tail _ ?_))); (case p1 => (repeat' (first | exact Pull.head | refine' Pull.tail ?_))); (case p2 => (repeat' (first | exact Pull.head | refine' Pull.tail ?_))); (case q6 => k_all); (case q7 => k_all); (case q8 => omega); (case q9 => omega); (case q0 => omega); (case qa => omega); (case qb => assumption); (case qc => assumption); (case ud => ktr_room); (case uu => ktr_units); k_whole); intro vω hω tkω nω Fω Nω hPω; k_dflt (obtain ⟨dω, aω, ccω, xω, yω, odω, tk2ω, n2ω, n3ω, e1ω, e2ω, ⟨tω, e3ω⟩, hqω⟩ := hPω); subst e1ω; subst e2ω; subst e3ω; have l6ω := hqω; k_dflt (obtain ⟨l1ω, l2ω, l3ω, l4ω, l5ω⟩ := l6ω); (try simp only [AllLt] at l1ω); (try simp only [AllLt] at l3ω); (try simp only [AllLt] at l4ω); (try simp only [AllLt] at l5ω); (try dsimp only); (try k_sweep))
  k_with "call ref" => (k_here; (with_reducible show wpAny _ _ (call (Value.ref 117) _) _ _ _); k_dflt (refine' use_ctr (add_noneP _ ?q1 ?q2 ?p1 ?q6 ?qa) ?uB ?uF ?uX ?uN ?uT ?uk ?ud ?uu ?_; (case uF => k_asm); (case uB => k_asm); (case uX => k_asm); (case uT => assumption); (case uk => rfl); (case uN => k_asm); (case q1 => (repeat' (first | assumption | exact List.Mem.head _ | refine List.Mem.tail _ ?_))); (case q2 => (repeat' (first | assumption | exact List.Mem.head _ | refine List.Mem.tail _ ?_))); (case p1 => (repeat' (first | exact Pull.head | refine' Pull.tail ?_))); (case q6 => k_all); (case qa => omega); (case ud => ktr_room); (case uu => ktr_units); k_whole); intro vω hω tkω nω Fω Nω hPω; k_dflt (obtain ⟨dω, aω, ccω, xω, yω, odω, tk2ω, n2ω, e1ω, e2ω, ⟨tω, e3ω⟩, hqω⟩ := hPω); subst e1ω; subst e2ω; subst e3ω; have l6ω := hqω; k_dflt (obtain ⟨l1ω, l2ω, l3ω, l4ω, l5ω⟩ := l6ω); (try simp only [AllLt] at l1ω); (try simp only [AllLt] at l3ω); (try simp only [AllLt] at l4ω); (try simp only [AllLt] at l5ω); (try dsimp only); (try k_sweep))
  k_with "call ref" => (k_here; (with_reducible show wpAny _ _ (call (Value.ref 187) _) _ _ _); k_dflt (refine' use_ctr (name_ok _ _ _ _ _ _ _ _ _ _ ?q1 ?q2 ?q3 _ _ _ _ _ _ _ _ _ _ _ _ ?q4 ?q5 ?q6 ?q7 ?q8 ?q9) ?uB ?uF ?uX ?uN ?uT ?uk ?ud ?uu ?_; (case uF => k_asm); (case uB => k_asm); (case uX => k_asm); (case uT => assumption); (case uk => rfl); (case uN => k_asm); (case q1 => (repeat' (first | assumption | exact List.Mem.head _ | refine List.Mem.tail _ ?_))); (case q2 => (repeat' (first | assumption | exact List.Mem.head _ | refine List.Mem.tail _ ?_))); (case q3 => (first | ((repeat' (first | assumption | exact List.Mem.head _ | refine List.Mem.tail _ ?_)); done) | (refine push_mem ?_; (repeat' (first | assumption | exact List.Mem.head _ | refine List.Mem.tail _ ?_)); done))); (case q6 => ((try simp only [List.length_append, List.length_cons, List.length_nil]); omega)); (case q7 => ((try simp only [List.length_append, List.length_cons, List.length_nil]); omega)); (case q8 => (first | assumption | (refine' app_last ?hz; (case hz => omega)))); (case q4 => (repeat' (first | assumption | exact List.Mem.head _ | refine List.Mem.tail _ ?_))); (case q5 => (repeat' (first | assumption | exact List.Mem.head _ | refine List.Mem.tail _ ?_))); (case q9 => ((try simp only [List.length_append, List.length_cons, List.length_nil]); omega)); (case ud => ktr_room); (case uu => ktr_units); k_whole); intro vω hω tkω nω Fω Nω hPω; obtain ⟨e1ω, e2ω⟩ := hPω; subst e1ω; subst e2ω; (try dsimp only); (try k_sweep))
  k_with "call ref" => (k_here; (with_reducible show wpAny _ _ (call (Value.ref 194) _) _ _ _); k_dflt (refine' use_ctr (uri_ok _ _ _ _ _ _ _ _ _ _ ?q1 ?q2 ?q3 _ _ _ _ _ _ _ _ _ _ _ _ ?q4 ?q5 ?q6 ?q7 ?q8 ?q9) ?uB ?uF ?uX ?uN ?uT ?uk ?ud ?uu ?_; (case uF => k_asm); (case uB => k_asm); (case uX => k_asm); (case uT => assumption); (case uk => rfl); (case uN => k_asm); (case q1 => (repeat' (first | assumption | exact List.Mem.head _ | refine List.Mem.tail _ ?_))); (case q2 => (repeat' (first | assumption | exact List.Mem.head _ | refine List.Mem.tail _ ?_))); (case q3 => (first | ((repeat' (first | assumption | exact List.Mem.head _ | refine List.Mem.tail _ ?_)); done) | (refine push_mem ?_; (repeat' (first | assumption | exact List.Mem.head _ | refine List.Mem.tail _ ?_)); done))); (case q6 => ((try simp only [List.length_append, List.length_cons, List.length_nil]); omega)); (case q7 => ((try simp only [List.length_append, List.length_cons, List.length_nil]); omega)); (case q8 => (first | assumption | (refine' app_last ?hz; (case hz => omega)))); (case q4 => (repeat' (first | assumption | exact List.Mem.head _ | refine List.Mem.tail _ ?_))); (case q5 => (repeat' (first | assumption | exact List.Mem.head _ | refine List.Mem.tail _ ?_))); (case q9 => ((try simp only [List.length_append, List.length_cons, List.length_nil]); omega)); (case ud => ktr_room); (case uu => ktr_units); k_whole); intro vω hω tkω nω Fω Nω hPω; obtain ⟨e1ω, e2ω⟩ := hPω; subst e1ω; subst e2ω; (try dsimp only); (try k_sweep))
  k_with "call ref" => (k_here; (with_reducible show wpAny _ _ (call (Value.ref 201) _) _ _ _); k_dflt (refine' use_ctr (loc_ok _ _ _ _ _ _ _ _ _ _ ?q1 ?q2 ?q3 _ _ _ _ _ _ _ _ _ _ _ _ ?q4 ?q5 ?q6 ?q7 ?q8 ?q9) ?uB ?uF ?uX ?uN ?uT ?uk ?ud ?uu ?_; (case uF => k_asm); (case uB => k_asm); (case uX => k_asm); (case uT => assumption); (case uk => rfl); (case uN => k_asm); (case q1 => (repeat' (first | assumption | exact List.Mem.head _ | refine List.Mem.tail _ ?_))); (case q2 => (repeat' (first | assumption | exact List.Mem.head _ | refine List.Mem.tail _ ?_))); (case q3 => (first | ((repeat' (first | assumption | exact List.Mem.head _ | refine List.Mem.tail _ ?_)); done) | (refine push_mem ?_; (repeat' (first | assumption | exact List.Mem.head _ | refine List.Mem.tail _ ?_)); done))); (case q6 => ((try simp only [List.length_append, List.length_cons, List.length_nil]); omega)); (case q7 => ((try simp only [List.length_append, List.length_cons, List.length_nil]); omega)); (case q8 => (first | assumption | (refine' app_last ?hz; (case hz => omega)))); (case q4 => (repeat' (first | assumption | exact List.Mem.head _ | refine List.Mem.tail _ ?_))); (case q5 => (repeat' (first | assumption | exact List.Mem.head _ | refine List.Mem.tail _ ?_))); (case q9 => ((try simp only [List.length_append, List.length_cons, List.length_nil]); omega)); (case ud => ktr_room); (case uu => ktr_units); k_whole); intro vω hω tkω nω Fω Nω hPω; obtain ⟨e1ω, e2ω⟩ := hPω; subst e1ω; subst e2ω; (try dsimp only); (try k_sweep))
  k_with "call ref" => (k_here; (with_reducible show wpAny _ _ (call (Value.ref 117) _) _ _ _); k_dflt (refine' use_ctr (add_parP _ ?q1 ?q2 ?q3 ?q4 ?q5 ?p1 ?p2 ?q6 ?q7 ?q8 ?q9 ?q0 ?qa ?qb ?qc) ?uB ?uF ?uX ?uN ?uT ?uk ?ud ?uu ?_; (case uF => k_asm); (case uB => k_asm); (case uX => k_asm); (case uT => assumption); (case uk => rfl); (case uN => k_asm); (case q1 => (repeat' (first | assumption | exact List.Mem.head _ | refine List.Mem.tail _ ?_))); (case q2 => (repeat' (first | assumption | exact List.Mem.head _ | refine List.Mem.tail _ ?_))); (case p1 => (repeat' (first | exact Pull.head | refine' Pull.tail ?_))); (case q3 => first | assumption | exact rfl); (case q4 => (repeat' (first | assumption | exact List.Mem.head _ | refine List.Mem.tail _ ?_))); (case q5 => (repeat' (first | assumption | exact List.Mem.head _ | refine List.Mem.tail _ ?_))); (case p2 => (repeat' (first | exact Pull.head | refine' Pull.tail ?_))); (case q6 => ((repeat' (refine' ne_cons ?_ ?_)); (all_goals first | (refine' neA ?_; omega) | k_all))); (case q7 => ((repeat' (refine' ne_cons ?_ ?_)); (all_goals first | (refine' neA ?_; omega) | k_all))); (case q8 => first | omega | decide | ((try simp only [List.length_append, List.length_cons, List.length_nil]); omega)); (case q9 => first | omega | decide | ((try simp only [List.length_append, List.length_cons, List.length_nil]); omega)); (case q0 => first | omega | decide | ((try simp only [List.length_append, List.length_cons, List.length_nil]); omega)); (case qa => first | omega | decide | ((try simp only [List.length_append, List.length_cons, List.length_nil]); omega)); (case qb => first | assumption | exact rfl | decide | ((try simp only [List.length_append, List.length_cons, List.length_nil]); omega)); (case qc => first | assumption | exact rfl | decide | ((try simp only [List.length_append, List.length_cons, List.length_nil]); omega)); (case ud => ktr_room); (case uu => ktr_units); k_whole); intro vω hω tkω nω Fω Nω hPω; k_dflt (obtain ⟨dω, aω, ccω, xω, yω, odω, tk2ω, n2ω, n3ω, e1ω, e2ω, ⟨tω, e3ω⟩, hqω⟩ := hPω); subst e1ω; subst e2ω; subst e3ω; have l6ω := hqω; k_dflt (obtain ⟨l1ω, l2ω, l3ω, l4ω, l5ω⟩ := l6ω); (try simp only [AllLt] at l1ω); (try simp only [AllLt] at l3ω); (try simp only [AllLt] at l4ω); (try simp only [AllLt] at l5ω); (try dsimp only); (try k_sweep))
  trivial
theorem begun (w : World) (rest : Led) : Ctr w 299 [] rest 100 400 (fun v' news' => BegunAt w rest v' news') := by
  unfold Ctr
  k_fill
  intro p loose mean mg mb dp un gd cn cs aa ccd cl outer A₀ base h₀ L m s Q E B F X N T hk hd hu hret
  have z0 : ([] : List Value).length ≤ 100 := by decide
  refine wpAny_call ?_
  k_dflt ktr_enter
  k_steps
  exact hret _ _ _ _ (by k_asm) (by k_asm) (begun_end w (List.Mem.head _) (by assumption) (by assumption) (by repeat' (first | exact List.Mem.head _ | refine List.Mem.tail _ ?_)) (by repeat' (first | exact List.Mem.head _ | refine List.Mem.tail _ ?_)) (by repeat' (first | exact List.Mem.head _ | refine List.Mem.tail _ ?_)) (by repeat' (first | exact List.Mem.head _ | refine List.Mem.tail _ ?_)) (by repeat' (first | exact List.Mem.head _ | refine List.Mem.tail _ ?_)) (by repeat' (first | exact List.Mem.head _ | refine List.Mem.tail _ ?_)) (by repeat' (first | exact List.Mem.head _ | refine List.Mem.tail _ ?_)) (by repeat' (first | exact List.Mem.head _ | refine List.Mem.tail _ ?_)) (by repeat' (first | exact List.Mem.head _ | refine List.Mem.tail _ ?_)) (by repeat' (first | exact List.Mem.head _ | refine List.Mem.tail _ ?_)) (by repeat' (first | exact List.Mem.head _ | refine List.Mem.tail _ ?_)) (by repeat' (first | exact List.Mem.head _ | refine List.Mem.tail _ ?_)) (by repeat' (first | exact List.Mem.head _ | refine List.Mem.tail _ ?_)) (by repeat' (first | exact List.Mem.head _ | refine List.Mem.tail _ ?_)) (by repeat' (first | exact List.Mem.head _ | refine List.Mem.tail _ ?_)) (by repeat' (first | exact List.Mem.head _ | refine List.Mem.tail _ ?_)) (by repeat' (first | exact List.Mem.head _ | refine List.Mem.tail _ ?_)) (by repeat' (first | exact List.Mem.head _ | refine List.Mem.tail _ ?_)) (by repeat' (first | exact List.Mem.head _ | refine List.Mem.tail _ ?_)) (fun p hp => by repeat' (first | exact hp | refine List.Mem.tail _ ?_)) (And.right (And.right (by assumption))) (by omega))
end
section
open PySem PySem.W PySem.Calls PyProof.Rows
section
variable {prog : Program} {w : World} {A : Around} {E : Value → Shared → Prop} {s : Shared} {h₀ : Heap} {L D : Addr} {m : Str → Option Value} {vs : Array Value}
theorem len_g {Q : Value → Shared → Prop} (hL : h₀.IsList D vs) (F : Fr h₀ L s.heap m) (hf : vs.size ≤ 63) (h : Q (.int (vs.size : Int) (s.toks + 1)) { s with toks := s.toks + 1 + 1 }) :
    wpAny (model prog w) A (call (.builtin "len") [.ref D]) Q E s :=
  len_list (hL.at fun _ e => F.keep _ _ e) (by omega) h
theorem item_g {value slice : PySem.Expr} {k : Int} {u : Tok} {v : Value} {Q : Value → Shared → Prop} (hL : h₀.IsList D vs) (F : Fr h₀ L s.heap m)
    (h0 : 0 ≤ k) (hhi : k < 2 ^ 63) (hx : vs[k.toNat]? = some v) (h : Q v s)
    (hs : subscripted slice false (.ref D) (.int k u) = operate [.ref D, .int k u] (getItem (.ref D) (.int k u)) := by with_unfolding_all rfl) :
    wpAny (model prog w) A (subscriptTail value slice (.ref D) (.int k u)) Q E s :=
  have hL' := hL.at fun _ e => F.keep _ _ e
  tail_any hL'.typeIs slot_list_getitem.lookup (wpAny_getItem_list hL' h0 hhi hx h) hs
end
theorem ln_Pool_0 : True := by
  w_top off
  k_with_none
  k_with "call builtin:len" => (k_here; (with_reducible show wpAny _ _ (call (Value.builtin "len") [Value.ref _]) _ _ _); k_dflt (refine' len_led ?k1 ?k2 ?k3 ?_; (case k1 => k_asm); (case k2 => (repeat' (first | assumption | exact List.Mem.head _ | refine List.Mem.tail _ ?_))); (case k3 => ((try simp only [List.length_cons, List.length_nil, List.length_append, List.length_map]); omega)); k_whole); (try dsimp only))
  k_with "subscriptTail" => (k_here; (with_reducible show wpAny _ _ (subscriptTail _ _ (Value.ref _) (Value.int _ _)) _ _ _); k_dflt (refine' item_led ?k1 ?k2 ?k3 ?k4 ?k5 ?_ ?k6; (case k1 => k_asm); (case k2 => (repeat' (first | assumption | exact List.Mem.head _ | refine List.Mem.tail _ ?_))); (case k3 => omega); (case k4 => omega); (case k5 => (first | assumption | (rw [List.getElem?_append_left (by omega)]; assumption))); (case k6 => with_unfolding_all rfl); k_whole); (try dsimp only))
  k_with "exec Raise some none" => (k_here; (with_reducible show wpAny _ _ (exec (Stmt.Raise (some (Expr.Call (Expr.Name (Str.ofString "TreeFault") _) [Expr.Constant (Const.str _) _ _] [] _)) none _) _) _ _ _); k_dflt (refine' raise_tf ?kB ?kF ?kX ?kN ?kT ?kk ?kx ?kn ?ki ?kf ?kd ?ku ?_; (case kB => k_asm); (case kF => k_asm); (case kX => k_asm); (case kN => k_asm); (case kT => assumption); (case kk => rfl); (case kx => k_is); (case kn => rfl); (case ki => k_is); (case kf => k_is); (case kd => ktr_room); (case ku => ktr_units); k_whole); intro eω tω dω hω tkω Fω Nω neω)
  k_with "leaving ref" => (k_here; k_dflt (refine' leave_led ?kK ?kF ?kN ?kne ?kd ?k1 ?k0 ?_; (case kF => k_asm); (case kN => k_asm); (case kK => k_asm); (case kne => k_asm); (case kd => rfl); (case k1 => rfl); (case k0 => rfl); k_whole); intro hω Sω Rω Uω; (try dsimp only at Sω Rω Uω ⊢))
  k_with "leaving ref" => (k_here; k_dflt (refine' leave_onSN ?k1 ?k2 ?k3 ?k4 ?_; (case k3 => assumption); (case k2 => assumption); (case k1 => assumption); (case k4 => assumption); k_whole); intro hω Sω Rω Uω; (try dsimp only at Sω Rω Uω ⊢))
  k_with "getAttr ref" => (k_here; k_dflt (refine' get_own ?k1 ?k2 ?k3 ?k4 ?k5 ?k6 ?k7 ?k8 ?k9 ?_; (case k1 => k_asm); (case k2 => k_asm); (case k3 => k_inst); (case k4 => k_is); (case k5 => k_is); (case k6 => k_is); (case k7 => k_is); (case k8 => k_get); (case k9 => k_handed); k_whole); (try dsimp only))
  k_with "eval Constant int" => (k_here; refine wpAny_Constant_int ?_; (try dsimp only))
  k_with "eval Constant str" => (k_here; refine Calls.Constant_str ?_; (try dsimp only))
  k_with "call ref" => (k_here; (with_reducible show wpAny _ _ (call (Value.ref 103) _) _ _ _); k_dflt (refine' use_ctr (row_ok _ _ _ _ _ _ _ _ _ _ _ ?q1 ?q2 ?q3 ?q4 ?q5 ?q6 ?q7) ?uB ?uF ?uX ?uN ?uT ?uk ?ud ?uu ?_; (case uF => k_asm); (case uN => k_asm); (case uB => k_asm); (case uX => k_asm); (case uT => assumption); (case uk => rfl); (case q1 => (repeat' (first | assumption | exact List.Mem.head _ | refine List.Mem.tail _ ?_))); (case q2 => (repeat' (first | assumption | exact List.Mem.head _ | refine List.Mem.tail _ ?_))); (case q3 => (first | ((repeat' (first | assumption | exact List.Mem.head _ | refine List.Mem.tail _ ?_)); done) | (refine push_mem ?_; (repeat' (first | assumption | exact List.Mem.head _ | refine List.Mem.tail _ ?_)); done))); (case q4 => omega); (case q5 => (first | omega | ((simp only [List.length_append, List.length_cons, List.length_nil]); omega))); (case q6 => (first | assumption | (rw [List.getElem?_append_left (by omega)]; assumption) | (refine' app_last ?hz; (case hz => omega)))); (case q7 => (first | assumption | ((simp only [List.length_append, List.length_cons, List.length_nil]); omega))); (case ud => ktr_room); (case uu => ktr_units); k_whole); intro vω hω tkω nω Fω Nω hPω; obtain ⟨e1ω, e2ω⟩ := hPω; subst e1ω; subst e2ω; (try dsimp only))
  k_with "call ref" => (k_here; (with_reducible show wpAny _ _ (call (Value.ref 103) _) _ _ _); k_dflt (refine' use_rctr (row_bad _ _ _ _ _ _ _ _ _ _ ?q1 ?q2 ?q3 ?q4 ?q7) ?uB ?uF ?uX ?uN ?uT ?uk ?ud ?uu ?_; (case uF => k_asm); (case uN => k_asm); (case uB => k_asm); (case uX => k_asm); (case uT => assumption); (case uk => rfl); (case q1 => (repeat' (first | assumption | exact List.Mem.head _ | refine List.Mem.tail _ ?_))); (case q2 => (repeat' (first | assumption | exact List.Mem.head _ | refine List.Mem.tail _ ?_))); (case q3 => (first | ((repeat' (first | assumption | exact List.Mem.head _ | refine List.Mem.tail _ ?_)); done) | (refine push_mem ?_; (repeat' (first | assumption | exact List.Mem.head _ | refine List.Mem.tail _ ?_)); done))); (case q4 => omega); (case q7 => assumption); (case ud => ktr_room); (case uu => ktr_units); k_whole); intro eω Gω hω tkω FGω Sω Uω; (try dsimp only))
  k_with "call builtin:len" => (k_here; (with_reducible show wpAny _ _ (call (Value.builtin "len") [Value.ref _]) _ _ _); k_dflt (refine' len_g ?k1 ?k2 ?k3 ?_; (case k1 => assumption); (case k2 => k_asm); (case k3 => assumption); k_whole); (try dsimp only))
  k_with "subscriptTail" => (k_here; (with_reducible show wpAny _ _ (subscriptTail _ _ (Value.ref _) (Value.int _ _)) _ _ _); k_dflt (refine' item_g ?k1 ?k2 ?k3 ?k4 ?k5 ?_ ?k6; (case k1 => assumption); (case k2 => k_asm); (case k3 => omega); (case k4 => omega); (case k5 => assumption); (case k6 => with_unfolding_all rfl); k_whole); (try dsimp only))
  trivial
theorem pool_g (n : Int) : 0 ≤ (if -1 - n > n then -1 - n else n) := by split <;> omega
theorem pool_a (n : Int) {c : Bool} : 0 ≤ (if -1 - n > n then -1 - n else n) * (if c = true then 1 else 0) := Int.mul_nonneg (pool_g n) (by split <;> omega)
theorem pool_b (g : Int) : 0 ≤ ((g.fmod 2147483629 + 7919 * 0 * 0 + 31 * 0 + 17) * 48271).fmod 2147483647 ∧ ((g.fmod 2147483629 + 7919 * 0 * 0 + 31 * 0 + 17) * 48271).fmod 2147483647 < 2147483647 := fmod_in (by omega)
theorem pool (w : World) {scr : Addr} {vs : Array Value} {ns : List Int} (rest : Led) (tk : Tok) (hi : IntsAre vs.toList ns) (hln : vs.size ≤ 63) :
  ∀ (p : Program) (loose : List Str) (mean : ExcName → Option Value) (mg mb : Str → Option Value) (dp un : Nat) (gd : Option (List Code)) (cn : Str) (cs : Scope) (a : Addr) (ccd : Value) (cl : List (Str × Addr)) (outer : List Env) (A₀ : Around) (base h₀ : Heap) (L : Addr) (m : Str → Option Value) (s : Shared) (Q E : Value → Shared → Prop),
    Below A₀ base outer h₀ → Fr h₀ L s.heap m → (hd.heap_39 w.params).In h₀ → News h₀ L s.heap rest → Top p loose mean mg mb h₀ → cs.kind = .function →
    dp + 40 < recursionLimit → un + 160 < cLine → base.IsList scr vs → h₀.IsList scr vs →
    (∀ sl a b t u c h' tk', Fr h₀ L h' m → News h₀ L h' ((sl, listOf [.int a t, .int b u].toArray c) :: rest) → 0 ≤ a → 0 ≤ b → b < 2147483647 → (∀ q ∈ rest, @LT.lt Nat _ q.1 sl) → Q (.ref sl) { s with heap := h', toks := tk' }) →
    wpAny (model PySem.Challenge.rw_xw0201_01.row.prog w) (ktrTop dp un gd cn cs L a ccd cl outer) (call (.ref 271) [.ref scr, .int 0 tk]) Q E s := by
  k_fill
  intro p loose mean mg mb dp un gd cn cs aa ccd cl outer A₀ base h₀ L m s Q E B F X N T hk hd hu hb hb0 hret
  refine wpAny_call ?_
  k_dflt ktr_enter
  rename Below _ _ _ _ => Bx
  have hG := hb.at (fun o e => Bx.stays _ _ e)
  rcases Nat.eq_zero_or_pos vs.size with hz | hz
  · have hlt : ¬ ((0 : Int) < (vs.size : Int)) := by omega
    k_steps
    exact hret _ _ _ _ _ _ _ _ (by k_asm) (by k_asm) (pool_a _) (pool_b _).1 (pool_b _).2 (by first | assumption | exact allLt_mem (by assumption))
  have hlt : (0 : Int) < (vs.size : Int) := by omega
  obtain ⟨n0, t0, hx⟩ : ∃ n t, vs[(0 : Int).toNat]? = some (.int n t) := by
    have h0 : 0 < ns.length := by rw [← hi.length]; simpa using hz
    obtain ⟨t, e⟩ := hi.get 0 ns[0] (by simp [h0])
    exact ⟨_, t, by simpa using e⟩
  k_steps
  exact hret _ _ _ _ _ _ _ _ (by k_asm) (by k_asm) (pool_a _) (pool_b _).1 (pool_b _).2 (by first | assumption | exact allLt_mem (by assumption))
end
section
open PySem PySem.W PySem.Calls PyProof.Rows
theorem ln_One_0 : True := by
  w_top off
  k_with_none
  k_with "call builtin:len" => (k_here; (with_reducible show wpAny _ _ (call (Value.builtin "len") [Value.ref _]) _ _ _); k_dflt (refine' len_led ?k1 ?k2 ?k3 ?_; (case k1 => k_asm); (case k2 => (repeat' (first | assumption | exact List.Mem.head _ | refine List.Mem.tail _ ?_))); (case k3 => ((try simp only [List.length_cons, List.length_nil, List.length_append, List.length_map]); omega)); k_whole); (try dsimp only))
  k_with "subscriptTail" => (k_here; (with_reducible show wpAny _ _ (subscriptTail _ _ (Value.ref _) (Value.int _ _)) _ _ _); k_dflt (refine' item_led ?k1 ?k2 ?k3 ?k4 ?k5 ?_ ?k6; (case k1 => k_asm); (case k2 => (repeat' (first | assumption | exact List.Mem.head _ | refine List.Mem.tail _ ?_))); (case k3 => omega); (case k4 => omega); (case k5 => (first | assumption | (rw [List.getElem?_append_left (by omega)]; assumption))); (case k6 => with_unfolding_all rfl); k_whole); (try dsimp only))
  k_with "exec Raise some none" => (k_here; (with_reducible show wpAny _ _ (exec (Stmt.Raise (some (Expr.Call (Expr.Name (Str.ofString "TreeFault") _) [Expr.Constant (Const.str _) _ _] [] _)) none _) _) _ _ _); k_dflt (refine' raise_tf ?kB ?kF ?kX ?kN ?kT ?kk ?kx ?kn ?ki ?kf ?kd ?ku ?_; (case kB => k_asm); (case kF => k_asm); (case kX => k_asm); (case kN => k_asm); (case kT => assumption); (case kk => rfl); (case kx => k_is); (case kn => rfl); (case ki => k_is); (case kf => k_is); (case kd => ktr_room); (case ku => ktr_units); k_whole); intro eω tω dω hω tkω Fω Nω neω)
  k_with "leaving ref" => (k_here; k_dflt (refine' leave_led ?kK ?kF ?kN ?kne ?kd ?k1 ?k0 ?_; (case kF => k_asm); (case kN => k_asm); (case kK => k_asm); (case kne => k_asm); (case kd => rfl); (case k1 => rfl); (case k0 => rfl); k_whole); intro hω Sω Rω Uω; (try dsimp only at Sω Rω Uω ⊢))
  k_with "leaving ref" => (k_here; k_dflt (refine' leave_onSN ?k1 ?k2 ?k3 ?k4 ?_; (case k3 => assumption); (case k2 => assumption); (case k1 => assumption); (case k4 => assumption); k_whole); intro hω Sω Rω Uω; (try dsimp only at Sω Rω Uω ⊢))
  k_with "getAttr ref" => (k_here; k_dflt (refine' get_own ?k1 ?k2 ?k3 ?k4 ?k5 ?k6 ?k7 ?k8 ?k9 ?_; (case k1 => k_asm); (case k2 => k_asm); (case k3 => k_inst); (case k4 => k_is); (case k5 => k_is); (case k6 => k_is); (case k7 => k_is); (case k8 => k_get); (case k9 => k_handed); k_whole); (try dsimp only))
  k_with "eval Constant int" => (k_here; refine wpAny_Constant_int ?_; (try dsimp only))
  k_with "eval Constant str" => (k_here; refine Calls.Constant_str ?_; (try dsimp only))
  k_with "call ref" => (k_here; (with_reducible show wpAny _ _ (call (Value.ref 103) _) _ _ _); k_dflt (refine' use_ctr (row_ok _ _ _ _ _ _ _ _ _ _ _ ?q1 ?q2 ?q3 ?q4 ?q5 ?q6 ?q7) ?uB ?uF ?uX ?uN ?uT ?uk ?ud ?uu ?_; (case uF => k_asm); (case uN => k_asm); (case uB => k_asm); (case uX => k_asm); (case uT => assumption); (case uk => rfl); (case q1 => (repeat' (first | assumption | exact List.Mem.head _ | refine List.Mem.tail _ ?_))); (case q2 => (repeat' (first | assumption | exact List.Mem.head _ | refine List.Mem.tail _ ?_))); (case q3 => (repeat' (first | assumption | exact List.Mem.head _ | refine List.Mem.tail _ ?_))); (case q4 => omega); (case q5 => omega); (case q6 => assumption); (case q7 => assumption); (case ud => ktr_room); (case uu => ktr_units); k_whole); intro vω hω tkω nω Fω Nω hPω; obtain ⟨e1ω, e2ω⟩ := hPω; subst e1ω; subst e2ω; (try dsimp only))
  k_with "call ref" => (k_here; (with_reducible show wpAny _ _ (call (Value.ref 103) _) _ _ _); k_dflt (refine' use_rctr (row_bad _ _ _ _ _ _ _ _ _ _ ?q1 ?q2 ?q3 ?q4 ?q7) ?uB ?uF ?uX ?uN ?uT ?uk ?ud ?uu ?_; (case uF => k_asm); (case uN => k_asm); (case uB => k_asm); (case uX => k_asm); (case uT => assumption); (case uk => rfl); (case q1 => (repeat' (first | assumption | exact List.Mem.head _ | refine List.Mem.tail _ ?_))); (case q2 => (repeat' (first | assumption | exact List.Mem.head _ | refine List.Mem.tail _ ?_))); (case q3 => (repeat' (first | assumption | exact List.Mem.head _ | refine List.Mem.tail _ ?_))); (case q4 => omega); (case q7 => assumption); (case ud => ktr_room); (case uu => ktr_units); k_whole); intro eω Gω hω tkω FGω Sω Uω; (try dsimp only))
  trivial
theorem drawn_at {vs : List Value} {r : Int} (h0 : 0 ≤ r) (h1 : r < (vs.length : Int)) : ∃ x, vs[r.toNat]? = some x ∧ x ∈ vs :=
  ⟨_, List.getElem?_eq_getElem (by omega), List.getElem_mem _⟩
theorem ln_One_1 : True := by
  k_with "call ref" => (k_here; (with_reducible show wpAny _ _ (call (Value.ref 278) _) _ _ _); k_dflt (refine' use_ctr (take_ctr _ _ _ _ _ _ _ _ _ _ ?qr ?qa ?qb ?qc ?qd ?qe) ?uB ?uF ?uX ?uN ?uT ?uk ?ud ?uu ?_; (case uF => k_asm); (case uN => k_asm); (case uB => k_asm); (case uX => k_asm); (case uT => assumption); (case uk => rfl); (case qr => assumption); (case qa => omega); (case qb => omega); (case qc => omega); (case qd => omega); (case qe => omega); (case ud => ktr_room); (case uu => ktr_units); k_whole); intro vω hω tkω nω Fω Nω hPω; k_dflt (obtain ⟨rω, tω, aω, t1ω, bω, t2ω, e1ω, g0ω, g1ω, ga0ω, ga1ω, gb0ω, gb1ω, e2ω⟩ := hPω); subst e1ω; subst e2ω; k_dflt (obtain ⟨xω, hxω, hmω⟩ := drawn_at g0ω g1ω); (try dsimp only))
  trivial
theorem one_ctr (w : World) (sl D : Addr) (a b : Int) (t1 t2 : Tok) (n c : Nat) (vs : List Value) (rest : Led) (hD : (D, listOf vs.toArray c) ∈ rest) (hr : ∀ p ∈ rest, p.1 ≠ sl)
   (ha : 0 ≤ a) (hb : 0 ≤ b) (hb2 : b < 2147483647) (h1 : 1 ≤ vs.length) (h2 : vs.length ≤ 12) (hh : ∀ x ∈ vs, handedIn x = true) :
   Ctr w 285 [.ref sl, .ref D] ((sl, listOf [.int a t1, .int b t2].toArray n) :: rest) 20 80
     (fun v news' => ∃ a' t1' b' t2', v ∈ vs ∧ 0 ≤ a' ∧ 0 ≤ b' ∧ b' < 2147483647 ∧ news' = (sl, listOf [.int a' t1', .int b' t2'].toArray n) :: rest) := by
  unfold Ctr
  k_fill
  intro p loose mean mg mb dp un gd cn cs aa ccd cl outer A₀ base h₀ L m s Q E B F X N T hk hd hu hret
  refine wpAny_call ?_
  k_dflt ktr_enter
  k_steps
  exact hret _ _ _ _ (by k_asm) (by k_asm) ⟨_, _, _, _, by assumption, by assumption, by assumption, by assumption, rfl⟩
end
section
open PySem PySem.W PySem.Calls PyProof.Rows
def Nd.keys (r : Nd) : List Addr := [r.a, r.d, r.c, r.b, r.g]
def Sto.keys (st : Sto) : List Addr := st.tr :: st.dT :: st.rl :: st.bk :: st.rows.flatMap Nd.keys
theorem Nd.led_keys (w : World) (r : Nd) : (r.led w).map (·.1) = r.keys := rfl
theorem flat_keys (w : World) (rs : List Nd) : (rs.flatMap (Nd.led w)).map (·.1) = rs.flatMap Nd.keys := by
  rw [List.map_flatMap]; rfl
theorem Sto.led_keys (w : World) (st : Sto) : (st.led w).map (·.1) = st.keys := by
  unfold Sto.led Sto.keys
  simp only [List.map_cons, flat_keys]
theorem News.ne {h₀ h : Heap} {L : Addr} {E : Led} {p q : Addr × Obj} (N : News h₀ L h E) (hp : p ∈ E) (hq : q ∈ E) (ho : p.2 ≠ q.2) : p.1 ≠ q.1 := fun e => by
  have h1 := (N p hp).1
  have h2 := (N q hq).1
  rw [e, h2] at h1
  exact ho (Option.some.inj h1).symm
theorem row_split {rs : List Nd} {i : Nat} {r : Nd} (h : rs[i]? = some r) : ∃ pre post, rs = pre ++ r :: post ∧ pre.length = i ∧ ∀ r', rs.set i r' = pre ++ r' :: post := by
  induction rs generalizing i with
  | nil => simp at h
  | cons q rs ih =>
    cases i with
    | zero => simp at h; subst h; exact ⟨[], rs, rfl, rfl, fun _ => rfl⟩
    | succ i =>
      obtain ⟨pre, post, e, hl, hs⟩ := ih (by simpa using h)
      exact ⟨q :: pre, post, by rw [e]; rfl, by simp [hl], fun r' => by simp [hs]⟩
/-- all other places of the state, beside those of one node -/
def others (st : Sto) (pre post : List Nd) : List Addr := pre.flatMap Nd.keys ++ post.flatMap Nd.keys
theorem keys_perm {st : Sto} {pre post : List Nd} {r : Nd} (h : st.rows = pre ++ r :: post) (hn : st.keys.Nodup) : ([st.rl, st.bk, r.d, r.c, r.b, r.g, st.tr, st.dT, r.a] ++ others st pre post).Nodup := by
  refine (List.Perm.nodup_iff (List.perm_iff_count.mpr fun z => ?_)).mp hn
  unfold Sto.keys others
  rw [h]
  simp only [List.flatMap_append, List.flatMap_cons, Nd.keys, List.count_cons, List.count_append, List.count_nil]
  omega
theorem keys_perm0 {st : Sto} (hn : st.keys.Nodup) : ([st.rl, st.bk, st.tr, st.dT] ++ st.rows.flatMap Nd.keys).Nodup := by
  refine (List.Perm.nodup_iff (List.perm_iff_count.mpr fun z => ?_)).mp hn
  unfold Sto.keys
  simp only [List.count_cons, List.count_append, List.count_nil]
  omega
theorem nodup_off {A B : List Addr} (h : (A ++ B).Nodup) {y : Addr} (hy : y ∈ B) : y ∉ A := fun ha => by
  have := List.nodup_append.mp h
  exact this.2.2 y ha y hy rfl
theorem flat_mem {w : World} {rs : List Nd} {p : Addr × Obj} (h : p ∈ rs.flatMap (Nd.led w)) : p.1 ∈ rs.flatMap Nd.keys := by
  rw [← flat_keys w]; exact List.mem_map_of_mem h
theorem kvF_set {rs : List Nd} {r r' : Nd} (hb : r'.b = r.b) : ∀ (pre : List Nd) (i : Nat) (post : List Nd), kvF i (pre ++ r' :: post) = kvF i (pre ++ r :: post)
  | [], i, post => by simp [kvF, hb]
  | q :: pre, i, post => by simp only [List.cons_append, kvF]; rw [kvF_set (rs := rs) hb pre (i + 1) post]
/-- what a deed does to the state: the places that it writes, and what stands behind -/
structure Deed (w : World) (st st' : Sto) (E news' : Led) : Prop where
  tr : st'.tr = st.tr
  bk : st'.bk = st.bk
  wf : st'.Wf w
  led : ∀ p ∈ st'.led w, p ∈ news'
  keep : ∀ p ∈ E, p.1 ∉ st.fkeys → p ∈ news'
  fresh : ∀ y ∈ st'.fkeys, y ∈ st.fkeys ∨ ∀ p ∈ E, p.1 ≠ y
/-- the same, where a table is filled for the first time -/
structure Deed0 (P : Addr) (w : World) (st st' : Sto) (E news' : Led) : Prop where
  tr : st'.tr = st.tr
  bk : st'.bk = st.bk
  wf : st'.Wf w
  led : ∀ p ∈ st'.led w, p ∈ news'
  keep : ∀ p ∈ E, p.1 ∉ st.fkeys → p.1 ≠ P → p ∈ news'
  fresh : ∀ y ∈ st'.fkeys, y ∈ st.fkeys ∨ ∀ p ∈ E, p.1 ≠ P → p.1 ≠ y
theorem Deed0.same {P : Addr} {w : World} {st : Sto} {E news' : Led} (wf : st.Wf w) (hs : ∀ p ∈ st.led w, p ∈ E ∧ p.1 ≠ P) (h : ∀ p ∈ E, p.1 ≠ P → p ∈ news') : Deed0 P w st st E news' :=
  ⟨rfl, rfl, wf, fun p hp => h p (hs p hp).1 (hs p hp).2, fun p hp _ h1 => h p hp h1, fun _ hy => .inl hy⟩
theorem led_row {w : World} {st : Sto} {r : Nd} (hm : r ∈ st.rows) : ∀ p ∈ r.led w, p ∈ st.led w := fun p hp => by
  unfold Sto.led
  exact .tail _ (.tail _ (.tail _ (.tail _ (nd_mem hm p hp))))
theorem led_nofields {w : World} {st : Sto} (wf : st.Wf w) {p : Addr × Obj} (hp : p ∈ st.led w) (ps : Array Value) : p.2.data ≠ .fields ps := by
  unfold Sto.led at hp
  simp only [List.mem_cons, List.mem_flatMap, Nd.led, List.not_mem_nil, or_false] at hp
  rcases hp with rfl | rfl | rfl | rfl | ⟨r, _, rfl | rfl | rfl | rfl | rfl⟩
  · intro e; cases e
  · intro e; cases e
  · intro e; cases e
  · obtain ⟨es, ep, _, hd, _⟩ := wf.hod
    intro e
    rw [show (st.bk, st.od).2.data = st.od.data from rfl, hd] at e; cases e
  all_goals intro e; cases e
theorem led_notab {Q : Array Value} {w : World} {st : Sto} (wf : st.Wf w) {p : Addr × Obj} (hp : p ∈ st.led w) : p.2 ≠ tabObj Q := fun e => led_nofields wf hp Q (by rw [e])
theorem Deed.same {w : World} {st : Sto} {E news' : Led} (wf : st.Wf w) (hs : ∀ p ∈ st.led w, p ∈ E) (h : ∀ p ∈ E, p ∈ news') : Deed w st st E news' :=
  ⟨rfl, rfl, wf, fun p hp => h p (hs p hp), fun p hp _ => h p hp, fun _ hy => .inl hy⟩
theorem CtrS.mono {w : World} {f : Addr} {args : List Value} {A B : Led} {dd uu : Nat} {P : Value → Led → Prop} (h : ∀ (h₀ h : Heap) (L : Addr), News h₀ L h B → CtrS w f args A dd uu P ∧ ∀ p ∈ A, p ∈ B) : CtrS w f args B dd uu P := by
  intro p loose mean mg mb dp un gd cn cs a ccd cl outer A₀ base h₀ g₀ L m s Q E K F X XB N
  obtain ⟨C, hs⟩ := h _ _ _ N
  exact C p loose mean mg mb dp un gd cn cs a ccd cl outer A₀ base h₀ g₀ L m s Q E K F X XB fun p hp => N p (hs p hp)
theorem CtrS.post {w : World} {f : Addr} {args : List Value} {A : Led} {dd uu : Nat} {P P' : Value → Led → Prop} (C : CtrS w f args A dd uu P) (h : ∀ v n, P v n → P' v n) : CtrS w f args A dd uu P' := by
  intro p loose mean mg mb dp un gd cn cs a ccd cl outer A₀ base h₀ g₀ L m s Q E K F X XB N T TB D T0 CT hk hd hu hret
  exact C p loose mean mg mb dp un gd cn cs a ccd cl outer A₀ base h₀ g₀ L m s Q E K F X XB N T TB D T0 CT hk hd hu fun v h' tk' news' h₀' a b c d e f g hp => hret v h' tk' news' h₀' a b c d e f g (h _ _ hp)
end
section
open PySem PySem.W PySem.Calls PyProof.Rows
theorem nd_ne {l : List Addr} (h : l.Nodup) (i j : Nat) {x y : Addr} (hx : l[i]? = some x) (hy : l[j]? = some y) (hij : i ≠ j) : x ≠ y := fun e => by
  subst e
  obtain ⟨hi, h1⟩ := List.getElem?_eq_some_iff.mp hx
  obtain ⟨hj, h2⟩ := List.getElem?_eq_some_iff.mp hy
  rcases Nat.lt_or_gt_of_ne hij with h' | h'
  · exact (List.pairwise_iff_getElem.mp h) i j hi hj h' (h1.trans h2.symm)
  · exact (List.pairwise_iff_getElem.mp h) j i hj hi h' (h2.trans h1.symm)
theorem CtrS.more {w : World} {f : Addr} {args : List Value} {A : Led} {dd uu dd' uu' : Nat} {P : Value → Led → Prop} (C : CtrS w f args A dd uu P) (h1 : dd ≤ dd') (h2 : uu ≤ uu') : CtrS w f args A dd' uu' P := by
  intro p loose mean mg mb dp un gd cn cs a ccd cl outer A₀ base h₀ g₀ L m s Q E K F X XB N T TB D T0 CT hk hd hu hret
  exact C p loose mean mg mb dp un gd cn cs a ccd cl outer A₀ base h₀ g₀ L m s Q E K F X XB N T TB D T0 CT hk (by omega) (by omega) hret
theorem Sto.Wf.keysN {w : World} {st : Sto} (wf : st.Wf w) : st.keys.Nodup := by rw [← Sto.led_keys w]; exact wf.nodup
theorem set_wf {w : World} {st : Sto} {pre post : List Nd} {r r' : Nd} (wf : st.Wf w) (h : st.rows = pre ++ r :: post) (hk : r'.keys = r.keys) (hc : IntsAre r'.cv r'.ch ∧ IntsAre r'.gv r'.ch ∧ r'.ch.length ≤ st.rows.length) :
    ({ st with rows := pre ++ r' :: post } : Sto).Wf w := by
  have hl : (pre ++ r' :: post).length = st.rows.length := by rw [h]; simp
  have hb : r'.b = r.b := by simp [Nd.keys] at hk; exact hk.2.2.2.1
  refine ⟨?_, wf.lo, fun q hq => ?_, ?_, by show 0 < (pre ++ r' :: post).length; rw [hl]; exact wf.pos, by show (pre ++ r' :: post).length ≤ 60; rw [hl]; exact wf.fits⟩
  · have := wf.hod
    rw [h] at this
    show Obj.IsDictOf _ st.od (kvF 0 (pre ++ r' :: post))
    rw [kvF_set (rs := []) hb]; exact this
  · show _ ∧ _ ∧ q.ch.length ≤ (pre ++ r' :: post).length
    rw [hl]
    rcases List.mem_append.mp hq with hq | hq
    · exact wf.kids q (by rw [h]; exact List.mem_append_left _ hq)
    · rcases List.mem_cons.mp hq with rfl | hq
      · exact hc
      · exact wf.kids q (by rw [h]; exact List.mem_append_right _ (.tail _ hq))
  · rw [Sto.led_keys]
    have := wf.keysN
    unfold Sto.keys at this ⊢
    rw [h] at this
    simp only [List.flatMap_append, List.flatMap_cons, hk] at this ⊢
    exact this
theorem refs_set {pre post : List Nd} {r r' : Nd} (ha : r'.a = r.a) : refs (pre ++ r' :: post) = refs (pre ++ r :: post) := by simp [refs, ha]
theorem led_cases {w : World} {st : Sto} {pre post : List Nd} {r' : Nd} {p : Addr × Obj} (h : p ∈ ({ st with rows := pre ++ r' :: post } : Sto).led w) :
    p = (st.tr, instObj 260 st.dT) ∨ p = (st.dT, rowsD w st.tkr st.rl) ∨ p = (st.rl, listOf (refs (pre ++ r' :: post)).toArray st.cR) ∨ p = (st.bk, st.od) ∨ p ∈ r'.led w ∨ p ∈ pre.flatMap (Nd.led w) ++ post.flatMap (Nd.led w) := by
  unfold Sto.led at h
  simp only [List.mem_cons, List.flatMap_append, List.flatMap_cons, List.mem_append] at h ⊢
  rcases h with h | h | h | h | h | h | h <;> simp [h]
theorem others_mem {w : World} {st : Sto} {pre post : List Nd} {r : Nd} (h : st.rows = pre ++ r :: post) : ∀ p ∈ pre.flatMap (Nd.led w) ++ post.flatMap (Nd.led w), p ∈ st.led w ∧ p.1 ∈ others st pre post := fun p hp => by
  unfold Sto.led others
  rw [h]
  simp only [List.mem_append, List.mem_cons, List.flatMap_append, List.flatMap_cons] at hp ⊢
  rcases hp with hp | hp
  · exact ⟨by simp [hp], .inl (flat_mem hp)⟩
  · exact ⟨by simp [hp], .inr (flat_mem hp)⟩
theorem chg_okS (w : World) (st : Sto) (E : Led) (i : Nat) (r : Nd) (tk : Tok) (nv : Str) (tn : Tok) (wf : st.Wf w) (hs : ∀ p ∈ st.led w, p ∈ E) (hr : st.rows[i]? = some r) (hkd : isPar r.kind = false) :
    CtrS w 313 [.ref st.tr, .ref st.bk, .int (i : Int) tk, .str nv tn] E 180 720 (fun v' n => v' = .bool true ∧ ∃ st', Deed w st st' E n ∧ st'.faces = st.faces.set i (r.kind, nv, r.par, r.ch)) := by
  refine CtrS.mono (A := (r.d, r.rowO w) :: (r.b, r.lineO) :: E.filter fun p => decide (p.1 ≠ r.d) && decide (p.1 ≠ r.b)) fun h₀ h L N => ?_
  obtain ⟨pre, post, hsp, hpl, hset⟩ := row_split hr
  have nd := keys_perm hsp wf.keysN
  obtain ⟨h1, h2, h3, h5, hn⟩ := Sto.at hs
  have hm : r ∈ st.rows := List.mem_of_getElem? hr
  have H := hn r hm
  have hin : ∀ p ∈ E, p.1 ≠ r.d → p.1 ≠ r.b → p ∈ E.filter fun p => decide (p.1 ≠ r.d) && decide (p.1 ≠ r.b) := fun p hp a b => List.mem_filter.mpr ⟨hp, by simp [a, b]⟩
  generalize hR : (E.filter fun p => decide (p.1 ≠ r.d) && decide (p.1 ≠ r.b)) = rest at hin
  have hout : ∀ p ∈ rest, p ∈ E ∧ p.1 ≠ r.d ∧ p.1 ≠ r.b := fun p hp => by
    rw [← hR] at hp
    have := List.mem_filter.mp hp
    exact ⟨this.1, by simpa using this.2⟩
  have hi : i < st.rows.length := by rcases Nat.lt_or_ge i st.rows.length with h | h; exact h; rw [List.getElem?_eq_none h] at hr; cases hr
  constructor
  · refine (CtrS.more (chg_ok w st.tr st.dT st.rl st.bk st.tkr (refs st.rows) st.cR rest (i : Int) tk
      (hin _ h1 (nd_ne nd 6 2 rfl rfl (by decide)) (nd_ne nd 6 4 rfl rfl (by decide))) (hin _ h2 (nd_ne nd 7 2 rfl rfl (by decide)) (nd_ne nd 7 4 rfl rfl (by decide))) (hin _ h3 (nd_ne nd 0 2 rfl rfl (by decide)) (nd_ne nd 0 4 rfl rfl (by decide)))
      st.od (kvF 0 st.rows) (hin _ h5 (nd_ne nd 1 2 rfl rfl (by decide)) (nd_ne nd 1 4 rfl rfl (by decide))) wf.hod wf.lo (by rw [refs_len]; have := wf.fits; omega)
      r.a r.d r.c r.x r.y r.t r.kind r.name r.uri r.loc r.val (parV r.par r.tp) (hin _ H.ha (nd_ne nd 8 2 rfl rfl (by decide)) (nd_ne nd 8 4 rfl rfl (by decide)))
      (by omega) (by rw [refs_len]; omega) (by simpa using refs_at hr) r.b r.g r.u1 r.u2 r.val (parV r.par r.tq) r.nb (by simpa using kvF_hit (i := 0) hr) nv tn
      (fun p hp => (hout p hp).2.1) (fun p hp => (hout p hp).2.2) (nd_ne nd 2 4 rfl rfl (by decide)) hkd) (by omega) (by omega)).post ?_
    rintro v n ⟨rfl, ⟨t', hd'⟩, ⟨nb', hb'⟩, hk⟩
    refine ⟨rfl, { st with rows := pre ++ { r with t := t', val := nv, u2 := tn, nb := nb' } :: post }, ⟨rfl, rfl, set_wf wf hsp rfl (wf.kids r hm), fun p hp => ?_, fun p hp hf => ?_, fun y hy => .inl ?_⟩, ?_⟩
    · rcases led_cases hp with rfl | rfl | rfl | rfl | hp | hp
      · exact hk _ (hin _ h1 (nd_ne nd 6 2 rfl rfl (by decide)) (nd_ne nd 6 4 rfl rfl (by decide)))
      · exact hk _ (hin _ h2 (nd_ne nd 7 2 rfl rfl (by decide)) (nd_ne nd 7 4 rfl rfl (by decide)))
      · rw [refs_set (r := r) (by rfl), ← hsp]
        exact hk _ (hin _ h3 (nd_ne nd 0 2 rfl rfl (by decide)) (nd_ne nd 0 4 rfl rfl (by decide)))
      · exact hk _ (hin _ h5 (nd_ne nd 1 2 rfl rfl (by decide)) (nd_ne nd 1 4 rfl rfl (by decide)))
      · simp only [Nd.led, List.mem_cons, List.not_mem_nil, or_false] at hp
        rcases hp with rfl | rfl | rfl | rfl | rfl
        · exact hk _ (hin _ H.ha (nd_ne nd 8 2 rfl rfl (by decide)) (nd_ne nd 8 4 rfl rfl (by decide)))
        · exact hd'
        · exact hk _ (hin _ H.hc (nd_ne nd 3 2 rfl rfl (by decide)) (nd_ne nd 3 4 rfl rfl (by decide)))
        · exact hb'
        · exact hk _ (hin _ H.hg (nd_ne nd 5 2 rfl rfl (by decide)) (nd_ne nd 5 4 rfl rfl (by decide)))
      · obtain ⟨hl, ho⟩ := others_mem hsp p hp
        have := nodup_off nd ho
        exact hk _ (hin _ (hs _ hl) (fun e => this (by simp [e])) (fun e => this (by simp [e])))
    · refine hk _ (hin p hp (fun e => hf ?_) (fun e => hf ?_))
      · unfold Sto.fkeys; rw [e, hsp]; simp [Nd.fkeys]
      · unfold Sto.fkeys; rw [e, hsp]; simp [Nd.fkeys]
    · unfold Sto.fkeys at hy ⊢
      rw [hsp]; simpa [Nd.fkeys] using hy
    · show (pre ++ _ :: post).map Nd.face = _
      rw [← hset, List.map_set]; rfl
  · intro p hp
    rcases List.mem_cons.mp hp with rfl | hp
    · exact H.hd
    · rcases List.mem_cons.mp hp with rfl | hp
      · exact H.hb
      · exact (hout p hp).1
end
section
open PySem PySem.W PySem.Calls PyProof.Rows
abbrev Sto.put (st : Sto) (nd : Nd) (c : Nat) (od : Obj) : Sto := { st with rows := st.rows ++ [nd], cR := c, od := od }
theorem put_keys (st : Sto) (nd : Nd) (c : Nat) (od : Obj) : (nd.keys ++ st.keys).Perm (st.put nd c od).keys := by
  refine List.perm_iff_count.mpr fun z => ?_
  unfold Sto.keys
  simp only [Sto.put, List.flatMap_append, List.flatMap_cons, List.flatMap_nil, List.append_nil, List.count_cons, List.count_append]
  omega
theorem put_wf {w : World} {st : Sto} (wf : st.Wf w) {nd : Nd} {c : Nat} {od : Obj} (hod : od.IsDictOf (PySem.intKind PySem.Challenge.rw_xw0201_01.row.prog w) (stored (kvF 0 st.rows) ((kvF 0 st.rows).length : Int) (.ref nd.b)))
    (hc : IntsAre nd.cv nd.ch ∧ IntsAre nd.gv nd.ch ∧ nd.ch.length ≤ st.rows.length) (hf : st.rows.length < 60) (hlt : ∀ y ∈ st.keys, @LT.lt Nat _ y nd.d) (ho : @LT.lt Nat _ nd.d nd.a ∧ @LT.lt Nat _ nd.a nd.c ∧ @LT.lt Nat _ nd.c nd.g ∧ @LT.lt Nat _ nd.g nd.b) :
    (st.put nd c od).Wf w := by
  refine ⟨?_, wf.lo, fun q hq => ?_, ?_, by simp, by simp; omega⟩
  · rw [stored_app (kvF_miss (by rw [kvF_len]; omega)), kvF_len] at hod
    show Obj.IsDictOf _ od (kvF 0 (st.rows ++ [nd]))
    rw [kvF_app, Nat.zero_add]; exact hod
  · simp only [List.length_append, List.length_cons, List.length_nil]
    rcases List.mem_append.mp hq with hq | hq
    · have := wf.kids q hq; exact ⟨this.1, this.2.1, by omega⟩
    · rw [List.mem_singleton.mp hq]; exact ⟨hc.1, hc.2.1, by omega⟩
  · rw [Sto.led_keys]
    refine (put_keys st nd c od).nodup_iff.mp ?_
    rw [List.nodup_append]
    refine ⟨?_, wf.keysN, fun x hx y hy e => ?_⟩
    · have h5 : ([nd.d, nd.a, nd.c, nd.g, nd.b] : List Nat).Pairwise (· < ·) := by
        simp only [List.pairwise_cons, List.mem_cons, List.not_mem_nil, or_false, forall_eq_or_imp, forall_eq, false_implies, implies_true, and_true, List.Pairwise.nil]
        omega
      have h6 : ([nd.d, nd.a, nd.c, nd.g, nd.b] : List Nat).Nodup := h5.imp fun h => Nat.ne_of_lt h
      refine (List.Perm.nodup_iff (List.perm_iff_count.mpr fun z => ?_)).mp h6
      simp only [Nd.keys, List.count_cons, List.count_nil]
      omega
    · have h1 := hlt y hy
      subst e
      have h2 : ∀ z ∈ nd.keys, @LE.le Nat _ nd.d z := fun z hz => by
        simp only [Nd.keys, List.mem_cons, List.not_mem_nil, or_false] at hz
        rcases hz with e | e | e | e | e <;> (rw [e]; omega)
      have h3 := h2 x hx
      exact absurd h1 (Nat.not_lt.mpr h3)
theorem fkeys_sub (st : Sto) : ∀ y ∈ st.fkeys, y ∈ st.keys := fun y hy => by
  unfold Sto.fkeys Sto.keys at *
  simp only [List.mem_cons, List.mem_flatMap, Nd.fkeys, Nd.keys, List.not_mem_nil, or_false] at hy ⊢
  rcases hy with h | h | ⟨r, hr, h⟩
  · simp [h]
  · simp [h]
  · refine .inr (.inr (.inr (.inr ⟨r, hr, ?_⟩)))
    rcases h with h | h | h | h <;> simp [h]
theorem put_noneS (w : World) (st : Sto) (E : Led) (kind value : Str) (tk1 tk2 : Tok) (wf : st.Wf w) (hs : ∀ p ∈ st.led w, p ∈ E) (hf : st.rows.length < 60)
    (hP : TabH 301 146 11 ("_law_put_right" ++ ".<locals>." ++ "<lambda>" : Str) E) :
    CtrS w 306 [.ref st.tr, .ref st.bk, .none, .str kind tk1, .str value tk2] E 280 1120
     (fun v' n => v' = .bool true ∧ ∃ st', Deed w st st' E n ∧ st'.faces = st.faces ++ [(kind, if kind = ("element" : Str) then ("" : Str) else value, none, [])]) := by
  refine CtrS.mono (A := (st.rl, listOf (refs st.rows).toArray st.cR) :: (st.bk, st.od) :: E.filter fun p => decide (p.1 ≠ st.rl) && decide (p.1 ≠ st.bk)) fun h₀ h L N => ?_
  have nd := keys_perm0 wf.keysN
  obtain ⟨h1, h2, h3, h5, hn⟩ := Sto.at hs
  have hin : ∀ p ∈ E, p.1 ≠ st.rl → p.1 ≠ st.bk → p ∈ E.filter fun p => decide (p.1 ≠ st.rl) && decide (p.1 ≠ st.bk) := fun p hp a b => List.mem_filter.mpr ⟨hp, by simp [a, b]⟩
  generalize hR : (E.filter fun p => decide (p.1 ≠ st.rl) && decide (p.1 ≠ st.bk)) = rest at hin
  have hout : ∀ p ∈ rest, p ∈ E ∧ p.1 ≠ st.rl ∧ p.1 ≠ st.bk := fun p hp => by
    rw [← hR] at hp
    have := List.mem_filter.mp hp
    exact ⟨this.1, by simpa using this.2⟩
  obtain ⟨od9, es9, ep9, hdd9⟩ : ∃ (o : Obj) (es : Array DictEntry) (ep : Nat), st.od.data = .dict es ep ∧ o = st.od := by
    obtain ⟨es, ep, _, hd, _⟩ := wf.hod
    exact ⟨_, es, ep, hd, rfl⟩
  obtain ⟨c9, oc9, vs9, t9, q1, q2, q3, q4⟩ := hP
  have i1 : (301, tabObj #[rawInt 146, rawInt 11, .ref c9]) ∈ rest := hin _ q1 (News.ne N q1 h3 (fun e => by cases e)) (News.ne N q1 h5 (fun e => by
    have := congrArg Obj.data e; rw [hdd9.1] at this; cases this))
  have i2 : (c9, oc9) ∈ rest := hin _ q2 (News.ne N q2 h3 (fun e => by
    have := congrArg Obj.data e; rw [q3] at this; cases this)) (News.ne N q2 h5 (fun e => by
    have := congrArg Obj.data e; rw [hdd9.1, q3] at this; cases this))
  have k1 := hin _ h1 (nd_ne nd 2 0 rfl rfl (by decide)) (nd_ne nd 2 1 rfl rfl (by decide))
  have k2 := hin _ h2 (nd_ne nd 3 0 rfl rfl (by decide)) (nd_ne nd 3 1 rfl rfl (by decide))
  have kR : ∀ p ∈ st.rows.flatMap (Nd.led w), p ∈ rest := fun p hp => by
    have h := nodup_off nd (flat_mem hp)
    exact hin p (hs p (by unfold Sto.led; exact .tail _ (.tail _ (.tail _ (.tail _ hp))))) (fun e => h (by simp [e])) (fun e => h (by simp [e]))
  constructor
  · refine (put_none w st.tr st.dT st.rl st.bk st.tkr (refs st.rows) st.cR rest kind value tk1 tk2 k1 k2 st.od (kvF 0 st.rows) wf.hod wf.lo (by rw [refs_len]; omega) (by rw [kvF_len]; omega) (by rw [kvF_len, refs_len])
      (kvF_miss (by rw [kvF_len]; omega)) (fun p hp => (hout p hp).2.1) (fun p hp => (hout p hp).2.2) (nd_ne nd 0 1 rfl rfl (by decide)) ⟨c9, oc9, vs9, t9, i1, i2, q3, q4⟩).post ?_
    rintro v n ⟨rfl, hT, d, a, cc, x, y, bN, gN, odb, ha, ⟨t, hd⟩, ⟨nc, hc⟩, ⟨nR, hRl⟩, hodb, hbk, ⟨nb, u1, u2, hbN⟩, ⟨ng, hgN⟩, hk, hlt, g1, g2, g3, g4, g5, g6⟩
    have hmem := allLt_mem hlt
    have hall : ∀ y ∈ st.keys, @LT.lt Nat _ y d := fun y hy => by
      unfold Sto.keys at hy
      simp only [List.mem_cons] at hy
      rcases hy with e | e | e | e | hy
      · rw [e]; exact hmem _ k1
      · rw [e]; exact hmem _ k2
      · rw [e]; exact g1
      · rw [e]; exact g2
      · rw [← flat_keys w] at hy
        obtain ⟨p, hp, rfl⟩ := List.mem_map.mp hy
        exact hmem _ (kR p hp)
    let nd' : Nd := ⟨a, d, cc, x, y, bN, gN, t, kind, "n", "u:2", "l", if kind = ("element" : Str) then ("" : Str) else value, u1, u2, none, 0, 0, [], [], [], nc, nb, ng⟩
    refine ⟨rfl, st.put nd' nR odb, ⟨rfl, rfl, put_wf wf hodb ⟨.nil, .nil, Nat.zero_le _⟩ hf hall ⟨g3, g4, g5, g6⟩, fun p hp => ?_, fun p hp hf => ?_, fun z hz => ?_⟩, ?_⟩
    · unfold Sto.led at hp
      simp only [List.mem_cons, List.flatMap_append, List.flatMap_cons, List.flatMap_nil, List.append_nil, List.mem_append] at hp
      rcases hp with rfl | rfl | rfl | rfl | hp | hp
      · exact hk _ k1
      · exact hk _ k2
      · have : refs (st.rows ++ [nd']) = refs st.rows ++ [.ref a] := by simp [refs, nd']
        rw [this]; exact hRl
      · exact hbk
      · exact hk _ (kR p hp)
      · simp only [Nd.led, List.mem_cons, List.not_mem_nil, or_false] at hp
        rcases hp with rfl | rfl | rfl | rfl | rfl
        · exact ha
        · exact hd
        · exact hc
        · exact hbN
        · exact hgN
    · exact hk _ (hin p hp (fun e => hf (by unfold Sto.fkeys; simp [e])) (fun e => hf (by unfold Sto.fkeys; simp [e])))
    · have hz' : z ∈ st.fkeys ∨ z = d ∨ z = cc ∨ z = bN ∨ z = gN := by
        unfold Sto.fkeys at hz ⊢
        simp only [List.mem_cons, List.flatMap_append, List.flatMap_cons, List.flatMap_nil, List.append_nil, List.mem_append, Nd.fkeys, List.not_mem_nil, or_false, nd'] at hz ⊢
        rcases hz with h | h | h | h <;> simp [h]
      refine hz'.imp id fun e p hp => ?_
      have hle : @LE.le Nat _ d z := by rcases e with e | e | e | e <;> (rw [e]; omega)
      have : @LT.lt Nat _ p.1 d := by
        by_cases e1 : p.1 = st.rl
        · rw [e1]; exact g1
        · by_cases e2 : p.1 = st.bk
          · rw [e2]; exact g2
          · exact hmem _ (hin p hp e1 e2)
      exact Nat.ne_of_lt (Nat.lt_of_lt_of_le this hle)
    · show (st.rows ++ [nd']).map Nd.face = _
      rw [List.map_append]; rfl
  · intro p hp
    rcases List.mem_cons.mp hp with rfl | hp
    · exact h3
    · rcases List.mem_cons.mp hp with rfl | hp
      · exact h5
      · exact (hout p hp).1
end
section
open PySem PySem.W PySem.Calls PyProof.Rows
theorem rest_of {E : Led} {ks : List Addr} : ∃ rest : Led, (∀ p ∈ E, p.1 ∉ ks → p ∈ rest) ∧ ∀ p ∈ rest, p ∈ E ∧ p.1 ∉ ks :=
  ⟨E.filter fun p => decide (p.1 ∉ ks), fun p hp h => List.mem_filter.mpr ⟨hp, by simpa using h⟩, fun p hp => by
    have := List.mem_filter.mp hp
    exact ⟨this.1, by simpa using this.2⟩⟩
theorem not4 {x a b c d : Addr} (h1 : x ≠ a) (h2 : x ≠ b) (h3 : x ≠ c) (h4 : x ≠ d) : x ∉ [a, b, c, d] := by simp [h1, h2, h3, h4]
theorem not5 {x a b c d e : Addr} (h1 : x ≠ a) (h2 : x ≠ b) (h3 : x ≠ c) (h4 : x ≠ d) (h5 : x ≠ e) : x ∉ [a, b, c, d, e] := by simp [h1, h2, h3, h4, h5]
theorem ints_snoc {vs : List Value} {ns : List Int} {n : Int} {t : Tok} (h : IntsAre vs ns) : IntsAre (vs ++ [.int n t]) (ns ++ [n]) := by
  induction h with
  | nil => exact .cons _ _ .nil
  | cons k u _ ih => exact .cons _ _ ih
structure Deed1 (P : Addr) (T : Prop) (w : World) (st st' : Sto) (E news' : Led) : Prop where
  tr : st'.tr = st.tr
  bk : st'.bk = st.bk
  wf : st'.Wf w
  led : ∀ p ∈ st'.led w, p ∈ news'
  keep : ∀ p ∈ E, p.1 ∉ st.fkeys → (p.1 ≠ P ∨ T) → p ∈ news'
  fresh : ∀ y ∈ st'.fkeys, y ∈ st.fkeys ∨ ∀ p ∈ E, p.1 ≠ y
theorem Deed1.full {P : Addr} {T : Prop} {w : World} {st st' : Sto} {E n : Led} (D : Deed1 P T w st st' E n) (h : T) : Deed w st st' E n := ⟨D.tr, D.bk, D.wf, D.led, fun p hp hk => D.keep p hp hk (.inr h), D.fresh⟩
theorem Deed1.zero {P : Addr} {T : Prop} {w : World} {st st' : Sto} {E n : Led} (D : Deed1 P T w st st' E n) : Deed0 P w st st' E n := ⟨D.tr, D.bk, D.wf, D.led, fun p hp hk h => D.keep p hp hk (.inl h), fun y hy => (D.fresh y hy).imp id fun h p hp _ => h p hp⟩
theorem TabH_sub {P : Addr} {l c : Int} {q : Str} {E n : Led} (h : TabH P l c q E) (hs : ∀ p ∈ E, p ∈ n) : TabH P l c q n := by
  obtain ⟨c', oc, vs, t, a, b, x, y⟩ := h
  exact ⟨c', oc, vs, t, hs _ a, hs _ b, x, y⟩
theorem put_parX (w : World) (st : Sto) (E : Led) (i : Nat) (r : Nd) (tk : Tok) (kind value : Str) (tk1 tk2 : Tok) (wf : st.Wf w) (hs : ∀ p ∈ st.led w, p ∈ E) (hf : st.rows.length < 60) (hr : st.rows[i]? = some r) (hkd : isPar r.kind = true)
    (hP : TabE 301 146 11 ("_law_put_right" ++ ".<locals>." ++ "<lambda>" : Str) E) :
    CtrS w 306 [.ref st.tr, .ref st.bk, .int (i : Int) tk, .str kind tk1, .str value tk2] E 280 1120
     (fun v' n => v' = .bool true ∧ TabH 301 146 11 ("_law_put_right" ++ ".<locals>." ++ "<lambda>" : Str) n ∧ ∃ st', Deed1 301 (TabH 301 146 11 ("_law_put_right" ++ ".<locals>." ++ "<lambda>" : Str) E) w st st' E n ∧ st'.faces = (st.faces ++ [(kind, if kind = ("element" : Str) then ("" : Str) else value, some (i : Int), [])]).set i (r.kind, r.val, r.par, r.ch ++ [(st.rows.length : Int)])) := by
  obtain ⟨rest, hin, hout⟩ := rest_of (E := E) (ks := [st.rl, r.c, st.bk, r.g])
  refine CtrS.mono (A := (st.rl, listOf (refs st.rows).toArray st.cR) :: (r.c, listOf r.cv.toArray r.nc) :: (st.bk, st.od) :: (r.g, listOf r.gv.toArray r.ng) :: rest) fun h₀ h L N => ?_
  obtain ⟨pre, post, hsp, hpl, hset⟩ := row_split hr
  have nd := keys_perm hsp wf.keysN
  obtain ⟨h1, h2, h3, h5, hn⟩ := Sto.at hs
  have hm : r ∈ st.rows := List.mem_of_getElem? hr
  have H := hn r hm
  have Ha := H.ha
  have Hd := H.hd
  have Hb := H.hb
  have Hc := H.hc
  have Hg := H.hg
  obtain ⟨w1, w2, w3⟩ := wf.kids r hm
  have hi : i < st.rows.length := by rcases Nat.lt_or_ge i st.rows.length with h | h; exact h; rw [List.getElem?_eq_none h] at hr; cases hr
  obtain ⟨od9, es9, ep9, hdd9⟩ : ∃ (o : Obj) (es : Array DictEntry) (ep : Nat), st.od.data = .dict es ep ∧ o = st.od := by
    obtain ⟨es, ep, _, hd, _⟩ := wf.hod
    exact ⟨_, es, ep, hd, rfl⟩
  have hfil : TabH 301 146 11 ("_law_put_right" ++ ".<locals>." ++ "<lambda>" : Str) E → TabH 301 146 11 ("_law_put_right" ++ ".<locals>." ++ "<lambda>" : Str) rest := by
    rintro ⟨c9, oc9, vs9, t9, q1, q2, q3, q4⟩
    have i1 : (301, tabObj #[rawInt 146, rawInt 11, .ref c9]) ∈ rest := hin _ q1 (not4 (News.ne N q1 h3 (fun e => by cases e)) (News.ne N q1 Hc (fun e => by cases e)) (News.ne N q1 h5 (fun e => by
      have := congrArg Obj.data e; rw [hdd9.1] at this; cases this)) (News.ne N q1 Hg (fun e => by cases e)))
    have i2 : (c9, oc9) ∈ rest := hin _ q2 (not4 (News.ne N q2 h3 (fun e => by
      have := congrArg Obj.data e; rw [q3] at this; cases this)) (News.ne N q2 Hc (fun e => by
      have := congrArg Obj.data e; rw [q3] at this; cases this)) (News.ne N q2 h5 (fun e => by
      have := congrArg Obj.data e; rw [hdd9.1, q3] at this; cases this)) (News.ne N q2 Hg (fun e => by
      have := congrArg Obj.data e; rw [q3] at this; cases this)))
    exact ⟨c9, oc9, vs9, t9, i1, i2, q3, q4⟩
  obtain ⟨ps0, p0⟩ := hP.at
  have n301 : ∀ (x : Addr) (o : Obj), (x, o) ∈ E → (∀ ps, o.data ≠ .fields ps) → x ≠ 301 := fun x o hx hd => News.ne N hx p0 fun e => hd ps0 (by
    have e : o = tabObj ps0 := e
    rw [e])
  have dbk : ∀ ps, st.od.data ≠ .fields ps := fun ps e => by rw [hdd9.1] at e; cases e
  have m1 := n301 _ _ h3 fun ps e => by cases e
  have m2 := n301 _ _ Hc fun ps e => by cases e
  have m3 := n301 _ _ h5 dbk
  have m4 := n301 _ _ Hg fun ps e => by cases e
  have nin : (301 : Addr) ∉ [st.rl, r.c, st.bk, r.g] := not4 (fun e => m1 e.symm) (fun e => m2 e.symm) (fun e => m3 e.symm) (fun e => m4 e.symm)
  have hT0 : TabE 301 146 11 ("_law_put_right" ++ ".<locals>." ++ "<lambda>" : Str) rest := hP.imp hfil fun h => hin _ h nin
  have k1 := (hin _ h1 (not4 (nd_ne nd 6 0 rfl rfl (by decide)) (nd_ne nd 6 3 rfl rfl (by decide)) (nd_ne nd 6 1 rfl rfl (by decide)) (nd_ne nd 6 5 rfl rfl (by decide))))
  have k2 := (hin _ h2 (not4 (nd_ne nd 7 0 rfl rfl (by decide)) (nd_ne nd 7 3 rfl rfl (by decide)) (nd_ne nd 7 1 rfl rfl (by decide)) (nd_ne nd 7 5 rfl rfl (by decide))))
  have ka := (hin _ Ha (not4 (nd_ne nd 8 0 rfl rfl (by decide)) (nd_ne nd 8 3 rfl rfl (by decide)) (nd_ne nd 8 1 rfl rfl (by decide)) (nd_ne nd 8 5 rfl rfl (by decide))))
  have kd := (hin _ Hd (not4 (nd_ne nd 2 0 rfl rfl (by decide)) (nd_ne nd 2 3 rfl rfl (by decide)) (nd_ne nd 2 1 rfl rfl (by decide)) (nd_ne nd 2 5 rfl rfl (by decide))))
  have kb := (hin _ Hb (not4 (nd_ne nd 4 0 rfl rfl (by decide)) (nd_ne nd 4 3 rfl rfl (by decide)) (nd_ne nd 4 1 rfl rfl (by decide)) (nd_ne nd 4 5 rfl rfl (by decide))))
  have kR : ∀ p ∈ pre.flatMap (Nd.led w) ++ post.flatMap (Nd.led w), p ∈ rest := fun p hp => by
    obtain ⟨hl, ho⟩ := others_mem hsp p hp
    have := nodup_off nd ho
    exact hin _ (hs _ hl) (not4 (fun e => this (by simp [e])) (fun e => this (by simp [e])) (fun e => this (by simp [e])) (fun e => this (by simp [e])))
  constructor
  · refine (put_parM w st.tr st.dT st.rl st.bk st.tkr (refs st.rows) st.cR rest kind value tk1 tk2 k1 k2 st.od (kvF 0 st.rows) wf.hod wf.lo (by rw [refs_len]; omega) (by rw [kvF_len]; omega) (by rw [kvF_len, refs_len])
      (kvF_miss (by rw [kvF_len]; omega)) (fun p hp e => (hout p hp).2 (by simp [e])) (fun p hp e => (hout p hp).2 (by simp [e])) (nd_ne nd 0 1 rfl rfl (by decide))
      (i : Int) tk r.a r.d r.c r.x r.y r.t r.kind r.name r.uri r.loc r.val (parV r.par r.tp) ka kd r.cv r.nc (by rw [w1.length]; omega) (by omega) (by rw [refs_len]; omega) (by simpa using refs_at hr) hkd
      r.b r.g r.u1 r.u2 r.val (parV r.par r.tq) r.nb (by simpa using kvF_hit (i := 0) hr) kb r.gv r.ng (by rw [w2.length]; omega) (fun p hp e => (hout p hp).2 (by simp [e])) (fun p hp e => (hout p hp).2 (by simp [e]))
      (nd_ne nd 0 3 rfl rfl (by decide)) (nd_ne nd 0 5 rfl rfl (by decide)) (nd_ne nd 1 3 rfl rfl (by decide)) (nd_ne nd 1 5 rfl rfl (by decide)) (nd_ne nd 3 5 rfl rfl (by decide)) hT0 m1 m2 m3 m4).post ?_
    rintro v n ⟨rfl, rest9, G9, d, a, cc, x, y, bN, gN, odb, ha, ⟨t, tp, hd⟩, ⟨nc, hc⟩, ⟨nR, hRl⟩, ⟨nC, tC, hCl⟩, hodb, hbk, ⟨nb, u1, u2, tq, hbN⟩, ⟨ng, hgN⟩, ⟨nG, tG, hGl⟩, hk, hlt, g1, g1', g2, g2', g3, g4, g5, g6⟩
    have hmem : ∀ p ∈ rest, @LT.lt Nat _ p.1 d := fun p hp => by
      by_cases e : p.1 = 301
      · obtain ⟨c9, _, _, _, q1, _⟩ := G9.tab
        have := allLt_mem hlt _ q1
        rw [e]; exact this
      · exact allLt_mem hlt _ (G9.keep p hp e)
    have hT := TabH_sub G9.tab hk
    have hk : ∀ p ∈ rest, p.1 ≠ 301 ∨ TabH 301 146 11 ("_law_put_right" ++ ".<locals>." ++ "<lambda>" : Str) E → p ∈ n := fun p hp h => h.elim (fun h => hk p (G9.keep p hp h)) fun h => hk p (G9.same (hfil h) p hp)
    have h301 : ∀ p ∈ st.led w, p.1 ≠ 301 := fun p hp => n301 p.1 p.2 (hs p hp) (led_nofields wf hp)
    have hkl : ∀ p ∈ st.led w, p ∈ rest → p ∈ n := fun p hp hr => hk p hr (.inl (h301 p hp))
    have hrow : ∀ p ∈ r.led w, p ∈ st.led w := led_row hm
    have hall : ∀ z ∈ st.keys, @LT.lt Nat _ z d := fun z hz => by
      have hz' : z = st.tr ∨ z = st.dT ∨ z = st.rl ∨ z = st.bk ∨ z = r.a ∨ z = r.d ∨ z = r.c ∨ z = r.b ∨ z = r.g ∨ z ∈ pre.flatMap Nd.keys ++ post.flatMap Nd.keys := by
        unfold Sto.keys at hz
        rw [hsp] at hz
        simp only [List.mem_cons, List.flatMap_append, List.flatMap_cons, List.mem_append, Nd.keys, List.not_mem_nil, or_false] at hz ⊢
        rcases hz with h | h | h | h | h | (h | h | h | h | h) | h <;> simp [h]
      rcases hz' with e | e | e | e | e | e | e | e | e | hz
      · rw [e]; exact hmem _ k1
      · rw [e]; exact hmem _ k2
      · rw [e]; exact g1
      · rw [e]; exact g2
      · rw [e]; exact hmem _ ka
      · rw [e]; exact hmem _ kd
      · rw [e]; exact g1'
      · rw [e]; exact hmem _ kb
      · rw [e]; exact g2'
      · have hz2 : z ∈ (pre.flatMap (Nd.led w) ++ post.flatMap (Nd.led w)).map (·.1) := by
          rw [List.map_append, flat_keys, flat_keys]; exact hz
        obtain ⟨p, hp, rfl⟩ := List.mem_map.mp hz2
        exact hmem _ (kR p hp)
    let nd' : Nd := ⟨a, d, cc, x, y, bN, gN, t, kind, "n", "u:2", "l", if kind = ("element" : Str) then ("" : Str) else value, u1, u2, some (i : Int), tp, tq, [], [], [], nc, nb, ng⟩
    let r' : Nd := { r with ch := r.ch ++ [(st.rows.length : Int)], cv := r.cv ++ [.int (st.rows.length : Int) tC], gv := r.gv ++ [.int (st.rows.length : Int) tG], nc := nC, ng := nG }
    have hCl' : (r.c, listOf (r.cv ++ [Value.int (st.rows.length : Int) tC]).toArray nC) ∈ n := by rw [refs_len] at hCl; exact hCl
    have hGl' : (r.g, listOf (r.gv ++ [Value.int (st.rows.length : Int) tG]).toArray nG) ∈ n := by rw [kvF_len] at hGl; exact hGl
    have wf1 : (st.put nd' nR odb).Wf w := put_wf wf hodb ⟨.nil, .nil, Nat.zero_le _⟩ hf hall ⟨g3, g4, g5, g6⟩
    have hsp1 : (st.put nd' nR odb).rows = pre ++ r :: (post ++ [nd']) := by simp [hsp]
    have wf2 := set_wf (r' := r') wf1 hsp1 rfl ⟨ints_snoc w1, ints_snoc w2, by simp [r']; omega⟩
    refine ⟨rfl, hT, { st.put nd' nR odb with rows := pre ++ r' :: (post ++ [nd']) }, ⟨rfl, rfl, wf2, fun p hp => ?_, fun p hp hf hor => ?_, fun z hz => ?_⟩, ?_⟩
    · rcases led_cases hp with rfl | rfl | rfl | rfl | hp | hp
      · exact hkl _ (.head _) k1
      · exact hkl _ (.tail _ (.head _)) k2
      · have : refs (pre ++ r' :: (post ++ [nd'])) = refs st.rows ++ [.ref a] := by rw [hsp]; simp [refs, nd', r']
        rw [this]; exact hRl
      · exact hbk
      · simp only [Nd.led, List.mem_cons, List.not_mem_nil, or_false] at hp
        rcases hp with rfl | rfl | rfl | rfl | rfl
        · exact hkl _ (hrow _ (.head _)) ka
        · exact hkl _ (hrow _ (.tail _ (.head _))) kd
        · exact hCl'
        · exact hkl _ (hrow _ (.tail _ (.tail _ (.tail _ (.head _))))) kb
        · exact hGl'
      · rw [List.flatMap_append, ← List.append_assoc] at hp
        rcases List.mem_append.mp hp with hp | hp
        · exact hkl _ (others_mem hsp p hp).1 (kR p hp)
        · simp only [List.flatMap_cons, List.flatMap_nil, List.append_nil, Nd.led, List.mem_cons, List.not_mem_nil, or_false] at hp
          rcases hp with rfl | rfl | rfl | rfl | rfl
          · exact ha
          · exact hd
          · exact hc
          · exact hbN
          · exact hgN
    · exact hk _ (hin p hp (not4 (fun e => hf (by unfold Sto.fkeys; simp [e])) (fun e => hf (by unfold Sto.fkeys; rw [hsp]; simp [e, Nd.fkeys])) (fun e => hf (by unfold Sto.fkeys; simp [e])) (fun e => hf (by unfold Sto.fkeys; rw [hsp]; simp [e, Nd.fkeys])))) hor
    · have hz' : z ∈ st.fkeys ∨ z = d ∨ z = cc ∨ z = bN ∨ z = gN := by
        unfold Sto.fkeys at hz ⊢
        rw [hsp]
        simp only [List.mem_cons, List.flatMap_append, List.flatMap_cons, List.flatMap_nil, List.append_nil, List.mem_append, Nd.fkeys, List.not_mem_nil, or_false, nd', r'] at hz ⊢
        rcases hz with h | h | h | (h | h | h | h) | h | h <;> simp [h]
      refine hz'.imp id fun e p hp => ?_
      have hle : @LE.le Nat _ d z := by rcases e with e | e | e | e <;> (rw [e]; omega)
      have : @LT.lt Nat _ p.1 d := by
        by_cases e1 : p.1 ∈ [st.rl, r.c, st.bk, r.g]
        · simp only [List.mem_cons, List.not_mem_nil, or_false] at e1
          rcases e1 with e | e | e | e <;> (rw [e]; assumption)
        · exact hmem _ (hin p hp e1)
      exact Nat.ne_of_lt (Nat.lt_of_lt_of_le this hle)
    · show (pre ++ r' :: (post ++ [nd'])).map Nd.face = _
      have e1 : pre ++ r' :: (post ++ [nd']) = (st.rows ++ [nd']).set i r' := by
        rw [List.set_append_left _ _ hi, hset]; simp
      rw [e1, List.map_set, List.map_append]; rfl
  · intro p hp
    simp only [List.mem_cons] at hp
    rcases hp with rfl | rfl | rfl | rfl | hp
    · exact h3
    · exact Hc
    · exact h5
    · exact Hg
    · exact (hout p hp).1
theorem put_parS (w : World) (st : Sto) (E : Led) (i : Nat) (r : Nd) (tk : Tok) (kind value : Str) (tk1 tk2 : Tok) (wf : st.Wf w) (hs : ∀ p ∈ st.led w, p ∈ E) (hf : st.rows.length < 60) (hr : st.rows[i]? = some r) (hkd : isPar r.kind = true)
    (hP : TabH 301 146 11 ("_law_put_right" ++ ".<locals>." ++ "<lambda>" : Str) E) :
    CtrS w 306 [.ref st.tr, .ref st.bk, .int (i : Int) tk, .str kind tk1, .str value tk2] E 280 1120
     (fun v' n => v' = .bool true ∧ TabH 301 146 11 ("_law_put_right" ++ ".<locals>." ++ "<lambda>" : Str) n ∧ ∃ st', Deed w st st' E n ∧ st'.faces = (st.faces ++ [(kind, if kind = ("element" : Str) then ("" : Str) else value, some (i : Int), [])]).set i (r.kind, r.val, r.par, r.ch ++ [(st.rows.length : Int)])) :=
  (put_parX w st E i r tk kind value tk1 tk2 wf hs hf hr hkd (.inl hP)).post fun v n ⟨a, b, st', D, e⟩ => ⟨a, b, st', D.full hP, e⟩
theorem put_parS0 (w : World) (st : Sto) (E : Led) (i : Nat) (r : Nd) (tk : Tok) (kind value : Str) (tk1 tk2 : Tok) (wf : st.Wf w) (hs : ∀ p ∈ st.led w, p ∈ E) (hf : st.rows.length < 60) (hr : st.rows[i]? = some r) (hkd : isPar r.kind = true)
    (hP : ((301, tabObj #[]) : Addr × Obj) ∈ E) :
    CtrS w 306 [.ref st.tr, .ref st.bk, .int (i : Int) tk, .str kind tk1, .str value tk2] E 280 1120
     (fun v' n => v' = .bool true ∧ TabH 301 146 11 ("_law_put_right" ++ ".<locals>." ++ "<lambda>" : Str) n ∧ ∃ st', Deed0 301 w st st' E n ∧ st'.faces = (st.faces ++ [(kind, if kind = ("element" : Str) then ("" : Str) else value, some (i : Int), [])]).set i (r.kind, r.val, r.par, r.ch ++ [(st.rows.length : Int)])) :=
  (put_parX w st E i r tk kind value tk1 tk2 wf hs hf hr hkd (.inr hP)).post fun v n ⟨a, b, st', D, e⟩ => ⟨a, b, st', D.zero, e⟩
end
section
open PySem PySem.W PySem.Calls PyProof.Rows
theorem row_lt {rs : List Nd} {i : Nat} {r : Nd} (hr : rs[i]? = some r) : i < rs.length := by
  rcases Nat.lt_or_ge i rs.length with h | h
  · exact h
  · rw [List.getElem?_eq_none h] at hr; cases hr
theorem kvF_out {rs : List Nd} {k : Int} (hk : k < 0 ∨ (rs.length : Int) ≤ k) : valueAt (kvF 0 rs) k = none := kvF_miss (by omega)
theorem chg_parS (w : World) (st : Sto) (E : Led) (i : Nat) (r : Nd) (tk : Tok) (nv : Str) (tn : Tok) (wf : st.Wf w) (hs : ∀ p ∈ st.led w, p ∈ E) (hr : st.rows[i]? = some r) (hkd : isPar r.kind = true)
    (hP : TabH 308 158 28 ("_law_changed_right" ++ ".<locals>." ++ "<lambda>" : Str) E) :
    CtrS w 313 [.ref st.tr, .ref st.bk, .int (i : Int) tk, .str nv tn] E 180 720 (fun v' n => v' = .bool true ∧ TabH 308 158 28 ("_law_changed_right" ++ ".<locals>." ++ "<lambda>" : Str) n ∧ ∀ p ∈ E, p ∈ n) := by
  obtain ⟨h1, h2, h3, h5, hn⟩ := Sto.at hs
  have hL := refs_len st.rows
  have hf := wf.fits
  have H := hn r (List.mem_of_getElem? hr)
  have hi := row_lt hr
  exact chg_par w st.tr st.dT st.rl st.bk st.tkr (refs st.rows) st.cR E (i : Int) tk h1 h2 h3 st.od (kvF 0 st.rows) h5 wf.hod wf.lo (by omega) r.a r.d r.c r.x r.y r.t r.kind r.name r.uri r.loc r.val (parV r.par r.tp) H.ha (by omega) (by rw [refs_len]; omega) (by simpa using refs_at hr) r.b r.g r.u1 r.u2 r.val (parV r.par r.tq) r.nb (by simpa using kvF_hit (i := 0) hr) H.hd H.hb nv tn hkd hP
theorem chg_parS0 (w : World) (st : Sto) (E : Led) (i : Nat) (r : Nd) (tk : Tok) (nv : Str) (tn : Tok) (wf : st.Wf w) (hs : ∀ p ∈ st.led w, p ∈ E) (hr : st.rows[i]? = some r) (hkd : isPar r.kind = true)
    (hP : ((308, tabObj #[]) : Addr × Obj) ∈ E) :
    CtrS w 313 [.ref st.tr, .ref st.bk, .int (i : Int) tk, .str nv tn] E 180 720 (fun v' n => v' = .bool true ∧ TabH 308 158 28 ("_law_changed_right" ++ ".<locals>." ++ "<lambda>" : Str) n ∧ ∀ p ∈ E, p.1 ≠ 308 → p ∈ n) := by
  obtain ⟨h1, h2, h3, h5, hn⟩ := Sto.at hs
  have hL := refs_len st.rows
  have hf := wf.fits
  have H := hn r (List.mem_of_getElem? hr)
  have hi := row_lt hr
  obtain ⟨rest, hin, hout⟩ := rest_of (E := E) (ks := [308])
  refine CtrS.mono (A := (308, tabObj #[]) :: rest) fun h₀ h L N => ?_
  have off : ∀ p ∈ st.led w, p ∈ rest := fun p hp => hin p (hs p hp) (by simpa using News.ne N (hs p hp) hP (led_notab (Q := #[]) wf hp))
  obtain ⟨h1, h2, h3, h5, hn⟩ := Sto.at off
  have H := hn r (List.mem_of_getElem? hr)
  constructor
  · refine (chg_par0 w st.tr st.dT st.rl st.bk st.tkr (refs st.rows) st.cR rest (i : Int) tk h1 h2 h3 st.od (kvF 0 st.rows) h5 wf.hod wf.lo (by omega) r.a r.d r.c r.x r.y r.t r.kind r.name r.uri r.loc r.val (parV r.par r.tp) H.ha (by omega) (by rw [refs_len]; omega) (by simpa using refs_at hr) r.b r.g r.u1 r.u2 r.val (parV r.par r.tq) r.nb (by simpa using kvF_hit (i := 0) hr) H.hd H.hb nv tn hkd (fun p hp e => (hout p hp).2 (by simp [e]))).post ?_
    rintro v n ⟨rfl, hT, hk⟩
    exact ⟨rfl, hT, fun p hp hne => hk p (hin p hp (by simpa using hne))⟩
  · intro p hp
    rcases List.mem_cons.mp hp with rfl | hp
    · exact hP
    · exact (hout p hp).1
theorem chg_badS (w : World) (st : Sto) (E : Led) (k : Int) (tk : Tok) (nv : Str) (tn : Tok) (wf : st.Wf w) (hs : ∀ p ∈ st.led w, p ∈ E) (hk : k < 0 ∨ (st.rows.length : Int) ≤ k)
    (hP : TabH 308 158 28 ("_law_changed_right" ++ ".<locals>." ++ "<lambda>" : Str) E) :
    CtrS w 313 [.ref st.tr, .ref st.bk, .int k tk, .str nv tn] E 180 720 (fun v' n => v' = .bool true ∧ TabH 308 158 28 ("_law_changed_right" ++ ".<locals>." ++ "<lambda>" : Str) n ∧ ∀ p ∈ E, p ∈ n) := by
  obtain ⟨h1, h2, h3, h5, hn⟩ := Sto.at hs
  have hL := refs_len st.rows
  have hf := wf.fits
  exact chg_bad w st.tr st.dT st.rl st.bk st.tkr (refs st.rows) st.cR E k tk h1 h2 h3 st.od (kvF 0 st.rows) h5 wf.hod wf.lo (by omega) nv tn (by omega) (kvF_out hk) hP
theorem ask_noS (w : World) (st : Sto) (E : Led) (i : Nat) (r : Nd) (tk : Tok)  (wf : st.Wf w) (hs : ∀ p ∈ st.led w, p ∈ E) (hr : st.rows[i]? = some r) (hkd : r.kind ≠ "element")
    (hP : TabH 315 164 28 ("_law_asked_right" ++ ".<locals>." ++ "<lambda>" : Str) E) :
    CtrS w 320 [.ref st.tr, .ref st.bk, .int (i : Int) tk] E 180 720 (fun v' n => v' = .bool true ∧ TabH 315 164 28 ("_law_asked_right" ++ ".<locals>." ++ "<lambda>" : Str) n ∧ ∀ p ∈ E, p ∈ n) := by
  obtain ⟨h1, h2, h3, h5, hn⟩ := Sto.at hs
  have hL := refs_len st.rows
  have hf := wf.fits
  have H := hn r (List.mem_of_getElem? hr)
  have hi := row_lt hr
  exact ask_no w st.tr st.dT st.rl st.bk st.tkr (refs st.rows) st.cR E (i : Int) tk h1 h2 h3 st.od (kvF 0 st.rows) h5 wf.hod wf.lo (by omega) r.a r.d r.c r.x r.y r.t r.kind r.name r.uri r.loc r.val (parV r.par r.tp) H.ha (by omega) (by rw [refs_len]; omega) (by simpa using refs_at hr) r.b r.g r.u1 r.u2 r.val (parV r.par r.tq) r.nb (by simpa using kvF_hit (i := 0) hr) H.hd H.hb  (by simpa using hkd) hP
theorem ask_noS0 (w : World) (st : Sto) (E : Led) (i : Nat) (r : Nd) (tk : Tok)  (wf : st.Wf w) (hs : ∀ p ∈ st.led w, p ∈ E) (hr : st.rows[i]? = some r) (hkd : r.kind ≠ "element")
    (hP : ((315, tabObj #[]) : Addr × Obj) ∈ E) :
    CtrS w 320 [.ref st.tr, .ref st.bk, .int (i : Int) tk] E 180 720 (fun v' n => v' = .bool true ∧ TabH 315 164 28 ("_law_asked_right" ++ ".<locals>." ++ "<lambda>" : Str) n ∧ ∀ p ∈ E, p.1 ≠ 315 → p ∈ n) := by
  obtain ⟨h1, h2, h3, h5, hn⟩ := Sto.at hs
  have hL := refs_len st.rows
  have hf := wf.fits
  have H := hn r (List.mem_of_getElem? hr)
  have hi := row_lt hr
  obtain ⟨rest, hin, hout⟩ := rest_of (E := E) (ks := [315])
  refine CtrS.mono (A := (315, tabObj #[]) :: rest) fun h₀ h L N => ?_
  have off : ∀ p ∈ st.led w, p ∈ rest := fun p hp => hin p (hs p hp) (by simpa using News.ne N (hs p hp) hP (led_notab (Q := #[]) wf hp))
  obtain ⟨h1, h2, h3, h5, hn⟩ := Sto.at off
  have H := hn r (List.mem_of_getElem? hr)
  constructor
  · refine (ask_no0 w st.tr st.dT st.rl st.bk st.tkr (refs st.rows) st.cR rest (i : Int) tk h1 h2 h3 st.od (kvF 0 st.rows) h5 wf.hod wf.lo (by omega) r.a r.d r.c r.x r.y r.t r.kind r.name r.uri r.loc r.val (parV r.par r.tp) H.ha (by omega) (by rw [refs_len]; omega) (by simpa using refs_at hr) r.b r.g r.u1 r.u2 r.val (parV r.par r.tq) r.nb (by simpa using kvF_hit (i := 0) hr) H.hd H.hb  (by simpa using hkd) (fun p hp e => (hout p hp).2 (by simp [e]))).post ?_
    rintro v n ⟨rfl, hT, hk⟩
    exact ⟨rfl, hT, fun p hp hne => hk p (hin p hp (by simpa using hne))⟩
  · intro p hp
    rcases List.mem_cons.mp hp with rfl | hp
    · exact hP
    · exact (hout p hp).1
theorem ask_badS (w : World) (st : Sto) (E : Led) (k : Int) (tk : Tok)  (wf : st.Wf w) (hs : ∀ p ∈ st.led w, p ∈ E) (hk : k < 0 ∨ (st.rows.length : Int) ≤ k)
    (hP : TabH 315 164 28 ("_law_asked_right" ++ ".<locals>." ++ "<lambda>" : Str) E) :
    CtrS w 320 [.ref st.tr, .ref st.bk, .int k tk] E 180 720 (fun v' n => v' = .bool true ∧ TabH 315 164 28 ("_law_asked_right" ++ ".<locals>." ++ "<lambda>" : Str) n ∧ ∀ p ∈ E, p ∈ n) := by
  obtain ⟨h1, h2, h3, h5, hn⟩ := Sto.at hs
  have hL := refs_len st.rows
  have hf := wf.fits
  exact ask_bad w st.tr st.dT st.rl st.bk st.tkr (refs st.rows) st.cR E k tk h1 h2 h3 st.od (kvF 0 st.rows) h5 wf.hod wf.lo (by omega)  (by omega) (kvF_out hk) hP
theorem put_kidS (w : World) (st : Sto) (E : Led) (i : Nat) (r : Nd) (tk : Tok) (kind value : Str) (tk1 tk2 : Tok) (wf : st.Wf w) (hs : ∀ p ∈ st.led w, p ∈ E) (hr : st.rows[i]? = some r) (hkd : isPar r.kind = false)
    (hP : TabH 301 146 11 ("_law_put_right" ++ ".<locals>." ++ "<lambda>" : Str) E) :
    CtrS w 306 [.ref st.tr, .ref st.bk, .int (i : Int) tk, .str kind tk1, .str value tk2] E 180 720 (fun v' n => v' = .bool true ∧ TabH 301 146 11 ("_law_put_right" ++ ".<locals>." ++ "<lambda>" : Str) n ∧ ∀ p ∈ E, p ∈ n) := by
  obtain ⟨h1, h2, h3, h5, hn⟩ := Sto.at hs
  have hL := refs_len st.rows
  have hf := wf.fits
  have H := hn r (List.mem_of_getElem? hr)
  have hi := row_lt hr
  exact put_kid w st.tr st.dT st.rl st.bk st.tkr (refs st.rows) st.cR E (i : Int) tk h1 h2 h3 st.od (kvF 0 st.rows) h5 wf.hod wf.lo (by omega) r.a r.d r.c r.x r.y r.t r.kind r.name r.uri r.loc r.val (parV r.par r.tp) H.ha (by omega) (by rw [refs_len]; omega) (by simpa using refs_at hr) r.b r.g r.u1 r.u2 r.val (parV r.par r.tq) r.nb (by simpa using kvF_hit (i := 0) hr) H.hd H.hb kind value tk1 tk2 hkd hP
theorem put_badS (w : World) (st : Sto) (E : Led) (k : Int) (tk : Tok) (kind value : Str) (tk1 tk2 : Tok) (wf : st.Wf w) (hs : ∀ p ∈ st.led w, p ∈ E) (hk : k < 0 ∨ (st.rows.length : Int) ≤ k)
    (hP : TabH 301 146 11 ("_law_put_right" ++ ".<locals>." ++ "<lambda>" : Str) E) :
    CtrS w 306 [.ref st.tr, .ref st.bk, .int k tk, .str kind tk1, .str value tk2] E 180 720 (fun v' n => v' = .bool true ∧ TabH 301 146 11 ("_law_put_right" ++ ".<locals>." ++ "<lambda>" : Str) n ∧ ∀ p ∈ E, p ∈ n) := by
  obtain ⟨h1, h2, h3, h5, hn⟩ := Sto.at hs
  have hL := refs_len st.rows
  have hf := wf.fits
  exact put_bad w st.tr st.dT st.rl st.bk st.tkr (refs st.rows) st.cR E k tk h1 h2 h3 st.od (kvF 0 st.rows) h5 wf.hod wf.lo (by omega) kind value tk1 tk2 (by omega) (kvF_out hk) hP
theorem ask_okS (w : World) (st : Sto) (E : Led) (i : Nat) (r : Nd) (tk : Tok) (wf : st.Wf w) (hs : ∀ p ∈ st.led w, p ∈ E) (hr : st.rows[i]? = some r) (hkd : r.kind = "element") :
    CtrS w 320 [.ref st.tr, .ref st.bk, .int (i : Int) tk] E 180 720 (fun v' n => v' = .bool true ∧ ∀ p ∈ E, p ∈ n) := by
  obtain ⟨h1, h2, h3, h5, hn⟩ := Sto.at hs
  have hL := refs_len st.rows
  have hf := wf.fits
  have hm := List.mem_of_getElem? hr
  have H := hn r hm
  have hi := row_lt hr
  obtain ⟨i1, i2, i3⟩ := wf.kids r hm
  exact ask_ok w st.tr st.dT st.rl st.bk st.tkr (refs st.rows) st.cR E (i : Int) tk h1 h2 h3 st.od (kvF 0 st.rows) h5 wf.hod wf.lo (by omega) r.a r.d r.c r.x r.y r.t r.kind r.name r.uri r.loc r.val (parV r.par r.tp) H.ha (by omega) (by rw [refs_len]; omega) (by simpa using refs_at hr) r.b r.g r.u1 r.u2 r.val (parV r.par r.tq) r.nb (by simpa using kvF_hit (i := 0) hr) H.hd H.hb r.cv r.gv r.ch r.nc r.ng H.hc H.hg i1 i2 (by omega)
    (parV_handed _ _) (fun A s => parV_same _ _ _ A s) hkd
end
section
open PySem PySem.W PySem.Calls PyProof.Rows
def LawTabs (n : Led) : Prop := TabS n ∧ TabH 315 164 28 ("_law_asked_right" ++ ".<locals>." ++ "<lambda>" : Str) n ∧ TabH 308 158 28 ("_law_changed_right" ++ ".<locals>." ++ "<lambda>" : Str) n ∧ TabH 301 146 11 ("_law_put_right" ++ ".<locals>." ++ "<lambda>" : Str) n
theorem TabH.sub {P : Addr} {l c : Int} {q : Str} {E n : Led} (h : TabH P l c q E) (hs : ∀ p ∈ E, p ∈ n) : TabH P l c q n := by
  obtain ⟨c', oc, vs, t, a, b, x, y⟩ := h
  exact ⟨c', oc, vs, t, hs _ a, hs _ b, x, y⟩
theorem TabS.sub {E n : Led} (h : TabS E) (hs : ∀ p ∈ E, p ∈ n) : TabS n := by
  obtain ⟨c', oc, vs, t, c2, oc2, vs2, t2, a, b, x, y, d, e, f⟩ := h
  exact ⟨c', oc, vs, t, c2, oc2, vs2, t2, hs _ a, hs _ b, x, y, hs _ d, e, f⟩
theorem LawTabs.sub {E n : Led} (h : LawTabs E) (hs : ∀ p ∈ E, p ∈ n) : LawTabs n := ⟨h.1.sub hs, h.2.1.sub hs, h.2.2.1.sub hs, h.2.2.2.sub hs⟩
section
variable {w : World} {f : Addr} {args : List Value} {news : Led} {dd uu : Nat} {p : Program} {loose : List Str} {mean : ExcName → Option Value} {mg mb : Str → Option Value} {dp un : Nat} {gd : Option (List Code)} {cn : Str} {cs : Scope} {a : Addr} {ccd : Value} {cl : List (Str × Addr)} {A₀ : Around} {base h₀ : Heap} {L : Addr} {m : Str → Option Value} {s : Shared} {Q E : Value → Shared → Prop}
/-- a def that may catch, called where no frame stands beneath: the ground stays -/
theorem use_flat {Post : Value → Led → Prop} (C : CtrS w f args news dd uu Post) (B : Below A₀ base [] h₀) (F : Fr h₀ L s.heap m) (X : (hd.heap_39 w.params).In h₀) (XB : (hd.heap_39 w.params).In base) (N : News h₀ L s.heap news) (T : Top p loose mean mg mb h₀) (TB : Top p loose mean mg mb base)
    (CT : CodeTabs base) (hk : cs.kind = .function) (hdp : dp + dd < recursionLimit) (hu : un + uu < cLine)
    (h : ∀ v h' tk' news', Fr h₀ L h' m → News h₀ L h' news' → Post v news' → Q v { s with heap := h', toks := tk' }) :
    wpAny (model PySem.Challenge.rw_xw0201_01.row.prog w) (ktrTop dp un gd cn cs L a ccd cl []) (call (.ref f) args) Q E s := by
  refine use_ctrS (g₀ := h₀) C B F X XB N T TB (fun b hb => nomatch hb) KtsTurn.refl CT hk hdp hu fun v h' tk' news' h₀' K' F' N' B' X' T' D' hP => ?_
  refine h v h' tk' news' ⟨F'.ns, fun b o e => F'.keep b o (K'.other b o e (fun hm => nomatch hm)), ?_⟩ (fun q hq => ⟨(N' q hq).1, (N' q hq).2.1, ?_⟩) hP
  · have := F'.above; rw [K'.size] at this; exact this
  · cases z : h₀.get? q.1 with
    | none => rfl
    | some o =>
      have := K'.other _ o z (fun hm => nomatch hm)
      rw [(N' q hq).2.2] at this; cases this
end
end
section
open PySem PySem.W PySem.Calls PyProof.Rows
abbrev qPut : Str := ("_law_put_right" ++ ".<locals>." ++ "<lambda>" : Str)
abbrev qChg : Str := ("_law_changed_right" ++ ".<locals>." ++ "<lambda>" : Str)
abbrev qAsk : Str := ("_law_asked_right" ++ ".<locals>." ++ "<lambda>" : Str)
abbrev TPut (n : Led) : Prop := TabH 301 146 11 qPut n
abbrev TChg (n : Led) : Prop := TabH 308 158 28 qChg n
abbrev TAsk (n : Led) : Prop := TabH 315 164 28 qAsk n
/-- the state stands in the ledger, and what S names stands beside it -/
def SI (w : World) (tr bk : Addr) (F : List Face) (S E : Led) : Prop := ∃ st : Sto, st.tr = tr ∧ st.bk = bk ∧ st.Wf w ∧ st.faces = F ∧ (∀ p ∈ st.led w, p ∈ E) ∧ ∀ p ∈ S, p ∈ E ∧ p.1 ∉ st.fkeys
/-- what bears fields stays, but at P -/
def KeepF0 (P : Addr) (E n : Led) : Prop := ∀ p ∈ E, p.1 ≠ P → ∀ ps, p.2.data = .fields ps → p ∈ n
/-- what bears fields stays -/
def KeepF (E n : Led) : Prop := ∀ p ∈ E, ∀ ps, p.2.data = .fields ps → p ∈ n
def off (I : Addr) (n : Led) : Led := n.filter fun p => decide (p.1 ≠ I)
theorem mem_off {I : Addr} {n : Led} {p : Addr × Obj} : p ∈ off I n ↔ p ∈ n ∧ p.1 ≠ I := by
  unfold off; rw [List.mem_filter]; simp
theorem fk_led {w : World} {st : Sto} {y : Addr} (h : y ∈ st.fkeys) : ∃ o, (y, o) ∈ st.led w := by
  have := fkeys_sub st y h
  rw [← Sto.led_keys w] at this
  obtain ⟨p, hp, e⟩ := List.mem_map.mp this
  exact ⟨p.2, by rw [← e]; exact hp⟩
theorem notf {w : World} {st : Sto} {h₀ h : Heap} {L : Addr} {E : Led} (N : News h₀ L h E) (wf : st.Wf w) (hs : ∀ p ∈ st.led w, p ∈ E) {p : Addr × Obj} (hp : p ∈ E) {ps : Array Value} (hd : p.2.data = .fields ps) : p.1 ∉ st.fkeys := fun hk => by
  obtain ⟨o, ho⟩ := fk_led (w := w) hk
  exact News.ne N hp (hs _ ho) (fun e => led_nofields wf ho ps (e ▸ hd)) rfl
theorem nott {w : World} {st : Sto} {h₀ h : Heap} {L : Addr} {E : Led} (N : News h₀ L h E) (wf : st.Wf w) (hs : ∀ p ∈ st.led w, p ∈ E) {p : Addr × Obj} (hp : p ∈ E) (hc : p.2.cls = .type "tuple") : p.1 ∉ st.fkeys := fun hk => by
  obtain ⟨o, ho⟩ := fk_led (w := w) hk
  refine News.ne N hp (hs _ ho) (fun e => ?_) rfl
  rw [e] at hc
  unfold Sto.led at ho
  simp only [List.mem_cons, List.mem_flatMap, Nd.led, List.not_mem_nil, or_false, Prod.mk.injEq] at ho
  rcases ho with ⟨_, rfl⟩ | ⟨_, rfl⟩ | ⟨_, rfl⟩ | ⟨_, rfl⟩ | ⟨r, _, ⟨_, rfl⟩ | ⟨_, rfl⟩ | ⟨_, rfl⟩ | ⟨_, rfl⟩ | ⟨_, rfl⟩⟩
  case inr.inr.inr.inl =>
    obtain ⟨es, ep, hcl, _⟩ := wf.hod
    have e1 : Value.type "tuple" = .type "dict" := (show st.od.cls = .type "tuple" from hc).symm.trans hcl.1
    injection e1 with e; exact absurd e (by decide)
  all_goals first
    | (cases hc; done)
    | (injection hc with e; exact absurd e (by decide))
theorem SI.sub {w : World} {tr bk : Addr} {F : List Face} {S E n : Led} (h : SI w tr bk F S E) (hs : ∀ p ∈ E, p ∈ n) : SI w tr bk F S n := by
  obtain ⟨st, a, b, c, d, e, f⟩ := h
  exact ⟨st, a, b, c, d, fun p hp => hs p (e p hp), fun p hp => ⟨hs p (f p hp).1, (f p hp).2⟩⟩
theorem SI.memS {w : World} {tr bk : Addr} {F : List Face} {S E : Led} (h : SI w tr bk F S E) {p : Addr × Obj} (hp : p ∈ S) : p ∈ E := by
  obtain ⟨st, a, b, c, d, e, f⟩ := h
  exact (f p hp).1
theorem SI.less {w : World} {tr bk : Addr} {F : List Face} {S S' E : Led} (h : SI w tr bk F S E) (hs : ∀ p ∈ S', p ∈ S) : SI w tr bk F S' E := by
  obtain ⟨st, a, b, c, d, e, f⟩ := h
  exact ⟨st, a, b, c, d, e, fun p hp => f p (hs p hp)⟩
theorem SI.more {w : World} {tr bk : Addr} {F : List Face} {S E : Led} {h₀ h : Heap} {L : Addr} (N : News h₀ L h E) (x : SI w tr bk F S E) {p : Addr × Obj} (hp : p ∈ E) {ps : Array Value} (hd : p.2.data = .fields ps) : SI w tr bk F (p :: S) E := by
  obtain ⟨st, a, b, c, d, e, f⟩ := x
  refine ⟨st, a, b, c, d, e, fun q hq => ?_⟩
  rcases List.mem_cons.mp hq with rfl | hq
  · exact ⟨hp, notf N c e hp hd⟩
  · exact f q hq
theorem SI.off {w : World} {tr bk : Addr} {F : List Face} {S n : Led} {h₀ h : Heap} {L I : Addr} {it : Obj} (N : News h₀ L h n) (x : SI w tr bk F S n) (hI : (I, it) ∈ n) {ps : Array Value} (hd : it.data = .fields ps) (hS : ∀ p ∈ S, p.1 ≠ I) : SI w tr bk F S (Mine.off I n) := by
  obtain ⟨st, a, b, c, d, e, f⟩ := x
  refine ⟨st, a, b, c, d, fun p hp => mem_off.mpr ⟨e p hp, News.ne N (e p hp) hI fun e => led_nofields c hp ps (e ▸ hd)⟩, fun p hp => ⟨mem_off.mpr ⟨(f p hp).1, hS p hp⟩, (f p hp).2⟩⟩
theorem TabH.off {P : Addr} {l c : Int} {q : Str} {n : Led} {h₀ h : Heap} {L I : Addr} {it : Obj} {ps : Array Value} (N : News h₀ L h n) (x : TabH P l c q n) (hI : (I, it) ∈ n) (hc : it.cls ≠ .none) (hd : it.data = .fields ps) (h1 : ∀ x t, ps[1]? ≠ some (.str x t)) : TabH P l c q (Mine.off I n) := by
  obtain ⟨c', oc, vs, t, h1', h2, h3, h4⟩ := x
  refine ⟨c', oc, vs, t, mem_off.mpr ⟨h1', News.ne N h1' hI fun e => ?_⟩, mem_off.mpr ⟨h2, News.ne N h2 hI fun e => ?_⟩, h3, h4⟩
  · have e : tabObj _ = it := e
    exact hc (by rw [← e])
  · have e : oc = it := e
    rw [e, hd] at h3
    cases h3
    exact h1 _ _ h4
theorem TabS.off {n : Led} {h₀ h : Heap} {L I : Addr} {it : Obj} {ps : Array Value} (N : News h₀ L h n) (x : TabS n) (hI : (I, it) ∈ n) (hc : it.cls ≠ .none) (hd : it.data = .fields ps) (h1 : ∀ x t, ps[1]? ≠ some (.str x t)) : TabS (Mine.off I n) := by
  obtain ⟨c', oc, vs, t, c2, oc2, vs2, t2, a1, a2, a3, a4, a5, a6, a7⟩ := x
  have code : ∀ c oc (vs : Array Value) q t, (c, oc) ∈ n → oc.data = .fields vs → vs[1]? = some (.str q t) → (c, oc) ∈ Mine.off I n := fun c oc vs q t b1 b2 b3 => mem_off.mpr ⟨b1, News.ne N b1 hI fun e => by
    have e : oc = it := e
    rw [e, hd] at b2
    cases b2
    exact h1 _ _ b3⟩
  refine ⟨c', oc, vs, t, c2, oc2, vs2, t2, mem_off.mpr ⟨a1, News.ne N a1 hI fun e => ?_⟩, code _ _ _ _ _ a2 a3 a4, a3, a4, code _ _ _ _ _ a5 a6 a7, a6, a7⟩
  have e : tabObj _ = it := e
  exact hc (by rw [← e])
theorem TabH.keepF {P : Addr} {l c : Int} {q : Str} {E n : Led} (x : TabH P l c q E) (k : KeepF E n) : TabH P l c q n := by
  obtain ⟨c', oc, vs, t, h1, h2, h3, h4⟩ := x
  exact ⟨c', oc, vs, t, k _ h1 _ rfl, k _ h2 _ h3, h3, h4⟩
theorem TabH.keepF0 {P P' : Addr} {l c : Int} {q : Str} {E n : Led} {h₀ h : Heap} {L : Addr} (x : TabH P l c q E) (N : News h₀ L h E) (k : KeepF0 P' E n) (hP : P ≠ P') (hp : ((P', tabObj #[]) : Addr × Obj) ∈ E) : TabH P l c q n := by
  obtain ⟨c', oc, vs, t, h1, h2, h3, h4⟩ := x
  refine ⟨c', oc, vs, t, k _ h1 hP _ rfl, k _ h2 (News.ne N h2 hp fun e => ?_) _ h3, h3, h4⟩
  have e : oc = tabObj #[] := e
  rw [e] at h3; cases h3; simp at h4
theorem TabS.keepF {E n : Led} (x : TabS E) (k : KeepF E n) : TabS n := by
  obtain ⟨c', oc, vs, t, c2, oc2, vs2, t2, h1, h2, h3, h4, h5, h6, h7⟩ := x
  exact ⟨c', oc, vs, t, c2, oc2, vs2, t2, k _ h1 _ rfl, k _ h2 _ h3, h3, h4, k _ h5 _ h6, h6, h7⟩
theorem faces_at {st : Sto} {F : List Face} (h : st.faces = F) {i : Nat} {f : Face} (hf : F[i]? = some f) : ∃ r, st.rows[i]? = some r ∧ r.face = f := by
  subst h
  unfold Sto.faces at hf
  rw [List.getElem?_map] at hf
  cases z : st.rows[i]? with
  | none => rw [z] at hf; cases hf
  | some r => rw [z] at hf; exact ⟨r, rfl, by simpa using hf⟩
theorem faces_len {st : Sto} {F : List Face} (h : st.faces = F) : st.rows.length = F.length := by
  subst h; unfold Sto.faces; simp
theorem SI.deed {w : World} {tr bk : Addr} {st st' : Sto} {F' : List Face} {S E n : Led} (e1 : st.tr = tr) (e2 : st.bk = bk) (f : ∀ p ∈ S, p ∈ E ∧ p.1 ∉ st.fkeys) (D : Deed w st st' E n) (hF : st'.faces = F') : SI w tr bk F' S n :=
  ⟨st', D.tr.trans e1, D.bk.trans e2, D.wf, hF, D.led, fun p hp => ⟨D.keep p (f p hp).1 (f p hp).2, fun hk => by
    rcases D.fresh _ hk with h | h
    · exact (f p hp).2 h
    · exact h p (f p hp).1 rfl⟩⟩
theorem SI.deed0 {P : Addr} {w : World} {tr bk : Addr} {st st' : Sto} {F' : List Face} {S E n : Led} (e1 : st.tr = tr) (e2 : st.bk = bk) (f : ∀ p ∈ S, p ∈ E ∧ p.1 ∉ st.fkeys) (hP : ∀ p ∈ S, p.1 ≠ P) (D : Deed0 P w st st' E n) (hF : st'.faces = F') : SI w tr bk F' S n :=
  ⟨st', D.tr.trans e1, D.bk.trans e2, D.wf, hF, D.led, fun p hp => ⟨D.keep p (f p hp).1 (f p hp).2 (hP p hp), fun hk => by
    rcases D.fresh _ hk with h | h
    · exact (f p hp).2 h
    · exact h p (f p hp).1 (hP p hp) rfl⟩⟩
theorem Deed.keepF {w : World} {st st' : Sto} {E n : Led} {h₀ h : Heap} {L : Addr} (N : News h₀ L h E) (wf : st.Wf w) (hs : ∀ p ∈ st.led w, p ∈ E) (D : Deed w st st' E n) : KeepF E n := fun p hp _ hd => D.keep p hp (notf N wf hs hp hd)
theorem Deed0.keepF {P : Addr} {w : World} {st st' : Sto} {E n : Led} {h₀ h : Heap} {L : Addr} (N : News h₀ L h E) (wf : st.Wf w) (hs : ∀ p ∈ st.led w, p ∈ E) (D : Deed0 P w st st' E n) : KeepF0 P E n := fun p hp hP _ hd => D.keep p hp (notf N wf hs hp hd) hP
/-- what a deed leaves -/
abbrev DP (w : World) (tr bk : Addr) (F' : List Face) (S E : Led) (T : Led → Prop) (v : Value) (n : Led) : Prop := v = .bool true ∧ T n ∧ SI w tr bk F' S n ∧ KeepF E n
abbrev DP0 (P : Addr) (w : World) (tr bk : Addr) (F' : List Face) (S E : Led) (T : Led → Prop) (v : Value) (n : Led) : Prop := v = .bool true ∧ T n ∧ SI w tr bk F' S n ∧ KeepF0 P E n
abbrev valP (kind value : Str) : Str := if kind = ("element" : Str) then ("" : Str) else value
section
variable {w : World} {tr bk : Addr} {F : List Face} {S E : Led} {i : Nat} {f : Face} {tk tk1 tk2 tn : Tok} {kind value nv : Str}
theorem d_put_par (x : SI w tr bk F S E) (T : TPut E) (hf : F.length < 60) (hi : F[i]? = some f) (hk : isPar f.1 = true) :
    CtrS w 306 [.ref tr, .ref bk, .int (i : Int) tk, .str kind tk1, .str value tk2] E 280 1120 (DP w tr bk ((F ++ [(kind, valP kind value, some (i : Int), [])]).set i (f.1, f.2.1, f.2.2.1, f.2.2.2 ++ [(F.length : Int)])) S E TPut) := by
  obtain ⟨st, rfl, rfl, wf, hF, hs, hS⟩ := x
  obtain ⟨r, hr, rfl⟩ := faces_at hF hi
  have hl := faces_len hF
  refine CtrS.mono fun h₀ h L N => ⟨(put_parS w st E i r tk kind value tk1 tk2 wf hs (by omega) hr hk T).post ?_, fun _ h => h⟩
  rintro v n ⟨rfl, T', st', D, hF'⟩
  exact ⟨rfl, T', SI.deed rfl rfl hS D (by rw [hF', hF, hl]; rfl), D.keepF N wf hs⟩
theorem d_put_par0 (x : SI w tr bk F S E) (T : ((301, tabObj #[]) : Addr × Obj) ∈ E) (hP : ∀ p ∈ S, p.1 ≠ 301) (hf : F.length < 60) (hi : F[i]? = some f) (hk : isPar f.1 = true) :
    CtrS w 306 [.ref tr, .ref bk, .int (i : Int) tk, .str kind tk1, .str value tk2] E 280 1120 (DP0 301 w tr bk ((F ++ [(kind, valP kind value, some (i : Int), [])]).set i (f.1, f.2.1, f.2.2.1, f.2.2.2 ++ [(F.length : Int)])) S E TPut) := by
  obtain ⟨st, rfl, rfl, wf, hF, hs, hS⟩ := x
  obtain ⟨r, hr, rfl⟩ := faces_at hF hi
  have hl := faces_len hF
  refine CtrS.mono fun h₀ h L N => ⟨(put_parS0 w st E i r tk kind value tk1 tk2 wf hs (by omega) hr hk T).post ?_, fun _ h => h⟩
  rintro v n ⟨rfl, T', st', D, hF'⟩
  exact ⟨rfl, T', SI.deed0 rfl rfl hS hP D (by rw [hF', hF, hl]; rfl), D.keepF N wf hs⟩
theorem d_put_none (x : SI w tr bk F S E) (T : TPut E) (hf : F.length < 60) :
    CtrS w 306 [.ref tr, .ref bk, .none, .str kind tk1, .str value tk2] E 280 1120 (DP w tr bk (F ++ [(kind, valP kind value, none, [])]) S E TPut) := by
  obtain ⟨st, rfl, rfl, wf, hF, hs, hS⟩ := x
  have hl := faces_len hF
  refine CtrS.mono fun h₀ h L N => ⟨(put_noneS w st E kind value tk1 tk2 wf hs (by omega) T).post ?_, fun _ h => h⟩
  rintro v n ⟨rfl, st', D, hF'⟩
  have k := D.keepF N wf hs
  exact ⟨rfl, T.keepF k, SI.deed rfl rfl hS D (by rw [hF', hF]), k⟩
theorem SI.keeps {n : Led} (x : SI w tr bk F S E) (hk : ∀ p ∈ E, p ∈ n) : SI w tr bk F S n ∧ KeepF E n := ⟨x.sub hk, fun p hp _ _ => hk p hp⟩
theorem d_put_kid (x : SI w tr bk F S E) (T : TPut E) (hi : F[i]? = some f) (hk : isPar f.1 = false) :
    CtrS w 306 [.ref tr, .ref bk, .int (i : Int) tk, .str kind tk1, .str value tk2] E 280 1120 (DP w tr bk F S E TPut) := by
  have x' := x
  obtain ⟨st, rfl, rfl, wf, hF, hs, hS⟩ := x
  obtain ⟨r, hr, rfl⟩ := faces_at hF hi
  refine ((put_kidS w st E i r tk kind value tk1 tk2 wf hs hr hk T).more (by omega) (by omega)).post ?_
  rintro v n ⟨rfl, T', k⟩
  exact ⟨rfl, T', x'.keeps k⟩
theorem d_put_bad {k : Int} (x : SI w tr bk F S E) (T : TPut E) (hk : k < 0 ∨ (F.length : Int) ≤ k) :
    CtrS w 306 [.ref tr, .ref bk, .int k tk, .str kind tk1, .str value tk2] E 280 1120 (DP w tr bk F S E TPut) := by
  have x' := x
  obtain ⟨st, rfl, rfl, wf, hF, hs, hS⟩ := x
  have hl := faces_len hF
  refine ((put_badS w st E k tk kind value tk1 tk2 wf hs (by omega) T).more (by omega) (by omega)).post ?_
  rintro v n ⟨rfl, T', k⟩
  exact ⟨rfl, T', x'.keeps k⟩
theorem d_chg_ok (x : SI w tr bk F S E) (hi : F[i]? = some f) (hk : isPar f.1 = false) :
    CtrS w 313 [.ref tr, .ref bk, .int (i : Int) tk, .str nv tn] E 180 720 (DP w tr bk (F.set i (f.1, nv, f.2.2.1, f.2.2.2)) S E fun _ => True) := by
  obtain ⟨st, rfl, rfl, wf, hF, hs, hS⟩ := x
  obtain ⟨r, hr, rfl⟩ := faces_at hF hi
  refine CtrS.mono fun h₀ h L N => ⟨(chg_okS w st E i r tk nv tn wf hs hr hk).post ?_, fun _ h => h⟩
  rintro v n ⟨rfl, st', D, hF'⟩
  exact ⟨rfl, trivial, SI.deed rfl rfl hS D (by rw [hF', hF]; rfl), D.keepF N wf hs⟩
theorem d_chg_par (x : SI w tr bk F S E) (T : TChg E) (hi : F[i]? = some f) (hk : isPar f.1 = true) :
    CtrS w 313 [.ref tr, .ref bk, .int (i : Int) tk, .str nv tn] E 180 720 (DP w tr bk F S E TChg) := by
  have x' := x
  obtain ⟨st, rfl, rfl, wf, hF, hs, hS⟩ := x
  obtain ⟨r, hr, rfl⟩ := faces_at hF hi
  refine (chg_parS w st E i r tk nv tn wf hs hr hk T).post ?_
  rintro v n ⟨rfl, T', k⟩
  exact ⟨rfl, T', x'.keeps k⟩
theorem SI.keeps0 {n : Led} {P : Addr} {h₀ h : Heap} {L : Addr} (N : News h₀ L h E) (x : SI w tr bk F S E) (hP : ∀ p ∈ S, p.1 ≠ P) (hT : ((P, tabObj #[]) : Addr × Obj) ∈ E) (hk : ∀ p ∈ E, p.1 ≠ P → p ∈ n) : SI w tr bk F S n ∧ KeepF0 P E n := by
  obtain ⟨st, rfl, rfl, wf, hF, hs, hS⟩ := x
  exact ⟨⟨st, rfl, rfl, wf, hF, fun p hp => hk p (hs p hp) (News.ne N (hs p hp) hT (led_notab wf hp)), fun p hp => ⟨hk p (hS p hp).1 (hP p hp), (hS p hp).2⟩⟩, fun p hp h _ _ => hk p hp h⟩
theorem d_chg_par0 (x : SI w tr bk F S E) (T : ((308, tabObj #[]) : Addr × Obj) ∈ E) (hP : ∀ p ∈ S, p.1 ≠ 308) (hi : F[i]? = some f) (hk : isPar f.1 = true) :
    CtrS w 313 [.ref tr, .ref bk, .int (i : Int) tk, .str nv tn] E 180 720 (DP0 308 w tr bk F S E TChg) := by
  have x' := x
  obtain ⟨st, rfl, rfl, wf, hF, hs, hS⟩ := x
  obtain ⟨r, hr, rfl⟩ := faces_at hF hi
  refine CtrS.mono fun h₀ h L N => ⟨(chg_parS0 w st E i r tk nv tn wf hs hr hk T).post ?_, fun _ h => h⟩
  rintro v n ⟨rfl, T', k⟩
  exact ⟨rfl, T', x'.keeps0 N hP T k⟩
theorem d_chg_bad {k : Int} (x : SI w tr bk F S E) (T : TChg E) (hk : k < 0 ∨ (F.length : Int) ≤ k) :
    CtrS w 313 [.ref tr, .ref bk, .int k tk, .str nv tn] E 180 720 (DP w tr bk F S E TChg) := by
  have x' := x
  obtain ⟨st, rfl, rfl, wf, hF, hs, hS⟩ := x
  have hl := faces_len hF
  refine (chg_badS w st E k tk nv tn wf hs (by omega) T).post ?_
  rintro v n ⟨rfl, T', k⟩
  exact ⟨rfl, T', x'.keeps k⟩
theorem d_ask_no (x : SI w tr bk F S E) (T : TAsk E) (hi : F[i]? = some f) (hk : f.1 ≠ "element") :
    CtrS w 320 [.ref tr, .ref bk, .int (i : Int) tk] E 180 720 (DP w tr bk F S E TAsk) := by
  have x' := x
  obtain ⟨st, rfl, rfl, wf, hF, hs, hS⟩ := x
  obtain ⟨r, hr, rfl⟩ := faces_at hF hi
  refine (ask_noS w st E i r tk wf hs hr hk T).post ?_
  rintro v n ⟨rfl, T', k⟩
  exact ⟨rfl, T', x'.keeps k⟩
theorem d_ask_no0 (x : SI w tr bk F S E) (T : ((315, tabObj #[]) : Addr × Obj) ∈ E) (hP : ∀ p ∈ S, p.1 ≠ 315) (hi : F[i]? = some f) (hk : f.1 ≠ "element") :
    CtrS w 320 [.ref tr, .ref bk, .int (i : Int) tk] E 180 720 (DP0 315 w tr bk F S E TAsk) := by
  have x' := x
  obtain ⟨st, rfl, rfl, wf, hF, hs, hS⟩ := x
  obtain ⟨r, hr, rfl⟩ := faces_at hF hi
  refine CtrS.mono fun h₀ h L N => ⟨(ask_noS0 w st E i r tk wf hs hr hk T).post ?_, fun _ h => h⟩
  rintro v n ⟨rfl, T', k⟩
  exact ⟨rfl, T', x'.keeps0 N hP T k⟩
theorem d_ask_bad {k : Int} (x : SI w tr bk F S E) (T : TAsk E) (hk : k < 0 ∨ (F.length : Int) ≤ k) :
    CtrS w 320 [.ref tr, .ref bk, .int k tk] E 180 720 (DP w tr bk F S E TAsk) := by
  have x' := x
  obtain ⟨st, rfl, rfl, wf, hF, hs, hS⟩ := x
  have hl := faces_len hF
  refine (ask_badS w st E k tk wf hs (by omega) T).post ?_
  rintro v n ⟨rfl, T', k⟩
  exact ⟨rfl, T', x'.keeps k⟩
theorem d_ask_ok (x : SI w tr bk F S E) (hi : F[i]? = some f) (hk : f.1 = "element") :
    CtrS w 320 [.ref tr, .ref bk, .int (i : Int) tk] E 180 720 (DP w tr bk F S E fun _ => True) := by
  have x' := x
  obtain ⟨st, rfl, rfl, wf, hF, hs, hS⟩ := x
  obtain ⟨r, hr, rfl⟩ := faces_at hF hi
  refine (ask_okS w st E i r tk wf hs hr hk).post ?_
  rintro v n ⟨rfl, k⟩
  exact ⟨rfl, trivial, x'.keeps k⟩
theorem d_stands (x : SI w tr bk F S E) (T : TabS E) : CtrS w 327 [.ref tr, .ref bk] E 180 720 (DP w tr bk F S E TabS) := by
  have x' := x
  obtain ⟨st, rfl, rfl, wf, hF, hs, hS⟩ := x
  refine (stands_okM w st E hs wf (.inl T)).post ?_
  rintro v n ⟨rfl, T', k⟩
  exact ⟨rfl, T', x'.keeps fun p hp => k p hp (.inr T)⟩
theorem d_stands0 (x : SI w tr bk F S E) (T : ((322, tabObj #[]) : Addr × Obj) ∈ E) (hP : ∀ p ∈ S, p.1 ≠ 322) : CtrS w 327 [.ref tr, .ref bk] E 180 720 (DP0 322 w tr bk F S E TabS) := by
  have x' := x
  obtain ⟨st, rfl, rfl, wf, hF, hs, hS⟩ := x
  refine CtrS.mono fun h₀ h L N => ⟨(stands_okM w st E hs wf (.inr T)).post ?_, fun _ h => h⟩
  rintro v n ⟨rfl, T', k⟩
  exact ⟨rfl, T', x'.keeps0 N hP T fun p hp h => k p hp (.inl h)⟩
end
end
section
open PySem PySem.W PySem.Calls PyProof.Rows
/-- what a turn of the loop leaves: a ground of its own, the iterator as it was -/
def TurnEnd (Gd : Heap → Prop) (L I D : Addr) (it lo : Obj) (s : Shared) (J : (Str → Option Value) → Led → Prop) (Q : Flow → Shared → Prop) (fl : Flow) (s₃ : Shared) : Prop :=
  match fl with
  | .ret v => Q (.ret v) s₃
  | .brk => Q .next s₃
  | .next | .cont => ∃ g h tk m E E', s₃ = { s with heap := h, toks := tk } ∧ Gd g ∧ Fr g L h m ∧ News g L h E ∧ (I, it) ∈ E ∧ (D, lo) ∈ E' ∧ (∀ p ∈ E', p ∈ E ∧ p.1 ≠ I) ∧ J m E'
section
variable {prog : Program} {w : World} {A : Around} {E : Value → Shared → Prop} {s : Shared} {env : Env} {target iter : Expr} {body : List Stmt} {pos : Pos} {Q : Flow → Shared → Prop}
/-- a loop over a list of the ledger, while the ground may turn -/
def LoopG (prog : Program) (w : World) (A : Around) (env : Env) (target : Expr) (body : List Stmt) (Q : Flow → Shared → Prop) (E : Value → Shared → Prop) (xv : Value) (s : Shared) : Prop :=
  ∃ (Gd : Heap → Prop) (D : Addr) (vs : List Value) (c : Nat) (J : Nat → (Str → Option Value) → Led → Prop) (h₀ : Heap) (m₀ : Str → Option Value) (news : Led),
    xv = .ref D ∧ A.handled = none ∧ Gd h₀ ∧ Fr h₀ env.locals s.heap m₀ ∧ News h₀ env.locals s.heap news ∧ (D, listOf vs.toArray c) ∈ news ∧ J 0 m₀ news ∧
    (∀ i v g h tk m E' E₁ I it, vs[i]? = some v → Gd g → Fr g env.locals h m → (∀ p ∈ E', p ∈ E₁) → (I, it) ∈ E₁ → News g env.locals h E₁ → (D, listOf vs.toArray c) ∈ E' → (∀ p ∈ E', p.1 ≠ I) →
      it.cls = .type "list_iterator" → it.data = .fields #[.ref D, .int ((i + 1 : Nat) : Int) 0] → J i m E' →
      wpAny (model prog w) A (assign target env v) (fun _ s₂ => wpAny (model prog w) A (execs body env) (TurnEnd Gd env.locals I D it (listOf vs.toArray c) { s with heap := h, toks := tk } (J (i + 1)) Q) E s₂) E { s with heap := h, toks := tk }) ∧
    (∀ g h tk m E', Gd g → Fr g env.locals h m → News g env.locals h E' → J vs.length m E' → Q .next { s with heap := h, toks := tk })
theorem ForG (h : wpAny (model prog w) A (eval iter env) (LoopG prog w A env target body Q E) E s)
    (hs : ∀ x, foldedSetIterable iter env x = pure x := by intro _; rfl)
    (hE : PassesOwn (model prog w) A env E := by passes_own) :
    wpAny (model prog w) A (exec (.For target iter body [] pos) env) Q E s := by
  refine wpAny_For (wpAny_mono h (fun xv s₁ h₁ => ?_) fun _ _ e => e) hs
  obtain ⟨Gd, D, vs, c, J, h₀, m₀, news, rfl, hh, hG, F, N, hm, h0, turn, hQ⟩ := h₁
  have hax := N _ hm
  have hl : s₁.heap.IsList D vs.toArray := ⟨_, hax.1, rfl, c, rfl⟩
  have hlt : D < s₁.heap.objs.size := Heap.lt_size hax.1
  have hne : D ≠ s₁.heap.objs.size := Nat.ne_of_lt hlt
  refine wpAny_pyIter_list hl ?_
  refine codeAny_forLoop_any
    (fun k s' => ∃ i g h tk m E', s' = { s₁ with heap := h, toks := tk } ∧ Gd g ∧ Fr g env.locals h m ∧ News g env.locals h E' ∧ (D, listOf vs.toArray c) ∈ E' ∧ (∀ p ∈ E', p.1 ≠ s₁.heap.objs.size) ∧
      h.IsListIter s₁.heap.objs.size D i ∧ g.get? s₁.heap.objs.size = none ∧ s₁.heap.objs.size ≠ env.locals ∧ J i m E' ∧ i ≤ vs.length ∧ k = vs.length + 1 - i) ?_ (vs.length + 1)
    ⟨0, h₀, _, s₁.toks, m₀, news, rfl, hG, F.push _, fun p hp => ⟨Heap.get?_push_of_some _ (N p hp).1, (N p hp).2⟩, hm, fun p hp e => absurd (Heap.lt_size (N p hp).1) (e ▸ Nat.lt_irrefl _), ⟨_, Heap.get?_push_size _ rfl, rfl, rfl⟩, next_is_new F, fun e => absurd F.ns.lt (e ▸ Nat.lt_irrefl _), h0, Nat.zero_le _, rfl⟩
  generalize hI : s₁.heap.objs.size = I at hne ⊢
  rintro k s' ⟨i, g, h, tk, m, E', rfl, hG', F', N', hD', hoff, hit', hng, hnL, hJ, hi, rfl⟩
  have hl' : h.IsList D vs.toArray := ⟨_, (N' _ hD').1, rfl, c, rfl⟩
  have next : ∀ h₂ : Heap, Heap.SameBut I h h₂ → Fr g env.locals h₂ m ∧ News g env.locals h₂ E' := fun h₂ hb =>
    ⟨⟨F'.ns.at' fun o e => hb.extBut _ o (fun e => hnL e.symm) e, fun b o e => hb.extBut b o (fun e' => by rw [e', hng] at e; cases e) (F'.keep b o e), F'.above⟩, fun p hp => ⟨hb.extBut _ _ (hoff p hp) (N' p hp).1, (N' p hp).2⟩⟩
  by_cases hlt : i < vs.length
  · refine wpAny_pyNext_list_item hit' hl' (x := vs[i]) (by simp [hlt]) fun h₂ hit₂ hs₂ => ?_
    refine letGo_listiter hit₂ ?_
    obtain ⟨F₂, N₂⟩ := next h₂ hs₂
    obtain ⟨it, e1, e2, e3⟩ := hit₂
    have NI : News g env.locals h₂ ((I, it) :: E') := fun p hp => by
      rcases List.mem_cons.mp hp with rfl | hp
      · exact ⟨e1, hnL, hng⟩
      · exact N₂ p hp
    refine wpAny_mono (turn i vs[i] g h₂ tk m E' _ I it (by simp [hlt]) hG' F₂ (fun p hp => .tail _ hp) (.head _) NI hD' hoff e2 e3 hJ) (fun _ s₂ h₂' => wpAny_mono (wpAny_passesOwn hE h₂') (fun f s₃ h₃ => ?_) fun _ _ e => e) hE
    cases f with
    | ret v => exact h₃
    | brk => exact h₃
    | next =>
      obtain ⟨g₃, h₃', tk₃, m₃, E₃, E₃', rfl, hG₃, F₃, N₃, hI₃, hD₃, hsub, hJ₃⟩ := h₃
      exact ⟨vs.length + 1 - (i + 1), by omega, i + 1, g₃, h₃', tk₃, m₃, E₃', rfl, hG₃, F₃, fun p hp => N₃ p (hsub p hp).1, hD₃, fun p hp => (hsub p hp).2, ⟨it, (N₃ _ hI₃).1, e2, e3⟩, (N₃ _ hI₃).2.2, (N₃ _ hI₃).2.1, hJ₃, hlt, rfl⟩
    | cont =>
      obtain ⟨g₃, h₃', tk₃, m₃, E₃, E₃', rfl, hG₃, F₃, N₃, hI₃, hD₃, hsub, hJ₃⟩ := h₃
      exact ⟨vs.length + 1 - (i + 1), by omega, i + 1, g₃, h₃', tk₃, m₃, E₃', rfl, hG₃, F₃, fun p hp => N₃ p (hsub p hp).1, hD₃, fun p hp => (hsub p hp).2, ⟨it, (N₃ _ hI₃).1, e2, e3⟩, (N₃ _ hI₃).2.2, (N₃ _ hI₃).2.1, hJ₃, hlt, rfl⟩
  · have hin : i = vs.length := by omega
    subst hin
    have hend : vs.toArray[vs.length]? = none := by simp
    refine wpAny_pyNext_list_end hh hit' hl' hend fun h₁ hk₁ => ?_
    refine wpAny_execs_nil ?_
    refine hQ g h₁ tk m E' hG' ⟨F'.ns.at' fun o e => hk₁ _ o (fun e => hnL e.symm) e, fun b o e => hk₁ b o (fun e' => by rw [e', hng] at e; cases e) (F'.keep b o e), F'.above⟩ (fun p hp => ⟨hk₁ _ _ (hoff p hp) (N' p hp).1, (N' p hp).2⟩) hJ
end
end
section
open PySem PySem.W PySem.Calls PyProof.Rows
/-- the told puts: the store before turn i -/
def F1 : Nat → List Face
  | 0 => [("root", "", none, [1]), ("element", "", some 0, [2]), ("text", "t", some 1, [])]
  | 1 => [("root", "", none, [1]), ("element", "", some 0, [2, 3]), ("text", "t", some 1, []), ("comment", "v", some 1, [])]
  | 2 => [("root", "", none, [1]), ("element", "", some 0, [2, 3]), ("text", "t", some 1, []), ("comment", "v", some 1, [])]
  | 3 => [("root", "", none, [1, 4]), ("element", "", some 0, [2, 3]), ("text", "t", some 1, []), ("comment", "v", some 1, []), ("instruction", "v", some 0, [])]
  | _ => [("root", "", none, [1, 4]), ("element", "", some 0, [2, 3]), ("text", "t", some 1, []), ("comment", "v", some 1, []), ("instruction", "v", some 0, []), ("element", "", none, [])]
/-- the told changes: the store before turn i -/
def F2 : Nat → List Face
  | 0 | 1 | 2 => [("root", "", none, [1, 4]), ("element", "", some 0, [2, 3]), ("text", "t", some 1, []), ("comment", "v", some 1, []), ("instruction", "v", some 0, []), ("element", "", none, [])]
  | 3 => [("root", "", none, [1, 4]), ("element", "", some 0, [2, 3]), ("text", "w", some 1, []), ("comment", "v", some 1, []), ("instruction", "v", some 0, []), ("element", "", none, [])]
  | 4 => [("root", "", none, [1, 4]), ("element", "", some 0, [2, 3]), ("text", "w", some 1, []), ("comment", "w", some 1, []), ("instruction", "v", some 0, []), ("element", "", none, [])]
  | _ => [("root", "", none, [1, 4]), ("element", "", some 0, [2, 3]), ("text", "w", some 1, []), ("comment", "w", some 1, []), ("instruction", "w", some 0, []), ("element", "", none, [])]
structure JE1 (w : World) (tr bk : Addr) (S : Led) (i : Nat) (E : Led) : Prop where
  si : SI w tr bk (F1 i) S E
  t0 : i = 0 → ((301, tabObj #[]) : Addr × Obj) ∈ E
  t1 : 0 < i → TPut E
  ap : ∀ p ∈ S, p.1 ≠ 301
section
variable {w : World} {tr bk : Addr} {S E E₁ : Led} {I D : Addr} {it : Obj} {j : Int}
theorem it_ne {P : Addr} {h₀ h : Heap} {L : Addr} (N : News h₀ L h E₁) (hI : (I, it) ∈ E₁) (hT : ((P, tabObj #[]) : Addr × Obj) ∈ E₁) (hc : it.cls = .type "list_iterator") : I ≠ P :=
  News.ne N hI hT fun e => by
    have e : it = tabObj #[] := e
    rw [e] at hc; cases hc
/-- what a told put leaves -/
def P1 (w : World) (tr bk : Addr) (S : Led) (I : Addr) (it : Obj) (i : Nat) (v : Value) (n : Led) : Prop := v = .bool true ∧ TPut n ∧ SI w tr bk (F1 (i + 1)) S n ∧ (I, it) ∈ n
theorem told_step1 {T0 T1 T2 T3 T4 T5 : Addr} {a0 a1 a2 a4 a5 b0 b1 b2 b3 b4 b5 : Tok} {n0 n1 n2 n3 n4 n5 : Nat}
    (h0 : (T0, tupOf [.int 1 a0, .str "comment" b0] n0) ∈ S) (h1 : (T1, tupOf [.int 2 a1, .str "text" b1] n1) ∈ S) (h2 : (T2, tupOf [.int 0 a2, .str "instruction" b2] n2) ∈ S)
    (h3 : (T3, tupOf [.none, .str "element" b3] n3) ∈ S) (h4 : (T4, tupOf [.int 99 a4, .str "text" b4] n4) ∈ S) (h5 : (T5, tupOf [.int (-1) a5, .str "text" b5] n5) ∈ S)
    {i : Nat} {v : Value} (hv : [Value.ref T0, .ref T1, .ref T2, .ref T3, .ref T4, .ref T5][i]? = some v) (J : JE1 w tr bk S i E) (hs : ∀ p ∈ E, p ∈ E₁) (hI : (I, it) ∈ E₁) (hc : it.cls = .type "list_iterator") (hd : it.data = .fields #[.ref D, .int j 0]) :
    ∃ T pv kd tk1 n, v = .ref T ∧ handedIn pv = true ∧ (T, tupOf [pv, .str kd tk1] n) ∈ S ∧ ∀ tkv, CtrS w 306 [.ref tr, .ref bk, pv, .str kd tk1, .str "v" tkv] E₁ 280 1120 (P1 w tr bk S I it i) := by
  have si := J.si.sub hs
  have fin : ∀ v n, DP w tr bk (F1 (i + 1)) S E₁ TPut v n → P1 w tr bk S I it i v n := fun v n ⟨a, b, c, k⟩ => ⟨a, b, c, k _ hI _ hd⟩
  rcases i with _ | _ | _ | _ | _ | _ | i
  · obtain rfl : Value.ref T0 = v := by simpa using hv
    refine ⟨T0, _, _, _, _, rfl, rfl, h0, fun tkv => CtrS.mono fun h₀ h L N => ⟨(d_put_par0 (i := 1) si (hs _ (J.t0 rfl)) J.ap (by decide) rfl rfl).post ?_, fun _ h => h⟩⟩
    rintro v n ⟨a, b, c, k⟩
    exact ⟨a, b, c, k _ hI (it_ne N hI (hs _ (J.t0 rfl)) hc) _ hd⟩
  · obtain rfl : Value.ref T1 = v := by simpa using hv
    exact ⟨T1, _, _, _, _, rfl, rfl, h1, fun tkv => (d_put_kid (i := 2) si ((J.t1 (by omega)).sub hs) rfl rfl).post fin⟩
  · obtain rfl : Value.ref T2 = v := by simpa using hv
    exact ⟨T2, _, _, _, _, rfl, rfl, h2, fun tkv => (d_put_par (i := 0) si ((J.t1 (by omega)).sub hs) (by decide) rfl rfl).post fin⟩
  · obtain rfl : Value.ref T3 = v := by simpa using hv
    exact ⟨T3, _, _, _, _, rfl, rfl, h3, fun tkv => (d_put_none si ((J.t1 (by omega)).sub hs) (by decide)).post fin⟩
  · obtain rfl : Value.ref T4 = v := by simpa using hv
    exact ⟨T4, _, _, _, _, rfl, rfl, h4, fun tkv => (d_put_bad si ((J.t1 (by omega)).sub hs) (by decide)).post fin⟩
  · obtain rfl : Value.ref T5 = v := by simpa using hv
    exact ⟨T5, _, _, _, _, rfl, rfl, h5, fun tkv => (d_put_bad si ((J.t1 (by omega)).sub hs) (by decide)).post fin⟩
  · simp at hv
theorem JE1.next {i : Nat} {v : Value} {n : Led} {h₀ h : Heap} {L : Addr} (N : News h₀ L h n) (J : JE1 w tr bk S i E) (P : P1 w tr bk S I it i v n) (hS : ∀ p ∈ S, p.1 ≠ I) (hc : it.cls = .type "list_iterator") (hd : it.data = .fields #[.ref D, .int j 0]) : JE1 w tr bk S (i + 1) (off I n) := by
  obtain ⟨_, T, si, hI⟩ := P
  exact ⟨si.off N hI hd hS, fun h => by omega, fun _ => T.off N hI (by rw [hc]; exact fun e => by cases e) hd (by simp), J.ap⟩
structure JE2 (w : World) (tr bk : Addr) (S : Led) (i : Nat) (E : Led) : Prop where
  si : SI w tr bk (F2 i) S E
  tp : TPut E
  t0 : i = 0 → ((308, tabObj #[]) : Addr × Obj) ∈ E ∧ ((315, tabObj #[]) : Addr × Obj) ∈ E
  t1 : 0 < i → TChg E ∧ TAsk E
  ap : ∀ p ∈ S, p.1 ≠ 308 ∧ p.1 ≠ 315
/-- what a told change and asking leave -/
def P2 (w : World) (tr bk : Addr) (S : Led) (I : Addr) (it : Obj) (i : Nat) (v : Value) (n : Led) : Prop := v = .bool true ∧ TPut n ∧ TChg n ∧ TAsk n ∧ SI w tr bk (F2 (i + 1)) S n ∧ (I, it) ∈ n
def P2' (w : World) (tr bk : Addr) (S : Led) (I : Addr) (it : Obj) (i : Nat) (k : Int) (t : Tok) (v : Value) (n : Led) : Prop := v = .bool true ∧ CtrS w 320 [.ref tr, .ref bk, .int k t] n 180 720 (P2 w tr bk S I it i)
theorem told_step2 {t0 t1 t2 t3 t4 t5 t6 : Tok} {i : Nat} {v : Value} (hv : [Value.int 0 t0, .int 1 t1, .int 2 t2, .int 3 t3, .int 4 t4, .int 99 t5, .int (-1) t6][i]? = some v)
    (J : JE2 w tr bk S i E) (hs : ∀ p ∈ E, p ∈ E₁) (hI : (I, it) ∈ E₁) (hc : it.cls = .type "list_iterator") (hd : it.data = .fields #[.ref D, .int j 0]) :
    ∃ k t, v = .int k t ∧ ∀ tkv, CtrS w 313 [.ref tr, .ref bk, .int k t, .str "w" tkv] E₁ 180 720 (P2' w tr bk S I it i k t) := by
  have si := J.si.sub hs
  have tp := J.tp.sub hs
  have fin : ∀ n, TPut n → TChg n → (I, it) ∈ n → ∀ v n', DP w tr bk (F2 (i + 1)) S n TAsk v n' → P2 w tr bk S I it i v n' := fun n a b c v n' ⟨d, e, f, k⟩ => ⟨d, a.keepF k, b.keepF k, e, f, k _ c _ hd⟩
  have fin' : ∀ n, TPut n → TChg n → TAsk n → (I, it) ∈ n → ∀ v n', DP w tr bk (F2 (i + 1)) S n (fun _ => True) v n' → P2 w tr bk S I it i v n' := fun n a b b' c v n' ⟨d, _, f, k⟩ => ⟨d, a.keepF k, b.keepF k, b'.keepF k, f, k _ c _ hd⟩
  rcases i with _ | _ | _ | _ | _ | _ | _ | i
  · obtain rfl : Value.int 0 t0 = v := by simpa using hv
    have z := hs _ (J.t0 rfl).1
    have z' := hs _ (J.t0 rfl).2
    refine ⟨_, _, rfl, fun tkv => CtrS.mono fun h₀ h L N => ⟨(d_chg_par0 (i := 0) si z (fun p hp => (J.ap p hp).1) rfl rfl).post ?_, fun _ h => h⟩⟩
    rintro v n ⟨a, b, c, k⟩
    have tp' := tp.keepF0 N k (by decide) z
    have hI' := k _ hI (it_ne N hI z hc) _ hd
    have z2 := k _ z' (by decide) _ rfl
    refine ⟨a, CtrS.mono fun h₀ h L N => ⟨(d_ask_no0 (i := 0) c z2 (fun p hp => (J.ap p hp).2) rfl (by decide)).post ?_, fun _ h => h⟩⟩
    rintro v n' ⟨d, e, f, k'⟩
    exact ⟨d, tp'.keepF0 N k' (by decide) z2, b.keepF0 N k' (by decide) z2, e, f, k' _ hI' (it_ne N hI' z2 hc) _ hd⟩
  all_goals try (have tc := ((J.t1 (by omega)).1).sub hs; have ta := ((J.t1 (by omega)).2).sub hs)
  · obtain rfl : Value.int 1 t1 = v := by simpa using hv
    refine ⟨_, _, rfl, fun tkv => (d_chg_par (i := 1) si tc rfl rfl).post ?_⟩
    rintro v n ⟨a, b, c, k⟩
    exact ⟨a, (d_ask_ok (i := 1) c rfl rfl).post (fin' _ (tp.keepF k) b (ta.keepF k) (k _ hI _ hd))⟩
  · obtain rfl : Value.int 2 t2 = v := by simpa using hv
    refine ⟨_, _, rfl, fun tkv => (d_chg_ok (i := 2) si rfl rfl).post ?_⟩
    rintro v n ⟨a, b, c, k⟩
    exact ⟨a, (d_ask_no (i := 2) c (ta.keepF k) rfl (by decide)).post (fin _ (tp.keepF k) (tc.keepF k) (k _ hI _ hd))⟩
  · obtain rfl : Value.int 3 t3 = v := by simpa using hv
    refine ⟨_, _, rfl, fun tkv => (d_chg_ok (i := 3) si rfl rfl).post ?_⟩
    rintro v n ⟨a, b, c, k⟩
    exact ⟨a, (d_ask_no (i := 3) c (ta.keepF k) rfl (by decide)).post (fin _ (tp.keepF k) (tc.keepF k) (k _ hI _ hd))⟩
  · obtain rfl : Value.int 4 t4 = v := by simpa using hv
    refine ⟨_, _, rfl, fun tkv => (d_chg_ok (i := 4) si rfl rfl).post ?_⟩
    rintro v n ⟨a, b, c, k⟩
    exact ⟨a, (d_ask_no (i := 4) c (ta.keepF k) rfl (by decide)).post (fin _ (tp.keepF k) (tc.keepF k) (k _ hI _ hd))⟩
  · obtain rfl : Value.int 99 t5 = v := by simpa using hv
    refine ⟨_, _, rfl, fun tkv => (d_chg_bad si tc (by decide)).post ?_⟩
    rintro v n ⟨a, b, c, k⟩
    exact ⟨a, (d_ask_bad c (ta.keepF k) (by decide)).post (fin _ (tp.keepF k) b (k _ hI _ hd))⟩
  · obtain rfl : Value.int (-1) t6 = v := by simpa using hv
    refine ⟨_, _, rfl, fun tkv => (d_chg_bad si tc (by decide)).post ?_⟩
    rintro v n ⟨a, b, c, k⟩
    exact ⟨a, (d_ask_bad c (ta.keepF k) (by decide)).post (fin _ (tp.keepF k) b (k _ hI _ hd))⟩
  · simp at hv
theorem JE2.next {i : Nat} {v : Value} {n : Led} {h₀ h : Heap} {L : Addr} (N : News h₀ L h n) (J : JE2 w tr bk S i E) (P : P2 w tr bk S I it i v n) (hS : ∀ p ∈ S, p.1 ≠ I) (hc : it.cls = .type "list_iterator") (hd : it.data = .fields #[.ref D, .int j 0]) : JE2 w tr bk S (i + 1) (off I n) := by
  obtain ⟨_, T, T2, T3, si, hI⟩ := P
  have hc' : it.cls ≠ .none := by rw [hc]; exact fun e => by cases e
  exact ⟨si.off N hI hd hS, T.off N hI hc' hd (by simp), fun h => by omega, fun _ => ⟨T2.off N hI hc' hd (by simp), T3.off N hI hc' hd (by simp)⟩, J.ap⟩
theorem told_start {st : Sto} {tups n0 all : Led} {lp : Addr} {vs : Array Value} {c : Nat} {h₀ h : Heap} {L : Addr} (N : News h₀ L h all) (ht : ∀ p ∈ tups, p ∈ all ∧ p.2.cls = .type "tuple") (hlp : (lp, listOf vs c) ∈ all) (h0 : ∀ p ∈ n0, p ∈ all)
    (wf : st.Wf w) (hfa : st.faces = F1 0) (hled : ∀ p ∈ st.led w, p ∈ n0) (hrest : ∀ p ∈ ([(322, tabObj #[]), (315, tabObj #[]), (308, tabObj #[]), (301, tabObj #[])] : Led), p ∈ n0) (hlt : AllLt lp n0) :
    JE1 w st.tr st.bk (tups ++ [(lp, listOf vs c), (322, tabObj #[]), (315, tabObj #[]), (308, tabObj #[])]) 0 all := by
  have h301 : ((301, tabObj #[]) : Addr × Obj) ∈ all := h0 _ (hrest _ (by simp))
  have hs := fun p hp => h0 p (hled p hp)
  refine ⟨⟨st, rfl, rfl, wf, hfa, hs, fun p hp => ?_⟩, fun _ => h301, fun h => by omega, fun p hp => ?_⟩
  · rcases List.mem_append.mp hp with hp | hp
    · exact ⟨(ht p hp).1, nott N wf hs (ht p hp).1 (ht p hp).2⟩
    · rcases List.mem_cons.mp hp with rfl | hp
      · refine ⟨hlp, fun hk => ?_⟩
        obtain ⟨o, ho⟩ := fk_led (w := w) hk
        exact absurd (allLt_mem hlt _ (hled _ ho)) (Nat.lt_irrefl _)
      · have h1 : p ∈ n0 := hrest p (by
          simp only [List.mem_cons, List.not_mem_nil, or_false] at hp ⊢
          rcases hp with rfl | rfl | rfl <;> simp)
        have h2 : p.2 = tabObj #[] := by
          simp only [List.mem_cons, List.not_mem_nil, or_false] at hp
          rcases hp with rfl | rfl | rfl <;> rfl
        exact ⟨h0 p h1, notf N wf hs (h0 p h1) (ps := #[]) (by rw [h2])⟩
  · rcases List.mem_append.mp hp with hp | hp
    · exact News.ne N (ht p hp).1 h301 fun e => by
        have := (ht p hp).2
        rw [e] at this; cases this
    · rcases List.mem_cons.mp hp with rfl | hp
      · exact News.ne N hlp h301 fun e => by cases e
      · simp only [List.mem_cons, List.not_mem_nil, or_false] at hp
        rcases hp with rfl | rfl | rfl <;> decide
theorem told_start6 {st : Sto} {n0 : Led} {P0 P1 P2 P3 P4 P5 lp : Addr} {o0 o1 o2 o3 o4 o5 : Obj} {vs : Array Value} {c : Nat} {h₀ h : Heap} {L : Addr}
    (N : News h₀ L h ((lp, listOf vs c) :: (P5, o5) :: (P4, o4) :: (P3, o3) :: (P2, o2) :: (P1, o1) :: (P0, o0) :: n0)) (c0 : o0.cls = .type "tuple") (c1 : o1.cls = .type "tuple") (c2 : o2.cls = .type "tuple") (c3 : o3.cls = .type "tuple") (c4 : o4.cls = .type "tuple") (c5 : o5.cls = .type "tuple")
    (wf : st.Wf w) (hfa : st.faces = F1 0) (hled : ∀ p ∈ st.led w, p ∈ n0) (hrest : ∀ p ∈ ([(322, tabObj #[]), (315, tabObj #[]), (308, tabObj #[]), (301, tabObj #[])] : Led), p ∈ n0) (hlt : AllLt lp n0) :
    ∃ S : Led, JE1 w st.tr st.bk S 0 ((lp, listOf vs c) :: (P5, o5) :: (P4, o4) :: (P3, o3) :: (P2, o2) :: (P1, o1) :: (P0, o0) :: n0) ∧ (lp, listOf vs c) ∈ S ∧ (P0, o0) ∈ S ∧ (P1, o1) ∈ S ∧ (P2, o2) ∈ S ∧ (P3, o3) ∈ S ∧ (P4, o4) ∈ S ∧ (P5, o5) ∈ S ∧
      ∀ p ∈ ([(322, tabObj #[]), (315, tabObj #[]), (308, tabObj #[])] : Led), p ∈ S := by
  refine ⟨_, told_start (tups := [(P0, o0), (P1, o1), (P2, o2), (P3, o3), (P4, o4), (P5, o5)]) N (fun p hp => ?_) (.head _) (fun p hp => by simp [hp]) wf hfa hled hrest hlt, by simp, by simp, by simp, by simp, by simp, by simp, by simp, fun p hp => by simp at hp ⊢; simp [hp]⟩
  simp only [List.mem_cons, List.not_mem_nil, or_false] at hp
  rcases hp with rfl | rfl | rfl | rfl | rfl | rfl <;> exact ⟨by simp, by assumption⟩
theorem told_mid {S : Led} {D2 : Addr} {vs : Array Value} {c : Nat} {h₀ h : Heap} {L : Addr} (N : News h₀ L h ((D2, listOf vs c) :: E)) (J : JE1 w tr bk S 6 E) (hS : ∀ p ∈ ([(322, tabObj #[]), (315, tabObj #[]), (308, tabObj #[])] : Led), p ∈ S) (hlt : ∀ p ∈ E, @LT.lt Nat _ p.1 D2) :
    JE2 w tr bk [(322, tabObj #[]), (D2, listOf vs c)] 0 ((D2, listOf vs c) :: E) := by
  obtain ⟨⟨st, rfl, rfl, wf, hfa, hled, hS'⟩, -, T, -⟩ := J
  have hI : ∀ p ∈ E, p ∈ (D2, listOf vs c) :: E := fun p hp => .tail _ hp
  have t308 := (hS' _ (hS (308, tabObj #[]) (by simp))).1
  have t315 := (hS' _ (hS (315, tabObj #[]) (by simp))).1
  refine ⟨⟨st, rfl, rfl, wf, hfa, fun p hp => hI p (hled p hp), fun p hp => ?_⟩, (T (by omega)).sub hI, fun _ => ⟨hI _ t308, hI _ t315⟩, fun h => by omega, fun p hp => ?_⟩
  · rcases List.mem_cons.mp hp with rfl | hp
    · have := hS' _ (hS (322, tabObj #[]) (by simp)); exact ⟨hI _ this.1, this.2⟩
    · obtain rfl := List.mem_singleton.mp hp
      refine ⟨.head _, fun hk => ?_⟩
      obtain ⟨o, ho⟩ := fk_led (w := w) hk
      exact absurd (hlt _ (hled _ ho)) (Nat.lt_irrefl _)
  · rcases List.mem_cons.mp hp with rfl | hp
    · exact ⟨by decide, by decide⟩
    · obtain rfl := List.mem_singleton.mp hp
      exact ⟨News.ne N (.head _) (hI _ t308) (fun e => by cases e), News.ne N (.head _) (hI _ t315) (fun e => by cases e)⟩
/-- what the told standing leaves: the tables, and three lines of the book -/
def P3 (w : World) (bk : Addr) (v : Value) (n : Led) : Prop := v = .bool true ∧ LawTabs n ∧ ∃ (od : Obj) (kvs : List (Int × Value)) (b0 g0 b1 g1 b5 g5 : Addr) (x0 x1 x5 y0 y1 y5 p0 p1 : Value) (n0 n1 n5 m0 m1 : Nat) (v0 v1 : List Value),
  (bk, od) ∈ n ∧ od.IsDictOf (PySem.intKind PySem.Challenge.rw_xw0201_01.row.prog w) kvs ∧ valueAt kvs 0 = some (.ref b0) ∧ valueAt kvs 1 = some (.ref b1) ∧ valueAt kvs 5 = some (.ref b5) ∧
  (b0, listOf [x0, y0, p0, .ref g0].toArray n0) ∈ n ∧ (b1, listOf [x1, y1, p1, .ref g1].toArray n1) ∈ n ∧ (b5, listOf [x5, y5, .none, .ref g5].toArray n5) ∈ n ∧
  (g0, listOf v0.toArray m0) ∈ n ∧ (g1, listOf v1.toArray m1) ∈ n ∧ IntsAre v0 [1, 4] ∧ IntsAre v1 [2, 3]
theorem told_step3 {i : Nat} (hi : i = 7) {S : Led} (J : JE2 w tr bk S i E) (h322 : ((322, tabObj #[]) : Addr × Obj) ∈ S) : CtrS w 327 [.ref tr, .ref bk] E 180 720 (P3 w bk) := by
  subst hi
  have z := J.si.memS h322
  refine CtrS.mono fun h₀ h L N => ⟨(d_stands0 (J.si.less (S' := []) (fun p hp => nomatch hp)) z (fun p hp => nomatch hp)).post ?_, fun _ h => h⟩
  rintro v n ⟨rfl, T, si, k⟩
  obtain ⟨t1, t2⟩ := J.t1 (by omega)
  refine ⟨rfl, ⟨T, t2.keepF0 N k (by decide) z, t1.keepF0 N k (by decide) z, J.tp.keepF0 N k (by decide) z⟩, ?_⟩
  obtain ⟨st, rfl, rfl, wf, hF, hs, -⟩ := si
  obtain ⟨r0, h0, e0⟩ := faces_at hF (i := 0) rfl
  obtain ⟨r1, h1, e1⟩ := faces_at hF (i := 1) rfl
  obtain ⟨r5, h5, e5⟩ := faces_at hF (i := 5) rfl
  have at_ := (Sto.at hs).2.2.2
  have q0 := at_.2 r0 (List.mem_of_getElem? h0)
  have q1 := at_.2 r1 (List.mem_of_getElem? h1)
  have q5 := at_.2 r5 (List.mem_of_getElem? h5)
  have k0 := (wf.kids r0 (List.mem_of_getElem? h0)).2.1
  have k1 := (wf.kids r1 (List.mem_of_getElem? h1)).2.1
  simp only [Nd.face, Prod.mk.injEq] at e0 e1 e5
  obtain ⟨-, -, -, c0⟩ := e0
  obtain ⟨-, -, -, c1⟩ := e1
  obtain ⟨-, -, c5, -⟩ := e5
  rw [c0] at k0
  rw [c1] at k1
  have b5 := q5.hb
  unfold Nd.lineO at b5
  rw [c5] at b5
  exact ⟨st.od, _, r0.b, r0.g, r1.b, r1.g, r5.b, r5.g, _, _, _, _, _, _, _, _, _, _, _, _, _, _, _, at_.1, wf.hod, kvF_hit h0, kvF_hit h1, kvF_hit h5, q0.hb, q1.hb, b5, q0.hg, q1.hg, k0, k1⟩
end
end
section
open PySem PySem.W PySem.Calls PyProof.Rows
theorem ln_Told_0 : True := by
  w_top off
  k_with_none
  k_with "call builtin:len" => (k_here; (with_reducible show wpAny _ _ (call (Value.builtin "len") [Value.ref _]) _ _ _); k_dflt (refine' len_led ?k1 ?k2 ?k3 ?_; (case k1 => k_asm); (case k2 => (repeat' (first | assumption | exact List.Mem.head _ | refine List.Mem.tail _ ?_))); (case k3 => ((try simp only [List.length_cons, List.length_nil, List.length_append, List.length_map]); omega)); k_whole); (try dsimp only))
  k_with "subscriptTail" => (k_here; (with_reducible show wpAny _ _ (subscriptTail _ _ (Value.ref _) (Value.int _ _)) _ _ _); k_dflt (refine' item_led ?k1 ?k2 ?k3 ?k4 ?k5 ?_ ?k6; (case k1 => k_asm); (case k2 => (repeat' (first | assumption | exact List.Mem.head _ | refine List.Mem.tail _ ?_))); (case k3 => omega); (case k4 => omega); (case k5 => (first | assumption | (rw [List.getElem?_append_left (by omega)]; assumption))); (case k6 => with_unfolding_all rfl); k_whole); (try dsimp only))
  k_with "exec Raise some none" => (k_here; (with_reducible show wpAny _ _ (exec (Stmt.Raise (some (Expr.Call (Expr.Name (Str.ofString "TreeFault") _) [Expr.Constant (Const.str _) _ _] [] _)) none _) _) _ _ _); k_dflt (refine' raise_tf ?kB ?kF ?kX ?kN ?kT ?kk ?kx ?kn ?ki ?kf ?kd ?ku ?_; (case kB => k_asm); (case kF => k_asm); (case kX => k_asm); (case kN => k_asm); (case kT => assumption); (case kk => rfl); (case kx => k_is); (case kn => rfl); (case ki => k_is); (case kf => k_is); (case kd => ktr_room); (case ku => ktr_units); k_whole); intro eω tω dω hω tkω Fω Nω neω)
  k_with "leaving ref" => (k_here; k_dflt (refine' leave_led ?kK ?kF ?kN ?kne ?kd ?k1 ?k0 ?_; (case kF => k_asm); (case kN => k_asm); (case kK => k_asm); (case kne => k_asm); (case kd => rfl); (case k1 => rfl); (case k0 => rfl); k_whole); intro hω Sω Rω Uω; (try dsimp only at Sω Rω Uω ⊢))
  k_with "leaving ref" => (k_here; k_dflt (refine' leave_onSN ?k1 ?k2 ?k3 ?k4 ?_; (case k3 => assumption); (case k2 => assumption); (case k1 => assumption); (case k4 => assumption); k_whole); intro hω Sω Rω Uω; (try dsimp only at Sω Rω Uω ⊢))
  k_with "getAttr ref" => (k_here; k_dflt (refine' get_own ?k1 ?k2 ?k3 ?k4 ?k5 ?k6 ?k7 ?k8 ?k9 ?_; (case k1 => k_asm); (case k2 => k_asm); (case k3 => k_inst); (case k4 => k_is); (case k5 => k_is); (case k6 => k_is); (case k7 => k_is); (case k8 => k_get); (case k9 => k_handed); k_whole); (try dsimp only))
  k_with "eval Constant int" => (k_here; refine wpAny_Constant_int ?_; (try dsimp only))
  k_with "eval Constant str" => (k_here; refine Calls.Constant_str ?_; (try dsimp only))
  k_with "call ref" => (k_here; (with_reducible show wpAny _ _ (call (Value.ref 299) _) _ _ _); k_dflt (refine' use_ctr (begun _ _) ?uB ?uF ?uX ?uN ?uT ?uk ?ud ?uu ?_; (case uF => k_asm); (case uN => k_asm); (case uB => k_asm); (case uX => k_asm); (case uT => assumption); (case uk => rfl); (case ud => ktr_room); (case uu => ktr_units); k_whole); intro vω hω tkω nω Fω Nω hPω; k_dflt (obtain ⟨stω, tpω, n9ω, e1ω, htpω, wfω, hfaω, hledω, hrestω, hoffω⟩ := hPω); subst e1ω; (try dsimp only))
  k_with "call ref" => (k_here; (with_reducible show wpAny _ _ (call (Value.ref 306) _) _ _ _); k_dflt (refine' use_ctrS (‹∀ t : Tok, CtrS _ 306 [_, _, _, _, Value.str _ t] _ _ _ _› _) ?uB ?uF ?uX ?uXB ?uN ?uT ?uTB ?uD ?uT0 ?uCT ?uk ?ud ?uu ?_; (case uF => k_asm); (case uN => k_asm); (case uB => k_asm); (case uX => k_asm); (case uXB => assumption); (case uT => assumption); (case uTB => assumption); (case uD => assumption); (case uT0 => first | assumption | exact KtsTurn.refl); (case uCT => assumption); (case uk => rfl); (case ud => ktr_room); (case uu => ktr_units); k_whole); intro vω hω tkω nω gωω KTω Fω Nω Bω Xω Pω Dω hPω; k_dflt (obtain ⟨e1ω, hP2ω⟩ := hPω); subst e1ω; (try dsimp only))
  k_with "call ref" => (k_here; (with_reducible show wpAny _ _ (call (Value.ref 313) _) _ _ _); k_dflt (refine' use_ctrS (‹∀ t : Tok, CtrS _ 313 [_, _, _, Value.str _ t] _ _ _ _› _) ?uB ?uF ?uX ?uXB ?uN ?uT ?uTB ?uD ?uT0 ?uCT ?uk ?ud ?uu ?_; (case uF => k_asm); (case uN => k_asm); (case uB => k_asm); (case uX => k_asm); (case uXB => assumption); (case uT => assumption); (case uTB => assumption); (case uD => assumption); (case uT0 => first | assumption | exact KtsTurn.refl); (case uCT => assumption); (case uk => rfl); (case ud => ktr_room); (case uu => ktr_units); k_whole); intro vω hω tkω nω gωω KTω Fω Nω Bω Xω Pω Dω hPω; k_dflt (obtain ⟨e1ω, hP2ω⟩ := hPω); subst e1ω; (try dsimp only))
  k_with "call ref" => (k_here; (with_reducible show wpAny _ _ (call (Value.ref 320) _) _ _ _); k_dflt (refine' use_ctrS (‹CtrS _ 320 [_, _, _] _ _ _ _›) ?uB ?uF ?uX ?uXB ?uN ?uT ?uTB ?uD ?uT0 ?uCT ?uk ?ud ?uu ?_; (case uF => k_asm); (case uN => k_asm); (case uB => k_asm); (case uX => k_asm); (case uXB => assumption); (case uT => assumption); (case uTB => assumption); (case uD => assumption); (case uT0 => first | assumption | exact KtsTurn.refl); (case uCT => assumption); (case uk => rfl); (case ud => ktr_room); (case uu => ktr_units); k_whole); intro vω hω tkω nω gωω KTω Fω Nω Bω Xω Pω Dω hPω; k_dflt (obtain ⟨e1ω, hP2ω⟩ := hPω); subst e1ω; (try dsimp only))
  k_with "call ref" => (k_here; (with_reducible show wpAny _ _ (call (Value.ref 327) _) _ _ _); k_dflt (refine' use_ctrS (‹CtrS _ 327 [_, _] _ _ _ _›) ?uB ?uF ?uX ?uXB ?uN ?uT ?uTB ?uD ?uT0 ?uCT ?uk ?ud ?uu ?_; (case uF => k_asm); (case uN => k_asm); (case uB => k_asm); (case uX => k_asm); (case uXB => assumption); (case uT => assumption); (case uTB => assumption); (case uD => assumption); (case uT0 => first | assumption | exact KtsTurn.refl); (case uCT => assumption); (case uk => rfl); (case ud => ktr_room); (case uu => ktr_units); k_whole); intro vω hω tkω nω gωω KTω Fω Nω Bω Xω Pω Dω hPω; k_dflt (obtain ⟨e1ω, hP2ω⟩ := hPω); subst e1ω; (try dsimp only))
  k_with "compareOp In int ref" => (k_here; (with_reducible show wpAny _ _ (compareOp _ (Value.int _ _) (Value.ref _)) _ _ _); k_dflt (refine' bk_in ?kN ?kp ?kd ?kl ?kh ?_; (case kN => k_asm); (case kp => (repeat' (first | assumption | exact List.Mem.head _ | refine List.Mem.tail _ ?_))); (case kd => assumption); (case kl => assumption); (case kh => assumption); k_whole); (try dsimp only))
  k_with "compareOp In int ref" => (k_here; (with_reducible show wpAny _ _ (compareOp _ (Value.int _ _) (Value.ref _)) _ _ _); k_dflt (refine' bk_in0 ?kN ?kp ?kd ?kl ?kh ?_; (case kN => k_asm); (case kp => (repeat' (first | assumption | exact List.Mem.head _ | refine List.Mem.tail _ ?_))); (case kd => assumption); (case kl => assumption); (case kh => assumption); k_whole); (try dsimp only))
  k_with "compareOp NotIn int ref" => (k_here; (with_reducible show wpAny _ _ (compareOp _ (Value.int _ _) (Value.ref _)) _ _ _); k_dflt (refine' bk_notin ?kN ?kp ?kd ?kl ?kh ?_; (case kN => k_asm); (case kp => (repeat' (first | assumption | exact List.Mem.head _ | refine List.Mem.tail _ ?_))); (case kd => assumption); (case kl => assumption); (case kh => assumption); k_whole); (try dsimp only))
  k_with "compareOp NotIn int ref" => (k_here; (with_reducible show wpAny _ _ (compareOp _ (Value.int _ _) (Value.ref _)) _ _ _); k_dflt (refine' bk_notin0 ?kN ?kp ?kd ?kl ?kh ?_; (case kN => k_asm); (case kp => (repeat' (first | assumption | exact List.Mem.head _ | refine List.Mem.tail _ ?_))); (case kd => assumption); (case kl => assumption); (case kh => assumption); k_whole); (try dsimp only))
  k_with "subscriptTail" => (k_here; (with_reducible show wpAny _ _ (subscriptTail _ _ (Value.ref _) (Value.int _ _)) _ _ _); k_dflt (refine' bk_item ?kN ?kp ?kd ?kh ?_ ?k6 ?k7; (case kN => k_asm); (case kp => (repeat' (first | assumption | exact List.Mem.head _ | refine List.Mem.tail _ ?_))); (case kd => assumption); (case kh => assumption); (case k6 => with_unfolding_all rfl); (case k7 => intro _; with_unfolding_all rfl); k_whole); (try dsimp only))
  k_with "getItem ref int" => (k_here; (with_reducible show wpAny _ _ (getItem (Value.ref _) (Value.int _ _)) _ _ _); k_dflt (refine' bk_getItem ?kN ?kp ?kd ?kh ?_; (case kN => k_asm); (case kp => (repeat' (first | assumption | exact List.Mem.head _ | refine List.Mem.tail _ ?_))); (case kd => assumption); (case kh => assumption); k_whole); (try dsimp only))
  k_with "call builtin:len" => (k_here; (with_reducible show wpAny _ _ (call (Value.builtin "len") [Value.ref _]) _ _ _); k_dflt (refine' bk_len ?kN ?kp ?kd ?kl ?kh ?_; (case kN => k_asm); (case kp => (repeat' (first | assumption | exact List.Mem.head _ | refine List.Mem.tail _ ?_))); (case kd => assumption); (case kl => assumption); (case kh => assumption); k_whole); (try dsimp only))
  k_with "setItem ref int" => (k_here; (with_reducible show wpAny _ _ (setItem (Value.ref _) (Value.int _ _) _) _ _ _); k_dflt (refine' bk_set ?kF ?kN ?kU ?kd ?kl ?_; (case kF => k_asm); (case kN => k_asm); (case kU => k_updF); (case kd => assumption); (case kl => assumption); k_whole); intro hω oω Fω Nω hdω; (try dsimp only at Nω))
  k_with "compareOp Eq ref ref" => (k_here; (with_reducible show wpAny _ _ (compareOp _ (Value.ref _) (Value.ref _)) _ _ _); k_dflt (refine' tup_eq ?kN ?k1 ?k2 ?ku ?ke ?_; (case kN => k_asm); (case k1 => (repeat' (first | assumption | exact List.Mem.head _ | refine List.Mem.tail _ ?_))); (case k2 => (repeat' (first | assumption | exact List.Mem.head _ | refine List.Mem.tail _ ?_))); (case ku => ktr_units); (case ke => (repeat' (first | exact SameL.nil | refine SameL.cons ?_ ?_ | exact PySem.SeqAt.EqAt.same _ | (refine (?q9 : ∀ (A : Around) (s : Shared), PySem.SeqAt.EqAt A s _ _ true) _ _; assumption) | exact same_str _ _ _ | exact same_int _ _ _ | exact same_ints (isList_of (by k_asm) (by repeat' (first | assumption | exact List.Mem.head _ | refine List.Mem.tail _ ?_))) (isList_of (by k_asm) (by repeat' (first | assumption | exact List.Mem.head _ | refine List.Mem.tail _ ?_))) (by assumption) (by first | assumption | exact IntsAre.cons _ _ (IntsAre.cons _ _ IntsAre.nil)) (by ktr_units)))); k_whole); (try dsimp only))
  k_with "subscriptTail" => (k_here; (with_reducible show wpAny _ _ (subscriptTail _ _ (Value.ref _) (Value.int _ _)) _ _ _); k_dflt (refine' item_led ?k1 ?k2 ?k3 ?k4 ?k5 ?_ ?k6; (case k1 => k_asm); (case k2 => (repeat' (first | assumption | exact List.Mem.head _ | refine List.Mem.tail _ ?_))); (case k3 => omega); (case k4 => omega); (case k5 => (first | rfl | assumption | (rw [List.getElem?_append_left (by omega)]; assumption))); (case k6 => with_unfolding_all rfl); k_whole); (try dsimp only))
  k_with "call ref" => (k_here; (with_reducible show wpAny _ _ (call (Value.ref 327) _) _ _ _); k_dflt (refine' use_ctrS (‹CtrS _ 327 [_, _] _ _ _ _›) ?uB ?uF ?uX ?uXB ?uN ?uT ?uTB ?uD ?uT0 ?uCT ?uk ?ud ?uu ?_; (case uF => k_asm); (case uN => k_asm); (case uB => k_asm); (case uX => k_asm); (case uXB => assumption); (case uT => assumption); (case uTB => assumption); (case uD => assumption); (case uT0 => first | assumption | exact KtsTurn.refl); (case uCT => assumption); (case uk => rfl); (case ud => ktr_room); (case uu => ktr_units); k_whole); intro vω hω tkω nω gωω KTω Fω Nω Bω Xω Pω Dω hPω; k_dflt (obtain ⟨e1ω, tabω, odω, kvsω, b0ω, g0ω, b1ω, g1ω, b5ω, g5ω, x0ω, x1ω, x5ω, y0ω, y1ω, y5ω, p0ω, p1ω, n0ω, n1ω, n5ω, m0ω, m1ω, v0ω, v1ω, a1ω, a2ω, a3ω, a4ω, a5ω, a6ω, a7ω, a8ω, a9ω, aaω, abω, acω⟩ := hPω); subst e1ω; (try dsimp only))
  k_with "exec For Tuple Name cons nil" => (k_here; (with_unfolding_all refine' ForG ?_; k_whole))
  k_with "exec For Name List cons nil" => (k_here; (with_unfolding_all refine' ForG ?_; k_whole))
  trivial
theorem told (w : World) : CtrS w 334 [] [(322, tabObj #[]), (315, tabObj #[]), (308, tabObj #[]), (301, tabObj #[])] 330 1500 (fun v' n => v' = .bool true ∧ LawTabs n) := by
  unfold CtrS
  k_fill
  intro p loose mean mg mb dp un gd cn cs aa ccd cl outer A₀ base h₀ g₀ L m s Q E B F X XB N T TB D T0 CT hk hdp hu hret
  refine wpAny_call ?_
  k_dflt (refine' callS ?k1 ?k2 ?k3 ?k4 ?k5 ?XB ?TB ?D ?T0 ?kA ?kf ?kK ?k6 ?k7 ?k8 ?k9 ?kB ?_ ?c2 ?c3 ?c4 ?c5; (case kA => exact rfl); (case kf => exact rfl); (case kK => assumption); (case k2 => k_asm); (case k1 => k_asm); (case XB => assumption); (case TB => assumption); (case D => assumption); (case T0 => assumption); (case k3 => k_asm); (case k4 => k_asm); (case k5 => k_asm); (case k6 => k_is); (case k7 => k_is); (case k8 => ktr_room); (case k9 => exact BindsTo.of_eq rfl); (case kB => exact locs rfl); (case c2 => exact rfl); (case c3 => exact rfl); (case c4 => exact rfl); (case c5 => decide); k_whole; intro g' L' h' FG' F' N' B' X' T' D'; (try dsimp only); (try k_lift B'); (try k_fold))
  k_steps
  rename_i ha hb hc tk0 P0 hd9 lt0 P1 he lt1 P2 hf lt2 P3 hg lt3 P4 hh lt4 P5 hi lt5 lp hj ltp hk4 FA NA
  obtain ⟨S, J0, slp, s0, s1, s2, s3, s4, s5, stab⟩ := told_start6 NA rfl rfl rfl rfl rfl rfl wfω hfaω hledω hrestω (And.right (And.right (And.right (And.right (And.right (And.right ltp))))))
  obtain ⟨m0, hm0, FA⟩ : ∃ m0, m0 = _ ∧ Fr g' L' _ m0 := ⟨_, rfl, FA⟩
  refine ⟨fun g => KtsTurn ((envX cn cs L aa ccd cl :: outer).filterMap (·.frame)) g' g ∧ Below (ktrTop dp un gd cn cs L aa ccd cl outer) base (envX cn cs L aa ccd cl :: outer) g ∧ (hd.heap_39 w.params).In g ∧ Top p loose mean mg mb g ∧ KtsDicts ((envX cn cs L aa ccd cl :: outer).filterMap (·.frame)) g,
    lp, [.ref P0, .ref P1, .ref P2, .ref P3, .ref P4, .ref P5], 0, fun i m E => (∃ u v, m = fun z : Str => if z = "kind" then u else if z = "parent" then v else m0 z) ∧ JE1 w stω.tr stω.bk S i E, g', m0, _, rfl, rfl, ⟨KtsTurn.refl, B', X', T', D'⟩, FA, NA, .head _,
    ⟨⟨m0 "kind", m0 "parent", funext fun z => by (repeat' split) <;> simp_all⟩, J0⟩, ?turn, ?fin⟩
  case turn =>
    rintro i v g h tk m E' E₁ I it hv ⟨gT, gB, gX, gTop, gD⟩ F2 hsub hI N2 hD hoff hic hid ⟨⟨u, v', hm⟩, J⟩
    subst hm
    subst hm0
    obtain ⟨P, pv, kd, tk1, n, rfl, hpv, hP, C⟩ := told_step1 s0 s1 s2 s3 s4 s5 hv J hsub hI hic hid
    have hP1 := hsub _ (J.si.memS hP)
    clear FA NA FG'
    k_steps
    have hS : ∀ p ∈ S, p.1 ≠ I := fun p hp => hoff p (J.si.memS hp)
    exact ⟨gωω, hω, tkω, _, nω, off I nω, rfl, ⟨KTω, Bω, Xω, Pω, Dω⟩, Fω, Nω, hP2ω.2.2, mem_off.mpr ⟨hP2ω.2.1.memS slp, hS _ slp⟩, fun p hp => mem_off.mp hp, ⟨⟨some (.str kd tk1), some pv, funext fun z => by (repeat' split) <;> simp_all⟩, JE1.next Nω J ⟨rfl, hP2ω⟩ hS hic hid⟩⟩
  case fin =>
    rintro g h tk m E' ⟨gT, gB, gX, gTop, gD⟩ F2 N2 ⟨⟨u, v', hm⟩, J⟩
    subst hm
    subst hm0
    clear FA NA FG'
    k_steps
    rename_i D2 h4 F4 N4 l4
    have J2 := told_mid N4 J stab l4
    obtain ⟨m1, hm1, F4⟩ : ∃ m1, m1 = _ ∧ Fr g L' _ m1 := ⟨_, rfl, F4⟩
    refine ⟨fun g => KtsTurn ((envX cn cs L aa ccd cl :: outer).filterMap (·.frame)) g' g ∧ Below (ktrTop dp un gd cn cs L aa ccd cl outer) base (envX cn cs L aa ccd cl :: outer) g ∧ (hd.heap_39 w.params).In g ∧ Top p loose mean mg mb g ∧ KtsDicts ((envX cn cs L aa ccd cl :: outer).filterMap (·.frame)) g,
      D2, [.int 0 _, .int 1 _, .int 2 _, .int 3 _, .int 4 _, .int 99 _, .int (-1) _], 0, fun i m E => (∃ u : Option Value, m = fun z : Str => if z = "node" then u else m1 z) ∧ JE2 w stω.tr stω.bk [(322, tabObj #[]), (D2, _)] i E, g, m1, _, rfl, rfl, ⟨gT, gB, gX, gTop, gD⟩, F4, N4, .head _,
      ⟨⟨m1 "node", funext fun z => by (repeat' split) <;> simp_all⟩, J2⟩, ?turn2, ?fin2⟩
    case turn2 =>
      clear gT gB gX gTop gD
      rintro i v g h tk m E' E₁ I it hv ⟨gT, gB, gX, gTop, gD⟩ F2 hsub hI N2 hD hoff hic hid ⟨⟨u5, hm⟩, J⟩
      subst hm
      subst hm1
      obtain ⟨kk, tkk, rfl, C⟩ := told_step2 hv J hsub hI hic hid
      k_steps
      have hS : ∀ p ∈ [((322, tabObj #[]) : Addr × Obj), (D2, _)], p.1 ≠ I := fun p hp => hoff p (J.si.memS hp)
      exact ⟨gωω, hω, tkω, _, nω, off I nω, rfl, ⟨KTω, Bω, Xω, Pω, Dω⟩, Fω, Nω, hP2ω.2.2.2.2, mem_off.mpr ⟨hP2ω.2.2.2.1.memS (.tail _ (.head _)), hS _ (.tail _ (.head _))⟩, fun p hp => mem_off.mp hp, ⟨⟨some (.int kk tkk), funext fun z => by (repeat' split) <;> simp_all⟩, JE2.next Nω J ⟨rfl, hP2ω⟩ hS hic hid⟩⟩
    case fin2 =>
      clear gT gB gX gTop gD
      rintro g h tk m E' ⟨gT, gB, gX, gTop, gD⟩ F2 N2 ⟨⟨u5, hm⟩, J⟩
      subst hm
      subst hm1
      have C := told_step3 rfl J (.head _)
      k_steps
      exact hret _ _ _ _ _ (by assumption) (by k_asm) (by k_asm) (by assumption) (by assumption) (by assumption) (by assumption) ⟨rfl, LawTabs.sub (by assumption) fun p hp => by repeat' (first | exact hp | refine List.Mem.tail _ ?_)⟩
end
section
open PySem PySem.W PySem.Calls PyProof.Rows
/-- the state of law: the store, the source of the draws, the tables -/
def LS (w : World) (tr bk sl : Addr) (F : List Face) (S E : Led) : Prop := ∃ (a b : Int) (t u : Tok) (c : Nat), 0 ≤ a ∧ 0 ≤ b ∧ b < 2147483647 ∧ SI w tr bk F ((sl, listOf [.int a t, .int b u].toArray c) :: S) E ∧ LawTabs E ∧ ∀ p ∈ S, p.1 ≠ sl
theorem led_fk {w : World} {st : Sto} {p : Addr × Obj} (h : p ∈ st.led w) : p.1 ∈ st.fkeys ∨ p.2.cls ≠ .type "list" := by
  unfold Sto.led at h
  simp only [List.mem_cons, List.mem_flatMap, Nd.led, List.not_mem_nil, or_false] at h
  rcases h with rfl | rfl | rfl | rfl | ⟨r, hr, h⟩
  · exact .inr fun e => by cases e
  · refine .inr fun e => ?_
    have e : Value.type "dict" = .type "list" := e
    injection e with e; exact absurd e (by decide)
  · exact .inl (by unfold Sto.fkeys; simp)
  · exact .inl (by unfold Sto.fkeys; simp)
  · have z : ∀ y ∈ r.fkeys, y ∈ st.fkeys := fun y hy => by
      unfold Sto.fkeys
      exact .tail _ (.tail _ (List.mem_flatMap.mpr ⟨r, hr, hy⟩))
    rcases h with rfl | rfl | rfl | rfl | rfl
    · exact .inr fun e => by cases e
    all_goals exact .inl (z _ (by unfold Nd.fkeys; simp))
section
variable {w : World} {tr bk sl : Addr} {F : List Face} {S E n : Led} {h₀ h : Heap} {L : Addr}
theorem LS.sub (x : LS w tr bk sl F S E) (hs : ∀ p ∈ E, p ∈ n) : LS w tr bk sl F S n := by
  obtain ⟨a, b, t, u, c, h1, h2, h3, h4, h5, h6⟩ := x
  exact ⟨a, b, t, u, c, h1, h2, h3, h4.sub hs, h5.sub hs, h6⟩
theorem LS.less {S' : Led} (x : LS w tr bk sl F S E) (hs : ∀ p ∈ S', p ∈ S) : LS w tr bk sl F S' E := by
  obtain ⟨a, b, t, u, c, h1, h2, h3, h4, h5, h6⟩ := x
  exact ⟨a, b, t, u, c, h1, h2, h3, h4.less (fun p hp => by
    rcases List.mem_cons.mp hp with rfl | hp
    · exact .head _
    · exact .tail _ (hs p hp)), h5, fun p hp => h6 p (hs p hp)⟩
theorem LS.tail {D : Addr} {o : Obj} (x : LS w tr bk sl F S E) : LS w tr bk sl F S ((D, o) :: E) := x.sub fun _ hp => .tail _ hp
theorem LS.push {D : Addr} {o : Obj} (x : LS w tr bk sl F S E) (hlt : ∀ p ∈ E, @LT.lt Nat _ p.1 D) : LS w tr bk sl F ((D, o) :: S) ((D, o) :: E) := by
  obtain ⟨a, b, t, u, c, h1, h2, h3, h4, h5, h6⟩ := x
  have hsl := h4.memS (.head _)
  obtain ⟨st, e1, e2, wf, hF, hs, hS⟩ := h4
  have hI : ∀ p ∈ E, p ∈ (D, o) :: E := fun _ hp => .tail _ hp
  refine ⟨a, b, t, u, c, h1, h2, h3, ⟨st, e1, e2, wf, hF, fun p hp => hI p (hs p hp), fun p hp => ?_⟩, h5.sub hI, fun p hp => ?_⟩
  · rcases List.mem_cons.mp hp with rfl | hp
    · have := hS _ (.head _); exact ⟨hI _ this.1, this.2⟩
    · rcases List.mem_cons.mp hp with rfl | hp
      · refine ⟨.head _, fun hk => ?_⟩
        obtain ⟨o, ho⟩ := fk_led (w := w) hk
        exact absurd (hlt _ (hs _ ho)) (Nat.lt_irrefl _)
      · have := hS _ (.tail _ hp); exact ⟨hI _ this.1, this.2⟩
  · rcases List.mem_cons.mp hp with rfl | hp
    · exact fun e => absurd (hlt _ hsl) (by rw [← e]; exact Nat.lt_irrefl _)
    · exact h6 p hp
theorem LS.more (N : News h₀ L h E) (x : LS w tr bk sl F S E) {p : Addr × Obj} (hp : p ∈ E) {ps : Array Value} (hd : p.2.data = .fields ps) : LS w tr bk sl F (p :: S) E := by
  obtain ⟨a, b, t, u, c, h1, h2, h3, h4, h5, h6⟩ := x
  have hsl := h4.memS (.head _)
  refine ⟨a, b, t, u, c, h1, h2, h3, (h4.more N hp hd).less (fun q hq => ?_), h5, fun q hq => ?_⟩
  · rcases List.mem_cons.mp hq with rfl | hq
    · exact .tail _ (.head _)
    · rcases List.mem_cons.mp hq with rfl | hq
      · exact .head _
      · exact .tail _ (.tail _ hq)
  · rcases List.mem_cons.mp hq with rfl | hq
    · exact News.ne N hp hsl fun e => by rw [e] at hd; cases hd
    · exact h6 q hq
/-- the source is written anew -/
theorem LS.set {a b : Int} {t u : Tok} {c : Nat} {o : Obj} (N : News h₀ L h E) (ho : o.cls = .type "list") (hd : ∀ ps, o.data ≠ .fields ps) (x : SI w tr bk F ((sl, o) :: S) E) (hT : LawTabs E) (hS : ∀ p ∈ S, p.1 ≠ sl)
    (h1 : 0 ≤ a) (h2 : 0 ≤ b) (h3 : b < 2147483647) : LS w tr bk sl F S ((sl, listOf [.int a t, .int b u].toArray c) :: off sl E) := by
  obtain ⟨st, e1, e2, wf, hF, hs, hS'⟩ := x
  have hsl := (hS' _ (.head _))
  have k : KeepF E ((sl, listOf [.int a t, .int b u].toArray c) :: off sl E) := fun p hp ps e => .tail _ (mem_off.mpr ⟨hp, News.ne N hp hsl.1 fun e' => hd ps (by rw [e'] at e; exact e)⟩)
  refine ⟨a, b, t, u, c, h1, h2, h3, ⟨st, e1, e2, wf, hF, fun p hp => ?_, fun p hp => ?_⟩, ⟨hT.1.keepF k, hT.2.1.keepF k, hT.2.2.1.keepF k, hT.2.2.2.keepF k⟩, hS⟩
  · refine .tail _ (mem_off.mpr ⟨hs p hp, fun e => ?_⟩)
    rcases led_fk hp with h | h
    · rw [e] at h; exact hsl.2 h
    · exact News.ne N (hs p hp) hsl.1 (fun e => h (by rw [e]; exact ho)) e
  · rcases List.mem_cons.mp hp with rfl | hp
    · exact ⟨.head _, hsl.2⟩
    · exact ⟨.tail _ (mem_off.mpr ⟨(hS' p (.tail _ hp)).1, hS p hp⟩), (hS' p (.tail _ hp)).2⟩
theorem LS.off {I : Addr} {it : Obj} {ps : Array Value} (N : News h₀ L h n) (x : LS w tr bk sl F [(I, it)] n) (hc : it.cls ≠ .none) (hd : it.data = .fields ps) (h1 : ∀ x t, ps[1]? ≠ some (.str x t)) : LS w tr bk sl F [] (off I n) := by
  obtain ⟨a, b, t, u, c, p1, p2, p3, h4, h5, h6⟩ := x
  have hI : (I, it) ∈ n := h4.memS (.tail _ (.head _))
  have hne := h6 _ (.head _)
  refine ⟨a, b, t, u, c, p1, p2, p3, SI.off N (h4.less fun p hp => ?_) hI hd (fun p hp => ?_), ⟨h5.1.off N hI hc hd h1, h5.2.1.off N hI hc hd h1, h5.2.2.1.off N hI hc hd h1, h5.2.2.2.off N hI hc hd h1⟩, fun p hp => nomatch hp⟩
  · rw [List.mem_singleton.mp hp]; exact .head _
  · rw [List.mem_singleton.mp hp]; exact fun e => hne e.symm
theorem Ctr.mono {f : Addr} {args : List Value} {A B : Led} {dd uu : Nat} {P : Value → Led → Prop} (h : ∀ (h₀ h : Heap) (L : Addr), News h₀ L h B → Ctr w f args A dd uu P ∧ ∀ p ∈ A, p ∈ B) : Ctr w f args B dd uu P := by
  intro p loose mean mg mb dp un gd cn cs a ccd cl outer A₀ base h₀ L m s Q E K F X N
  obtain ⟨C, hs⟩ := h _ _ _ N
  exact C p loose mean mg mb dp un gd cn cs a ccd cl outer A₀ base h₀ L m s Q E K F X fun p hp => N p (hs p hp)
theorem Ctr.post {f : Addr} {args : List Value} {A : Led} {dd uu : Nat} {P P' : Value → Led → Prop} (C : Ctr w f args A dd uu P) (h : ∀ v n, P v n → P' v n) : Ctr w f args A dd uu P' := by
  intro p loose mean mg mb dp un gd cn cs a ccd cl outer A₀ base h₀ L m s Q E K F X N T hk hd hu hret
  exact C p loose mean mg mb dp un gd cn cs a ccd cl outer A₀ base h₀ L m s Q E K F X N T hk hd hu fun v h' tk' news' a b hp => hret v h' tk' news' a b (h _ _ hp)
theorem l_take {top : Int} {t3 : Tok} (x : LS w tr bk sl F S E) (h1 : 1 ≤ top) (h2 : top ≤ 12) :
    Ctr w 278 [.ref sl, .int top t3] E 10 40 (fun v n => ∃ r t, v = .int r t ∧ 0 ≤ r ∧ r < top ∧ LS w tr bk sl F S n) := by
  obtain ⟨a, b, t, u, c, p1, p2, p3, h4, h5, h6⟩ := x
  refine Ctr.mono (A := (sl, listOf [.int a t, .int b u].toArray c) :: Mine.off sl E) fun h₀ h L N => ⟨(take_ctr w sl a b t u t3 c top (Mine.off sl E) (fun p hp => (mem_off.mp hp).2) p1 p2 p3 h1 h2).post ?_, fun p hp => ?_⟩
  · rintro v n ⟨r, tr, a', t1', b', t2', rfl, g0, g1, ga, _, gb, gb2, rfl⟩
    exact ⟨r, tr, rfl, g0, g1, LS.set N rfl (fun _ e => by cases e) h4 h5 h6 ga gb gb2⟩
  · rcases List.mem_cons.mp hp with rfl | hp
    · exact h4.memS (.head _)
    · exact (mem_off.mp hp).1
theorem l_one {D : Addr} {vs : List Value} {c : Nat} (x : LS w tr bk sl F S E) (hD : (D, listOf vs.toArray c) ∈ S) (h1 : 1 ≤ vs.length) (h2 : vs.length ≤ 12) (hh : ∀ x ∈ vs, handedIn x = true) :
    Ctr w 285 [.ref sl, .ref D] E 20 80 (fun v n => v ∈ vs ∧ LS w tr bk sl F S n) := by
  obtain ⟨a, b, t, u, c', p1, p2, p3, h4, h5, h6⟩ := x
  refine Ctr.mono (A := (sl, listOf [.int a t, .int b u].toArray c') :: Mine.off sl E) fun h₀ h L N => ⟨(one_ctr w sl D a b t u c' c vs (Mine.off sl E) (mem_off.mpr ⟨h4.memS (.tail _ hD), h6 _ hD⟩) (fun p hp => (mem_off.mp hp).2) p1 p2 p3 h1 h2 hh).post ?_, fun p hp => ?_⟩
  · rintro v n ⟨a', t1', b', t2', hv, ga, gb, gb2, rfl⟩
    exact ⟨hv, LS.set N rfl (fun _ e => by cases e) h4 h5 h6 ga gb gb2⟩
  · rcases List.mem_cons.mp hp with rfl | hp
    · exact h4.memS (.head _)
    · exact (mem_off.mp hp).1
theorem LS.deed {F' : List Face} {T : Led → Prop} {v : Value} {a b : Int} {t u : Tok} {c : Nat} (h1 : 0 ≤ a) (h2 : 0 ≤ b) (h3 : b < 2147483647) (h5 : LawTabs E) (h6 : ∀ p ∈ S, p.1 ≠ sl) (D : DP w tr bk F' ((sl, listOf [.int a t, .int b u].toArray c) :: S) E T v n) : v = .bool true ∧ LS w tr bk sl F' S n :=
  ⟨D.1, a, b, t, u, c, h1, h2, h3, D.2.2.1, ⟨h5.1.keepF D.2.2.2, h5.2.1.keepF D.2.2.2, h5.2.2.1.keepF D.2.2.2, h5.2.2.2.keepF D.2.2.2⟩, h6⟩
/-- any put of law -/
theorem l_put {kind value : Str} {tk1 tk2 : Tok} {pv : Value} (x : LS w tr bk sl F S E) (hf : F.length < 60) (hp : pv = .none ∨ ∃ k t, pv = .int k t) :
    CtrS w 306 [.ref tr, .ref bk, pv, .str kind tk1, .str value tk2] E 280 1120 (fun v n => v = .bool true ∧ ∃ F', F'.length ≤ F.length + 1 ∧ LS w tr bk sl F' S n) := by
  obtain ⟨a, b, t, u, c', p1, p2, p3, h4, h5, h6⟩ := x
  have fin : ∀ F', F'.length ≤ F.length + 1 → ∀ v n, DP w tr bk F' ((sl, listOf [.int a t, .int b u].toArray c') :: S) E TPut v n → v = .bool true ∧ ∃ F', F'.length ≤ F.length + 1 ∧ LS w tr bk sl F' S n := fun F' hl v n D =>
    have := LS.deed p1 p2 p3 h5 h6 D
    ⟨this.1, F', hl, this.2⟩
  rcases hp with rfl | ⟨k, tk, rfl⟩
  · exact (d_put_none h4 h5.2.2.2 hf).post (fin _ (by simp))
  · by_cases hk : k < 0 ∨ (F.length : Int) ≤ k
    · exact (d_put_bad h4 h5.2.2.2 hk).post (fin _ (by omega))
    · obtain ⟨i, rfl⟩ : ∃ i : Nat, k = (i : Int) := ⟨k.toNat, by omega⟩
      have hi : F[i]? = some F[i] := List.getElem?_eq_getElem (by omega)
      cases hb : isPar (F[i]'(by omega)).1 with
      | true => exact (d_put_par h4 h5.2.2.2 hf hi hb).post (fin _ (by simp))
      | false => exact (d_put_kid h4 h5.2.2.2 hi hb).post (fin _ (by omega))
/-- any change of law -/
theorem l_chg {nv : Str} {tn tk : Tok} {k : Int} (x : LS w tr bk sl F S E) :
    CtrS w 313 [.ref tr, .ref bk, .int k tk, .str nv tn] E 180 720 (fun v n => v = .bool true ∧ ∃ F', F'.length ≤ F.length + 1 ∧ LS w tr bk sl F' S n) := by
  obtain ⟨a, b, t, u, c', p1, p2, p3, h4, h5, h6⟩ := x
  have fin : ∀ T F', F'.length ≤ F.length + 1 → ∀ v n, DP w tr bk F' ((sl, listOf [.int a t, .int b u].toArray c') :: S) E T v n → v = .bool true ∧ ∃ F', F'.length ≤ F.length + 1 ∧ LS w tr bk sl F' S n := fun T F' hl v n D =>
    have := LS.deed p1 p2 p3 h5 h6 D
    ⟨this.1, F', hl, this.2⟩
  by_cases hk : k < 0 ∨ (F.length : Int) ≤ k
  · exact (d_chg_bad h4 h5.2.2.1 hk).post (fin _ _ (by omega))
  · obtain ⟨i, rfl⟩ : ∃ i : Nat, k = (i : Int) := ⟨k.toNat, by omega⟩
    have hi : F[i]? = some F[i] := List.getElem?_eq_getElem (by omega)
    cases hb : isPar (F[i]'(by omega)).1 with
    | true => exact (d_chg_par h4 h5.2.2.1 hi hb).post (fin _ _ (by omega))
    | false => exact (d_chg_ok h4 hi hb).post (fin _ _ (by simp))
/-- any asking of law -/
theorem l_ask {tk : Tok} {k : Int} (x : LS w tr bk sl F S E) :
    CtrS w 320 [.ref tr, .ref bk, .int k tk] E 180 720 (fun v n => v = .bool true ∧ ∃ F', F'.length ≤ F.length + 1 ∧ LS w tr bk sl F' S n) := by
  obtain ⟨a, b, t, u, c', p1, p2, p3, h4, h5, h6⟩ := x
  have fin : ∀ T F', F'.length ≤ F.length + 1 → ∀ v n, DP w tr bk F' ((sl, listOf [.int a t, .int b u].toArray c') :: S) E T v n → v = .bool true ∧ ∃ F', F'.length ≤ F.length + 1 ∧ LS w tr bk sl F' S n := fun T F' hl v n D =>
    have := LS.deed p1 p2 p3 h5 h6 D
    ⟨this.1, F', hl, this.2⟩
  by_cases hk : k < 0 ∨ (F.length : Int) ≤ k
  · exact (d_ask_bad h4 h5.2.1 hk).post (fin _ _ (by omega))
  · obtain ⟨i, rfl⟩ : ∃ i : Nat, k = (i : Int) := ⟨k.toNat, by omega⟩
    have hi : F[i]? = some F[i] := List.getElem?_eq_getElem (by omega)
    by_cases hb : (F[i]'(by omega)).1 = "element"
    · exact (d_ask_ok h4 hi hb).post (fin _ _ (by omega))
    · exact (d_ask_no h4 h5.2.1 hi hb).post (fin _ _ (by omega))
theorem l_stands (x : LS w tr bk sl F S E) : CtrS w 327 [.ref tr, .ref bk] E 180 720 (fun v n => v = .bool true ∧ LS w tr bk sl F S n) := by
  obtain ⟨a, b, t, u, c', p1, p2, p3, h4, h5, h6⟩ := x
  exact (d_stands h4 h5.1).post fun v n D => LS.deed p1 p2 p3 h5 h6 D
theorem LS.push2 {D : Addr} {o : Obj} (x : LS w tr bk sl F S n) (hlt : AllLt D n) (hs : ∀ p ∈ n, p ∈ E) (hD : (D, o) ∈ E) : LS w tr bk sl F ((D, o) :: S) E :=
  (x.push (o := o) (allLt_mem hlt)).sub fun p hp => by
    rcases List.mem_cons.mp hp with rfl | hp
    · exact hD
    · exact hs p hp
theorem LS.push3 {D : Addr} {o : Obj} (x : LS w tr bk sl F S n) (hlt : ∀ p ∈ n, @LT.lt Nat _ p.1 D) (hs : ∀ p ∈ n, p ∈ E) (hD : (D, o) ∈ E) : LS w tr bk sl F ((D, o) :: S) E :=
  (x.push (o := o) hlt).sub fun p hp => by
    rcases List.mem_cons.mp hp with rfl | hp
    · exact hD
    · exact hs p hp
def AllI (vs : List Value) : Prop := ∀ x ∈ vs, ∃ k t, x = .int k t
def AllS (vs : List Value) : Prop := ∀ x ∈ vs, ∃ k t, x = .str k t
theorem AllI.of {vs : List Value} {ns : List Int} (h : IntsAre vs ns) : AllI vs := by
  induction h with
  | nil => intro x hx; cases hx
  | cons n t _ ih =>
    intro x hx
    rcases List.mem_cons.mp hx with rfl | hx
    · exact ⟨_, _, rfl⟩
    · exact ih x hx
theorem AllI.nil : AllI [] := fun _ h => nomatch h
theorem AllI.cons {k : Int} {t : Tok} {vs : List Value} (h : AllI vs) : AllI (.int k t :: vs) := fun x hx => by
  rcases List.mem_cons.mp hx with rfl | hx
  · exact ⟨_, _, rfl⟩
  · exact h x hx
theorem AllI.app {vs us : List Value} (h : AllI vs) (h' : AllI us) : AllI (vs ++ us) := fun x hx => by
  rcases List.mem_append.mp hx with hx | hx
  · exact h x hx
  · exact h' x hx
theorem AllS.nil : AllS [] := fun _ h => nomatch h
theorem AllS.cons {k : Str} {t : Tok} {vs : List Value} (h : AllS vs) : AllS (.str k t :: vs) := fun x hx => by
  rcases List.mem_cons.mp hx with rfl | hx
  · exact ⟨_, _, rfl⟩
  · exact h x hx
theorem l_oneI {D : Addr} {vs : List Value} {c : Nat} (x : LS w tr bk sl F S E) (hD : (D, listOf vs.toArray c) ∈ S) (h1 : 1 ≤ vs.length) (h2 : vs.length ≤ 12) (hh : AllI vs) :
    Ctr w 285 [.ref sl, .ref D] E 20 80 (fun v n => ∃ k t, v = .int k t ∧ LS w tr bk sl F S n) :=
  (l_one x hD h1 h2 fun x hx => by obtain ⟨k, t, rfl⟩ := hh x hx; rfl).post fun v n ⟨hv, hx⟩ => by
    obtain ⟨k, t, rfl⟩ := hh v hv
    exact ⟨k, t, rfl, hx⟩
theorem l_oneS {D : Addr} {vs : List Value} {c : Nat} (x : LS w tr bk sl F S E) (hD : (D, listOf vs.toArray c) ∈ S) (h1 : 1 ≤ vs.length) (h2 : vs.length ≤ 12) (hh : AllS vs) :
    Ctr w 285 [.ref sl, .ref D] E 20 80 (fun v n => ∃ k t, v = .str k t ∧ LS w tr bk sl F S n) :=
  (l_one x hD h1 h2 fun x hx => by obtain ⟨k, t, rfl⟩ := hh x hx; rfl).post fun v n ⟨hv, hx⟩ => by
    obtain ⟨k, t, rfl⟩ := hh v hv
    exact ⟨k, t, rfl, hx⟩
theorem LS.book (x : LS w tr bk sl F S E) : ∃ (od : Obj) (kvs : List (Int × Value)), (bk, od) ∈ E ∧ od.IsDictOf (PySem.intKind PySem.Challenge.rw_xw0201_01.row.prog w) kvs ∧ (bk == sysModules) = false ∧ kvs.length = F.length ∧ 0 < F.length ∧
    ∀ (i : Nat) (k : Int) (x : Value), kvs[i]? = some (k, x) → k = (i : Int) := by
  obtain ⟨a, b, t, u, c, h1, h2, h3, ⟨st, rfl, rfl, wf, hF, hs, -⟩, h5, h6⟩ := x
  have hl := faces_len hF
  have hp := wf.pos
  exact ⟨st.od, _, (Sto.at hs).2.2.2.1, wf.hod, wf.lo, by rw [kvF_len, hl], by omega, fun i k x hx => by simpa using kvF_at hx⟩
section
variable {A : Around} {Er : Value → Shared → Prop} {s : Shared} {m : Str → Option Value} {Q : Value → Shared → Prop}
theorem l_sorted (x : LS w tr bk sl F S E) (hh : A.handled = none) (Fm : Fr h₀ L s.heap m) (N : News h₀ L s.heap E) (hn : F.length < 60)
    (h : ∀ D vs c h' tk, Fr h₀ L h' m → News h₀ L h' ((D, listOf vs.toArray c) :: E) → (∀ q ∈ E, @LT.lt Nat _ q.1 D) → AllI vs → vs.length = F.length → Q (.ref D) { s with heap := h', toks := tk }) :
    wpAny (model PySem.Challenge.rw_xw0201_01.row.prog w) A (call (.builtin "sorted") [.ref bk]) Q Er s := by
  obtain ⟨od, kvs, h1, h2, h3, h4, h5, h6⟩ := x.book
  refine sorted_bk hh Fm N h1 h2 h3 (by omega) (by omega) h6 fun D vs c h' tk F' N' l hi => h D vs c h' tk F' N' l (.of hi) ?_
  rw [hi.length]; unfold upto; simp [h4]
theorem l_len (x : LS w tr bk sl F S E) (N : News h₀ L s.heap E) (hn : F.length < 60) (h : Q (.int F.length (s.toks + 1)) { s with toks := s.toks + 1 + 1 }) :
    wpAny (model PySem.Challenge.rw_xw0201_01.row.prog w) A (call (.builtin "len") [.ref bk]) Q Er s := by
  obtain ⟨od, kvs, h1, h2, h3, h4, h5, h6⟩ := x.book
  exact bk_len N h1 h2 h3 (by omega) (by rw [h4]; exact h)
end
section
variable {p : Program} {loose : List Str} {mean : ExcName → Option Value} {mg mb : Str → Option Value} {dp un : Nat} {gd : Option (List Code)} {cn : Str} {cs : Scope} {a : Addr} {ccd : Value} {cl : List (Str × Addr)} {outer : List Env} {A₀ : Around} {base h₀ : Heap} {L : Addr} {m : Str → Option Value} {s : Shared} {Q E : Value → Shared → Prop}
theorem use_pool {scr : Addr} {vs : List Value} {ns : List Int} {rest : Led} {tk : Tok} (hi : IntsAre vs ns) (hln : ¬ ((63 : Nat) : Int) < (ns.length : Int)) (B : Below A₀ base outer h₀) (F : Fr h₀ L s.heap m) (X : (hd.heap_39 w.params).In h₀) (N : News h₀ L s.heap rest) (T : Top p loose mean mg mb h₀) (hk : cs.kind = .function)
    (hdp : dp + 40 < recursionLimit) (hu : un + 160 < cLine) (hb : base.IsList scr vs.toArray) (hb0 : h₀.IsList scr vs.toArray)
    (h : ∀ sl a b t u c h' tk', Fr h₀ L h' m → News h₀ L h' ((sl, listOf [.int a t, .int b u].toArray c) :: rest) → 0 ≤ a → 0 ≤ b → b < 2147483647 → (∀ q ∈ rest, @LT.lt Nat _ q.1 sl) → Q (.ref sl) { s with heap := h', toks := tk' }) :
    wpAny (model PySem.Challenge.rw_xw0201_01.row.prog w) (ktrTop dp un gd cn cs L a ccd cl outer) (call (.ref 271) [.ref scr, .int 0 tk]) Q E s :=
  pool w rest tk (vs := vs.toArray) (by simpa using hi) (by have := hi.length; simp only [List.size_toArray]; omega) _ _ _ _ _ _ _ _ _ _ _ _ _ _ _ _ _ _ _ _ _ _ B F X N T hk hdp hu hb hb0 h
end
/-- law's state at the loop's start -/
theorem LS.start {a b : Int} {t u : Tok} {c : Nat} {rest : Led} {v : Value} (hT : LawTabs rest) (h1 : 0 ≤ a) (h2 : 0 ≤ b) (h3 : b < 2147483647) (B : BegunAt w ((sl, listOf [.int a t, .int b u].toArray c) :: rest) v n) :
    ∃ (tr bk tp : Addr) (k : Nat) (F : List Face), v = .ref tp ∧ (tp, tupOf [.ref tr, .ref bk] k) ∈ n ∧ F.length = 3 ∧ LS w tr bk sl F [] n := by
  obtain ⟨st, tp, k, rfl, htp, wf, hF, hs, hr, ho⟩ := B
  refine ⟨st.tr, st.bk, tp, k, _, rfl, htp, ?_, a, b, t, u, c, h1, h2, h3, ⟨st, rfl, rfl, wf, hF, hs, fun p hp => ?_⟩, hT.sub fun p hp => hr p (.tail _ hp), fun p hp => nomatch hp⟩
  · rfl
  · rw [List.mem_singleton.mp hp]; exact ⟨hr _ (.head _), ho _ (.head _)⟩
end
end
section
open PySem PySem.W PySem.Calls PyProof.Rows
theorem range_facts {r : Int} (h0 : 0 ≤ r) (h6 : r < 6) : ∃ n : Nat, n ≤ 7 ∧ Builtin.Range.small 0 (2 + r) 1 = true ∧ Builtin.Range.rangeSize 0 (2 + r) 1 = (n : Int) := by
  obtain ⟨k, rfl⟩ : ∃ k : Nat, r = (k : Int) := ⟨r.toNat, by omega⟩
  have hk : k < 6 := by omega
  refine ⟨2 + k, by omega, ?_, ?_⟩
  · rcases k with _ | _ | _ | _ | _ | _ | k
    · decide +kernel
    · decide +kernel
    · decide +kernel
    · decide +kernel
    · decide +kernel
    · decide +kernel
    · omega
  · rcases k with _ | _ | _ | _ | _ | _ | k
    · decide +kernel
    · decide +kernel
    · decide +kernel
    · decide +kernel
    · decide +kernel
    · decide +kernel
    · omega
section
variable {prog : Program} {w : World} {A : Around} {E : Value → Shared → Prop} {s : Shared} {env : Env} {h₀ : Heap} {x : Str} {body : List Stmt} {Q : Flow → Shared → Prop} {I : Addr} {a : Int} {n : Nat} {m₀ : Str → Option Value} {news : Led}
theorem range_inv (Inv : Nat → (Str → Option Value) → Led → Prop) (h0 : Inv 0 m₀ news)
    (turn : ∀ i t h tk m E', i < n → Inv i m E' → Fr h₀ env.locals h (fun y => if y = x then some (.int (a + (i : Int)) t) else m y) → News h₀ env.locals h ((I, itR (a + ((i + 1 : Nat) : Int)) ((n : Int) - ((i + 1 : Nat) : Int))) :: E') →
      wpAny (model prog w) A (execs body env) (UnrPost h₀ env.locals { s with heap := h, toks := tk } I (itR (a + ((i + 1 : Nat) : Int)) ((n : Int) - ((i + 1 : Nat) : Int))) (Inv (i + 1)) Q) E { s with heap := h, toks := tk })
    (fin : ∀ h tk m E', Inv n m E' → Fr h₀ env.locals h m → News h₀ env.locals h E' → Q .next { s with heap := h, toks := tk }) :
    RangeRest prog w A E h₀ env x body Q s I a n n 0 m₀ news := by
  suffices z : ∀ k i m E', i + k = n → Inv i m E' → RangeRest prog w A E h₀ env x body Q s I a n k i m E' from z n 0 _ _ (by omega) h0
  intro k
  induction k with
  | zero =>
    intro i m E' hi hJ h tk F N
    obtain rfl : i = n := by omega
    exact fin h tk m E' hJ F N
  | succ k ih =>
    intro i m E' hi hJ t h tk F N
    refine wpAny_mono (turn i t h tk m E' (by omega) hJ F N) (fun f s₂ p => ?_) fun _ _ e => e
    cases f with
    | ret v => exact p
    | brk => exact p
    | next =>
      obtain ⟨h', tk', m', n', e, F', N', o, r⟩ := p
      exact ⟨h', tk', m', n', e, F', N', o, ih (i + 1) m' n' (by omega) r⟩
    | cont =>
      obtain ⟨h', tk', m', n', e, F', N', o, r⟩ := p
      exact ⟨h', tk', m', n', e, F', N', o, ih (i + 1) m' n' (by omega) r⟩
end
theorem itR_cls (a b : Int) : (itR a b).cls ≠ .none := fun e => by cases e
theorem itR_str (a b : Int) : ∀ x t, (#[rawInt a, rawInt b, rawInt 1] : Array Value)[1]? ≠ some (.str x t) := fun x t e => by
  simp at e; cases e
/-- the loop's own names may stand for anything -/
def Map6 (m0 m : Str → Option Value) : Prop := ∃ u1 u2 u3 u4 u5 u6 : Option Value, m = fun z : Str => if z = "is_right" then u1 else if z = "kind" then u2 else if z = "parent" then u3 else if z = "node" then u4 else if z = "way" then u5 else if z = "turn" then u6 else m0 z
theorem Map6.of {m0 m : Str → Option Value} (h : ∀ z : Str, ¬ z = "is_right" → ¬ z = "kind" → ¬ z = "parent" → ¬ z = "node" → ¬ z = "way" → ¬ z = "turn" → m z = m0 z) : Map6 m0 m := by
  refine ⟨m "is_right", m "kind", m "parent", m "node", m "way", m "turn", funext fun z => ?_⟩
  split
  · next e => rw [e]
  next e1 =>
  split
  · next e => rw [e]
  next e2 =>
  split
  · next e => rw [e]
  next e3 =>
  split
  · next e => rw [e]
  next e4 =>
  split
  · next e => rw [e]
  next e5 =>
  split
  · next e => rw [e]
  next e6 => exact h z e1 e2 e3 e4 e5 e6
theorem LS.grown {w : World} {tr bk sl : Addr} {F : List Face} {S E : Led} {h₀ h : Heap} {L : Addr} (x : LS w tr bk sl F S E) (N : News h₀ L h E) : GrownAll [(326, 322), (319, 315), (312, 308), (305, 301)] h := by
  obtain ⟨a, b, t, u, c, h1, h2, h3, h4, ⟨⟨_, _, _, _, _, _, _, _, z1, _⟩, ⟨_, _, _, _, z2, _⟩, ⟨_, _, _, _, z3, _⟩, ⟨_, _, _, _, z4, _⟩⟩, h6⟩ := x
  exact ⟨GrownAt.of N z1, GrownAt.of N z2, GrownAt.of N z3, GrownAt.of N z4, trivial⟩
section
variable {prog : Program} {w : World} {A : Around} {E : Value → Shared → Prop} {s : Shared} {h₀ : Heap} {L a b : Addr} {m : Str → Option Value} {news : Led} {vs us : List Value} {c1 c2 : Nat} {Q : Value → Shared → Prop}
theorem add_led (F : Fr h₀ L s.heap m) (N : News h₀ L s.heap news) (h1 : (a, listOf vs.toArray c1) ∈ news) (h2 : (b, listOf us.toArray c2) ∈ news) (hf : vs.length + us.length ≤ 2 ^ 20)
    (h : ∀ D h', Fr h₀ L h' m → News h₀ L h' ((D, listOf (vs ++ us).toArray 0) :: news) → (∀ p ∈ news, @LT.lt Nat _ p.1 D) → Q (.ref D) { s with heap := h' }) : wpAny (model prog w) A (binaryOp .Add (.ref a) (.ref b)) Q E s :=
  add_lists F N (isList_of N h1) (isList_of N h2) (fun h' F' N' => h _ h' F' N' fun p hp => Heap.lt_size (N p hp).1) (by rw [sizeLine_eq]; omega)
end
/-- how a turn of law ends -/
theorem law_end {w : World} {tr bk sl I L : Addr} {F : List Face} {S n : Led} {base h : Heap} {m0 m : Str → Option Value} {s₁ : Shared} {x y : Int} {i tk : Nat} (N : News base L h n) (Fm : Fr base L h m) (l : LS w tr bk sl F S n) (hI : (I, itR x y) ∈ S)
    (hm : Map6 m0 m) (hl : F.length ≤ 3 + i) : UnrEnd base L s₁ I (itR x y) (fun m E => Map6 m0 m ∧ ∃ F : List Face, F.length ≤ 3 + i ∧ LS w tr bk sl F [] E) { s₁ with heap := h, toks := tk } := by
  have l' : LS w tr bk sl F [(I, itR x y)] n := l.less fun p hp => by rw [List.mem_singleton.mp hp]; exact hI
  have hI' : (I, itR x y) ∈ n := by
    obtain ⟨a, b, t, u, c, h1, h2, h3, h4, h5, h6⟩ := l'
    exact h4.memS (.tail _ (.head _))
  refine ⟨h, tk, m, off I n, rfl, Fm, fun p hp => ?_, fun p hp => (mem_off.mp hp).2, hm, F, hl, l'.off N (itR_cls _ _) rfl (itR_str _ _)⟩
  rcases List.mem_cons.mp hp with rfl | hp
  · exact N _ hI'
  · exact N _ (mem_off.mp hp).1
/-- a conditional word that is None or an int: its ways come together again -/
def IfxP (s : Shared) (v : Value) (s' : Shared) : Prop := (v = .none ∨ ∃ k t, v = .int k t) ∧ ∃ tk, s' = { s with toks := tk }
theorem ifx {prog : Program} {w : World} {A : Around} {E : Value → Shared → Prop} {s : Shared} {e : PySem.Expr} {env : Env} {Q : Value → Shared → Prop} (h : wpAny (model prog w) A (eval e env) (IfxP s) E s)
    (hQ : ∀ v tk, (v = .none ∨ ∃ k t, v = .int k t) → Q v { s with toks := tk }) : wpAny (model prog w) A (eval e env) Q E s :=
  wpAny_mono h (fun v s' ⟨hv, tk, e⟩ => e ▸ hQ v tk hv) fun _ _ e => e
end
section
open PySem PySem.W PySem.Calls PyProof.Rows
theorem ln_Law_0 : True := by
  w_top off
  k_with_none
  k_with "call builtin:len" => (k_here; (with_reducible show wpAny _ _ (call (Value.builtin "len") [Value.ref _]) _ _ _); k_dflt (refine' len_led ?k1 ?k2 ?k3 ?_; (case k1 => k_asm); (case k2 => (repeat' (first | assumption | exact List.Mem.head _ | refine List.Mem.tail _ ?_))); (case k3 => ((try simp only [List.length_cons, List.length_nil, List.length_append, List.length_map]); omega)); k_whole); (try dsimp only))
  k_with "subscriptTail" => (k_here; (with_reducible show wpAny _ _ (subscriptTail _ _ (Value.ref _) (Value.int _ _)) _ _ _); k_dflt (refine' item_led ?k1 ?k2 ?k3 ?k4 ?k5 ?_ ?k6; (case k1 => k_asm); (case k2 => (repeat' (first | assumption | exact List.Mem.head _ | refine List.Mem.tail _ ?_))); (case k3 => omega); (case k4 => omega); (case k5 => (first | assumption | (rw [List.getElem?_append_left (by omega)]; assumption))); (case k6 => with_unfolding_all rfl); k_whole); (try dsimp only))
  k_with "exec Raise some none" => (k_here; (with_reducible show wpAny _ _ (exec (Stmt.Raise (some (Expr.Call (Expr.Name (Str.ofString "TreeFault") _) [Expr.Constant (Const.str _) _ _] [] _)) none _) _) _ _ _); k_dflt (refine' raise_tf ?kB ?kF ?kX ?kN ?kT ?kk ?kx ?kn ?ki ?kf ?kd ?ku ?_; (case kB => k_asm); (case kF => k_asm); (case kX => k_asm); (case kN => k_asm); (case kT => assumption); (case kk => rfl); (case kx => k_is); (case kn => rfl); (case ki => k_is); (case kf => k_is); (case kd => ktr_room); (case ku => ktr_units); k_whole); intro eω tω dω hω tkω Fω Nω neω)
  k_with "leaving ref" => (k_here; k_dflt (refine' leave_led ?kK ?kF ?kN ?kne ?kd ?k1 ?k0 ?_; (case kF => k_asm); (case kN => k_asm); (case kK => k_asm); (case kne => k_asm); (case kd => rfl); (case k1 => rfl); (case k0 => rfl); k_whole); intro hω Sω Rω Uω; (try dsimp only at Sω Rω Uω ⊢))
  k_with "leaving ref" => (k_here; k_dflt (refine' leave_onSN ?k1 ?k2 ?k3 ?k4 ?_; (case k3 => assumption); (case k2 => assumption); (case k1 => assumption); (case k4 => assumption); k_whole); intro hω Sω Rω Uω; (try dsimp only at Sω Rω Uω ⊢))
  k_with "getAttr ref" => (k_here; k_dflt (refine' get_own ?k1 ?k2 ?k3 ?k4 ?k5 ?k6 ?k7 ?k8 ?k9 ?_; (case k1 => k_asm); (case k2 => k_asm); (case k3 => k_inst); (case k4 => k_is); (case k5 => k_is); (case k6 => k_is); (case k7 => k_is); (case k8 => k_get); (case k9 => k_handed); k_whole); (try dsimp only))
  k_with "eval Constant int" => (k_here; refine wpAny_Constant_int ?_; (try dsimp only))
  k_with "eval Constant str" => (k_here; refine Calls.Constant_str ?_; (try dsimp only))
  k_with "call ref" => (k_here; (with_reducible show wpAny _ _ (call (Value.ref 334) _) _ _ _); k_dflt (refine' use_flat (told _) ?uB ?uF ?uX ?uXB ?uN ?uT ?uTB ?uCT ?uk ?ud ?uu ?_; (case uF => k_asm); (case uN => k_asm); (case uB => k_asm); (case uX => k_asm); (case uXB => assumption); (case uT => assumption); (case uTB => assumption); (case uCT => exact ⟨by assumption, by assumption, by assumption, by assumption⟩); (case uk => rfl); (case ud => ktr_room); (case uu => ktr_units); k_whole); intro vω hω tkω nω Fω Nω hPω; k_dflt (obtain ⟨e1ω, tabω⟩ := hPω); subst e1ω; (try dsimp only))
  k_with "call ref" => (k_here; (with_reducible show wpAny _ _ (call (Value.ref 271) _) _ _ _); k_dflt (refine' use_pool ?hi ?hl ?uB ?uF ?uX ?uN ?uT ?uk ?ud ?uu ?hb ?hb0 ?_; (case uF => k_asm); (case uN => k_asm); (case uB => k_asm); (case uX => k_asm); (case uT => assumption); (case uk => rfl); (case ud => ktr_room); (case uu => ktr_units); (case hb => assumption); (case hb0 => assumption); (case hi => assumption); (case hl => assumption); k_whole); intro slω aω bω tω uω cω hω tkω Fω Nω q1ω q2ω q3ω q4ω; (try dsimp only))
  k_with "call ref" => (k_here; (with_reducible show wpAny _ _ (call (Value.ref 299) _) _ _ _); k_dflt (refine' use_ctr (begun _ _) ?uB ?uF ?uX ?uN ?uT ?uk ?ud ?uu ?_; (case uF => k_asm); (case uN => k_asm); (case uB => k_asm); (case uX => k_asm); (case uT => assumption); (case uk => rfl); (case ud => ktr_room); (case uu => ktr_units); k_whole); intro vω hω tkω nω Fω Nω hPω; k_dflt (obtain ⟨trω, bkω, tpω, kω, Fcω, e1ω, htpω, hFω, hLSω⟩ := LS.start (by assumption) (by assumption) (by assumption) (by assumption) hPω); subst e1ω; (try dsimp only))
  k_with "call ref" => (k_here; (with_reducible show wpAny _ _ (call (Value.ref 278) _) _ _ _); k_dflt (refine' use_ctr (l_take ?x ?q1 ?q2) ?uB ?uF ?uX ?uN ?uT ?uk ?ud ?uu ?_; (case uF => k_asm); (case uN => k_asm); (case uB => k_asm); (case uX => k_asm); (case uT => assumption); (case uk => rfl); (case ud => ktr_room); (case uu => ktr_units); (case x => (first | assumption | exact LS.tail (by assumption) | exact LS.tail (LS.tail (by assumption)) | exact LS.tail (LS.tail (LS.tail (by assumption))))); (case q1 => omega); (case q2 => omega); k_whole); intro vω hω tkω nω Fω Nω hPω; k_dflt (obtain ⟨rω, tω, e1ω, q1ω, q2ω, hLSω⟩ := hPω); subst e1ω; (try dsimp only))
  k_with "call ref" => (k_here; (with_reducible show wpAny _ _ (call (Value.ref 285) _) _ _ _); k_dflt (refine' use_ctr (l_oneI ?x ?hD ?q1 ?q2 ?hh) ?uB ?uF ?uX ?uN ?uT ?uk ?ud ?uu ?_; (case uF => k_asm); (case uN => k_asm); (case uB => k_asm); (case uX => k_asm); (case uT => assumption); (case uk => rfl); (case ud => ktr_room); (case uu => ktr_units); (case x => (first | exact LS.push2 (by assumption) (by first | assumption | exact And.right (by assumption) | exact And.right (And.right (by assumption)) | exact And.right (And.right (And.right (by assumption))) | exact And.right (And.right (And.right (And.right (by assumption))))) (fun p hp => by repeat' (first | exact hp | refine List.Mem.tail _ ?_)) (List.Mem.head _) | exact LS.push3 (by assumption) (by first | assumption | exact And.right (by assumption) | exact And.right (And.right (by assumption)) | exact And.right (And.right (And.right (by assumption))) | exact And.right (And.right (And.right (And.right (by assumption))))) (fun p hp => by repeat' (first | exact hp | refine List.Mem.tail _ ?_)) (List.Mem.head _))); (case hD => exact List.Mem.head _); (case q1 => ((try simp only [List.length_append, List.length_cons, List.length_nil]); omega)); (case q2 => ((try simp only [List.length_append, List.length_cons, List.length_nil]); omega)); (case hh => first | exact AllI.app (by assumption) (AllI.cons (AllI.cons AllI.nil))); k_whole); intro vω hω tkω nω Fω Nω hPω; k_dflt (obtain ⟨kω, tω, e1ω, hLSω⟩ := hPω); subst e1ω; (try dsimp only))
  k_with "call ref" => (k_here; (with_reducible show wpAny _ _ (call (Value.ref 285) _) _ _ _); k_dflt (refine' use_ctr (l_oneS ?x ?hD ?q1 ?q2 ?hh) ?uB ?uF ?uX ?uN ?uT ?uk ?ud ?uu ?_; (case uF => k_asm); (case uN => k_asm); (case uB => k_asm); (case uX => k_asm); (case uT => assumption); (case uk => rfl); (case ud => ktr_room); (case uu => ktr_units); (case x => (first | exact LS.push2 (by assumption) (by first | assumption | exact And.right (by assumption) | exact And.right (And.right (by assumption)) | exact And.right (And.right (And.right (by assumption))) | exact And.right (And.right (And.right (And.right (by assumption))))) (fun p hp => by repeat' (first | exact hp | refine List.Mem.tail _ ?_)) (List.Mem.head _) | exact LS.push3 (by assumption) (by first | assumption | exact And.right (by assumption) | exact And.right (And.right (by assumption)) | exact And.right (And.right (And.right (by assumption))) | exact And.right (And.right (And.right (And.right (by assumption))))) (fun p hp => by repeat' (first | exact hp | refine List.Mem.tail _ ?_)) (List.Mem.head _))); (case hD => exact List.Mem.head _); (case q1 => ((try simp only [List.length_append, List.length_cons, List.length_nil]); omega)); (case q2 => ((try simp only [List.length_append, List.length_cons, List.length_nil]); omega)); (case hh => (repeat' (first | exact AllS.nil | refine AllS.cons ?_))); k_whole); intro vω hω tkω nω Fω Nω hPω; k_dflt (obtain ⟨kω, tω, e1ω, hLSω⟩ := hPω); subst e1ω; (try dsimp only))
  k_with "call ref" => (k_here; (with_reducible show wpAny _ _ (call (Value.ref 306) _) _ _ _); k_dflt (refine' use_flat (l_put ?x ?hf ?hp) ?uB ?uF ?uX ?uXB ?uN ?uT ?uTB ?uCT ?uk ?ud ?uu ?_; (case uF => k_asm); (case uN => k_asm); (case uB => k_asm); (case uX => k_asm); (case uXB => assumption); (case uT => assumption); (case uTB => assumption); (case uCT => exact ⟨by assumption, by assumption, by assumption, by assumption⟩); (case uk => rfl); (case ud => ktr_room); (case uu => ktr_units); (case x => (first | assumption | exact LS.tail (by assumption) | exact LS.tail (LS.tail (by assumption)) | exact LS.tail (LS.tail (LS.tail (by assumption))))); (case hf => omega); (case hp => first | assumption | exact Or.inl rfl | exact Or.inr ⟨_, _, rfl⟩); k_whole); intro vω hω tkω nω Fω Nω hPω; k_dflt (obtain ⟨e1ω, Fdω, hFdω, hLSω⟩ := hPω); subst e1ω; (try dsimp only))
  k_with "call ref" => (k_here; (with_reducible show wpAny _ _ (call (Value.ref 313) _) _ _ _); k_dflt (refine' use_flat (l_chg ?x) ?uB ?uF ?uX ?uXB ?uN ?uT ?uTB ?uCT ?uk ?ud ?uu ?_; (case uF => k_asm); (case uN => k_asm); (case uB => k_asm); (case uX => k_asm); (case uXB => assumption); (case uT => assumption); (case uTB => assumption); (case uCT => exact ⟨by assumption, by assumption, by assumption, by assumption⟩); (case uk => rfl); (case ud => ktr_room); (case uu => ktr_units); (case x => (first | assumption | exact LS.tail (by assumption) | exact LS.tail (LS.tail (by assumption)) | exact LS.tail (LS.tail (LS.tail (by assumption))))); k_whole); intro vω hω tkω nω Fω Nω hPω; k_dflt (obtain ⟨e1ω, Fdω, hFdω, hLSω⟩ := hPω); subst e1ω; (try dsimp only))
  k_with "call ref" => (k_here; (with_reducible show wpAny _ _ (call (Value.ref 320) _) _ _ _); k_dflt (refine' use_flat (l_ask ?x) ?uB ?uF ?uX ?uXB ?uN ?uT ?uTB ?uCT ?uk ?ud ?uu ?_; (case uF => k_asm); (case uN => k_asm); (case uB => k_asm); (case uX => k_asm); (case uXB => assumption); (case uT => assumption); (case uTB => assumption); (case uCT => exact ⟨by assumption, by assumption, by assumption, by assumption⟩); (case uk => rfl); (case ud => ktr_room); (case uu => ktr_units); (case x => (first | assumption | exact LS.tail (by assumption) | exact LS.tail (LS.tail (by assumption)) | exact LS.tail (LS.tail (LS.tail (by assumption))))); k_whole); intro vω hω tkω nω Fω Nω hPω; k_dflt (obtain ⟨e1ω, Fdω, hFdω, hLSω⟩ := hPω); subst e1ω; (try dsimp only))
  k_with "call ref" => (k_here; (with_reducible show wpAny _ _ (call (Value.ref 327) _) _ _ _); k_dflt (refine' use_flat (l_stands ?x) ?uB ?uF ?uX ?uXB ?uN ?uT ?uTB ?uCT ?uk ?ud ?uu ?_; (case uF => k_asm); (case uN => k_asm); (case uB => k_asm); (case uX => k_asm); (case uXB => assumption); (case uT => assumption); (case uTB => assumption); (case uCT => exact ⟨by assumption, by assumption, by assumption, by assumption⟩); (case uk => rfl); (case ud => ktr_room); (case uu => ktr_units); (case x => (first | assumption | exact LS.tail (by assumption) | exact LS.tail (LS.tail (by assumption)) | exact LS.tail (LS.tail (LS.tail (by assumption))))); k_whole); intro vω hω tkω nω Fω Nω hPω; k_dflt (obtain ⟨e1ω, hLSω⟩ := hPω); subst e1ω; (try dsimp only))
  k_with "call builtin:sorted" => (k_here; (with_reducible show wpAny _ _ (call (Value.builtin _) [Value.ref _]) _ _ _); k_dflt (refine' l_sorted ?x ?hh ?uF ?uN ?hn ?_; (case uF => k_asm); (case uN => k_asm); (case x => (first | assumption | exact LS.tail (by assumption) | exact LS.tail (LS.tail (by assumption)) | exact LS.tail (LS.tail (LS.tail (by assumption))))); (case hh => with_unfolding_all rfl); (case hn => omega); k_whole); intro Dω vsω cω hω tkω Fω Nω l1 aIω vlω; (try dsimp only))
  k_with "call builtin:len" => (k_here; (with_reducible show wpAny _ _ (call (Value.builtin "len") [Value.ref _]) _ _ _); k_dflt (refine' l_len ?x ?uN ?hn ?_; (case uN => k_asm); (case x => (first | assumption | exact LS.tail (by assumption) | exact LS.tail (LS.tail (by assumption)) | exact LS.tail (LS.tail (LS.tail (by assumption))))); (case hn => omega); k_whole); (try dsimp only))
  k_with "exec For Name Call cons nil" => (k_here; (rename Fr _ _ _ _ => lFω); (with_unfolding_all refine' For_invVF lFω ?k1 ?k2 ?_; (case k1 => exact rfl); (case k2 => exact rfl); k_whole))
  k_with "pyIter ref" => (k_here; (with_reducible show wpAny _ _ (pyIter (Value.ref _)) (fun it s₂ => LoopAtV _ _ _ _ _ _ _ _ _ it s₂) _ _); refine hold_ ?_)
  k_with "binaryOp Add ref ref" => (k_here; (with_reducible show wpAny _ _ (binaryOp _ (Value.ref _) (Value.ref _)) _ _ _); k_dflt (refine' add_led ?F ?N ?k1 ?k2 ?hf ?_; (case F => k_asm); (case N => k_asm); (case k1 => (repeat' (first | exact List.Mem.head _ | refine List.Mem.tail _ ?_))); (case k2 => (repeat' (first | exact List.Mem.head _ | refine List.Mem.tail _ ?_))); (case hf => ((try simp only [List.length_append, List.length_cons, List.length_nil]); omega)); k_whole); intro Dω hω Fω Nω l1; (try k_lt l1); (try dsimp only))
  k_with "UnrEnd" => (refine hold_ ?_)
  k_with "eval IfExp" => (k_here; (fail_if_success (with_reducible show wpAny _ _ _ (IfxP _) _ _)); refine ifx ?_ (fun vω tkω hvω => ?_); all_goals (try dsimp only))
  k_with "IfxP" => first | exact ⟨Or.inl rfl, _, rfl⟩ | exact ⟨Or.inr ⟨_, _, rfl⟩, _, rfl⟩
  trivial
theorem law_holds : PySem.Challenge.rw_xw0201_01.Holds := hd (by rfl) (by rfl) (by rfl) (by
  k_go0
  all_goals try k_fold
  rename_i w s0 s1 mg mb G9 Y9 fa o9 pm cd doc kV ho9 hcd9 hg9 X9 V9 T9 B9 TE9 TW9 ns hs9 hlay9 hL8 hr8 hl8 w4 w3 scr vs w0 hL9 ra9 w19 r09 hI hr9 hcond hcon hD9 h1 X T K F C1 C2 C3 N l0
  clear G9 Y9 ho9 hcd9 X9 V9 T9 B9 TE9 TW9 hs9 hlay9 hL8 hr8 hl8 hL9 ra9 w19 r09 hr9 hcon hD9 hT8 hT9
  generalize ghostOf s1.heap [(326, 322), (319, 315), (312, 308), (305, 301)] = base at *
  generalize s1.heap.objs.size = L at *
  dsimp only
  k_steps
  unfold Hold
  rename_i h8 tk8 t15 u15 v15 hR FR NR a4
  clear hPω lFω q4ω
  obtain ⟨n, hn, hsm, hsz⟩ := range_facts q1ω q2ω
  obtain ⟨m0, hm0, FR⟩ : ∃ m0, m0 = _ ∧ Fr base L _ m0 := ⟨_, rfl, FR⟩
  refine iter_rangeUnr (n := n) rfl hR hsm hsz FR NR fun I hI => ?_
  refine range_inv (fun i m E => Map6 m0 m ∧ ∃ F : List Face, F.length ≤ 3 + i ∧ LS w trω bkω slω F [] E) ⟨Map6.of fun _ _ _ _ _ _ _ => rfl, Fcω, by omega, hLSω⟩ ?turn ?fin
  case fin =>
    rintro h tk m E' ⟨⟨u1, u2, u3, u4, u5, u6, hm⟩, Fc, hFc, hLS⟩ F N
    subst hm
    subst hm0
    iterate 3 (first | (k_unfold; (try dsimp only)) | walk1 | (dsimp only; walk1))
    dsimp only
    refine ⟨?_, hLS.grown N⟩
    kc_bool
    refine goodW_bool F hg9 (raisesW_false ?_) ?_
    · wrow_none_raised
    · kc_post
  case turn =>
    rintro i t h tk m E' hin ⟨⟨u1, u2, u3, u4, u5, u6, hm⟩, Fd, hFd, hL1⟩ F N
    subst hm
    subst hm0
    have hL2 : LS w trω bkω slω Fd _ _ := hL1.tail.more N (.head _) rfl
    clear hLSω FR NR hL1 hFω hI hcond
    k_steps
    all_goals unfold Hold
    all_goals
      rename LS w trω bkω slω _ _ _ => l9
      rename News base L _ _ => N9
      rename Fr base L _ _ => F9
      exact law_end N9 F9 l9 (by repeat' (first | exact List.Mem.head _ | refine List.Mem.tail _ ?_)) (Map6.of fun z n1 n2 n3 n4 n5 n6 => by simp only [n1, n2, n3, n4, n5, n6, if_false]) (by omega))
end
end Mine
theorem PySem.Challenge.cw_xw0201_01_holds : PySem.Challenge.rw_xw0201_01.Holds := by
  exact Mine.law_holds
