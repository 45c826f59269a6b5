import PyProof.Rows.All
import Wide.All
import OpenK.AllK
import Wide.FinOn
import PySem.Challenge.RW_pq0109_01
open PySem PySem.W PyProof.Rows
set_option Elab.async false
set_option maxRecDepth 100000
namespace Mine
noncomputable def hdS : List Stmt → Stmt
  | [] => .Pass default
  | a :: _ => a
noncomputable def tlS : List Stmt → List Stmt
  | [] => []
  | _ :: l => l
noncomputable def fnP : Stmt → Arguments
  | .FunctionDef _ a _ _ _ _ _ _ _ _ => a
  | _ => default
noncomputable def fnB : Stmt → List Stmt
  | .FunctionDef _ _ b _ _ _ _ _ _ _ => b
  | _ => []
noncomputable def fnS : Stmt → Scope
  | .FunctionDef _ _ _ _ _ _ s _ _ _ => s
  | _ => default
noncomputable def clB : Stmt → List Stmt
  | .ClassDef _ _ _ b _ _ _ _ _ _ _ => b
  | _ => []
noncomputable def topB : List Stmt := PySem.Challenge.pw_pq0109_01.main.body
/-- what the top leaves; each def's parts are taken from the row's own term and written out -/
noncomputable def hd.heap_39 : Params → Frag := by
  refine' (?f : (xp0 : Arguments) → (xb0 : List Stmt) → (xs0 : Scope) → (xp1 : Arguments) → (xb1 : List Stmt) → (xs1 : Scope) → (xp2 : Arguments) → (xb2 : List Stmt) → (xs2 : Scope) → (xp3 : Arguments) → (xb3 : List Stmt) → (xs3 : Scope) → (xp4 : Arguments) → (xb4 : List Stmt) → (xs4 : Scope) → (xp5 : Arguments) → (xb5 : List Stmt) → (xs5 : Scope) → (xp6 : Arguments) → (xb6 : List Stmt) → (xs6 : Scope) → (xp7 : Arguments) → (xb7 : List Stmt) → (xs7 : Scope) → (xp8 : Arguments) → (xb8 : List Stmt) → (xs8 : Scope) → (xp9 : Arguments) → (xb9 : List Stmt) → (xs9 : Scope) → (xp10 : Arguments) → (xb10 : List Stmt) → (xs10 : Scope) → (xp11 : Arguments) → (xb11 : List Stmt) → (xs11 : Scope) → (xp12 : Arguments) → (xb12 : List Stmt) → (xs12 : Scope) → (xp13 : Arguments) → (xb13 : List Stmt) → (xs13 : Scope) → (xp14 : Arguments) → (xb14 : List Stmt) → (xs14 : Scope) → (xp15 : Arguments) → (xb15 : List Stmt) → (xs15 : Scope) → (xp16 : Arguments) → (xb16 : List Stmt) → (xs16 : Scope) → (xp17 : Arguments) → (xb17 : List Stmt) → (xs17 : Scope) → (xp18 : Arguments) → (xb18 : List Stmt) → (xs18 : Scope) → (xp19 : Arguments) → (xb19 : List Stmt) → (xs19 : Scope) → [(fnP (hdS topB), fnB (hdS topB), fnS (hdS topB)), (fnP (hdS (clB (hdS (tlS (tlS topB))))), fnB (hdS (clB (hdS (tlS (tlS topB))))), fnS (hdS (clB (hdS (tlS (tlS topB)))))), (fnP (hdS (tlS (clB (hdS (tlS (tlS topB)))))), fnB (hdS (tlS (clB (hdS (tlS (tlS topB)))))), fnS (hdS (tlS (clB (hdS (tlS (tlS topB))))))), (fnP (hdS (tlS (tlS (tlS (tlS (tlS (tlS topB))))))), fnB (hdS (tlS (tlS (tlS (tlS (tlS (tlS topB))))))), fnS (hdS (tlS (tlS (tlS (tlS (tlS (tlS topB)))))))), (fnP (hdS (tlS (tlS (tlS (tlS (tlS (tlS (tlS topB)))))))), fnB (hdS (tlS (tlS (tlS (tlS (tlS (tlS (tlS topB)))))))), fnS (hdS (tlS (tlS (tlS (tlS (tlS (tlS (tlS topB))))))))), (fnP (hdS (tlS (tlS (tlS (tlS (tlS (tlS (tlS (tlS topB))))))))), fnB (hdS (tlS (tlS (tlS (tlS (tlS (tlS (tlS (tlS topB))))))))), fnS (hdS (tlS (tlS (tlS (tlS (tlS (tlS (tlS (tlS topB)))))))))), (fnP (hdS (clB (hdS (tlS (tlS (tlS (tlS (tlS (tlS (tlS (tlS (tlS (tlS topB))))))))))))), fnB (hdS (clB (hdS (tlS (tlS (tlS (tlS (tlS (tlS (tlS (tlS (tlS (tlS topB))))))))))))), fnS (hdS (clB (hdS (tlS (tlS (tlS (tlS (tlS (tlS (tlS (tlS (tlS (tlS topB)))))))))))))), (fnP (hdS (tlS (clB (hdS (tlS (tlS (tlS (tlS (tlS (tlS (tlS (tlS (tlS (tlS topB)))))))))))))), fnB (hdS (tlS (clB (hdS (tlS (tlS (tlS (tlS (tlS (tlS (tlS (tlS (tlS (tlS topB)))))))))))))), fnS (hdS (tlS (clB (hdS (tlS (tlS (tlS (tlS (tlS (tlS (tlS (tlS (tlS (tlS topB))))))))))))))), (fnP (hdS (tlS (tlS (tlS (tlS (tlS (tlS (tlS (tlS (tlS (tlS (tlS (tlS (tlS topB)))))))))))))), fnB (hdS (tlS (tlS (tlS (tlS (tlS (tlS (tlS (tlS (tlS (tlS (tlS (tlS (tlS topB)))))))))))))), fnS (hdS (tlS (tlS (tlS (tlS (tlS (tlS (tlS (tlS (tlS (tlS (tlS (tlS (tlS topB))))))))))))))), (fnP (hdS (tlS (tlS (tlS (tlS (tlS (tlS (tlS (tlS (tlS (tlS (tlS (tlS (tlS (tlS topB))))))))))))))), fnB (hdS (tlS (tlS (tlS (tlS (tlS (tlS (tlS (tlS (tlS (tlS (tlS (tlS (tlS (tlS topB))))))))))))))), fnS (hdS (tlS (tlS (tlS (tlS (tlS (tlS (tlS (tlS (tlS (tlS (tlS (tlS (tlS (tlS topB)))))))))))))))), (fnP (hdS (clB (hdS (tlS (tlS (tlS (tlS (tlS (tlS (tlS (tlS (tlS (tlS (tlS (tlS (tlS (tlS (tlS topB)))))))))))))))))), fnB (hdS (clB (hdS (tlS (tlS (tlS (tlS (tlS (tlS (tlS (tlS (tlS (tlS (tlS (tlS (tlS (tlS (tlS topB)))))))))))))))))), fnS (hdS (clB (hdS (tlS (tlS (tlS (tlS (tlS (tlS (tlS (tlS (tlS (tlS (tlS (tlS (tlS (tlS (tlS topB))))))))))))))))))), (fnP (hdS (tlS (clB (hdS (tlS (tlS (tlS (tlS (tlS (tlS (tlS (tlS (tlS (tlS (tlS (tlS (tlS (tlS (tlS topB))))))))))))))))))), fnB (hdS (tlS (clB (hdS (tlS (tlS (tlS (tlS (tlS (tlS (tlS (tlS (tlS (tlS (tlS (tlS (tlS (tlS (tlS topB))))))))))))))))))), fnS (hdS (tlS (clB (hdS (tlS (tlS (tlS (tlS (tlS (tlS (tlS (tlS (tlS (tlS (tlS (tlS (tlS (tlS (tlS topB)))))))))))))))))))), (fnP (hdS (tlS (tlS (clB (hdS (tlS (tlS (tlS (tlS (tlS (tlS (tlS (tlS (tlS (tlS (tlS (tlS (tlS (tlS (tlS topB)))))))))))))))))))), fnB (hdS (tlS (tlS (clB (hdS (tlS (tlS (tlS (tlS (tlS (tlS (tlS (tlS (tlS (tlS (tlS (tlS (tlS (tlS (tlS topB)))))))))))))))))))), fnS (hdS (tlS (tlS (clB (hdS (tlS (tlS (tlS (tlS (tlS (tlS (tlS (tlS (tlS (tlS (tlS (tlS (tlS (tlS (tlS topB))))))))))))))))))))), (fnP (hdS (tlS (tlS (tlS (tlS (tlS (tlS (tlS (tlS (tlS (tlS (tlS (tlS (tlS (tlS (tlS (tlS (tlS topB)))))))))))))))))), fnB (hdS (tlS (tlS (tlS (tlS (tlS (tlS (tlS (tlS (tlS (tlS (tlS (tlS (tlS (tlS (tlS (tlS (tlS topB)))))))))))))))))), fnS (hdS (tlS (tlS (tlS (tlS (tlS (tlS (tlS (tlS (tlS (tlS (tlS (tlS (tlS (tlS (tlS (tlS (tlS topB))))))))))))))))))), (fnP (hdS (tlS (tlS (tlS (tlS (tlS (tlS (tlS (tlS (tlS (tlS (tlS (tlS (tlS (tlS (tlS (tlS (tlS (tlS topB))))))))))))))))))), fnB (hdS (tlS (tlS (tlS (tlS (tlS (tlS (tlS (tlS (tlS (tlS (tlS (tlS (tlS (tlS (tlS (tlS (tlS (tlS topB))))))))))))))))))), fnS (hdS (tlS (tlS (tlS (tlS (tlS (tlS (tlS (tlS (tlS (tlS (tlS (tlS (tlS (tlS (tlS (tlS (tlS (tlS topB)))))))))))))))))))), (fnP (hdS (tlS (tlS (tlS (tlS (tlS (tlS (tlS (tlS (tlS (tlS (tlS (tlS (tlS (tlS (tlS (tlS (tlS (tlS (tlS topB)))))))))))))))))))), fnB (hdS (tlS (tlS (tlS (tlS (tlS (tlS (tlS (tlS (tlS (tlS (tlS (tlS (tlS (tlS (tlS (tlS (tlS (tlS (tlS topB)))))))))))))))))))), fnS (hdS (tlS (tlS (tlS (tlS (tlS (tlS (tlS (tlS (tlS (tlS (tlS (tlS (tlS (tlS (tlS (tlS (tlS (tlS (tlS topB))))))))))))))))))))), (fnP (hdS (tlS (tlS (tlS (tlS (tlS (tlS (tlS (tlS (tlS (tlS (tlS (tlS (tlS (tlS (tlS (tlS (tlS (tlS (tlS (tlS topB))))))))))))))))))))), fnB (hdS (tlS (tlS (tlS (tlS (tlS (tlS (tlS (tlS (tlS (tlS (tlS (tlS (tlS (tlS (tlS (tlS (tlS (tlS (tlS (tlS topB))))))))))))))))))))), fnS (hdS (tlS (tlS (tlS (tlS (tlS (tlS (tlS (tlS (tlS (tlS (tlS (tlS (tlS (tlS (tlS (tlS (tlS (tlS (tlS (tlS topB)))))))))))))))))))))), (fnP (hdS (tlS (tlS (tlS (tlS (tlS (tlS (tlS (tlS (tlS (tlS (tlS (tlS (tlS (tlS (tlS (tlS (tlS (tlS (tlS (tlS (tlS topB)))))))))))))))))))))), fnB (hdS (tlS (tlS (tlS (tlS (tlS (tlS (tlS (tlS (tlS (tlS (tlS (tlS (tlS (tlS (tlS (tlS (tlS (tlS (tlS (tlS (tlS topB)))))))))))))))))))))), fnS (hdS (tlS (tlS (tlS (tlS (tlS (tlS (tlS (tlS (tlS (tlS (tlS (tlS (tlS (tlS (tlS (tlS (tlS (tlS (tlS (tlS (tlS topB))))))))))))))))))))))), (fnP (hdS (tlS (tlS (tlS (tlS (tlS (tlS (tlS (tlS (tlS (tlS (tlS (tlS (tlS (tlS (tlS (tlS (tlS (tlS (tlS (tlS (tlS (tlS topB))))))))))))))))))))))), fnB (hdS (tlS (tlS (tlS (tlS (tlS (tlS (tlS (tlS (tlS (tlS (tlS (tlS (tlS (tlS (tlS (tlS (tlS (tlS (tlS (tlS (tlS (tlS topB))))))))))))))))))))))), fnS (hdS (tlS (tlS (tlS (tlS (tlS (tlS (tlS (tlS (tlS (tlS (tlS (tlS (tlS (tlS (tlS (tlS (tlS (tlS (tlS (tlS (tlS (tlS topB)))))))))))))))))))))))), (fnP (hdS (tlS (tlS (tlS (tlS (tlS (tlS (tlS (tlS (tlS (tlS (tlS (tlS (tlS (tlS (tlS (tlS (tlS (tlS (tlS (tlS (tlS (tlS (tlS topB)))))))))))))))))))))))), fnB (hdS (tlS (tlS (tlS (tlS (tlS (tlS (tlS (tlS (tlS (tlS (tlS (tlS (tlS (tlS (tlS (tlS (tlS (tlS (tlS (tlS (tlS (tlS (tlS topB)))))))))))))))))))))))), fnS (hdS (tlS (tlS (tlS (tlS (tlS (tlS (tlS (tlS (tlS (tlS (tlS (tlS (tlS (tlS (tlS (tlS (tlS (tlS (tlS (tlS (tlS (tlS (tlS topB)))))))))))))))))))))))))] = [(xp0, xb0, xs0), (xp1, xb1, xs1), (xp2, xb2, xs2), (xp3, xb3, xs3), (xp4, xb4, xs4), (xp5, xb5, xs5), (xp6, xb6, xs6), (xp7, xb7, xs7), (xp8, xb8, xs8), (xp9, xb9, xs9), (xp10, xb10, xs10), (xp11, xb11, xs11), (xp12, xb12, xs12), (xp13, xb13, xs13), (xp14, xb14, xs14), (xp15, xb15, xs15), (xp16, xb16, xs16), (xp17, xb17, xs17), (xp18, xb18, xs18), (xp19, xb19, xs19)] → Params → Frag) _ _ _ _ _ _ _ _ _ _ _ _ _ _ _ _ _ _ _ _ _ _ _ _ _ _ _ _ _ _ _ _ _ _ _ _ _ _ _ _ _ _ _ _ _ _ _ _ _ _ _ _ _ _ _ _ _ _ _ _ ?h
  case f => exact fun xp0 xb0 xs0 xp1 xb1 xs1 xp2 xb2 xs2 xp3 xb3 xs3 xp4 xb4 xs4 xp5 xb5 xs5 xp6 xb6 xs6 xp7 xb7 xs7 xp8 xb8 xs8 xp9 xb9 xs9 xp10 xb10 xs10 xp11 xb11 xs11 xp12 xb12 xs12 xp13 xb13 xs13 xp14 xb14 xs14 xp15 xb15 xs15 xp16 xb16 xs16 xp17 xb17 xs17 xp18 xb18 xs18 xp19 xb19 xs19 _ P => (
(nat_lit 2, { cls := Value.none, data := Data.dict #[{ hash := PyData.keyHash P (Str.ofString "type.__subclasses__.Exception.0"), key := Value.str (Str.ofString "type.__subclasses__.Exception.0") 230, val := Value.int 47 0 }, { hash := PyData.keyHash P (Str.ofString "type.__subclasses__.Exception.n"), key := Value.str (Str.ofString "type.__subclasses__.Exception.n") 231, val := Value.int 1 0 }] 2 }) ::
(nat_lit 3, { cls := Value.type "dict", data := Data.dict #[{ hash := PyData.keyHash P (Str.ofString "__name__"), key := Value.str (Str.ofString "__name__") 165, val := Value.str (Str.ofString "law_pq0109_01") 394 }, { hash := PyData.keyHash P (Str.ofString "__doc__"), key := Value.str (Str.ofString "__doc__") 166, val := Value.none }, { hash := PyData.keyHash P (Str.ofString "__package__"), key := Value.str (Str.ofString "__package__") 167, val := Value.none }, { hash := PyData.keyHash P (Str.ofString "__loader__"), key := Value.str (Str.ofString "__loader__") 168, val := Value.builtin "__main__.__loader__#opaque" }, { hash := PyData.keyHash P (Str.ofString "__spec__"), key := Value.str (Str.ofString "__spec__") 169, val := Value.none }, { hash := PyData.keyHash P (Str.ofString "__annotations__"), key := Value.str (Str.ofString "__annotations__") 170, val := Value.ref 6 }, { hash := PyData.keyHash P (Str.ofString "__builtins__"), key := Value.str (Str.ofString "__builtins__") 171, val := Value.ref 4 }, { hash := PyData.keyHash P (Str.ofString "__file__"), key := Value.str (Str.ofString "__file__") 173, val := Value.str (Str.ofString "/claim/cut.py") 172 }, { hash := PyData.keyHash P (Str.ofString "__cached__"), key := Value.str (Str.ofString "__cached__") 174, val := Value.none }, { hash := PyData.keyHash P (Str.ofString "_wall"), key := Value.str (Str.ofString "_wall") 193, val := Value.ref 21 }, { hash := PyData.keyHash P (Str.ofString "HeapError"), key := Value.str (Str.ofString "HeapError") 233, val := Value.ref 47 }, { hash := PyData.keyHash P (Str.ofString "TermFault"), key := Value.str (Str.ofString "TermFault") 249, val := Value.ref 60 }, { hash := PyData.keyHash P (Str.ofString "RuleFault"), key := Value.str (Str.ofString "RuleFault") 265, val := Value.ref 72 }, { hash := PyData.keyHash P (Str.ofString "is_variable"), key := Value.str (Str.ofString "is_variable") 274, val := Value.ref 81 }, { hash := PyData.keyHash P (Str.ofString "variables"), key := Value.str (Str.ofString "variables") 280, val := Value.ref 86 }, { hash := PyData.keyHash P (Str.ofString "parts"), key := Value.str (Str.ofString "parts") 286, val := Value.ref 91 }, { hash := PyData.keyHash P (Str.ofString "Rule"), key := Value.str (Str.ofString "Rule") 325, val := Value.ref 113 }, { hash := PyData.keyHash P (Str.ofString "A"), key := Value.str (Str.ofString "A") 331, val := Value.ref 118 }, { hash := PyData.keyHash P (Str.ofString "B"), key := Value.str (Str.ofString "B") 332, val := Value.ref 119 }, { hash := PyData.keyHash P (Str.ofString "C"), key := Value.str (Str.ofString "C") 333, val := Value.ref 120 }, { hash := PyData.keyHash P (Str.ofString "named_value"), key := Value.str (Str.ofString "named_value") 341, val := Value.ref 131 }, { hash := PyData.keyHash P (Str.ofString "laws_of"), key := Value.str (Str.ofString "laws_of") 349, val := Value.ref 138 }, { hash := PyData.keyHash P (Str.ofString "Sets"), key := Value.str (Str.ofString "Sets") 393, val := Value.ref 167 }, { hash := PyData.keyHash P (Str.ofString "_law_parts"), key := Value.str (Str.ofString "_law_parts") 401, val := Value.ref 178 }, { hash := PyData.keyHash P (Str.ofString "_law_pick"), key := Value.str (Str.ofString "_law_pick") 410, val := Value.ref 185 }, { hash := PyData.keyHash P (Str.ofString "_law_is_in"), key := Value.str (Str.ofString "_law_is_in") 416, val := Value.ref 190 }, { hash := PyData.keyHash P (Str.ofString "_law_number"), key := Value.str (Str.ofString "_law_number") 422, val := Value.ref 195 }, { hash := PyData.keyHash P (Str.ofString "_law_drawn"), key := Value.str (Str.ofString "_law_drawn") 428, val := Value.ref 200 }, { hash := PyData.keyHash P (Str.ofString "_law_is_refused"), key := Value.str (Str.ofString "_law_is_refused") 437, val := Value.ref 207 }, { hash := PyData.keyHash P (Str.ofString "law"), key := Value.str (Str.ofString "law") 443, val := Value.ref 212 }] 30 }) ::
(nat_lit 15, { cls := Value.type "tuple", data := Data.seq #[] }) ::
(nat_lit 17, { cls := Value.type "tuple", data := Data.seq #[Value.str (Str.ofString "k") 190] }) ::
(nat_lit 18, { cls := Value.type "tuple", data := Data.seq #[] }) ::
(nat_lit 20, { cls := Value.type "code", data := Data.fields #[Value.str (Str.ofString "_wall") 187, Value.str (Str.ofString "_wall") 188, Value.str (Str.ofString "/claim/cut.py") 189, Value.int 1 0, Value.int 1 0, Value.int 0 0, Value.int 0 0, Value.int 3 0, Value.ref 15, Value.bool true, Value.int 181 0, Value.ref 16, Value.none, Value.ref 17, Value.ref 18, Value.ref 19, Value.int 191 0, Value.int 1 0, Value.str (Str.ofString "/claim/cut.py") 192] }) ::
(nat_lit 21, { cls := Value.type "function", data := Data.func { name := Str.ofString "_wall", qualname := Str.ofString "_wall", params := xp0, body := FuncBody.stmts xb0, scope := xs0, globals := 3, closure := [], defaults := Value.none, kwdefaults := Value.none, pyModule := Value.str (Str.ofString "__main__") 164, code := Value.ref 20 } }) ::
(nat_lit 22, { cls := Value.type "tuple", data := Data.seq #[Value.type "Exception"] }) ::
(nat_lit 25, { cls := Value.type "cell", data := Data.cell (some (Value.ref 47)) }) ::
(nat_lit 30, { cls := Value.type "tuple", data := Data.seq #[Value.ref 25] }) ::
(nat_lit 31, { cls := Value.type "tuple", data := Data.seq #[Value.str (Str.ofString "__class__") 211] }) ::
(nat_lit 33, { cls := Value.type "tuple", data := Data.seq #[Value.str (Str.ofString "self") 212, Value.str (Str.ofString "what") 213] }) ::
(nat_lit 34, { cls := Value.type "tuple", data := Data.seq #[] }) ::
(nat_lit 36, { cls := Value.type "code", data := Data.fields #[Value.str (Str.ofString "__init__") 208, Value.str (Str.ofString "HeapError.__init__") 209, Value.str (Str.ofString "/claim/cut.py") 210, Value.int 7 0, Value.int 2 0, Value.int 0 0, Value.int 0 0, Value.int 3 0, Value.ref 31, Value.bool true, Value.int 181 0, Value.ref 32, Value.none, Value.ref 33, Value.ref 34, Value.ref 35, Value.int 214 0, Value.int 7 0, Value.str (Str.ofString "/claim/cut.py") 215] }) ::
(nat_lit 37, { cls := Value.type "function", data := Data.func { name := Str.ofString "__init__", qualname := Str.ofString "HeapError.__init__", params := xp1, body := FuncBody.stmts xb1, scope := xs1, globals := 3, closure := [(Str.ofString "__class__", 25)], defaults := Value.none, kwdefaults := Value.none, pyModule := Value.str (Str.ofString "alikeheap.errors") 194, code := Value.ref 36, closureTuple := Value.ref 30 } }) ::
(nat_lit 38, { cls := Value.type "tuple", data := Data.seq #[] }) ::
(nat_lit 40, { cls := Value.type "tuple", data := Data.seq #[Value.str (Str.ofString "self") 220] }) ::
(nat_lit 41, { cls := Value.type "tuple", data := Data.seq #[] }) ::
(nat_lit 43, { cls := Value.type "code", data := Data.fields #[Value.str (Str.ofString "told") 217, Value.str (Str.ofString "HeapError.told") 218, Value.str (Str.ofString "/claim/cut.py") 219, Value.int 11 0, Value.int 1 0, Value.int 0 0, Value.int 0 0, Value.int 3 0, Value.ref 38, Value.bool true, Value.int 181 0, Value.ref 39, Value.none, Value.ref 40, Value.ref 41, Value.ref 42, Value.int 221 0, Value.int 11 0, Value.str (Str.ofString "/claim/cut.py") 222] }) ::
(nat_lit 44, { cls := Value.type "function", data := Data.func { name := Str.ofString "told", qualname := Str.ofString "HeapError.told", params := xp2, body := FuncBody.stmts xb2, scope := xs2, globals := 3, closure := [], defaults := Value.none, kwdefaults := Value.none, pyModule := Value.str (Str.ofString "alikeheap.errors") 194, code := Value.ref 43 } }) ::
(nat_lit 45, { cls := Value.type "tuple", data := Data.seq #[Value.str (Str.ofString "what") 224] }) ::
(nat_lit 46, { cls := Value.type "dict", data := Data.dict #[{ hash := PyData.keyHash P (Str.ofString "__module__"), key := Value.str (Str.ofString "__module__") 203, val := Value.str (Str.ofString "alikeheap.errors") 194 }, { hash := PyData.keyHash P (Str.ofString "__firstlineno__"), key := Value.str (Str.ofString "__firstlineno__") 207, val := Value.int 5 206 }, { hash := PyData.keyHash P (Str.ofString "__init__"), key := Value.str (Str.ofString "__init__") 216, val := Value.ref 37 }, { hash := PyData.keyHash P (Str.ofString "told"), key := Value.str (Str.ofString "told") 223, val := Value.ref 44 }, { hash := PyData.keyHash P (Str.ofString "__static_attributes__"), key := Value.str (Str.ofString "__static_attributes__") 225, val := Value.ref 45 }, { hash := PyData.keyHash P (Str.ofString "__weakref__"), key := Value.str (Str.ofString "__weakref__") 228, val := Value.ref 48 }, { hash := PyData.keyHash P (Str.ofString "__doc__"), key := Value.str (Str.ofString "__doc__") 229, val := Value.none }] 4 }) ::
(nat_lit 47, { cls := Value.type "type", data := Data.cls { name := Str.ofString "HeapError", bases := [Value.type "Exception"], mro := [Value.ref 47, Value.type "Exception", Value.type "BaseException", Value.type "object"], ns := 46, qualname := Str.ofString "HeapError", subclasses := [Value.ref 60, Value.ref 72] }, slots := #[some (Value.ref 22), none, some (Value.str (Str.ofString "HeapError") 196), some (Value.str (Str.ofString "HeapError") 204), some (Value.builtin "Exception.__new__"), some (Value.bool true)] }) ::
(nat_lit 48, { cls := Value.type "getset_descriptor", data := Data.fields #[Value.str (Str.ofString "__weakref__") 227, Value.ref 47, Value.builtin "ExceptionGroup.__weakref__", Value.none] }) ::
(nat_lit 51, { cls := Value.type "tuple", data := Data.seq #[Value.ref 47] }) ::
(nat_lit 58, { cls := Value.type "tuple", data := Data.seq #[] }) ::
(nat_lit 59, { cls := Value.type "dict", data := Data.dict #[{ hash := PyData.keyHash P (Str.ofString "__module__"), key := Value.str (Str.ofString "__module__") 241, val := Value.str (Str.ofString "alikeheap.errors") 194 }, { hash := PyData.keyHash P (Str.ofString "__firstlineno__"), key := Value.str (Str.ofString "__firstlineno__") 245, val := Value.int 13 244 }, { hash := PyData.keyHash P (Str.ofString "__static_attributes__"), key := Value.str (Str.ofString "__static_attributes__") 246, val := Value.ref 58 }, { hash := PyData.keyHash P (Str.ofString "__doc__"), key := Value.str (Str.ofString "__doc__") 247, val := Value.none }] 2 }) ::
(nat_lit 60, { cls := Value.type "type", data := Data.cls { name := Str.ofString "TermFault", bases := [Value.ref 47], mro := [Value.ref 60, Value.ref 47, Value.type "Exception", Value.type "BaseException", Value.type "object"], ns := 59, qualname := Str.ofString "TermFault" }, slots := #[some (Value.ref 51), none, some (Value.str (Str.ofString "TermFault") 234), some (Value.str (Str.ofString "TermFault") 242), some (Value.builtin "Exception.__new__"), some (Value.bool true)] }) ::
(nat_lit 63, { cls := Value.type "tuple", data := Data.seq #[Value.ref 47] }) ::
(nat_lit 70, { cls := Value.type "tuple", data := Data.seq #[] }) ::
(nat_lit 71, { cls := Value.type "dict", data := Data.dict #[{ hash := PyData.keyHash P (Str.ofString "__module__"), key := Value.str (Str.ofString "__module__") 257, val := Value.str (Str.ofString "alikeheap.errors") 194 }, { hash := PyData.keyHash P (Str.ofString "__firstlineno__"), key := Value.str (Str.ofString "__firstlineno__") 261, val := Value.int 15 260 }, { hash := PyData.keyHash P (Str.ofString "__static_attributes__"), key := Value.str (Str.ofString "__static_attributes__") 262, val := Value.ref 70 }, { hash := PyData.keyHash P (Str.ofString "__doc__"), key := Value.str (Str.ofString "__doc__") 263, val := Value.none }] 2 }) ::
(nat_lit 72, { cls := Value.type "type", data := Data.cls { name := Str.ofString "RuleFault", bases := [Value.ref 47], mro := [Value.ref 72, Value.ref 47, Value.type "Exception", Value.type "BaseException", Value.type "object"], ns := 71, qualname := Str.ofString "RuleFault" }, slots := #[some (Value.ref 63), none, some (Value.str (Str.ofString "RuleFault") 250), some (Value.str (Str.ofString "RuleFault") 258), some (Value.builtin "Exception.__new__"), some (Value.bool true)] }) ::
(nat_lit 75, { cls := Value.type "tuple", data := Data.seq #[] }) ::
(nat_lit 77, { cls := Value.type "tuple", data := Data.seq #[Value.str (Str.ofString "t") 271] }) ::
(nat_lit 78, { cls := Value.type "tuple", data := Data.seq #[] }) ::
(nat_lit 80, { cls := Value.type "code", data := Data.fields #[Value.str (Str.ofString "is_variable") 268, Value.str (Str.ofString "is_variable") 269, Value.str (Str.ofString "/claim/cut.py") 270, Value.int 18 0, Value.int 1 0, Value.int 0 0, Value.int 0 0, Value.int 3 0, Value.ref 75, Value.bool true, Value.int 181 0, Value.ref 76, Value.none, Value.ref 77, Value.ref 78, Value.ref 79, Value.int 272 0, Value.int 18 0, Value.str (Str.ofString "/claim/cut.py") 273] }) ::
(nat_lit 81, { cls := Value.type "function", data := Data.func { name := Str.ofString "is_variable", qualname := Str.ofString "is_variable", params := xp3, body := FuncBody.stmts xb3, scope := xs3, globals := 3, closure := [], defaults := Value.none, kwdefaults := Value.none, pyModule := Value.str (Str.ofString "alikeheap.terms") 266, code := Value.ref 80 } }) ::
(nat_lit 82, { cls := Value.type "tuple", data := Data.seq #[] }) ::
(nat_lit 85, { cls := Value.type "code", data := Data.fields #[Value.str (Str.ofString "variables") 275, Value.str (Str.ofString "variables") 276, Value.str (Str.ofString "/claim/cut.py") 277, Value.int 20 0, Value.int 1 0, Value.int 0 0, Value.int 0 0, Value.int 3 0, Value.ref 82, Value.bool true, Value.int 181 0, Value.ref 83, Value.none, Value.none, Value.none, Value.ref 84, Value.int 278 0, Value.int 20 0, Value.str (Str.ofString "/claim/cut.py") 279] }) ::
(nat_lit 86, { cls := Value.type "function", data := Data.func { name := Str.ofString "variables", qualname := Str.ofString "variables", params := xp4, body := FuncBody.stmts xb4, scope := xs4, globals := 3, closure := [], defaults := Value.none, kwdefaults := Value.none, pyModule := Value.str (Str.ofString "alikeheap.terms") 266, code := Value.ref 85 } }) ::
(nat_lit 87, { cls := Value.type "tuple", data := Data.seq #[] }) ::
(nat_lit 90, { cls := Value.type "code", data := Data.fields #[Value.str (Str.ofString "parts") 281, Value.str (Str.ofString "parts") 282, Value.str (Str.ofString "/claim/cut.py") 283, Value.int 22 0, Value.int 1 0, Value.int 0 0, Value.int 0 0, Value.int 3 0, Value.ref 87, Value.bool true, Value.int 181 0, Value.ref 88, Value.none, Value.none, Value.none, Value.ref 89, Value.int 284 0, Value.int 22 0, Value.str (Str.ofString "/claim/cut.py") 285] }) ::
(nat_lit 91, { cls := Value.type "function", data := Data.func { name := Str.ofString "parts", qualname := Str.ofString "parts", params := xp5, body := FuncBody.stmts xb5, scope := xs5, globals := 3, closure := [], defaults := Value.none, kwdefaults := Value.none, pyModule := Value.str (Str.ofString "alikeheap.terms") 266, code := Value.ref 90 } }) ::
(nat_lit 99, { cls := Value.type "tuple", data := Data.seq #[] }) ::
(nat_lit 102, { cls := Value.type "code", data := Data.fields #[Value.str (Str.ofString "__init__") 301, Value.str (Str.ofString "Rule.__init__") 302, Value.str (Str.ofString "/claim/cut.py") 303, Value.int 30 0, Value.int 5 0, Value.int 0 0, Value.int 0 0, Value.int 3 0, Value.ref 99, Value.bool true, Value.int 181 0, Value.ref 100, Value.none, Value.none, Value.none, Value.ref 101, Value.int 304 0, Value.int 30 0, Value.str (Str.ofString "/claim/cut.py") 305] }) ::
(nat_lit 103, { cls := Value.type "function", data := Data.func { name := Str.ofString "__init__", qualname := Str.ofString "Rule.__init__", params := xp6, body := FuncBody.stmts xb6, scope := xs6, globals := 3, closure := [], defaults := Value.none, kwdefaults := Value.none, pyModule := Value.str (Str.ofString "alikeheap.rules") 287, code := Value.ref 102 } }) ::
(nat_lit 104, { cls := Value.type "tuple", data := Data.seq #[] }) ::
(nat_lit 106, { cls := Value.type "tuple", data := Data.seq #[Value.str (Str.ofString "self") 310] }) ::
(nat_lit 107, { cls := Value.type "tuple", data := Data.seq #[] }) ::
(nat_lit 109, { cls := Value.type "code", data := Data.fields #[Value.str (Str.ofString "turned") 307, Value.str (Str.ofString "Rule.turned") 308, Value.str (Str.ofString "/claim/cut.py") 309, Value.int 46 0, Value.int 1 0, Value.int 0 0, Value.int 0 0, Value.int 3 0, Value.ref 104, Value.bool true, Value.int 181 0, Value.ref 105, Value.none, Value.ref 106, Value.ref 107, Value.ref 108, Value.int 311 0, Value.int 46 0, Value.str (Str.ofString "/claim/cut.py") 312] }) ::
(nat_lit 110, { cls := Value.type "function", data := Data.func { name := Str.ofString "turned", qualname := Str.ofString "Rule.turned", params := xp7, body := FuncBody.stmts xb7, scope := xs7, globals := 3, closure := [], defaults := Value.none, kwdefaults := Value.none, pyModule := Value.str (Str.ofString "alikeheap.rules") 287, code := Value.ref 109 } }) ::
(nat_lit 111, { cls := Value.type "tuple", data := Data.seq #[Value.str (Str.ofString "left") 314, Value.str (Str.ofString "name") 315, Value.str (Str.ofString "needs") 316, Value.str (Str.ofString "right") 317] }) ::
(nat_lit 112, { cls := Value.type "dict", data := Data.dict #[{ hash := PyData.keyHash P (Str.ofString "__module__"), key := Value.str (Str.ofString "__module__") 296, val := Value.str (Str.ofString "alikeheap.rules") 287 }, { hash := PyData.keyHash P (Str.ofString "__firstlineno__"), key := Value.str (Str.ofString "__firstlineno__") 300, val := Value.int 28 299 }, { hash := PyData.keyHash P (Str.ofString "__init__"), key := Value.str (Str.ofString "__init__") 306, val := Value.ref 103 }, { hash := PyData.keyHash P (Str.ofString "turned"), key := Value.str (Str.ofString "turned") 313, val := Value.ref 110 }, { hash := PyData.keyHash P (Str.ofString "__static_attributes__"), key := Value.str (Str.ofString "__static_attributes__") 318, val := Value.ref 111 }, { hash := PyData.keyHash P (Str.ofString "__dict__"), key := Value.str (Str.ofString "__dict__") 320, val := Value.ref 114 }, { hash := PyData.keyHash P (Str.ofString "__weakref__"), key := Value.str (Str.ofString "__weakref__") 322, val := Value.ref 115 }, { hash := PyData.keyHash P (Str.ofString "__doc__"), key := Value.str (Str.ofString "__doc__") 323, val := Value.none }] 4 }) ::
(nat_lit 113, { cls := Value.type "type", data := Data.cls { name := Str.ofString "Rule", bases := [Value.type "object"], mro := [Value.ref 113, Value.type "object"], ns := 112, qualname := Str.ofString "Rule" }, slots := #[none, none, some (Value.str (Str.ofString "Rule") 289), some (Value.str (Str.ofString "Rule") 297), some (Value.builtin "object.__new__"), some (Value.bool true)] }) ::
(nat_lit 114, { cls := Value.type "getset_descriptor", data := Data.fields #[Value.str (Str.ofString "__dict__") 319, Value.ref 113, Value.builtin "function.__dict__", Value.builtin "function.__dict__#set"] }) ::
(nat_lit 115, { cls := Value.type "getset_descriptor", data := Data.fields #[Value.str (Str.ofString "__weakref__") 321, Value.ref 113, Value.builtin "ExceptionGroup.__weakref__", Value.none] }) ::
(nat_lit 118, { cls := Value.type "tuple", data := Data.seq #[Value.str (Str.ofString "?a") 328] }) ::
(nat_lit 119, { cls := Value.type "tuple", data := Data.seq #[Value.str (Str.ofString "?b") 329] }) ::
(nat_lit 120, { cls := Value.type "tuple", data := Data.seq #[Value.str (Str.ofString "?c") 330] }) ::
(nat_lit 125, { cls := Value.type "tuple", data := Data.seq #[] }) ::
(nat_lit 127, { cls := Value.type "tuple", data := Data.seq #[Value.str (Str.ofString "term") 337, Value.str (Str.ofString "env") 338] }) ::
(nat_lit 128, { cls := Value.type "tuple", data := Data.seq #[] }) ::
(nat_lit 130, { cls := Value.type "code", data := Data.fields #[Value.str (Str.ofString "named_value") 334, Value.str (Str.ofString "named_value") 335, Value.str (Str.ofString "/claim/cut.py") 336, Value.int 50 0, Value.int 2 0, Value.int 0 0, Value.int 0 0, Value.int 3 0, Value.ref 125, Value.bool true, Value.int 181 0, Value.ref 126, Value.none, Value.ref 127, Value.ref 128, Value.ref 129, Value.int 339 0, Value.int 50 0, Value.str (Str.ofString "/claim/cut.py") 340] }) ::
(nat_lit 131, { cls := Value.type "function", data := Data.func { name := Str.ofString "named_value", qualname := Str.ofString "named_value", params := xp8, body := FuncBody.stmts xb8, scope := xs8, globals := 3, closure := [], defaults := Value.none, kwdefaults := Value.none, pyModule := Value.str (Str.ofString "alikeheap.theories") 326, code := Value.ref 130 } }) ::
(nat_lit 132, { cls := Value.type "tuple", data := Data.seq #[] }) ::
(nat_lit 134, { cls := Value.type "tuple", data := Data.seq #[Value.str (Str.ofString "op") 345, Value.str (Str.ofString "unit") 346] }) ::
(nat_lit 135, { cls := Value.type "tuple", data := Data.seq #[] }) ::
(nat_lit 137, { cls := Value.type "code", data := Data.fields #[Value.str (Str.ofString "laws_of") 342, Value.str (Str.ofString "laws_of") 343, Value.str (Str.ofString "/claim/cut.py") 344, Value.int 54 0, Value.int 2 0, Value.int 0 0, Value.int 0 0, Value.int 3 0, Value.ref 132, Value.bool true, Value.int 181 0, Value.ref 133, Value.none, Value.ref 134, Value.ref 135, Value.ref 136, Value.int 347 0, Value.int 54 0, Value.str (Str.ofString "/claim/cut.py") 348] }) ::
(nat_lit 138, { cls := Value.type "function", data := Data.func { name := Str.ofString "laws_of", qualname := Str.ofString "laws_of", params := xp9, body := FuncBody.stmts xb9, scope := xs9, globals := 3, closure := [], defaults := Value.none, kwdefaults := Value.none, pyModule := Value.str (Str.ofString "alikeheap.theories") 326, code := Value.ref 137 } }) ::
(nat_lit 146, { cls := Value.type "tuple", data := Data.seq #[] }) ::
(nat_lit 148, { cls := Value.type "tuple", data := Data.seq #[Value.str (Str.ofString "self") 365, Value.str (Str.ofString "n") 366] }) ::
(nat_lit 149, { cls := Value.type "tuple", data := Data.seq #[] }) ::
(nat_lit 151, { cls := Value.type "code", data := Data.fields #[Value.str (Str.ofString "__init__") 362, Value.str (Str.ofString "Sets.__init__") 363, Value.str (Str.ofString "/claim/cut.py") 364, Value.int 58 0, Value.int 2 0, Value.int 0 0, Value.int 0 0, Value.int 3 0, Value.ref 146, Value.bool true, Value.int 181 0, Value.ref 147, Value.none, Value.ref 148, Value.ref 149, Value.ref 150, Value.int 367 0, Value.int 58 0, Value.str (Str.ofString "/claim/cut.py") 368] }) ::
(nat_lit 152, { cls := Value.type "function", data := Data.func { name := Str.ofString "__init__", qualname := Str.ofString "Sets.__init__", params := xp10, body := FuncBody.stmts xb10, scope := xs10, globals := 3, closure := [], defaults := Value.none, kwdefaults := Value.none, pyModule := Value.str (Str.ofString "alikeheap.theories") 326, code := Value.ref 151 } }) ::
(nat_lit 153, { cls := Value.type "tuple", data := Data.seq #[] }) ::
(nat_lit 155, { cls := Value.type "tuple", data := Data.seq #[Value.str (Str.ofString "self") 373, Value.str (Str.ofString "none") 374, Value.str (Str.ofString "whole") 375] }) ::
(nat_lit 156, { cls := Value.type "tuple", data := Data.seq #[] }) ::
(nat_lit 158, { cls := Value.type "code", data := Data.fields #[Value.str (Str.ofString "rules") 370, Value.str (Str.ofString "Sets.rules") 371, Value.str (Str.ofString "/claim/cut.py") 372, Value.int 61 0, Value.int 1 0, Value.int 0 0, Value.int 0 0, Value.int 3 0, Value.ref 153, Value.bool true, Value.int 181 0, Value.ref 154, Value.none, Value.ref 155, Value.ref 156, Value.ref 157, Value.int 376 0, Value.int 61 0, Value.str (Str.ofString "/claim/cut.py") 377] }) ::
(nat_lit 159, { cls := Value.type "function", data := Data.func { name := Str.ofString "rules", qualname := Str.ofString "Sets.rules", params := xp11, body := FuncBody.stmts xb11, scope := xs11, globals := 3, closure := [], defaults := Value.none, kwdefaults := Value.none, pyModule := Value.str (Str.ofString "alikeheap.theories") 326, code := Value.ref 158 } }) ::
(nat_lit 160, { cls := Value.type "tuple", data := Data.seq #[] }) ::
(nat_lit 163, { cls := Value.type "code", data := Data.fields #[Value.str (Str.ofString "value") 379, Value.str (Str.ofString "Sets.value") 380, Value.str (Str.ofString "/claim/cut.py") 381, Value.int 65 0, Value.int 3 0, Value.int 0 0, Value.int 0 0, Value.int 3 0, Value.ref 160, Value.bool true, Value.int 181 0, Value.ref 161, Value.none, Value.none, Value.none, Value.ref 162, Value.int 382 0, Value.int 65 0, Value.str (Str.ofString "/claim/cut.py") 383] }) ::
(nat_lit 164, { cls := Value.type "function", data := Data.func { name := Str.ofString "value", qualname := Str.ofString "Sets.value", params := xp12, body := FuncBody.stmts xb12, scope := xs12, globals := 3, closure := [], defaults := Value.none, kwdefaults := Value.none, pyModule := Value.str (Str.ofString "alikeheap.theories") 326, code := Value.ref 163 } }) ::
(nat_lit 165, { cls := Value.type "tuple", data := Data.seq #[Value.str (Str.ofString "whole") 385] }) ::
(nat_lit 166, { cls := Value.type "dict", data := Data.dict #[{ hash := PyData.keyHash P (Str.ofString "__module__"), key := Value.str (Str.ofString "__module__") 357, val := Value.str (Str.ofString "alikeheap.theories") 326 }, { hash := PyData.keyHash P (Str.ofString "__firstlineno__"), key := Value.str (Str.ofString "__firstlineno__") 361, val := Value.int 56 360 }, { hash := PyData.keyHash P (Str.ofString "__init__"), key := Value.str (Str.ofString "__init__") 369, val := Value.ref 152 }, { hash := PyData.keyHash P (Str.ofString "rules"), key := Value.str (Str.ofString "rules") 378, val := Value.ref 159 }, { hash := PyData.keyHash P (Str.ofString "value"), key := Value.str (Str.ofString "value") 384, val := Value.ref 164 }, { hash := PyData.keyHash P (Str.ofString "__static_attributes__"), key := Value.str (Str.ofString "__static_attributes__") 386, val := Value.ref 165 }, { hash := PyData.keyHash P (Str.ofString "__dict__"), key := Value.str (Str.ofString "__dict__") 388, val := Value.ref 168 }, { hash := PyData.keyHash P (Str.ofString "__weakref__"), key := Value.str (Str.ofString "__weakref__") 390, val := Value.ref 169 }, { hash := PyData.keyHash P (Str.ofString "__doc__"), key := Value.str (Str.ofString "__doc__") 391, val := Value.none }] 4 }) ::
(nat_lit 167, { cls := Value.type "type", data := Data.cls { name := Str.ofString "Sets", bases := [Value.type "object"], mro := [Value.ref 167, Value.type "object"], ns := 166, qualname := Str.ofString "Sets" }, slots := #[none, none, some (Value.str (Str.ofString "Sets") 350), some (Value.str (Str.ofString "Sets") 358), some (Value.builtin "object.__new__"), some (Value.bool true)] }) ::
(nat_lit 168, { cls := Value.type "getset_descriptor", data := Data.fields #[Value.str (Str.ofString "__dict__") 387, Value.ref 167, Value.builtin "function.__dict__", Value.builtin "function.__dict__#set"] }) ::
(nat_lit 169, { cls := Value.type "getset_descriptor", data := Data.fields #[Value.str (Str.ofString "__weakref__") 389, Value.ref 167, Value.builtin "ExceptionGroup.__weakref__", Value.none] }) ::
(nat_lit 172, { cls := Value.type "tuple", data := Data.seq #[] }) ::
(nat_lit 174, { cls := Value.type "tuple", data := Data.seq #[] }) ::
(nat_lit 175, { cls := Value.type "tuple", data := Data.seq #[] }) ::
(nat_lit 177, { cls := Value.type "code", data := Data.fields #[Value.str (Str.ofString "_law_parts") 396, Value.str (Str.ofString "_law_parts") 397, Value.str (Str.ofString "/claim/cut.py") 398, Value.int 77 0, Value.int 0 0, Value.int 0 0, Value.int 0 0, Value.int 3 0, Value.ref 172, Value.bool true, Value.int 181 0, Value.ref 173, Value.none, Value.ref 174, Value.ref 175, Value.ref 176, Value.int 399 0, Value.int 77 0, Value.str (Str.ofString "/claim/cut.py") 400] }) ::
(nat_lit 178, { cls := Value.type "function", data := Data.func { name := Str.ofString "_law_parts", qualname := Str.ofString "_law_parts", params := xp13, body := FuncBody.stmts xb13, scope := xs13, globals := 3, closure := [], defaults := Value.none, kwdefaults := Value.none, pyModule := Value.str (Str.ofString "law_pq0109_01") 394, code := Value.ref 177 } }) ::
(nat_lit 179, { cls := Value.type "tuple", data := Data.seq #[] }) ::
(nat_lit 181, { cls := Value.type "tuple", data := Data.seq #[Value.str (Str.ofString "store") 405, Value.str (Str.ofString "many") 406, Value.str (Str.ofString "found") 407] }) ::
(nat_lit 182, { cls := Value.type "tuple", data := Data.seq #[] }) ::
(nat_lit 184, { cls := Value.type "code", data := Data.fields #[Value.str (Str.ofString "_law_pick") 402, Value.str (Str.ofString "_law_pick") 403, Value.str (Str.ofString "/claim/cut.py") 404, Value.int 79 0, Value.int 2 0, Value.int 0 0, Value.int 0 0, Value.int 3 0, Value.ref 179, Value.bool true, Value.int 181 0, Value.ref 180, Value.none, Value.ref 181, Value.ref 182, Value.ref 183, Value.int 408 0, Value.int 79 0, Value.str (Str.ofString "/claim/cut.py") 409] }) ::
(nat_lit 185, { cls := Value.type "function", data := Data.func { name := Str.ofString "_law_pick", qualname := Str.ofString "_law_pick", params := xp14, body := FuncBody.stmts xb14, scope := xs14, globals := 3, closure := [], defaults := Value.none, kwdefaults := Value.none, pyModule := Value.str (Str.ofString "law_pq0109_01") 394, code := Value.ref 184 } }) ::
(nat_lit 186, { cls := Value.type "tuple", data := Data.seq #[] }) ::
(nat_lit 189, { cls := Value.type "code", data := Data.fields #[Value.str (Str.ofString "_law_is_in") 411, Value.str (Str.ofString "_law_is_in") 412, Value.str (Str.ofString "/claim/cut.py") 413, Value.int 86 0, Value.int 3 0, Value.int 0 0, Value.int 0 0, Value.int 3 0, Value.ref 186, Value.bool true, Value.int 181 0, Value.ref 187, Value.none, Value.none, Value.none, Value.ref 188, Value.int 414 0, Value.int 86 0, Value.str (Str.ofString "/claim/cut.py") 415] }) ::
(nat_lit 190, { cls := Value.type "function", data := Data.func { name := Str.ofString "_law_is_in", qualname := Str.ofString "_law_is_in", params := xp15, body := FuncBody.stmts xb15, scope := xs15, globals := 3, closure := [], defaults := Value.none, kwdefaults := Value.none, pyModule := Value.str (Str.ofString "law_pq0109_01") 394, code := Value.ref 189 } }) ::
(nat_lit 191, { cls := Value.type "tuple", data := Data.seq #[] }) ::
(nat_lit 194, { cls := Value.type "code", data := Data.fields #[Value.str (Str.ofString "_law_number") 417, Value.str (Str.ofString "_law_number") 418, Value.str (Str.ofString "/claim/cut.py") 419, Value.int 97 0, Value.int 3 0, Value.int 0 0, Value.int 0 0, Value.int 3 0, Value.ref 191, Value.bool true, Value.int 181 0, Value.ref 192, Value.none, Value.none, Value.none, Value.ref 193, Value.int 420 0, Value.int 97 0, Value.str (Str.ofString "/claim/cut.py") 421] }) ::
(nat_lit 195, { cls := Value.type "function", data := Data.func { name := Str.ofString "_law_number", qualname := Str.ofString "_law_number", params := xp16, body := FuncBody.stmts xb16, scope := xs16, globals := 3, closure := [], defaults := Value.none, kwdefaults := Value.none, pyModule := Value.str (Str.ofString "law_pq0109_01") 394, code := Value.ref 194 } }) ::
(nat_lit 196, { cls := Value.type "tuple", data := Data.seq #[] }) ::
(nat_lit 199, { cls := Value.type "code", data := Data.fields #[Value.str (Str.ofString "_law_drawn") 423, Value.str (Str.ofString "_law_drawn") 424, Value.str (Str.ofString "/claim/cut.py") 425, Value.int 99 0, Value.int 3 0, Value.int 0 0, Value.int 0 0, Value.int 3 0, Value.ref 196, Value.bool true, Value.int 181 0, Value.ref 197, Value.none, Value.none, Value.none, Value.ref 198, Value.int 426 0, Value.int 99 0, Value.str (Str.ofString "/claim/cut.py") 427] }) ::
(nat_lit 200, { cls := Value.type "function", data := Data.func { name := Str.ofString "_law_drawn", qualname := Str.ofString "_law_drawn", params := xp17, body := FuncBody.stmts xb17, scope := xs17, globals := 3, closure := [], defaults := Value.none, kwdefaults := Value.none, pyModule := Value.str (Str.ofString "law_pq0109_01") 394, code := Value.ref 199 } }) ::
(nat_lit 201, { cls := Value.type "tuple", data := Data.seq #[] }) ::
(nat_lit 203, { cls := Value.type "tuple", data := Data.seq #[Value.str (Str.ofString "sets") 432, Value.str (Str.ofString "term") 433, Value.str (Str.ofString "env") 434] }) ::
(nat_lit 204, { cls := Value.type "tuple", data := Data.seq #[] }) ::
(nat_lit 206, { cls := Value.type "code", data := Data.fields #[Value.str (Str.ofString "_law_is_refused") 429, Value.str (Str.ofString "_law_is_refused") 430, Value.str (Str.ofString "/claim/cut.py") 431, Value.int 105 0, Value.int 3 0, Value.int 0 0, Value.int 0 0, Value.int 3 0, Value.ref 201, Value.bool true, Value.int 181 0, Value.ref 202, Value.none, Value.ref 203, Value.ref 204, Value.ref 205, Value.int 435 0, Value.int 105 0, Value.str (Str.ofString "/claim/cut.py") 436] }) ::
(nat_lit 207, { cls := Value.type "function", data := Data.func { name := Str.ofString "_law_is_refused", qualname := Str.ofString "_law_is_refused", params := xp18, body := FuncBody.stmts xb18, scope := xs18, globals := 3, closure := [], defaults := Value.none, kwdefaults := Value.none, pyModule := Value.str (Str.ofString "law_pq0109_01") 394, code := Value.ref 206 } }) ::
(nat_lit 208, { cls := Value.type "tuple", data := Data.seq #[] }) ::
(nat_lit 211, { cls := Value.type "code", data := Data.fields #[Value.str (Str.ofString "law") 438, Value.str (Str.ofString "law") 439, Value.str (Str.ofString "/claim/cut.py") 440, Value.int 111 0, Value.int 1 0, Value.int 0 0, Value.int 0 0, Value.int 3 0, Value.ref 208, Value.bool true, Value.int 181 0, Value.ref 209, Value.none, Value.none, Value.none, Value.ref 210, Value.int 441 0, Value.int 111 0, Value.str (Str.ofString "/claim/cut.py") 442] }) ::
(nat_lit 212, { cls := Value.type "function", data := Data.func { name := Str.ofString "law", qualname := Str.ofString "law", params := xp19, body := FuncBody.stmts xb19, scope := xs19, globals := 3, closure := [], defaults := Value.none, kwdefaults := Value.none, pyModule := Value.str (Str.ofString "law_pq0109_01") 394, code := Value.ref 211 } }) :: [] : List (Nat × Obj))
  case h =>
    dsimp only [topB, PySem.Challenge.pw_pq0109_01, hdS, tlS, clB, fnP, fnB, fnS]
    rfl
/-- the statements that the walk asks -/
noncomputable def viewSrc : List Stmt := [hdS topB, hdS (tlS (tlS topB)), hdS (tlS (tlS (tlS topB))), hdS (tlS (tlS (tlS (tlS topB)))), hdS (tlS (tlS (tlS (tlS (tlS (tlS topB)))))), hdS (tlS (tlS (tlS (tlS (tlS (tlS (tlS topB))))))), hdS (tlS (tlS (tlS (tlS (tlS (tlS (tlS (tlS topB)))))))), hdS (tlS (tlS (tlS (tlS (tlS (tlS (tlS (tlS (tlS (tlS topB)))))))))), hdS (tlS (tlS (tlS (tlS (tlS (tlS (tlS (tlS (tlS (tlS (tlS (tlS topB)))))))))))), hdS (tlS (tlS (tlS (tlS (tlS (tlS (tlS (tlS (tlS (tlS (tlS (tlS (tlS topB))))))))))))), hdS (tlS (tlS (tlS (tlS (tlS (tlS (tlS (tlS (tlS (tlS (tlS (tlS (tlS (tlS topB)))))))))))))), hdS (tlS (tlS (tlS (tlS (tlS (tlS (tlS (tlS (tlS (tlS (tlS (tlS (tlS (tlS (tlS topB))))))))))))))), hdS (tlS (tlS (tlS (tlS (tlS (tlS (tlS (tlS (tlS (tlS (tlS (tlS (tlS (tlS (tlS (tlS (tlS topB))))))))))))))))), hdS (tlS (tlS (tlS (tlS (tlS (tlS (tlS (tlS (tlS (tlS (tlS (tlS (tlS (tlS (tlS (tlS (tlS (tlS topB)))))))))))))))))), hdS (tlS (tlS (tlS (tlS (tlS (tlS (tlS (tlS (tlS (tlS (tlS (tlS (tlS (tlS (tlS (tlS (tlS (tlS (tlS topB))))))))))))))))))), hdS (tlS (tlS (tlS (tlS (tlS (tlS (tlS (tlS (tlS (tlS (tlS (tlS (tlS (tlS (tlS (tlS (tlS (tlS (tlS (tlS topB)))))))))))))))))))), hdS (tlS (tlS (tlS (tlS (tlS (tlS (tlS (tlS (tlS (tlS (tlS (tlS (tlS (tlS (tlS (tlS (tlS (tlS (tlS (tlS (tlS topB))))))))))))))))))))), hdS (tlS (tlS (tlS (tlS (tlS (tlS (tlS (tlS (tlS (tlS (tlS (tlS (tlS (tlS (tlS (tlS (tlS (tlS (tlS (tlS (tlS (tlS topB)))))))))))))))))))))), hdS (tlS (tlS (tlS (tlS (tlS (tlS (tlS (tlS (tlS (tlS (tlS (tlS (tlS (tlS (tlS (tlS (tlS (tlS (tlS (tlS (tlS (tlS (tlS topB)))))))))))))))))))))))]
noncomputable def viewB : List Stmt := by
  refine' (?f : (x : List Stmt) → viewSrc = x → List Stmt) _ ?h
  case f => exact fun x _ => x
  case h =>
    delta viewSrc
    dsimp only [topB, PySem.Challenge.pw_pq0109_01, hdS, tlS]
    rfl
noncomputable def hd.view_39 : Program := { PySem.Challenge.pw_pq0109_01 with main := { PySem.Challenge.pw_pq0109_01.main with body := viewB } }
noncomputable abbrev LV : List (Str × WData) := [(Str.ofString "A", WData.tuple [WData.str { cps := #[63, 97] }]), (Str.ofString "B", WData.tuple [WData.str { cps := #[63, 98] }]), (Str.ofString "C", WData.tuple [WData.str { cps := #[63, 99] }])]
noncomputable abbrev LO3 : List Str := [Str.ofString "A", Str.ofString "B", Str.ofString "C"]
noncomputable abbrev AS : List Nat := [2, 3, 15, 17, 18, 20, 21, 22, 25, 30, 31, 33, 34, 36, 37, 38, 40, 41, 43, 44, 45, 46, 47, 48, 51, 58, 59, 60, 63, 70, 71, 72, 75, 77, 78, 80, 81, 82, 85, 86, 87, 90, 91, 99, 102, 103, 104, 106, 107, 109, 110, 111, 112, 113, 114, 115, 118, 119, 120, 125, 127, 128, 130, 131, 132, 134, 135, 137, 138, 146, 148, 149, 151, 152, 153, 155, 156, 158, 159, 160, 163, 164, 165, 166, 167, 168, 169, 172, 174, 175, 177, 178, 179, 181, 182, 184, 185, 186, 189, 190, 191, 194, 195, 196, 199, 200, 201, 203, 204, 206, 207, 208, 211, 212]
theorem AS_eq (P : Params) : AS = (hd.heap_39 P).map (·.1) := by kernel_rfl
noncomputable abbrev HK : Hook := kHook hd.heap_39 AS AS_eq
noncomputable abbrev XT : Shared → Bool := fun s => xlAt hd.view_39 LV s && recOk (RowW.records PySem.Challenge.rw_pq0109_01.row.toRowW) s
noncomputable abbrev EE (w : World) : Prop := (openEnds treeTable PySem.Challenge.rw_pq0109_01.row.prog w 3594).map (fun s => (openSeen hd.view_39 LO3 (importedModules PySem.Challenge.rw_pq0109_01.row.prog.main.body) XT true s, Hook.obs HK s)) = some (openGood hd.view_39 LO3, Hook.val HK w)
set_option maxHeartbeats 0
open PySem.W.Fast in
/-- the library's quick twins of topRun, start, importEnds, fenceModules?, nsMap, openSeen, treeTable -/
theorem left_f (w : World) : EE (w.withFollow "special-get-raises" false) := by
  show Option.map _ (openEnds _ _ _ _) = _
  delta openEnds fencedOpening topFrom staticsOk namesBound laidKept
  rw [te14082659384304107361, te1435165496053646825, te10274390034422433532, te14289696077712309145, te8920871248978507458, te4187177175401517315, te14364793385576792824]
  kernel_rfl
open PySem.W.Fast in
theorem left_t (w : World) : EE (w.withFollow "special-get-raises" true) := by
  show Option.map _ (openEnds _ _ _ _) = _
  delta openEnds fencedOpening topFrom staticsOk namesBound laidKept
  rw [te14082659384304107361, te1435165496053646825, te10274390034422433532, te14289696077712309145, te8920871248978507458, te4187177175401517315, te14364793385576792824]
  kernel_rfl
theorem left0 : LeftO PySem.Challenge.rw_pq0109_01.row.prog hd.view_39 LO3 XT (Hook.obs HK) (Hook.val HK) 3594 := byRow2 "special-get-raises" left_f left_t
theorem said0 : OpenLaw.wellSaid PySem.Challenge.rw_pq0109_01 = true := by kernel_rfl
end Mine
section
local macro_rules | `(tactic| walk_at $s:str) => `(tactic| k_extra $s)
local macro_rules | `(tactic| ktr_rel) => `(tactic| k_extra "h rel")
local macro_rules | `(tactic| ktr_units) => `(tactic| k_extra "h units")
local macro_rules | `(tactic| k_all) => `(tactic| k_extra "h all")
local macro_rules | `(tactic| k_inst) => `(tactic| k_extra "h inst")
local macro_rules | `(tactic| kt_len) => `(tactic| k_extra "h ktlen")
local macro_rules | `(tactic| k_ne) => `(tactic| k_extra "h ne")
section
open PySem PySem.W PySem.Spec PySem.Calls PyProof.Rows
set_option maxRecDepth 100000
namespace Mine

noncomputable abbrev PR : Program := PySem.Challenge.rw_pq0109_01.row.prog
noncomputable abbrev LO : List Str := looseW hd.view_39 [Str.ofString "A", Str.ofString "B", Str.ofString "C"]

/-- all that stood stands -/
noncomputable abbrev Kept (h h' : Heap) : Prop := ∀ b o, h.get? b = some o → h'.get? b = some o

theorem Kept.trans {h h' h'' : Heap} (a : Kept h h') (b : Kept h' h'') : Kept h h'' := fun x o e => b x o (a x o e)
theorem Kept.refl (h : Heap) : Kept h h := fun _ _ e => e

/-- a frame's map with one name turned -/
noncomputable abbrev mset (x : Str) (v : Value) (m : Str → Option Value) : Str → Option Value := fun y => if y = x then some v else m y
theorem storeX_U {M : Model} {A : Around} {E : Value → Shared → Prop} {s : Shared} {cn : Str} {cs : Scope} {L a : Addr} {ccd : Value} {cl : List (Str × Addr)} {h₀ : Heap} {m : Str → Option Value} {news : List (Addr × Obj)} {x : Str} {v : Value} {Q : Unit → Shared → Prop} (F : Fr h₀ L s.heap m) (N : News h₀ L s.heap news)
    (h : ∀ h', Fr h₀ L h' (mset x v m) → News h₀ L h' news → Q () { s with heap := h', toks := s.toks + 1 })
    (hk : cs.kind = .function) (hx : (envX cn cs L a ccd cl).kindOf x = some .local) : wpAny M A (storeName (envX cn cs L a ccd cl) x v) Q E s := storeX_L F N h hk hx
/-- a post as a letter -/
theorem post_abs {α : Type} {M : Model} {A : Around} {t : Sem α} {Q : α → Shared → Prop} {E : Value → Shared → Prop} {s : Shared} (h : ∀ R E', (∀ f s', Q f s' → R f s') → wpAny M A t R E' s) : wpAny M A t Q E s := h Q E fun _ _ x => x
/-- a def may be called here -/
noncomputable def Cal (w : World) (mean : ExcName → Option Value) (mg mb : Str → Option Value) (A : Around) (s : Shared) : Prop :=
  ∃ (A₀ : Around) (base h₀ : Heap) (outer : List Env) (L : Addr) (m : Str → Option Value) (env : Env),
    Below A₀ base outer h₀ ∧ Fr h₀ L s.heap m ∧ (hd.heap_39 w.params).In h₀ ∧ Top hd.view_39 LO mean mg mb h₀ ∧ A.frames = some (env :: outer) ∧ env.frame = some L ∧ env.scope.kind = .function ∧ A.handled = none

section
variable {w : World} {mean : ExcName → Option Value} {mg mb : Str → Option Value} {A : Around} {s : Shared}

theorem Cal.mk {A₀ : Around} {base h₀ : Heap} {outer : List Env} {L : Addr} {m : Str → Option Value} {env : Env} (B : Below A₀ base outer h₀) (F : Fr h₀ L s.heap m) (X : (hd.heap_39 w.params).In h₀) (T : Top hd.view_39 LO mean mg mb h₀)
    (hA : A.frames = some (env :: outer)) (hf : env.frame = some L) (hk : env.scope.kind = .function) (hh : A.handled = none) : Cal w mean mg mb A s := ⟨A₀, base, h₀, outer, L, m, env, B, F, X, T, hA, hf, hk, hh⟩
theorem Cal.keeps {s' : Shared} (C : Cal w mean mg mb A s) (k : Kept s.heap s'.heap) : Cal w mean mg mb A s' := by
  obtain ⟨A₀, base, h₀, outer, L, m, env, B, F, r⟩ := C
  exact ⟨A₀, base, h₀, outer, L, m, env, B, F.keeps k, r⟩
theorem Cal.K (C : Cal w mean mg mb A s) : (hd.heap_39 w.params).In s.heap := by
  obtain ⟨A₀, base, h₀, outer, L, m, env, B, F, X, r⟩ := C
  exact X.keeps F.keep

/-- the end of a call that changes nothing that stood -/
noncomputable def PEnd (g : Heap) (Q : Value → Shared → Prop) (fl : Flow) (s' : Shared) : Prop :=
  ∃ L' m', Fr g L' s'.heap m' ∧ Q (match fl with | .ret v => v | _ => .none) s'

/-- the way out by a raise -/
noncomputable abbrev PExc (prog : Program) (w : World) (A : Around) (env : Env) (E : Value → Shared → Prop) (e : Value) (s' : Shared) : Prop :=
  wpAny (model prog w) (A.deeper env) (leaving env e) (fun _ s'' => E e s'') (fun e' s'' => E e' s'') s'

theorem enterP {Q E : Value → Shared → Prop} {name qual : Str} {params : Arguments} {body : List Stmt} {scope : Scope} {dV kV doc pm cdv ct oc : Value} {an od : Option Addr} {osl : Array (Option Value)} {f : Addr} {args : List Value} {binds : List (Str × Value)}
    (C : Cal w mean mg mb A s)
    (ho : (hd.heap_39 w.params).lookup f = some ⟨oc, od, .func (fnOf name qual params body scope dV kV doc pm an cdv ct), osl⟩) (hcd : codeIn (hd.heap_39 w.params) cdv qual = true) (hroom : A.depth < recursionLimit)
    (hbind : BindsTo s (fnOf name qual params body scope dV kV doc pm an cdv ct) ⟨args, []⟩ binds) (hloc : ∀ y ∈ binds, scope.names.lookup y.1 = some .local)
    (h : ∀ L' h₁ base outer, Fr s.heap L' h₁ (fun y => binds.reverse.lookup y) → News s.heap L' h₁ [] → Below A base outer s.heap → (hd.heap_39 w.params).In s.heap → Top hd.view_39 LO mean mg mb s.heap → A.handled = none →
      wpAny (model PR w) (A.deeper (envOf qual scope L' f cdv)) (execs body (envOf qual scope L' f cdv)) (PEnd s.heap Q) (PExc PR w A (envOf qual scope L' f cdv) E)
        { s with heap := h₁, toks := s.toks + binds.length })
    (hco : scope.isCoroutine = false) (hgen : scope.isGenerator = false) (hk : scope.kind = .function) (hcell : ∀ x ∈ scope.names, x.2 ≠ .cell) :
    wpAny (model PR w) A (call (.ref f) args) Q E s := by
  obtain ⟨A₀, base, h₀, outer, L, m, env, B, F, X, T, hA, hf, hke, hh⟩ := C
  refine wpAny_call ?_
  have X' := X.keeps F.keep
  have T' : Top hd.view_39 LO mean mg mb s.heap := T.keeps F.keep
  have FG : Below A base (env :: outer) s.heap := by
    have B₁ := pushX B F hf hke
    exact ⟨hA, B₁.stays, B₁.frames⟩
  refine codeAny_call_def (fd := fnX name qual params body scope [] dV kV doc pm an cdv ct) (body := body) (binds := binds) hroom (X' _ _ ho) rfl T'.nolimit (codeRec_of X' hcd) rfl hbind hcell hloc (fun h₁ hns hk₁ => ?_) hco hgen hk
  exact wpAny_mono (h s.heap.objs.size h₁ base (env :: outer) ⟨hns, hk₁, Nat.le_refl _⟩ News.nil FG X' T' hh) (fun fl s' hl => by
    obtain ⟨_, _, _, q⟩ := hl
    exact q) fun _ _ y => y

theorem enterC {Q E : Value → Shared → Prop} {name qual : Str} {params : Arguments} {body : List Stmt} {scope : Scope} {dV kV doc pm cdv ct oc : Value} {an od : Option Addr} {osl : Array (Option Value)} {f : Addr} {args : List Value} {binds : List (Str × Value)}
    (C : Cal w mean mg mb A s)
    (ho : (hd.heap_39 w.params).lookup f = some ⟨oc, od, .func (fnOf name qual params body scope dV kV doc pm an cdv ct), osl⟩) (hcd : codeIn (hd.heap_39 w.params) cdv qual = true) (hroom : A.depth < recursionLimit)
    (hbind : BindsTo s (fnOf name qual params body scope dV kV doc pm an cdv ct) ⟨args, []⟩ binds) (hkind : (binds.all fun y => scope.names.lookup y.1 == some .local || scope.names.lookup y.1 == some .cell) = true)
    (hnd : ((cellsFrom 0 scope.names []).map (·.1)).Nodup)
    (h : ∀ L' h₁ tk cells base outer, Fr s.heap L' h₁ (bindL (envOfC qual scope L' f cdv).kindOf binds fun _ => none) → News s.heap L' h₁ cells →
      CellsAre (bindC (envOfC qual scope L' f cdv).kindOf binds fun _ => none) (cellsFrom (L' + 1) scope.names []) cells →
      Below A base outer s.heap → (hd.heap_39 w.params).In s.heap → Top hd.view_39 LO mean mg mb s.heap → A.handled = none →
      wpAny (model PR w) (A.deeper (envOfC qual scope L' f cdv)) (execs body (envOfC qual scope L' f cdv)) (PEnd s.heap Q) (PExc PR w A (envOfC qual scope L' f cdv) E)
        { s with heap := h₁, toks := tk })
    (hco : scope.isCoroutine = false) (hgen : scope.isGenerator = false) (hk : scope.kind = .function) :
    wpAny (model PR w) A (call (.ref f) args) Q E s := by
  obtain ⟨A₀, base, h₀, outer, L, m, env, B, F, X, T, hA, hf, hke, hh⟩ := C
  refine wpAny_call ?_
  have X' := X.keeps F.keep
  have T' : Top hd.view_39 LO mean mg mb s.heap := T.keeps F.keep
  have BG : Below A base (env :: outer) s.heap := by
    have B₁ := pushX B F hf hke
    exact ⟨hA, B₁.stays, B₁.frames⟩
  refine codeAny_call_function (fd := fnX name qual params body scope [] dV kV doc pm an cdv ct) hroom (X' _ _ ho) rfl hco hgen rfl (codeRec_of X' hcd) (hbind _ _ _ _ ?_)
  refine wpAny_newFunctionEnv_cells hk (kindsX hkind _) fun env' he s' x => ?_
  subst he
  refine ⟨T'.nolimit.keeps x.toInCall.keep, codeAny_func ?_⟩
  obtain ⟨h₁, tk, rfl, _⟩ := x.done
  have hk₁ := x.toInCall.keep
  obtain ⟨cells, NC, Y⟩ := Cl.news (h₀ := s.heap) (Nat.le_refl _) fun n c hm => ⟨x.cell n c (lookup_of_mem_nodup (cellsFrom_names scope.names 0 (s.heap.objs.size + 1) [] [] rfl ▸ hnd) hm), x.above n c hm⟩
  exact wpAny_mono (h s.heap.objs.size h₁ tk cells base (env :: outer) ⟨x.toInCall.ns, hk₁, Nat.le_refl _⟩ NC Y BG X' T' hh) (fun fl s' hl => by
    obtain ⟨_, _, _, q⟩ := hl
    exact q) fun _ _ y => y
end

/-- the tools' own look at the top, once a file -/
theorem look_once : hd.heap_39 = hd.heap_39 ∧ PySem.Challenge.rw_pq0109_01 = PySem.Challenge.rw_pq0109_01 := by
  k_fill
  exact ⟨rfl, rfl⟩
end Mine
end
section
open PySem PySem.W PySem.Spec PySem.Calls PyProof.Rows PySem.SeqAt
set_option maxRecDepth 100000
namespace Mine
theorem IsTup.det {h : Heap} {a : Addr} {i j : Array Value} (x : IsTup h a i) (y : IsTup h a j) : i = j := by
  obtain ⟨o, ho, _, n, hn⟩ := x
  obtain ⟨o', ho', _, n', hn'⟩ := y
  rw [ho] at ho'; cases ho'
  rw [hn] at hn'; cases hn'; rfl

section
variable {A : Around} {s : Shared}
theorem rc_one {a b : Addr} {x y : Str} {t u : Tok} {r : List Value} (ha : IsTup s.heap a (.str x t :: r).toArray) (hb : IsTup s.heap b #[.str y u]) (hu : A.units < cLine) :
    RcAt A s (.ref a) (.ref b) (x == y && r.isEmpty) := by
  have q := RcAt.tuples (A := A) (s := s) (e := fun _ => x == y) ha hb hu (fun j h1 h2 => by
    have : j = 0 := by simp at h2; omega
    subst this
    exact EqAt.str_str x t y u)
  have e : ((List.range (min (.str x t :: r).toArray.size (#[Value.str y u]).size)).all (fun _ => x == y) && (.str x t :: r).toArray.size == (#[Value.str y u]).size) = (x == y && r.isEmpty) := by
    cases r <;> simp
  rw [e] at q
  exact q
theorem rc_one' {a b : Addr} {x y : Str} {t u : Tok} {r : List Value} (ha : IsTup s.heap a #[.str x t]) (hb : IsTup s.heap b (.str y u :: r).toArray) (hu : A.units < cLine) :
    RcAt A s (.ref a) (.ref b) (x == y && r.isEmpty) := by
  have q := RcAt.tuples (A := A) (s := s) (e := fun _ => x == y) ha hb hu (fun j h1 h2 => by
    have : j = 0 := by simp at h1; omega
    subst this
    exact EqAt.str_str x t y u)
  have e : ((List.range (min (#[Value.str x t]).size (.str y u :: r).toArray.size)).all (fun _ => x == y) && (#[Value.str x t]).size == (.str y u :: r).toArray.size) = (x == y && r.isEmpty) := by
    cases r <;> simp
  rw [e] at q
  exact q
theorem eq_one_at {a b : Addr} {x y : Str} {t u : Tok} {r : List Value} (ha : IsTup s.heap a #[.str x t]) (hb : IsTup s.heap b (.str y u :: r).toArray) (hu : A.units < cLine) :
    EqAt A s (.ref a) (.ref b) (x == y && r.isEmpty) := by
  by_cases e : a = b
  · subst e
    have q := IsTup.det ha hb
    simp at q
    obtain ⟨⟨rfl, _⟩, rfl⟩ := q
    simpa using EqAt.same (A := A) (s := s) (.ref a)
  · exact EqAt.of_refs e (rc_one' ha hb hu)
theorem eq_pair_at {a b : Addr} {x y : Str} {t u t' u' : Tok} {n m : Int} (ha : IsTup s.heap a #[.str x t, .int n t']) (hb : IsTup s.heap b #[.str y u, .int m u']) (hu : A.units < cLine) :
    EqAt A s (.ref a) (.ref b) (x == y && n == m) := by
  by_cases e : a = b
  · subst e
    have q := IsTup.det ha hb
    simp at q
    obtain ⟨⟨rfl, _⟩, rfl, _⟩ := q
    simpa using EqAt.same (A := A) (s := s) (.ref a)
  · have q := RcAt.tuples (A := A) (s := s) (e := fun j => if j = 0 then x == y else n == m) ha hb hu (fun j h1 h2 => by
      have : j = 0 ∨ j = 1 := by simp at h1; omega
      rcases this with rfl | rfl
      · exact EqAt.str_str x t y u
      · exact EqAt.int_int n t' m u')
    have e' : ((List.range (min (#[Value.str x t, Value.int n t']).size (#[Value.str y u, Value.int m u']).size)).all (fun j => if j = 0 then x == y else n == m) && (#[Value.str x t, Value.int n t']).size == (#[Value.str y u, Value.int m u']).size) = (x == y && n == m) := by
      have : List.range (min (#[Value.str x t, Value.int n t']).size (#[Value.str y u, Value.int m u']).size) = [0, 1] := rfl
      rw [this]; simp
    rw [e'] at q
    exact EqAt.of_refs e q
end

section
variable {prog : Program} {w : World} {A : Around} {E : Value → Shared → Prop} {s : Shared}
/-- a term against a written tuple of one text -/
theorem eq_one {a b : Addr} {x y : Str} {t u : Tok} {r : List Value} {c : Bool} {Q : Value → Shared → Prop} (ha : IsTup s.heap a (.str x t :: r).toArray) (hb : IsTup s.heap b #[.str y u]) (hu : A.units < cLine)
    (e : (x == y && r.isEmpty) = c) (h : Q (.bool c) s) : wpAny (model prog w) A (compareOp .Eq (.ref a) (.ref b)) Q E s := by
  subst e
  exact rc_one ha hb hu prog w E Q h
theorem in_two {a d d1 d2 : Addr} {x y z : Str} {t u v : Tok} {r : List Value} {c : Bool} {Q : Value → Shared → Prop} (hd : IsTup s.heap d #[.ref d1, .ref d2]) (h1 : IsTup s.heap d1 #[.str y u]) (h2 : IsTup s.heap d2 #[.str z v])
    (ha : IsTup s.heap a (.str x t :: r).toArray) (hu : A.units + 1 < cLine)
    (e : ((x == y || x == z) && r.isEmpty) = c) (h : Q (.bool c) s) : wpAny (model prog w) A (compareOp .In (.ref a) (.ref d)) Q E s := by
  have q1 := eq_one_at (A := A.in1) h1 ha hu
  have q2 := eq_one_at (A := A.in1) h2 ha hu
  by_cases e12 : d1 = d2
  · subst e12
    have := IsTup.det h1 h2; simp at this; obtain ⟨rfl, _⟩ := this
    refine in_tupleAt (fun _ => y == x && r.isEmpty) hd (fun v hv => ?_) ?_
    · simp at hv; subst hv; exact q1
    · have : (#[Value.ref d1, Value.ref d1]).any (fun _ => y == x && r.isEmpty) = c := by
        rw [← e, List.any_toArray]
        simp only [List.any_cons, List.any_nil, Bool.or_self, Bool.or_false]
        rw [BEq.comm]
      rw [this]; exact h
  · refine in_tupleAt (fun v => if v = .ref d1 then (y == x && r.isEmpty) else (z == x && r.isEmpty)) hd (fun v hv => ?_) ?_
    · simp at hv
      rcases hv with rfl | rfl
      · rw [if_pos rfl]; exact q1
      · rw [if_neg (fun q => e12 (by injection q with q; exact q.symm))]; exact q2
    · have : (#[Value.ref d1, Value.ref d2]).any (fun v => if v = .ref d1 then (y == x && r.isEmpty) else (z == x && r.isEmpty)) = c := by
        rw [← e, List.any_toArray]
        simp only [List.any_cons, List.any_nil, Bool.or_false, if_true]
        rw [if_neg (fun q => e12 (by injection q with q; exact q.symm))]
        rw [BEq.comm (a := x) (b := y), BEq.comm (a := x) (b := z)]
        cases (y == x) <;> cases (z == x) <;> cases r.isEmpty <;> rfl
      rw [this]; exact h
theorem notIn_four {a d d1 d2 d3 d4 : Addr} {x y1 y2 y3 y4 : Str} {t t' u1 u2 u3 u4 v1 v2 v3 v4 : Tok} {n m1 m2 m3 m4 : Int} {c : Bool} {Q : Value → Shared → Prop} (hd : IsTup s.heap d #[.ref d1, .ref d2, .ref d3, .ref d4])
    (h1 : IsTup s.heap d1 #[.str y1 u1, .int m1 v1]) (h2 : IsTup s.heap d2 #[.str y2 u2, .int m2 v2]) (h3 : IsTup s.heap d3 #[.str y3 u3, .int m3 v3]) (h4 : IsTup s.heap d4 #[.str y4 u4, .int m4 v4])
    (ha : IsTup s.heap a #[.str x t, .int n t']) (hu : A.units + 1 < cLine)
    (e : (!((y1 == x && m1 == n) || (y2 == x && m2 == n) || (y3 == x && m3 == n) || (y4 == x && m4 == n))) = c) (h : Q (.bool c) s) : wpAny (model prog w) A (compareOp .NotIn (.ref a) (.ref d)) Q E s := by
  have q1 := eq_pair_at (A := A.in1) h1 ha hu
  have q2 := eq_pair_at (A := A.in1) h2 ha hu
  have q3 := eq_pair_at (A := A.in1) h3 ha hu
  have q4 := eq_pair_at (A := A.in1) h4 ha hu
  let f : Value → Bool := fun v => if v = .ref d1 then (y1 == x && m1 == n) else if v = .ref d2 then (y2 == x && m2 == n) else if v = .ref d3 then (y3 == x && m3 == n) else (y4 == x && m4 == n)
  have g1 : f (.ref d1) = (y1 == x && m1 == n) := if_pos rfl
  have key : ∀ {p q : Addr} {z z' : Str} {k k' : Int} {b b' c c' : Tok}, p = q → IsTup s.heap p #[.str z b, .int k c] → IsTup s.heap q #[.str z' b', .int k' c'] → (z == x && k == n) = (z' == x && k' == n) := by
    intro p q z z' k k' b b' c c' e a1 a2
    subst e
    have := IsTup.det a1 a2; simp at this; obtain ⟨⟨rfl, _⟩, rfl, _⟩ := this; rfl
  have g2 : f (.ref d2) = (y2 == x && m2 == n) := by
    show (if Value.ref d2 = .ref d1 then _ else if Value.ref d2 = .ref d2 then _ else _) = _
    split
    · rename_i q; injection q with q; exact key q.symm h1 h2
    · rw [if_pos rfl]
  have g3 : f (.ref d3) = (y3 == x && m3 == n) := by
    show (if Value.ref d3 = .ref d1 then _ else if Value.ref d3 = .ref d2 then _ else if Value.ref d3 = .ref d3 then _ else _) = _
    split
    · rename_i q; injection q with q; exact key q.symm h1 h3
    · split
      · rename_i q; injection q with q; exact key q.symm h2 h3
      · rw [if_pos rfl]
  have g4 : f (.ref d4) = (y4 == x && m4 == n) := by
    show (if Value.ref d4 = .ref d1 then _ else if Value.ref d4 = .ref d2 then _ else if Value.ref d4 = .ref d3 then _ else _) = _
    split
    · rename_i q; injection q with q; exact key q.symm h1 h4
    · split
      · rename_i q; injection q with q; exact key q.symm h2 h4
      · split
        · rename_i q; injection q with q; exact key q.symm h3 h4
        · rfl
  refine notIn_tupleAt f hd (fun v hv => ?_) ?_
  · simp at hv
    rcases hv with rfl | rfl | rfl | rfl
    · rw [g1]; exact q1
    · rw [g2]; exact q2
    · rw [g3]; exact q3
    · rw [g4]; exact q4
  · have : (!(#[Value.ref d1, Value.ref d2, Value.ref d3, Value.ref d4]).any f) = c := by
      rw [← e, List.any_toArray]
      simp only [List.any_cons, List.any_nil, Bool.or_false, g1, g2, g3, g4]
      simp only [Bool.or_assoc]
    rw [this]; exact h
end
end Mine
namespace Mine
section
variable {prog : Program} {w : World} {A : Around} {E : Value → Shared → Prop} {s : Shared}
theorem eq_one_t {a b : Addr} {x y : Str} {t u : Tok} {r : List Value} {Q : Value → Shared → Prop} (ha : IsTup s.heap a (.str x t :: r).toArray) (hb : IsTup s.heap b #[.str y u]) (hu : A.units < cLine)
    (e : (x == y && r.isEmpty) = true) (h : Q (.bool true) s) : wpAny (model prog w) A (compareOp .Eq (.ref a) (.ref b)) Q E s := eq_one ha hb hu e h
theorem eq_one_f {a b : Addr} {x y : Str} {t u : Tok} {r : List Value} {Q : Value → Shared → Prop} (ha : IsTup s.heap a (.str x t :: r).toArray) (hb : IsTup s.heap b #[.str y u]) (hu : A.units < cLine)
    (e : (x == y && r.isEmpty) = false) (h : Q (.bool false) s) : wpAny (model prog w) A (compareOp .Eq (.ref a) (.ref b)) Q E s := eq_one ha hb hu e h
theorem in_two_t {a d d1 d2 : Addr} {x y z : Str} {t u v : Tok} {r : List Value} {Q : Value → Shared → Prop} (hd : IsTup s.heap d #[.ref d1, .ref d2]) (h1 : IsTup s.heap d1 #[.str y u]) (h2 : IsTup s.heap d2 #[.str z v])
    (ha : IsTup s.heap a (.str x t :: r).toArray) (hu : A.units + 1 < cLine)
    (e : ((x == y || x == z) && r.isEmpty) = true) (h : Q (.bool true) s) : wpAny (model prog w) A (compareOp .In (.ref a) (.ref d)) Q E s := in_two hd h1 h2 ha hu e h
theorem in_two_f {a d d1 d2 : Addr} {x y z : Str} {t u v : Tok} {r : List Value} {Q : Value → Shared → Prop} (hd : IsTup s.heap d #[.ref d1, .ref d2]) (h1 : IsTup s.heap d1 #[.str y u]) (h2 : IsTup s.heap d2 #[.str z v])
    (ha : IsTup s.heap a (.str x t :: r).toArray) (hu : A.units + 1 < cLine)
    (e : ((x == y || x == z) && r.isEmpty) = false) (h : Q (.bool false) s) : wpAny (model prog w) A (compareOp .In (.ref a) (.ref d)) Q E s := in_two hd h1 h2 ha hu e h
theorem notIn_four_t {a d d1 d2 d3 d4 : Addr} {x y1 y2 y3 y4 : Str} {t t' u1 u2 u3 u4 v1 v2 v3 v4 : Tok} {n m1 m2 m3 m4 : Int} {Q : Value → Shared → Prop} (hd : IsTup s.heap d #[.ref d1, .ref d2, .ref d3, .ref d4])
    (h1 : IsTup s.heap d1 #[.str y1 u1, .int m1 v1]) (h2 : IsTup s.heap d2 #[.str y2 u2, .int m2 v2]) (h3 : IsTup s.heap d3 #[.str y3 u3, .int m3 v3]) (h4 : IsTup s.heap d4 #[.str y4 u4, .int m4 v4])
    (ha : IsTup s.heap a #[.str x t, .int n t']) (hu : A.units + 1 < cLine)
    (e : (!((y1 == x && m1 == n) || (y2 == x && m2 == n) || (y3 == x && m3 == n) || (y4 == x && m4 == n))) = true) (h : Q (.bool true) s) : wpAny (model prog w) A (compareOp .NotIn (.ref a) (.ref d)) Q E s := notIn_four hd h1 h2 h3 h4 ha hu e h
theorem notIn_four_f {a d d1 d2 d3 d4 : Addr} {x y1 y2 y3 y4 : Str} {t t' u1 u2 u3 u4 v1 v2 v3 v4 : Tok} {n m1 m2 m3 m4 : Int} {Q : Value → Shared → Prop} (hd : IsTup s.heap d #[.ref d1, .ref d2, .ref d3, .ref d4])
    (h1 : IsTup s.heap d1 #[.str y1 u1, .int m1 v1]) (h2 : IsTup s.heap d2 #[.str y2 u2, .int m2 v2]) (h3 : IsTup s.heap d3 #[.str y3 u3, .int m3 v3]) (h4 : IsTup s.heap d4 #[.str y4 u4, .int m4 v4])
    (ha : IsTup s.heap a #[.str x t, .int n t']) (hu : A.units + 1 < cLine)
    (e : (!((y1 == x && m1 == n) || (y2 == x && m2 == n) || (y3 == x && m3 == n) || (y4 == x && m4 == n))) = false) (h : Q (.bool false) s) : wpAny (model prog w) A (compareOp .NotIn (.ref a) (.ref d)) Q E s := notIn_four hd h1 h2 h3 h4 ha hu e h
end
end Mine
namespace Mine
section
variable {prog : Program} {w : World} {A : Around} {E : Value → Shared → Prop} {s : Shared}
theorem in_bools {l : Addr} {p q c : Bool} {Q : Value → Shared → Prop} (hl : s.heap.IsList l #[.bool p, .bool q]) (h : Q (.bool (p == c || q == c)) s) : wpAny (model prog w) A (compareOp .In (.bool c) (.ref l)) Q E s := by
  refine in_listAt (fun v => match v with | .bool b => b == c | _ => false) hl (fun v hv => ?_) (by simpa using h)
  simp at hv
  rcases hv with rfl | rfl <;> exact EqAt.bool_bool _ _
theorem notIn_bools {l : Addr} {p q c : Bool} {Q : Value → Shared → Prop} (hl : s.heap.IsList l #[.bool p, .bool q]) (h : Q (.bool (!(p == c || q == c))) s) : wpAny (model prog w) A (compareOp .NotIn (.bool c) (.ref l)) Q E s := by
  refine notIn_listAt (fun v => match v with | .bool b => b == c | _ => false) hl (fun v hv => ?_) (by simpa [Bool.not_or] using h)
  simp at hv
  rcases hv with rfl | rfl <;> exact EqAt.bool_bool _ _
end
end Mine
end
section
open PySem PySem.W PySem.Spec PySem.Calls PyProof.Rows PyProof.Rows.LCg
set_option maxRecDepth 100000
namespace Mine
noncomputable def TupSrc (h₀ : Heap) (ax : Addr) (its : Array Value) (news : List (Addr × Obj)) : Prop := IsTup h₀ ax its ∨ ∃ o, (ax, o) ∈ news ∧ o.cls = .type "tuple" ∧ ∃ n, o.data = .seq its n
theorem TupSrc.tup {h₀ h : Heap} {L ax : Addr} {its : Array Value} {news : List (Addr × Obj)} (x : TupSrc h₀ ax its news) (k : ∀ b o, h₀.get? b = some o → h.get? b = some o) (N : News h₀ L h news) : IsTup h ax its := by
  rcases x with ⟨o, e, r⟩ | ⟨o, hm, r⟩
  · exact ⟨o, k _ _ e, r⟩
  · exact ⟨o, (N _ hm).1, r⟩
theorem tup_st {h₀ : Heap} {L ax I : Addr} {its : Array Value} : ∀ i (h h' : Heap) (o : Obj) (nw : List (Addr × Obj)), (IsTupIter h I ax i ∧ IsTup h ax its) → h.get? I = some o → h'.get? I = some o → (∀ b o, h₀.get? b = some o → h'.get? b = some o) → News h₀ L h' nw → TupSrc h₀ ax its nw → (IsTupIter h' I ax i ∧ IsTup h' ax its) :=
  fun i h h' o nw st e e' k N S => ⟨by obtain ⟨o', q, r⟩ := st.1; rw [e] at q; cases q; exact ⟨o, e', r⟩, S.tup k N⟩

section
variable {prog : Program} {w : World} {A : Around} {E : Value → Shared → Prop} {s : Shared} {h₀ : Heap} {L : Addr} {m : Str → Option Value} {env : Env}
/-- the source of a comprehension is a tuple -/
noncomputable def SrcT (prog : Program) (w : World) (A : Around) (h₀ : Heap) (L : Addr) (m : Str → Option Value) (env : Env) (elt : Expr) (x : Str) (scope : Scope) (cl : List (Str × Addr)) (Fin : Shared → List Value → List (Addr × Obj) → Prop) (xv : Value) (s₁ : Shared) : Prop :=
  ∃ ax its news, xv = .ref ax ∧ A.handled = none ∧ Fr h₀ L s₁.heap m ∧ News h₀ L s₁.heap news ∧ TupSrc h₀ ax its news ∧ its.size ≤ sizeLine ∧
    ∀ s₂ : Shared, (∃ h, s₂ = { s₁ with heap := h }) → CompRest prog w A h₀ L m env elt x scope cl s₂ (TupSrc h₀ ax its) (fun i v => its[i]? = some v) (Fin s₂) its.size 0 [] news
theorem SrcT.ledger {elt : Expr} {x : Str} {scope : Scope} {cl : List (Str × Addr)} {Fin : Shared → List Value → List (Addr × Obj) → Prop} {ax : Addr} {its : Array Value} {k : Nat} {news : List (Addr × Obj)} {s₁ : Shared}
    (hh : A.handled = none) (F : Fr h₀ L s₁.heap m) (N : News h₀ L s₁.heap news) (hm : (ax, ({ cls := .type "tuple", data := .seq its k } : Obj)) ∈ news) (hsz : its.size ≤ sizeLine)
    (h : ∀ g, CompRest prog w A h₀ L m env elt x scope cl { s₁ with heap := g } (TupSrc h₀ ax its) (fun i v => its[i]? = some v) (Fin { s₁ with heap := g }) its.size 0 [] news) :
    SrcT prog w A h₀ L m env elt x scope cl Fin (.ref ax) s₁ := ⟨ax, its, news, rfl, hh, F, N, .inr ⟨_, hm, rfl, _, rfl⟩, hsz, fun _ ⟨g, e⟩ => e ▸ h g⟩

theorem Assign_ListComp_T {elt iter : Expr} {x y : Str} {px py : Pos} {scope : Scope} {cl : List (Str × Addr)} {pos spos : Pos} {Q : Flow → Shared → Prop} (_F₀ : Fr h₀ L s.heap m) (hLe : env.locals = L)
    (hsw : swapsWith (.ListComp elt [⟨.Name x px, iter, [], 0⟩] scope pos) (some (.Name y py)) spos.line env = pure true)
    (hclos : closureFor scope env = pure cl) (hcell : ∀ z ∈ scope.names, z.2 ≠ .cell) (hkind : scope.kind = .function)
    (hnames : ∀ z ∈ scope.names, z.2 = .local → scope.names.lookup z.1 = some .local) (hx : scope.names.lookup x = some .local)
    (hy : env.kindOf y = some .local) (hp : (env.scope.kind == .class || (env.scope.kind == .module && env.locals != env.globals)) = false)
    (h : wpAny (model prog w) A (eval iter env) (SrcT prog w A h₀ L m env elt x scope cl (fun s₂ => FinA h₀ L m s₂ y Q)) E s)
    (hs : ∀ x, foldedSetIterable iter env x = pure x := by intro _; rfl) :
    wpAny (model prog w) A (exec (.Assign [.Name y py] (.ListComp elt [⟨.Name x px, iter, [], 0⟩] scope pos) spos) env) Q E s := by
  subst hLe
  rw [exec_Assign_Name_used _ _ _ _ hsw]
  refine wpAny_bind (wpAny_standAt (wpAny_bind ?_))
  show wpAny _ A (do let _ ← comprehension (.ListComp elt [⟨.Name x px, iter, [], 0⟩] scope pos) scope env _ (newList []) false (eval iter env) (some (assign (.Name y py) env))) _ _ s
  refine wpAny_bind (wpAny_mono (wpAny_comprehension_free (use := some (assign (.Name y py) env)) (Q := fun _ s' => Q .next s') rfl hs hclos hkind hnames
    (wpAny_mono h (fun xv s₁ h₁ => ?_) fun _ _ e => e)) (fun _ s' hq => wpAny_pure (wpAny_pure hq)) fun _ _ e => e)
  obtain ⟨ax, its, news, rfl, hh, F, N, S, hsz, R⟩ := h₁
  have hl := S.tup F.keep N
  have hlt : ax < s₁.heap.objs.size := hl.lt
  refine wpAny_pyIter_tuple hl ?_
  have up : ∀ b o, s₁.heap.get? b = some o → (s₁.heap.push { cls := .type "tuple_iterator", data := .fields #[.ref ax, .int 0 0] }).get? b = some o := fun b o e => Heap.get?_push_of_some _ e
  refine block_U (Walks.tuple hh s₁.heap.objs.size ax (Nat.ne_of_lt hlt) its) hsz (fun i h st => by obtain ⟨o, e, _⟩ := st.1; exact ⟨o, e⟩) tup_st hcell hkind hx ⟨⟨_, Heap.get?_push_size _ rfl, rfl, rfl⟩, hl.push _⟩ (fun b hb => ?_)
    (F.keeps up) (N.grown up) (Nat.ne_of_lt F.ns.lt) (next_is_new F) (fun p hp => Nat.ne_of_lt (Heap.lt_size (N p hp).1)) S (R _ ⟨_, rfl⟩) ?_
  · show b < (s₁.heap.push _).objs.size
    rw [Heap.size_push]
    rcases List.mem_cons.mp hb with rfl | hb
    · exact Nat.lt_succ_self _
    · rw [List.mem_singleton.mp hb]; exact Nat.lt_succ_of_lt hlt
  · intro D C h' tk m' ys news' F' N' o1 hn hC₀ hD₀ hCL hDL hCD offC fin
    show wpAny _ A (assign (.Name y py) env (.ref D)) _ _ _
    refine wpAny_assign_Name (wpAny_storeName_local hy F'.ns (fun h₂ hn₂ hs₂ => ?_) hp)
    have hL₀ : h₀.get? env.locals = none := Heap.get?_none_of_le F'.above
    have F₂ : Fr h₀ env.locals h₂ (fun z => if z = y then some (.ref D) else m z) := ⟨hn₂, fun b o e => hs₂.extBut b o (fun q => by rw [q, hL₀] at e; cases e) (F'.keep b o e), F'.above⟩
    refine ⟨m', hn.sameBut hs₂ hCL, fun h'' hs'' => fin D h'' _ (F₂.change hs'' hCL hC₀) (fun p hp => ?_) o1⟩
    have z : h₂.get? p.1 = some p.2 := hs₂.extBut _ _ (N' p hp).2.1 (N' p hp).1
    refine ⟨hs''.extBut _ _ ?_ z, (N' p hp).2⟩
    rcases List.mem_cons.mp hp with rfl | hp
    · exact Ne.symm hCD
    · exact offC p hp
end
end Mine
namespace Mine
section
variable {prog : Program} {w : World} {A : Around} {E : Value → Shared → Prop} {s : Shared} {h₀ : Heap} {L : Addr} {m : Str → Option Value} {news : List (Addr × Obj)}
/-- t[1:] of a tuple -/
theorem tail_slice {value slice : Expr} {t : Addr} {x : Value} {l : List Value} {u : Tok} {Q : Value → Shared → Prop}
    (F : Fr h₀ L s.heap m) (N : News h₀ L s.heap news) (ht : IsTup s.heap t (x :: l).toArray) (hz : l.length < 1000)
    (h : ∀ D h', Fr h₀ L h' m → News h₀ L h' ((D, { cls := .type "tuple", data := .seq l.toArray }) :: news) → (∀ p ∈ news, p.1 < D) → Q (.ref D) { s with heap := h' })
    (hs : subscripted slice false (.ref t) (.ref s.heap.objs.size) = operate [.ref s.heap.objs.size, .ref t] (getItem (.ref t) (.ref s.heap.objs.size)))
    (hg : ∀ r, letTemporaryGo value (.ref t) r = pure ()) :
    wpAny (model prog w) A (subscriptTail value slice (.ref t) (.ref s.heap.objs.size)) Q E { s with heap := s.heap.push { cls := .type "slice", data := .fields #[.int 1 u, .none, .none] } } :=
  slice_tuple_from (a := 1) F N ht (Nat.le_refl _) (by simp) (fun h' F' N' => h _ h' F' (by simpa using N') (fun p hp => Nat.lt_succ_of_lt (Heap.lt_size (N p hp).1))) hs hg (by simp only [List.size_toArray, List.length_cons]; exact Nat.le_trans (Nat.succ_le_of_lt (Nat.lt_succ_of_lt hz)) (by rw [sizeLine_eq]; decide))
end
end Mine
namespace Mine
/-- only the last two entries of a ledger -/
theorem News.last2 {h₀ h : Heap} {L : Addr} {news : List (Addr × Obj)} (N : News h₀ L h news) : News h₀ L h (news.drop (news.length - 2)) := fun p hp => N p (List.mem_of_mem_drop hp)
end Mine
end
section
open PySem PySem.W PySem.Spec PySem.Calls PyProof.Rows
set_option maxRecDepth 100000
namespace Mine
/-- a well-made term -/
inductive St where
  | none
  | all
  | name (x : Str)
  | not (a : St)
  | union (a b : St)
  | meet (a b : St)
  | less (a b : St)

inductive SAt (h : Heap) : Value → St → Prop
  | none {a : Addr} {tk : Tok} : IsTup h a #[.str (Str.ofString "none") tk] → SAt h (.ref a) .none
  | all {a : Addr} {tk : Tok} : IsTup h a #[.str (Str.ofString "all") tk] → SAt h (.ref a) .all
  | name {a : Addr} {x : Str} {tk : Tok} : IsTup h a #[.str x tk] → SAt h (.ref a) (.name x)
  | not {a : Addr} {tk : Tok} {v : Value} {k : St} : IsTup h a #[.str (Str.ofString "not") tk, v] → SAt h v k → SAt h (.ref a) (.not k)
  | union {a : Addr} {tk : Tok} {v v' : Value} {k k' : St} : IsTup h a #[.str (Str.ofString "union") tk, v, v'] → SAt h v k → SAt h v' k' → SAt h (.ref a) (.union k k')
  | meet {a : Addr} {tk : Tok} {v v' : Value} {k k' : St} : IsTup h a #[.str (Str.ofString "meet") tk, v, v'] → SAt h v k → SAt h v' k' → SAt h (.ref a) (.meet k k')
  | less {a : Addr} {tk : Tok} {v v' : Value} {k k' : St} : IsTup h a #[.str (Str.ofString "less") tk, v, v'] → SAt h v k → SAt h v' k' → SAt h (.ref a) (.less k k')

theorem SAt.keeps {h h' : Heap} {v : Value} {t : St} (x : SAt h v t) (k : Kept h h') : SAt h' v t := by
  induction x with
  | none a => exact .none (a.keeps k)
  | all a => exact .all (a.keeps k)
  | name a => exact .name (a.keeps k)
  | not a _ i => exact .not (a.keeps k) i
  | union a _ _ i j => exact .union (a.keeps k) i j
  | meet a _ _ i j => exact .meet (a.keeps k) i j
  | less a _ _ i j => exact .less (a.keeps k) i j

noncomputable def St.size : St → Nat
  | .none | .all | .name _ => 1
  | .not a => a.size + 1
  | .union a b | .meet a b | .less a b => a.size + b.size + 1

/-- what a table says -/
noncomputable def EnvAt (w : World) (h : Heap) (a : Addr) (e : Str → Option Int) : Prop :=
  (a == sysModules) = false ∧ ∃ f, h.MapOf (strKind PR w) a f ∧ (∀ x, e x = Option.none → f x = Option.none) ∧ ∀ x n, e x = some n → ∃ t, f x = some (.int n t)
theorem EnvAt.keeps {w : World} {h h' : Heap} {a : Addr} {e : Str → Option Int} (x : EnvAt w h a e) (k : Kept h h') : EnvAt w h' a e :=
  let ⟨hs, f, ⟨o, es, ep, ho, r⟩, hf⟩ := x; ⟨hs, f, ⟨o, es, ep, k _ _ ho, r⟩, hf⟩

/-- its names are told, and none is called like one of the two ends -/
noncomputable def St.ok (e : Str → Option Int) : St → Prop
  | .none | .all => True
  | .name x => (x == Str.ofString "none") = false ∧ (x == Str.ofString "all") = false ∧ ∃ n, e x = some n ∧ 0 ≤ n ∧ n < 256
  | .not a => a.ok e
  | .union a b | .meet a b | .less a b => a.ok e ∧ b.ok e

/-- the law's own reading -/
noncomputable def St.isIn (e : Str → Option Int) (k : Nat) : St → Bool
  | .none => false
  | .all => true
  | .name x => ((((e x).getD 0).fdiv (2 ^ k)).fmod 2 == 1)
  | .not a => !a.isIn e k
  | .union a b => a.isIn e k || b.isIn e k
  | .meet a b => a.isIn e k && b.isIn e k
  | .less a b => a.isIn e k && !b.isIn e k

section
variable {w : World} {mean : ExcName → Option Value} {mg mb : Str → Option Value}
section
variable {A : Around} {E : Value → Shared → Prop} {s : Shared} {a : Addr} {v1 v2 v3 v4 : Value} {Q : Value → Shared → Prop}
theorem len_1 (ht : IsTup s.heap a #[v1]) (h : Q (.int 1 (s.toks + 1)) { s with toks := s.toks + 1 + 1 }) : wpAny (model PR w) A (call (.builtin "len") [.ref a]) Q E s := len_tuple ht (by simp) h
theorem len_2 (ht : IsTup s.heap a #[v1, v2]) (h : Q (.int 2 (s.toks + 1)) { s with toks := s.toks + 1 + 1 }) : wpAny (model PR w) A (call (.builtin "len") [.ref a]) Q E s := len_tuple ht (by simp) h
theorem len_3 (ht : IsTup s.heap a #[v1, v2, v3]) (h : Q (.int 3 (s.toks + 1)) { s with toks := s.toks + 1 + 1 }) : wpAny (model PR w) A (call (.builtin "len") [.ref a]) Q E s := len_tuple ht (by simp) h
theorem len_4 (ht : IsTup s.heap a #[v1, v2, v3, v4]) (h : Q (.int 4 (s.toks + 1)) { s with toks := s.toks + 1 + 1 }) : wpAny (model PR w) A (call (.builtin "len") [.ref a]) Q E s := len_tuple ht (by simp) h
theorem env_item {value slice : Expr} {e : Str → Option Int} {x : Str} {n : Int} {t : Tok} (he : EnvAt w s.heap a e) (hx : e x = some n) (h : ∀ tk, Q (.int n tk) { s with toks := s.toks + 1 })
    (hs : subscripted slice false (.ref a) (.str x t) = operate [.ref a, .str x t] (getItem (.ref a) (.str x t))) : wpAny (model PR w) A (subscriptTail value slice (.ref a) (.str x t)) Q E s := by
  obtain ⟨_, f, hm, _, hf⟩ := he
  obtain ⟨tk, hv⟩ := hf x n hx
  exact tail_any hm.typeIs slot_dict_getitem.lookup (wpAny_getItem_of (strKind_is PR w x t) hm hv (h tk)) hs
end
theorem env_notin {A : Around} {E : Value → Shared → Prop} {s : Shared} {a : Addr} {Q : Value → Shared → Prop} {e : Str → Option Int} {x : Str} {n : Int} {t : Tok} (he : EnvAt w s.heap a e) (hx : e x = some n) (h : Q (.bool false) { s with toks := s.toks + 1 }) :
    wpAny (model PR w) A (compareOp .NotIn (.str x t) (.ref a)) Q E s := by
  obtain ⟨hs, f, hm, _, hf⟩ := he
  obtain ⟨tk, hv⟩ := hf x n hx
  exact wpAny_notIn_of (strKind_is PR w x t) hs hm (by rw [hv]; exact h)
theorem env_notin_none {A : Around} {E : Value → Shared → Prop} {s : Shared} {a : Addr} {Q : Value → Shared → Prop} {e : Str → Option Int} {x : Str} {t : Tok} (he : EnvAt w s.heap a e) (hx : e x = none) (h : Q (.bool true) { s with toks := s.toks + 1 }) :
    wpAny (model PR w) A (compareOp .NotIn (.str x t) (.ref a)) Q E s := by
  obtain ⟨hs, f, hm, hn, _⟩ := he
  exact wpAny_notIn_of (strKind_is PR w x t) hs hm (by rw [hn x hx]; exact h)
theorem InstAt.keeps {h h' : Heap} {x C : Addr} {ox : Obj} {od : Option Obj} (I : InstAt h x ox C od) (k : Kept h h') : InstAt h' x ox C od := by
  refine ⟨k _ _ I.at_, I.cls, I.no, ?_⟩
  have := I.dict
  revert this
  cases ox.dict <;> cases od <;> simp
  exact fun e => k _ _ e
/-- a Sets object: all its things as one number -/
noncomputable def SetsAt (h : Heap) (a : Addr) (W : Int) : Prop := ∃ dx hs t tk n, InstAt h a (instObj 167 dx) 167 (some (dictOf [⟨hs, .str (Str.ofString "whole") t, .int W tk⟩] n))
theorem SetsAt.keeps {h h' : Heap} {a : Addr} {W : Int} (x : SetsAt h a W) (k : Kept h h') : SetsAt h' a W := let ⟨dx, hs, t, tk, n, I⟩ := x; ⟨dx, hs, t, tk, n, InstAt.keeps I k⟩
/-- what Sets tells of a term -/
noncomputable def St.val (e : Str → Option Int) (W : Int) : St → Int
  | .none => 0
  | .all => W
  | .name x => (e x).getD 0
  | .not a => W - a.val e W
  | .union a b => Builtin.bitOr (a.val e W) (b.val e W)
  | .meet a b => Builtin.bitAnd (a.val e W) (b.val e W)
  | .less a b => Builtin.bitAnd (a.val e W) (W - b.val e W)
theorem pend_int {g : Heap} {L : Addr} {m : Str → Option Value} {Q : Value → Shared → Prop} {b b' : Int} {t : Tok} {s' : Shared} (F : Fr g L s'.heap m) (e : b' = b) (h : Q (.int b t) s') : PEnd g Q (.ret (.int b' t)) s' := ⟨L, m, F, e ▸ h⟩
theorem pend {g : Heap} {L : Addr} {m : Str → Option Value} {Q : Value → Shared → Prop} {v : Value} {s' : Shared} (F : Fr g L s'.heap m) (h : Q v s') : PEnd g Q (.ret v) s' := ⟨L, m, F, h⟩
theorem pend_bool {g : Heap} {L : Addr} {m : Str → Option Value} {Q : Value → Shared → Prop} {b b' : Bool} {s' : Shared} (F : Fr g L s'.heap m) (e : b' = b) (h : Q (.bool b) s') : PEnd g Q (.ret (.bool b')) s' := ⟨L, m, F, e ▸ h⟩
theorem Cal.site {A : Around} {base h₀ : Heap} {outer : List Env} {L : Addr} {m : Str → Option Value} {env : Env} {s : Shared} (B : Below A base outer h₀) (F : Fr h₀ L s.heap m) (X : (hd.heap_39 w.params).In h₀) (T : Top hd.view_39 LO mean mg mb h₀)
    (hh : A.handled = none) (hf : env.frame = some L) (hk : env.scope.kind = .function) : Cal w mean mg mb (A.deeper env) s := Cal.mk B F X T (Around.frames_deeper B.stack) hf hk hh

end
end Mine
end
section
open PySem PySem.W PySem.Spec PySem.Calls PyProof.Rows PyProof.Rows.LCg
set_option maxRecDepth 100000
namespace Mine
section
variable {prog : Program} {w : World} {A : Around} {E : Value → Shared → Prop} {s : Shared} {h₀ : Heap} {L : Addr} {m : Str → Option Value} {env : Env}
/-- a value whose items can be walked, none of them changing what stands -/
noncomputable def QSrc (prog : Program) (w : World) (A : Around) (xv : Value) (s : Shared) (n : Nat) (P : Nat → Value → Prop) : Prop :=
  ∀ (Q : Value → Shared → Prop) (E : Value → Shared → Prop), (∀ I h' fp St, Walks prog w A I fp [I] n P St → St 0 h' → s.heap.objs.size ≤ I → s.heap.objs.size ≤ h'.objs.size → Kept s.heap h' → (∀ b ∈ fp, b < h'.objs.size) → Q (.ref I) { s with heap := h' }) → wpAny (model prog w) A (pyIter xv) Q E s
theorem QSrc.tup {l : Addr} {its : Array Value} (hh : A.handled = none) (ht : IsTup s.heap l its) : QSrc prog w A (.ref l) s its.size (fun i v => its[i]? = some v) := by
  intro Q E h
  have hlt := ht.lt
  refine wpAny_pyIter_tuple ht ?_
  refine h s.heap.objs.size _ [s.heap.objs.size, l] _ (Walks.tuple hh s.heap.objs.size l (Nat.ne_of_lt hlt) its) ⟨⟨_, Heap.get?_push_size _ rfl, rfl, rfl⟩, ht.push _⟩ (Nat.le_refl _) (by rw [Heap.size_push]; exact Nat.le_succ _) (fun b o e => Heap.get?_push_of_some _ e) fun b hb => ?_
  show b < (s.heap.push _).objs.size
  rw [Heap.size_push]
  rcases List.mem_cons.mp hb with rfl | hb
  · exact Nat.lt_succ_self _
  · rw [List.mem_singleton.mp hb]; exact Nat.lt_succ_of_lt hlt
theorem QSrc.list {l : Addr} {its : Array Value} (hh : A.handled = none) (ht : s.heap.IsList l its) : QSrc prog w A (.ref l) s its.size (fun i v => its[i]? = some v) := by
  intro Q E h
  have hlt : l < s.heap.objs.size := by obtain ⟨_, e, _⟩ := ht; exact Heap.lt_size e
  refine wpAny_pyIter_list ht ?_
  refine h s.heap.objs.size _ [s.heap.objs.size, l] _ (Walks.list hh s.heap.objs.size l (Nat.ne_of_lt hlt) its) ⟨⟨_, Heap.get?_push_size _ rfl, rfl, rfl⟩, ht.push _⟩ (Nat.le_refl _) (by rw [Heap.size_push]; exact Nat.le_succ _) (fun b o e => Heap.get?_push_of_some _ e) fun b hb => ?_
  show b < (s.heap.push _).objs.size
  rw [Heap.size_push]
  rcases List.mem_cons.mp hb with rfl | hb
  · exact Nat.lt_succ_self _
  · rw [List.mem_singleton.mp hb]; exact Nat.lt_succ_of_lt hlt
theorem QSrc.range {r : Addr} {a b : Int} {t u v : Tok} {n : Nat} (hh : A.handled = none) (hr : IsRange s.heap r a b 1 t u v) (hsm : Builtin.Range.small a b 1 = true) (hn : Builtin.Range.rangeSize a b 1 = ((n : Nat) : Int)) :
    QSrc prog w A (.ref r) s n (fun i v => ∃ t, v = .int (a + (i : Int)) t) := by
  intro Q E h
  refine wpAny_pyIter_range hr hsm ?_
  refine h s.heap.objs.size _ [s.heap.objs.size] _ (range_walks hh a n) (by show IsRangeIter _ _ _ _ _; rw [hn]; simpa using Heap.get?_push_size _ rfl) (Nat.le_refl _) (by rw [Heap.size_push]; exact Nat.le_succ _) (fun b o e => Heap.get?_push_of_some _ e) fun b hb => ?_
  rw [List.mem_singleton.mp hb]
  show s.heap.objs.size < (s.heap.push _).objs.size
  rw [Heap.size_push]; exact Nat.lt_succ_self _

theorem QSrc.bound {xv : Value} {n : Nat} {P : Nat → Value → Prop} (h : QSrc prog w A xv s n P) : QSrc prog w A xv s n (fun i v => i < n ∧ P i v) :=
  fun Q E k => h Q E fun I h' fp St W => k I h' fp St { sub := W.sub, frame := W.frame, done := W.done, self := W.self, item := fun i s Q E hi st hQ => W.item i s Q E hi st fun v h' tk hP => hQ v h' tk ⟨hi, hP⟩ }
/-- here the walk stands still -/
noncomputable def Stop (P : Value → Shared → Prop) (v : Value) (s : Shared) : Prop := P v s
noncomputable def QTest (b : Bool) (s₃ : Shared) (ok : Bool) (s₄ : Shared) : Prop := ok = b ∧ Keeps s₃ s₄
noncomputable def QElt (G : Value → Prop) (s₃ : Shared) (y : Value) (s₄ : Shared) : Prop := G y ∧ Keeps s₃ s₄
/-- a comprehension whose tests and elements change nothing that stands -/
theorem ListComp_quiet {elt iter : Expr} {x : Str} {px : Pos} {ifs : List Expr} {scope : Scope} {cl : List (Str × Addr)} {pos : Pos} {Q : Value → Shared → Prop} {m₀ : Str → Option Value} (_F₀ : Fr h₀ L s.heap m₀) (p : Value → Bool) (G : Value → Value → Prop)
    (hclos : closureFor scope env = pure cl) (hcell : ∀ y ∈ scope.names, y.2 ≠ .cell) (hkind : scope.kind = .function)
    (hnames : ∀ y ∈ scope.names, y.2 = .local → scope.names.lookup y.1 = some .local) (hx : scope.names.lookup x = some .local)
    (h : wpAny (model prog w) A (eval iter env) (Stop fun xv s₁ => ∃ m news n P, Fr h₀ L s₁.heap m ∧ News h₀ L s₁.heap news ∧ n ≤ sizeLine ∧ QSrc prog w A xv s₁ n P ∧
      (∀ C oC i v m₂ s₃ E', P i v → Fr h₀ L s₃.heap m → News h₀ L s₃.heap ((C, oC) :: news) → NsObj oC m₂ → m₂ x = some v →
        wpAny (model prog w) A (forIn ifs true fun c r => if r = true then do let ok ← isTrue c (compEnvC scope cl C env) (eval c (compEnvC scope cl C env)); pure (ForInStep.yield ok) else pure (ForInStep.yield r))
          (QTest (p v) s₃) E' s₃) ∧
      (∀ C oC i v m₂ s₃ E', P i v → p v = true → Fr h₀ L s₃.heap m → News h₀ L s₃.heap ((C, oC) :: news) → NsObj oC m₂ → m₂ x = some v →
        wpAny (model prog w) A (eval elt (compEnvC scope cl C env)) (QElt (G v) s₃) E' s₃) ∧
      (∀ D h' tk ys (vs : List Value) k, Fr h₀ L h' m → News h₀ L h' ((D, { cls := .type "list", data := .seq ys k }) :: news) → (∀ p ∈ news, p.1 ≠ D) → vs.length = n → (∀ j v, vs[j]? = some v → P j v) → Paired G (vs.filter p) ys.toList → Q (.ref D) { s₁ with heap := h', toks := tk })) E s)
    (hs : ∀ x, foldedSetIterable iter env x = pure x := by intro _; rfl) :
    wpAny (model prog w) A (eval (.ListComp elt [⟨.Name x px, iter, ifs, 0⟩] scope pos) env) Q E s := by
  refine wpAny_ListComp_free p G hclos hcell hkind hnames hx (wpAny_mono h (fun xv s₁ h₁ => ?_) fun _ _ e => e) hs
  obtain ⟨m, news, n, P, F, N, hsz, src, ht, he, hQ⟩ := h₁
  refine src _ _ fun I h₂ fp St W hst hI hle kp hfp => ?_
  have offI : ∀ b, b < s₁.heap.objs.size → b ∉ [I] := fun b hb q => by rw [List.mem_singleton.mp q] at hb; exact Nat.lt_irrefl _ (Nat.lt_of_lt_of_le hb hI)
  have up : ∀ {h₃ : Heap}, (∀ b o, b ∉ [I] → h₂.get? b = some o → h₃.get? b = some o) → Kept s₁.heap h₃ := fun hk b o e => hk b o (offI b (Heap.lt_size e)) (kp b o e)
  have fresh₀ : ∀ C, s₁.heap.objs.size ≤ C → h₀.get? C = none := fun C hC => by
    cases q : h₀.get? C with
    | none => rfl
    | some o => exact absurd (Heap.lt_size (F.keep _ _ q)) (Nat.not_lt.mpr hC)
  have neL : ∀ C, s₁.heap.objs.size ≤ C → C ≠ L := fun C hC q => by rw [q] at hC; exact absurd F.ns.lt (Nat.not_lt.mpr hC)
  have led : ∀ {h₃ : Heap} {C : Addr} {oC : Obj}, h₂.objs.size ≤ C → Kept s₁.heap h₃ → h₃.get? C = some oC → News h₀ L h₃ ((C, oC) :: news) := fun hC k e q hq => by
    rcases List.mem_cons.mp hq with rfl | hq
    · exact ⟨e, neL _ (Nat.le_trans hle hC), fresh₀ _ (Nat.le_trans hle hC)⟩
    · exact N.grown k q hq
  refine ⟨I, fp, [I], n, P, St, rfl, W, hsz, hst, hfp, ⟨?_, ?_⟩, ?_⟩
  · intro C i v s₃ m₃ E' hC hP hn hm hk _
    obtain ⟨oC, e, ho⟩ := ns_obj hn
    exact ht C oC i v m₃ s₃ E' hP (F.keeps (up hk)) (led hC (up hk) e) ho hm
  · intro C i v s₃ m₃ E' hC hP hp hn hm hk _
    obtain ⟨oC, e, ho⟩ := ns_obj hn
    exact he C oC i v m₃ s₃ E' hP hp (F.keeps (up hk)) (led hC (up hk) e) ho hm
  · intro D h' tk ys vs hD hl hpl hlen hP hF hk
    obtain ⟨k, hDk⟩ := hpl
    have hD1 : s₁.heap.get? D = none := by
      cases q : s₁.heap.get? D with
      | none => rfl
      | some o => have := kp D o q; rw [hD] at this; cases this
    have hDL : D ≠ L := by
      rintro rfl
      obtain ⟨o, _, _, ho, _⟩ := F.ns
      rw [hD1] at ho; cases ho
    have hD0 : h₀.get? D = none := by
      cases q : h₀.get? D with
      | none => rfl
      | some o => have := F.keep D o q; rw [hD1] at this; cases this
    refine hQ D h' tk ys vs k (F.keeps (up hk)) (fun q hq => ?_) (fun q hq e => ?_) hlen hP hF
    · rcases List.mem_cons.mp hq with rfl | hq
      · exact ⟨hDk, hDL, hD0⟩
      · exact N.grown (up hk) q hq
    · have := (N q hq).1
      rw [e, hD1] at this; cases this
end
end Mine
end
section
open PySem PySem.W PySem.Spec PySem.Calls PyProof.Rows PyProof.Rows.LCg
set_option maxRecDepth 100000
namespace Mine
/-- what an element made of v stands in h -/
noncomputable def GAt (G : Value → Value → List (Addr × Obj) → Prop) (h : Heap) (v y : Value) : Prop := ∃ own, G v y own ∧ ∀ q ∈ own, h.get? q.1 = some q.2
noncomputable def GAt3 (G : Value → Value → List (Addr × Obj) → Prop) (C I D : Addr) (h : Heap) (v y : Value) : Prop := ∃ own, G v y own ∧ ∀ q ∈ own, h.get? q.1 = some q.2 ∧ q.1 ≠ C ∧ q.1 ≠ I ∧ q.1 ≠ D
theorem GAt3.keep {G : Value → Value → List (Addr × Obj) → Prop} {C I D : Addr} {h h' : Heap} {v y : Value} (x : GAt3 G C I D h v y) (k : ∀ b o, b ≠ C → b ≠ I → b ≠ D → h.get? b = some o → h'.get? b = some o) : GAt3 G C I D h' v y :=
  let ⟨own, g, p⟩ := x; ⟨own, g, fun q hq => ⟨k _ _ (p q hq).2.1 (p q hq).2.2.1 (p q hq).2.2.2 (p q hq).1, (p q hq).2⟩⟩
theorem GAt3.plain {G : Value → Value → List (Addr × Obj) → Prop} {C I D : Addr} {h : Heap} {v y : Value} (x : GAt3 G C I D h v y) : GAt G h v y := let ⟨own, g, p⟩ := x; ⟨own, g, fun q hq => (p q hq).1⟩
theorem Paired.imp {α β : Type} {F F' : α → β → Prop} (hm : ∀ a b, F a b → F' a b) : ∀ {l₁ : List α} {l₂ : List β}, Paired F l₁ l₂ → Paired F' l₁ l₂
  | _, _, .nil => .nil
  | _, _, .cons h r => .cons (hm _ _ h) (Paired.imp hm r)

section
variable {prog : Program} {w : World} {A : Around}
theorem compLoop_pair {elt iter : Expr} {elts : List Expr} {x1} {tp : Pos} {ifs : List Expr} {scope : Scope} {pos : Pos} {it acc : Value} {env : Env} {R : Result → Shared → Prop} {s : Shared} (I : Nat → Shared → Prop)
    (turn : ∀ n s, I n s → wpAny (model prog w) A (pyNext it) (fun r s₁ => match r with
      | none => R (.ok .next) s₁
      | some v => wpAny (model prog w) A (letOwnedTupleGo (.Tuple elts x1 tp) it v) (fun _ s₁' => wpAny (model prog w) A (assign (.Tuple elts x1 tp) env v) (fun _ s₂ =>
          wpAny (model prog w) A (forIn ifs true fun c r => if r = true then do let ok ← isTrue c env (eval c env); pure (ForInStep.yield ok) else pure (ForInStep.yield r)) (fun ok s₃ =>
            if ok = true then wpAny (model prog w) A (eval elt env) (fun x s₄ =>
              wpAny (model prog w) A (call (.builtin "list.append") [acc, x]) (fun _ s₅ => ∃ m, m < n ∧ I m s₅) (notedBy (model prog w) A env fun e s' => R (.error e) s') s₄) (notedBy (model prog w) A env fun e s' => R (.error e) s') s₃
            else ∃ m, m < n ∧ I m s₃) (notedBy (model prog w) A env fun e s' => R (.error e) s') s₂) (notedBy (model prog w) A env fun e s' => R (.error e) s') s₁') (notedBy (model prog w) A env fun e s' => R (.error e) s') s₁) (notedBy (model prog w) A env fun e s' => R (.error e) s') s)
    (n : Nat) (h : I n s) : codeAny (model prog w) A (.compLoop (.ListComp elt [⟨.Tuple elts x1 tp, iter, ifs, 0⟩] scope pos) 0 it acc env) R s := by
  refine codeAny_loop rfl I (fun n s hI => ?_) n h
  show wpAny _ A ((compTurn (.ListComp elt [⟨.Tuple elts x1 tp, iter, ifs, 0⟩] scope pos) 0 it acc env).onRaise (fun x => do noteFrame x env; theTreesLotGoes x)) _ _ s
  refine wpAny_noted ?_
  rw [compTurn_list]
  refine wpAny_bind (wpAny_standAt (wpAny_bind (wpAny_mono (turn n s hI) (fun r s₁ h₁ => ?_) fun _ _ h' => h')))
  cases r with
  | none => exact wpAny_pure h₁
  | some v =>
    refine wpAny_bind (wpAny_mono h₁ (fun _ s₀ h₀ => ?_) fun _ _ h' => h')
    refine wpAny_bind (wpAny_mono h₀ (fun _ s₂ h₂ => wpAny_bind (wpAny_mono h₂ (fun ok s₃ h₃ => ?_) fun _ _ h' => h')) fun _ _ h' => h')
    cases ok with
    | false => exact wpAny_pure ⟨rfl, h₃⟩
    | true => exact wpAny_bind (wpAny_bind (wpAny_mono h₃ (fun x s₄ h₄ => wpAny_bind (wpAny_mono h₄ (fun _ s₅ h₅ => wpAny_pure (wpAny_pure ⟨rfl, h₅⟩)) fun _ _ h' => h')) fun _ _ h' => h'))

noncomputable def QEltO (G : Value → List (Addr × Obj) → Prop) (s₃ : Shared) (y : Value) (s₄ : Shared) : Prop := (∃ own, G y own ∧ ∀ q ∈ own, s₃.heap.get? q.1 = none ∧ s₄.heap.get? q.1 = some q.2) ∧ Keeps s₃ s₄

variable {E : Value → Shared → Prop} {s : Shared} {h₀ : Heap} {L : Addr} {m : Str → Option Value} {env : Env}
noncomputable abbrev PInv (s₁ : Shared) (l i0 d0 c0 : Addr) (items : Array Value) (p : Value → Bool) (G : Value → Value → List (Addr × Obj) → Prop) (k : Nat) (s' : Shared) : Prop :=
  ∃ h' tk m' ys i, s' = { s₁ with heap := h', toks := tk } ∧ i ≤ items.size ∧ k = items.size + 1 - i ∧ h'.IsListIter i0 l i ∧ h'.PlainList d0 ys ∧ h'.Ns c0 m' ∧ Paired (GAt3 G c0 i0 d0 h') ((items.toList.take i).filter p) ys.toList ∧ ys.size ≤ i ∧ Kept s₁.heap h'
/-- a comprehension over a list of pairs whose tests and elements change nothing that stands -/
theorem ListComp_pairs {elt iter : Expr} {a b : Str} {pa pb tp : Pos} {kk : Nat} {ifs : List Expr} {scope : Scope} {cl : List (Str × Addr)} {pos : Pos} {Q : Value → Shared → Prop} {m₀ : Str → Option Value} (_F₀ : Fr h₀ L s.heap m₀)
    (hclos : closureFor scope env = pure cl) (hcell : ∀ y ∈ scope.names, y.2 ≠ .cell) (hkind : scope.kind = .function)
    (hnames : ∀ y ∈ scope.names, y.2 = .local → scope.names.lookup y.1 = some .local) (ha : scope.names.lookup a = some .local) (hb : scope.names.lookup b = some .local) (hab : a ≠ b) (hh : A.handled = none)
    (h : wpAny (model prog w) A (eval iter env) (Stop fun xv s₁ => ∃ (p : Value → Bool) (G : Value → Value → List (Addr × Obj) → Prop) (m : Str → Option Value) (news : List (Addr × Obj)) (l : Addr) (items : Array Value), xv = .ref l ∧ Fr h₀ L s₁.heap m ∧ News h₀ L s₁.heap news ∧ items.size ≤ sizeLine ∧ s₁.heap.IsList l items ∧ (∀ v, v ∈ items → ∃ t v₁ v₂, v = .ref t ∧ IsTup s₁.heap t #[v₁, v₂]) ∧
      (∀ C oC v t v₁ v₂ m₂ s₃ E', v ∈ items → v = .ref t → IsTup s₁.heap t #[v₁, v₂] → Fr h₀ L s₃.heap m → News h₀ L s₃.heap ((C, oC) :: news) → NsObj oC m₂ → m₂ a = some v₁ → m₂ b = some v₂ → Kept s₁.heap s₃.heap →
        wpAny (model prog w) A (forIn ifs true fun c r => if r = true then do let ok ← isTrue c (compEnvC scope cl C env) (eval c (compEnvC scope cl C env)); pure (ForInStep.yield ok) else pure (ForInStep.yield r))
          (QTest (p v) s₃) E' s₃) ∧
      (∀ C oC v t v₁ v₂ m₂ s₃ E', v ∈ items → p v = true → v = .ref t → IsTup s₁.heap t #[v₁, v₂] → Fr h₀ L s₃.heap m → News h₀ L s₃.heap ((C, oC) :: news) → NsObj oC m₂ → m₂ a = some v₁ → m₂ b = some v₂ → Kept s₁.heap s₃.heap →
        wpAny (model prog w) A (eval elt (compEnvC scope cl C env)) (QEltO (G v) s₃) E' s₃) ∧
      (∀ D h' tk ys k, Fr h₀ L h' m → News h₀ L h' ((D, { cls := .type "list", data := .seq ys k }) :: news) → (∀ p ∈ news, p.1 ≠ D) → Kept s₁.heap h' → s₁.heap.get? D = none → Paired (GAt G h') (items.toList.filter p) ys.toList → Q (.ref D) { s₁ with heap := h', toks := tk })) E s)
    (hs : ∀ x, foldedSetIterable iter env x = pure x := by intro _; rfl) :
    wpAny (model prog w) A (eval (.ListComp elt [⟨.Tuple [.Name a pa, .Name b pb] kk tp, iter, ifs, 0⟩] scope pos) env) Q E s := by
  rw [eval_ListComp]
  refine wpAny_comprehension_free (use := none) rfl hs hclos hkind hnames (wpAny_mono h (fun xv s₁ h₁ => ?_) fun _ _ e => e)
  obtain ⟨p, G, m, news, l, items, rfl, F, N, hsz, hl, hit, ht, he, hQ⟩ := h₁
  have hlt : l < s₁.heap.objs.size := by obtain ⟨_, e, _⟩ := hl; exact Heap.lt_size e
  refine wpAny_pyIter_list hl ?_
  refine wpAny_newObj_type (wpAny_newFunctionEnv hcell (by intro y hy; simp at hy) (fun h₁ hns₁ hsb₁ => ?_) hkind)
  dsimp only at hns₁ hsb₁ ⊢
  generalize hH1 : s₁.heap.push { cls := .type "list_iterator", data := .fields #[.ref l, .int 0 0] } = H1 at hns₁ hsb₁ ⊢
  have hD : H1.objs.size = s₁.heap.objs.size + 1 := by rw [← hH1, Heap.size_push]
  generalize hH2 : H1.push { cls := .type "list", dict := none, data := .seq ([] : List Value).toArray } = H2 at hns₁ hsb₁ ⊢
  have hC : H2.objs.size = s₁.heap.objs.size + 2 := by rw [← hH2, Heap.size_push, hD]
  have k1 : Kept s₁.heap H1 := fun x o e => hH1 ▸ Heap.get?_push_of_some _ e
  have k2 : Kept H1 H2 := fun x o e => hH2 ▸ Heap.get?_push_of_some _ e
  have dDC : H1.objs.size ≠ H2.objs.size := by rw [hC, hD]; exact Nat.ne_of_lt (Nat.lt_succ_self _)
  have dIC : s₁.heap.objs.size ≠ H2.objs.size := by rw [hC]; exact Nat.ne_of_lt (Nat.lt_succ_of_lt (Nat.lt_succ_self _))
  have dID : s₁.heap.objs.size ≠ H1.objs.size := by rw [hD]; exact Nat.ne_of_lt (Nat.lt_succ_self _)
  have lo : ∀ {x : Addr} {o : Obj}, s₁.heap.get? x = some o → x ≠ H2.objs.size ∧ x ≠ s₁.heap.objs.size ∧ x ≠ H1.objs.size := fun {x o} e => by
    have := Heap.lt_size e
    exact ⟨by rw [hC]; exact Nat.ne_of_lt (Nat.lt_succ_of_lt (Nat.lt_succ_of_lt this)), Nat.ne_of_lt this, by rw [hD]; exact Nat.ne_of_lt (Nat.lt_succ_of_lt this)⟩
  have fresh : ∀ x, s₁.heap.objs.size ≤ x → s₁.heap.get? x = none := fun x hx => Heap.get?_none_of_le hx
  have fresh₀ : ∀ x, s₁.heap.objs.size ≤ x → h₀.get? x = none := fun x hx => by
    cases q : h₀.get? x with
    | none => rfl
    | some o => have := F.keep x o q; rw [fresh x hx] at this; cases this
  have neL : ∀ x, s₁.heap.objs.size ≤ x → x ≠ L := fun x hx q => by rw [q] at hx; exact absurd F.ns.lt (Nat.not_lt.mpr hx)
  have geC : s₁.heap.objs.size ≤ H2.objs.size := by rw [hC]; exact Nat.le_add_right _ _
  have geD : s₁.heap.objs.size ≤ H1.objs.size := by rw [hD]; exact Nat.le_succ _
  have led : ∀ {h₃ : Heap} {oC : Obj}, Kept s₁.heap h₃ → h₃.get? H2.objs.size = some oC → News h₀ L h₃ ((H2.objs.size, oC) :: news) := fun k e q hq => by
    rcases List.mem_cons.mp hq with rfl | hq
    · exact ⟨e, neL _ geC, fresh₀ _ geC⟩
    · exact N.grown k q hq
  have hp : ((compEnvC scope cl H2.objs.size env).scope.kind == .class || ((compEnvC scope cl H2.objs.size env).scope.kind == .module && (compEnvC scope cl H2.objs.size env).locals != (compEnvC scope cl H2.objs.size env).globals)) = false := by simp [compEnvC, relabel, hkind]
  have kk1 : Kept s₁.heap h₁ := fun x o e => hsb₁.extBut x o (lo e).1 (Heap.get?_push_of_some _ (k2 _ _ (k1 _ _ e)))
  have hI₁ : h₁.IsListIter s₁.heap.objs.size l 0 := ⟨_, hsb₁.extBut _ _ dIC (Heap.get?_push_of_some _ (k2 _ _ (hH1 ▸ Heap.get?_push_size _ rfl))), rfl, rfl⟩
  have hD₁ : h₁.PlainList H1.objs.size #[] := ⟨_, hsb₁.extBut _ _ dDC (Heap.get?_push_of_some _ (hH2 ▸ Heap.get?_push_size _ rfl))⟩
  have loop : ∀ s₃ : Shared, (∃ tk, s₃ = { s₁ with heap := h₁, toks := tk }) →
      codeAny (model prog w) A (.compLoop (.ListComp elt [⟨.Tuple [.Name a pa, .Name b pb] kk tp, iter, ifs, 0⟩] scope pos) 0 (.ref s₁.heap.objs.size) (.ref H1.objs.size) (compEnvC scope cl H2.objs.size env))
        (compPost (model prog w) A E none Q (.ref H1.objs.size) H2.objs.size) s₃ := by
    rintro s₃ ⟨tk₃, rfl⟩
    refine compLoop_pair (PInv s₁ l s₁.heap.objs.size H1.objs.size H2.objs.size items p G) ?_ (items.size + 1)
      ⟨h₁, tk₃, _, #[], 0, rfl, Nat.zero_le _, rfl, hI₁, hD₁, hns₁, by simpa using Paired.nil, Nat.le_refl _, kk1⟩
    rintro k s' ⟨h', tk, m', ys, i, rfl, hi, rfl, hI', hD', hn', hP, hys, hk⟩
    have hl' : h'.IsList l items := by obtain ⟨o, e, r⟩ := hl; exact ⟨o, hk _ _ e, r⟩
    have nlI : l ≠ s₁.heap.objs.size := Nat.ne_of_lt hlt
    by_cases hlt' : i < items.size
    · have hx : items[i]? = some items[i] := by simp [hlt']
      have hmem : items[i] ∈ items := Array.getElem_mem hlt'
      obtain ⟨t, v₁, v₂, ev, htup⟩ := hit _ hmem
      refine wpAny_pyNext_list_item (s := { s₁ with heap := h', toks := tk }) hI' hl' hx fun h2 hI2 sb2 => ?_
      replace sb2 : Heap.SameBut s₁.heap.objs.size h' h2 := sb2
      dsimp only
      rw [ev]
      refine wpAny_letOwnedTupleGo_listiter hI2 ?_
      have kp2 : Kept s₁.heap h2 := fun x o e => sb2.extBut x o (lo e).2.1 (hk x o e)
      refine kcp_assign hh (htup.keeps kp2) (lookup_relabel_local ha) (lookup_relabel_local hb) hp (hn'.sameBut sb2 (Ne.symm dIC)) fun h3 tk3 hn3 k3 => ?_
      replace k3 : ∀ c o, c ≠ H2.objs.size → h2.get? c = some o → h3.get? c = some o := k3
      have kp3 : Kept s₁.heap h3 := fun x o e => k3 x o (lo e).1 (kp2 x o e)
      obtain ⟨oC, eC, hoC⟩ := ns_obj hn3
      refine wpAny_mono (ht H2.objs.size oC items[i] t v₁ v₂ _ _ _ hmem ev htup (F.keeps kp3) (led kp3 eC) hoC (by simp [hab]) (by simp) kp3) (fun ok s₄ h₄ => ?_) fun _ _ e => e
      obtain ⟨rfl, h4, tk4, rfl, k4⟩ := h₄
      have kp4 : Kept s₁.heap h4 := fun x o e => k4 x o (kp3 x o e)
      have hI4 : h4.IsListIter s₁.heap.objs.size l (i + 1) := by obtain ⟨o, e, r⟩ := hI2; exact ⟨o, k4 _ _ (k3 _ _ dIC e), r⟩
      have hD4 : h4.PlainList H1.objs.size ys := hD'.at fun o e => k4 _ _ (k3 _ _ dDC (sb2.extBut _ _ (Ne.symm dID) e))
      have hn4 := hn3.keeps k4
      have hP4 : Paired (GAt3 G H2.objs.size s₁.heap.objs.size H1.objs.size h4) ((items.toList.take i).filter p) ys.toList := Paired.imp (fun _ _ x => x.keep fun c o c1 c2 c3 e => k4 _ _ (k3 _ _ c1 (sb2.extBut _ _ c2 e))) hP
      have htake : items.toList.take (i + 1) = items.toList.take i ++ [items[i]] := by rw [List.take_succ]; simp [hlt']
      cases hpv : p items[i] with
      | false =>
        simp only [Bool.false_eq_true, if_false]
        refine ⟨items.size + 1 - (i + 1), by omega, h4, tk4, _, ys, i + 1, rfl, hlt', rfl, hI4, hD4, hn4, ?_, by omega, kp4⟩
        rw [htake, List.filter_append]
        simpa [hpv] using hP4
      | true =>
        simp only [if_true]
        obtain ⟨oC4, eC4, hoC4⟩ := ns_obj hn4
        replace eC4 : h4.get? H2.objs.size = some oC4 := eC4
        refine wpAny_mono (he H2.objs.size oC4 items[i] t v₁ v₂ _ _ _ hmem hpv ev htup (F.keeps kp4) (led kp4 eC4) hoC4 (by simp [hab]) (by simp) kp4) (fun y s₅ h₅ => ?_) fun _ _ e => e
        obtain ⟨⟨own, hG, hown⟩, h5, tk5, rfl, k5⟩ := h₅
        have kp5 : Kept s₁.heap h5 := fun x o e => k5 x o (kp4 x o e)
        refine wpAny_list_append_plain (hsz := by omega) (hD4.at fun o e => k5 _ o e) fun h6 hD6 sb6 => ?_
        replace sb6 : Heap.SameBut H1.objs.size h5 h6 := sb6
        have kp6 : Kept s₁.heap h6 := fun x o e => sb6.extBut x o (lo e).2.2 (kp5 x o e)
        have offD : ∀ q ∈ own, q.1 ≠ H2.objs.size ∧ q.1 ≠ s₁.heap.objs.size ∧ q.1 ≠ H1.objs.size := fun q hq => by
          have hnone : h4.get? q.1 = none := (hown q hq).1
          refine ⟨fun e => ?_, fun e => ?_, fun e => ?_⟩
          · rw [e, eC4] at hnone; cases hnone
          · obtain ⟨o, e', _⟩ := hI4; rw [e, e'] at hnone; cases hnone
          · obtain ⟨o, e'⟩ := hD4; rw [e, e'] at hnone; cases hnone
        refine ⟨items.size + 1 - (i + 1), by omega, h6, tk5, _, ys.push y, i + 1, rfl, hlt', rfl, ?_, hD6, (hn4.keeps k5).sameBut sb6 (Ne.symm dDC), ?_, by rw [Array.size_push]; omega, kp6⟩
        · obtain ⟨o, e, r⟩ := hI4; exact ⟨o, sb6.extBut _ _ dID (k5 _ _ e), r⟩
        · rw [htake, List.filter_append]
          have hP6 : Paired (GAt3 G H2.objs.size s₁.heap.objs.size H1.objs.size h6) ((items.toList.take i).filter p) ys.toList := Paired.imp (fun _ _ x => x.keep fun c o c1 c2 c3 e => sb6.extBut _ _ c3 (k5 _ _ e)) hP4
          have hy : GAt3 G H2.objs.size s₁.heap.objs.size H1.objs.size h6 items[i] y := ⟨own, hG, fun q hq => ⟨sb6.extBut _ _ (offD q hq).2.2 (hown q hq).2, offD q hq⟩⟩
          simpa [hpv] using Paired.snoc hP6 hy
    · obtain rfl : i = items.size := Nat.le_antisymm hi (Nat.not_lt.mp hlt')
      refine wpAny_pyNext_list_end (s := { s₁ with heap := h', toks := tk }) hh hI' hl' (by simp) fun h2 ext => ?_
      replace ext : Heap.ExtBut s₁.heap.objs.size h' h2 := ext
      have kp2 : Kept s₁.heap h2 := fun x o e => ext x o (lo e).2.1 (hk x o e)
      refine ⟨m', hn'.extBut ext (Ne.symm dIC), fun h'' sb => ?_⟩
      replace sb : Heap.SameBut H2.objs.size h2 h'' := sb
      have kp3 : Kept s₁.heap h'' := fun x o e => sb.extBut x o (lo e).1 (kp2 x o e)
      obtain ⟨kD, eD⟩ := hD'
      have eD' : h''.get? H1.objs.size = some { cls := .type "list", data := .seq ys kD } := sb.extBut _ _ dDC (ext _ _ (Ne.symm dID) eD)
      refine hQ H1.objs.size h'' tk ys kD (F.keeps kp3) (fun q hq => ?_) (fun q hq e => ?_) kp3 (fresh _ geD) ?_
      · rcases List.mem_cons.mp hq with rfl | hq
        · exact ⟨eD', neL _ geD, fresh₀ _ geD⟩
        · exact N.grown kp3 q hq
      · have := (N q hq).1
        rw [e, fresh _ geD] at this; cases this
      · rw [List.take_of_length_le (by simp)] at hP
        exact Paired.imp (fun _ _ x => (x.keep fun c o c1 c2 c3 e => sb.extBut _ _ c1 (ext _ _ c2 e)).plain) hP
  exact codeAny_compStart_list (loop _ ⟨_, rfl⟩) (wpAny_pyIter_listiter hI₁ (loop _ ⟨_, rfl⟩))
end
end Mine
end
section
open PySem PySem.W PySem.Spec PySem.Calls PyProof.Rows
set_option maxRecDepth 100000
namespace Mine
theorem IsTup.inj {h : Heap} {a : Addr} {i j : Array Value} (x : IsTup h a i) (y : IsTup h a j) : i = j := by
  obtain ⟨o, e, _, n, d⟩ := x
  obtain ⟨o', e', _, n', d'⟩ := y
  rw [e] at e'
  cases e'
  rw [d] at d'
  cases d'
  rfl
section
variable {prog : Program} {w : World} {A : Around} {E : Value → Shared → Prop} {s : Shared}
/-- a new tuple, or one of the two where the other is empty -/
theorem add_tup {t b : Addr} {vs ws : Array Value} {Q : Value → Shared → Prop} (ht : IsTup s.heap t vs) (hb : IsTup s.heap b ws)
    (h1 : vs ≠ #[] → ws = #[] → Q (.ref t) s) (hv : vs ≠ #[])
    (h2 : ws ≠ #[] → Q (.ref s.heap.objs.size) { s with heap := s.heap.push { cls := .type "tuple", data := .seq (vs ++ ws) } })
    (hsz : vs.size + ws.size ≤ sizeLine) :
    wpAny (model prog w) A (binaryOp .Add (.ref t) (.ref b)) Q E s := by
  obtain ⟨⟨cls, dd, data, sl⟩, ho, hc, n, hd⟩ := id ht
  obtain ⟨⟨cls2, dd2, data2, sl2⟩, ho2, hc2, n2, hd2⟩ := id hb
  simp only at hc hd hc2 hd2
  subst hc hd hc2 hd2
  by_cases hw : ws = #[]
  · exact concat_meets ⟨_, ho, rfl⟩ ⟨_, ho2, rfl⟩ noFill_tuple_add seq_tuple_add PySem.F.slot_tuple_add PySem.F.entry_tuple_add (PySem.F.args_tuple_add_2 _ _)
      (tuple_addW1 t b vs ws n n2 dd dd2 sl sl2 (by simpa using hv) (by simp [hw])) ⟨ho, ho2, h1 hv hw⟩
  · exact concat_meets ⟨_, ho, rfl⟩ ⟨_, ho2, rfl⟩ noFill_tuple_add seq_tuple_add PySem.F.slot_tuple_add PySem.F.entry_tuple_add (PySem.F.args_tuple_add_2 _ _)
      (tuple_addW2 t b vs ws n n2 dd dd2 sl sl2 (by simpa using hv) (by simpa using hw) hsz) ⟨ho, ho2, h2 hw⟩

theorem pair_elt {env : Env} {nk np nx : Str} {pk pp px : Pos} {kv xv : Value} {pa : Addr} {its : Array Value} {c1 c2 : Nat} {p1 p2 p3 : Pos} {G : Value → List (Addr × Obj) → Prop}
    (hp : IsTup s.heap pa its) (hsz : its.size + 1 ≤ sizeLine)
    (e1 : ∀ h' tk Q, Kept s.heap h' → Q kv { s with heap := h', toks := tk } → wpAny (model prog w) A (eval (.Name nk pk) env) Q E { s with heap := h', toks := tk })
    (e2 : ∀ h' tk Q, Kept s.heap h' → Q (.ref pa) { s with heap := h', toks := tk } → wpAny (model prog w) A (eval (.Name np pp) env) Q E { s with heap := h', toks := tk })
    (e3 : ∀ h' tk Q, Kept s.heap h' → Q xv { s with heap := h', toks := tk } → wpAny (model prog w) A (eval (.Name nx px) env) Q E { s with heap := h', toks := tk })
    (hG : ∀ T P its', its'.size ≤ its.size + 1 → s.heap.get? T = none → s.heap.get? P = none → G (.ref T) [(T, { cls := .type "tuple", data := .seq #[.ref P, xv] }), (P, { cls := .type "tuple", data := .seq its' })]) :
    wpAny (model prog w) A (eval (.Tuple [.BinOp (.Tuple [.Name nk pk] c1 p1) .Add (.Name np pp) p2, .Name nx px] c2 p3) env) (QEltO G s) E s := by
  have hF : ∀ (h : Heap) (x : Addr), h.objs.size ≤ x → h.get? x = none := fun h x hx => Heap.get?_none_of_le hx
  have kp : ∀ (h : Heap) (o : Obj), Kept h (h.push o) := fun h o b x e => Heap.get?_push_of_some _ e
  refine Tuple_ (spliced_more (wpAny_BinOp (Tuple_ (spliced_more (e1 s.heap s.toks _ (Kept.refl _) (spliced_none ?_))))))
  refine wpAny_newTuple ?_ (by show 1 ≤ sizeLine; rw [sizeLine_eq]; decide)
  refine e2 _ s.toks _ (kp _ _) ?_
  have n1 : s.heap.get? s.heap.objs.size = none := hF _ _ (Nat.le_refl _)
  have t1 : IsTup (s.heap.push { cls := .type "tuple", data := .seq [kv].toArray }) s.heap.objs.size #[kv] := ⟨_, Heap.get?_push_size _ rfl, rfl, _, rfl⟩
  have t2 := IsTup.keeps hp (kp s.heap { cls := .type "tuple", data := .seq [kv].toArray })
  refine add_tup t1 t2 (fun _ hw => ?_) (by simp) (fun hw => ?_) (by rw [show (#[kv] : Array Value).size = 1 from rfl]; omega)
  · refine spliced_more (e3 _ s.toks _ (kp _ _) (spliced_none ?_))
    refine wpAny_newTuple ?_ (by show 2 ≤ sizeLine; rw [sizeLine_eq]; decide)
    refine ⟨⟨_, hG _ s.heap.objs.size #[kv] (by rw [hw]; exact Nat.le_refl 1) ?_ n1, fun q hq => ?_⟩, _, _, rfl, fun b o e => kp _ _ _ _ (kp _ _ _ _ e)⟩
    · exact hF _ _ (by rw [Heap.size_push]; exact Nat.le_succ _)
    · rcases List.mem_cons.mp hq with rfl | hq
      · exact ⟨hF _ _ (by show _ ≤ Array.size _; rw [Heap.size_push]; exact Nat.le_succ _), Heap.get?_push_size _ rfl⟩
      · rw [List.mem_singleton.mp hq]
        exact ⟨n1, kp _ _ _ _ (Heap.get?_push_size _ rfl)⟩
  · have n2 : s.heap.get? (s.heap.push { cls := .type "tuple", data := .seq [kv].toArray }).objs.size = none := hF _ _ (by rw [Heap.size_push]; exact Nat.le_succ _)
    refine spliced_more (e3 _ s.toks _ (fun b o e => kp _ _ _ _ (kp _ _ _ _ e)) (spliced_none ?_))
    refine wpAny_newTuple ?_ (by show 2 ≤ sizeLine; rw [sizeLine_eq]; decide)
    refine ⟨⟨_, hG _ (s.heap.push { cls := .type "tuple", data := .seq [kv].toArray }).objs.size (#[kv] ++ its) (by simp; omega) ?_ n2, fun q hq => ?_⟩, _, _, rfl, fun b o e => kp _ _ _ _ (kp _ _ _ _ (kp _ _ _ _ e))⟩
    · exact hF _ _ (by rw [Heap.size_push, Heap.size_push]; exact Nat.le_add_right _ 2)
    · rcases List.mem_cons.mp hq with rfl | hq
      · exact ⟨hF _ _ (by show _ ≤ Array.size _; rw [Heap.size_push, Heap.size_push]; exact Nat.le_add_right _ 2), Heap.get?_push_size _ rfl⟩
      · rw [List.mem_singleton.mp hq]
        exact ⟨n2, kp _ _ _ _ (Heap.get?_push_size _ rfl)⟩

theorem ext_any {h₀ : Heap} {L D b : Addr} {m : Str → Option Value} {news news' : List (Addr × Obj)} {its its2 : Array Value} {n n2 : Nat} {Q : Value → Shared → Prop} (F : Fr h₀ L s.heap m) (N : News h₀ L s.heap news) (hb : (b, listOf its2 n2) ∈ news)
    (U : Upd D (listOf its n) (listOf (its ++ its2) (if (its ++ its2).size == its.size then n else n + 1)) news news') (hz : its.size + its2.size ≤ sizeLine)
    (h : ∀ h', Fr h₀ L h' m → News h₀ L h' news' → Q .none { s with heap := h' }) : wpAny (model prog w) A (call (.builtin "list.extend") [.ref D, .ref b]) Q E s := by
  obtain ⟨pre, post, rfl, rfl, a, c⟩ := U.split
  have z := N (D, listOf its n) (List.mem_append.mpr (.inr (.head _)))
  refine call_meets PySem.F.slot_list_extend ⟨_, z.1, rfl⟩ PySem.F.entry_list_extend (PySem.F.args_list_extend_2 _ _) (PySem.AutoSeq1.list_extend_list_list_0 D its n b its2 n2 (extend_door hz) (by omega) (by omega)) ⟨z.1, (N _ hb).1, ?_⟩
  have ho' : (s.heap.update D (Obj.mapSeq fun x => x ++ its2)).get? D = some (listOf (its ++ its2) (if (its ++ its2).size == its.size then n else n + 1)) := by
    rw [Heap.get?_update_self _ z.1 (by show Obj.isFreed (Obj.mapSeq _ { cls := .type "list", data := .seq its n }) = _; rw [mapSeq_app]; rfl)]
    show some (Obj.mapSeq _ { cls := .type "list", data := .seq its n }) = _
    rw [mapSeq_app]
  exact h _ (F.change (Heap.SameBut.update ..) z.2.1 z.2.2) (N.setIn a c (Heap.SameBut.update ..) ho')
end

/-- a term and all terms in it -/
noncomputable def St.parts : St → List St
  | .not a => .not a :: a.parts
  | .union a b => .union a b :: (a.parts ++ b.parts)
  | .meet a b => .meet a b :: (a.parts ++ b.parts)
  | .less a b => .less a b :: (a.parts ++ b.parts)
  | t => [t]
theorem St.parts_length (t : St) : t.parts.length = t.size := by
  induction t <;> simp [St.parts, St.size, *]
/-- what parts gives for one part: a pair of a path and it -/
noncomputable def PartAt (g : Heap) (n : Nat) (h : Heap) (v : Value) (t : St) : Prop := ∃ r pa its x, v = .ref r ∧ IsTup h r #[.ref pa, x] ∧ IsTup h pa its ∧ its.size ≤ n ∧ SAt g x t
inductive PAt (g : Heap) (n : Nat) (h : Heap) : List Value → List St → Prop
  | nil : PAt g n h [] []
  | cons {v : Value} {t : St} {vs : List Value} {ts : List St} : PartAt g n h v t → PAt g n h vs ts → PAt g n h (v :: vs) (t :: ts)
theorem PartAt.keeps {g : Heap} {n n' : Nat} {h h' : Heap} {v : Value} {t : St} (x : PartAt g n h v t) (hn : n ≤ n') (k : Kept h h') : PartAt g n' h' v t :=
  let ⟨r, pa, its, y, e, a, b, c, d⟩ := x; ⟨r, pa, its, y, e, a.keeps k, b.keeps k, Nat.le_trans c hn, d⟩
theorem PAt.keeps {g : Heap} {n n' : Nat} {h h' : Heap} {vs : List Value} {ts : List St} (x : PAt g n h vs ts) (hn : n ≤ n') (k : Kept h h') : PAt g n' h' vs ts := by
  induction x with
  | nil => exact .nil
  | cons a _ ih => exact .cons (a.keeps hn k) ih
theorem PAt.append {g : Heap} {n : Nat} {h : Heap} {vs vs' : List Value} {ts ts' : List St} (x : PAt g n h vs ts) (y : PAt g n h vs' ts') : PAt g n h (vs ++ vs') (ts ++ ts') := by
  induction x with
  | nil => exact y
  | cons a _ ih => exact .cons a ih
theorem PAt.length {g : Heap} {n : Nat} {h : Heap} {vs : List Value} {ts : List St} (x : PAt g n h vs ts) : vs.length = ts.length := by
  induction x with
  | nil => rfl
  | cons _ _ ih => simp [ih]
theorem PAt.mem {g : Heap} {n : Nat} {h : Heap} {vs : List Value} {ts : List St} (x : PAt g n h vs ts) : ∀ v ∈ vs, ∃ t ∈ ts, PartAt g n h v t := by
  induction x with
  | nil => intro v hv; cases hv
  | cons a _ ih =>
    intro v hv
    rcases List.mem_cons.mp hv with rfl | hv
    · exact ⟨_, .head _, a⟩
    · obtain ⟨t, ht, p⟩ := ih v hv
      exact ⟨t, .tail _ ht, p⟩
/-- the elements of parts's comprehension: new pairs -/
noncomputable def PG (h₁ : Heap) (n : Nat) (v y : Value) (own : List (Addr × Obj)) : Prop :=
  ∃ T P its' xv t v₁, y = .ref T ∧ own = [(T, { cls := .type "tuple", data := .seq #[.ref P, xv] }), (P, { cls := .type "tuple", data := .seq its' })] ∧ its'.size ≤ n + 1 ∧ v = .ref t ∧ IsTup h₁ t #[v₁, xv] ∧ h₁.get? T = none ∧ h₁.get? P = none
noncomputable def OwnsAt (h₁ h' : Heap) (owns : List (Addr × Obj)) : Prop := ∀ q ∈ owns, h'.get? q.1 = some q.2 ∧ h₁.get? q.1 = none ∧ q.2.cls = .type "tuple"
noncomputable def PLater (g : Heap) (n : Nat) (owns : List (Addr × Obj)) (ys : List Value) (ts : List St) : Prop := ∀ h'', (∀ q ∈ owns, h''.get? q.1 = some q.2) → PAt g n h'' ys ts
theorem comp_owns {g h₁ h' : Heap} {n : Nat} {vs ys : List Value} {ts : List St} (x : PAt g n h₁ vs ts) (y : Paired (GAt (PG h₁ n) h') vs ys) : ∃ owns, OwnsAt h₁ h' owns ∧ PLater g (n + 1) owns ys ts := by
  induction x generalizing ys with
  | nil => cases y; exact ⟨[], fun q hq => (nomatch hq), fun _ _ => PAt.nil⟩
  | cons a b ih =>
    cases y with
    | cons p r =>
    obtain ⟨owns, ho, hl⟩ := ih r
    obtain ⟨own, ⟨T, P, its', xv, t, v₁, rfl, rfl, hs, e0, ht, nT, nP⟩, hq⟩ := p
    obtain ⟨r', pa, its, x, e, h1, h2, h3, h4⟩ := a
    rw [e0] at e
    cases e
    have := IsTup.inj ht h1
    have hx : xv = x := by injection this with this; injection this with _ this; injection this
    subst hx
    refine ⟨[(T, ({ cls := .type "tuple", data := .seq #[.ref P, xv] } : Obj)), (P, { cls := .type "tuple", data := .seq its' })] ++ owns, fun q hm => ?_, fun h'' hh => ?_⟩
    · rcases List.mem_append.mp hm with hm | hm
      · refine ⟨hq q hm, ?_⟩
        rcases List.mem_cons.mp hm with rfl | hm
        · exact ⟨nT, rfl⟩
        · rw [List.mem_singleton.mp hm]; exact ⟨nP, rfl⟩
      · exact ho q hm
    · refine PAt.cons ⟨T, P, its', xv, rfl, ⟨_, hh _ (List.mem_append_left _ (.head _)), rfl, _, rfl⟩, ⟨_, hh _ (List.mem_append_left _ (.tail _ (.head _))), rfl, _, rfl⟩, hs, h4⟩ (hl h'' fun q hm => hh q (List.mem_append_right _ hm))
end Mine
end
section
open PySem PySem.W PySem.Spec PySem.Calls PyProof.Rows
set_option maxRecDepth 100000
namespace Mine
section
variable {w : World} {mean : ExcName → Option Value} {mg mb : Str → Option Value}
theorem lines_p4_1 : True := by
  k_with_none
  (k_with "h ne" => (refine neN ?_; (try dsimp only); first | assumption | (refine Ne.symm ?_; assumption) | (refine Nat.ne_of_lt ?_; assumption) | (refine Nat.ne_of_gt ?_; assumption) | ((repeat (rename (_ ∧ _) => hA9; first | ((repeat (first | exact hA9 | exact Ne.symm hA9 | exact Nat.ne_of_lt hA9 | exact Nat.ne_of_gt hA9 | (obtain ⟨h9a, hA9⟩ := hA9; first | exact h9a | exact Ne.symm h9a | exact Nat.ne_of_lt h9a | exact Nat.ne_of_gt h9a | exact h9a.1 | exact h9a.2.1 | exact h9a.2.2 | exact Ne.symm h9a.1 | exact Ne.symm h9a.2.1 | exact Ne.symm h9a.2.2 | clear h9a))); fail_if_success (focus skip)) | clear hA9)); fail_if_success (focus skip)) | omega))
  (k_with "h rel" => first | assumption | exact IsTup.keeps (by assumption) (Fr.keep (by assumption)) | exact EnvAt.keeps (by assumption) (Fr.keep (by assumption)) | exact SetsAt.keeps (by assumption) (Fr.keep (by assumption)))
  (k_with "call builtin:len" => (k_here; (with_reducible show wpAny _ _ (call (Value.builtin "len") [Value.ref _]) _ _ _); first | refine len_1 (by ktr_rel) ?_ | refine len_2 (by ktr_rel) ?_ | refine len_3 (by ktr_rel) ?_ | refine len_4 (by ktr_rel) ?_))
  (k_with "subscriptTail" => (k_here; (with_reducible show wpAny _ _ (subscriptTail _ _ (Value.ref _) (Value.str _ _)) _ _ _); k_dflt (refine env_item (by (ktr_rel); fail_if_success (focus skip)) (by (assumption); fail_if_success (focus skip)) ?_ (by (with_unfolding_all rfl); fail_if_success (focus skip)); k_whole; intro eT)))
  (k_with "subscriptTail" => (k_here; (with_reducible show wpAny _ _ (subscriptTail _ _ (Value.ref _) (Value.int _ _)) _ _ _); k_dflt (refine item_tupleT (by (ktr_rel); fail_if_success (focus skip)) (by (decide); fail_if_success (focus skip)) (by (decide); fail_if_success (focus skip)) (by (rfl); fail_if_success (focus skip)) (by (rfl); fail_if_success (focus skip)) ?_; k_whole)))
  (k_with "subscriptTail Name Slice ref ref" => (k_here; k_dflt (refine tail_slice (by (k_asm); fail_if_success (focus skip)) (by (k_asm); fail_if_success (focus skip)) (by (ktr_rel); fail_if_success (focus skip)) (by (exact Nat.le_of_ble_eq_true rfl); fail_if_success (focus skip)) ?_ (by (with_unfolding_all rfl); fail_if_success (focus skip)) (by (intro _; with_unfolding_all rfl); fail_if_success (focus skip)); k_whole; intro D' h' F' N' l1; (try k_lt l1); (try k_sweep))))
  (k_with "exec Assign cons ListComp" => (k_here; (with_reducible rename PyProof.Rows.News _ _ _ _ => nx9); (replace nx9 := News.last2 nx9); (change PyProof.Rows.News _ _ _ [(_, _), (_, _)] at nx9); (repeat (rename ((_ : Nat) < _ ∧ _) => lx9; clear lx9)); k_dflt (refine Assign_ListComp_T (by k_asm) (by rfl) (by with_unfolding_all rfl) (by with_unfolding_all rfl) (by decide) (by rfl) (by decide) (by rfl) (by rfl) (by rfl) ?_); (repeat (first | walk1 | (dsimp only; walk1))); k_dflt (refine SrcT.ledger (by first | rfl | assumption) (by k_asm) (by k_asm) (by k_mem) (by exact Nat.le_of_ble_eq_true rfl) ?_; intro g'; lcg_lit)))
  (k_with "h units" => (simp only [units_deeper, units_in1]; first | exact Nat.lt_of_le_of_lt (by (simp +arith); fail_if_success (focus skip)) hD | exact Nat.lt_of_le_of_lt (by (simp +arith); fail_if_success (focus skip)) hU | exact Nat.lt_of_le_of_lt (by (simp +arith); fail_if_success (focus skip)) hD9 | exact Nat.lt_of_le_of_lt (by (simp +arith); fail_if_success (focus skip)) hU9 | omega))
  (k_with "compareOp Eq ref ref" => (k_here; k_dflt (first
      | (refine eq_one_t (by (ktr_rel); fail_if_success (focus skip)) (by (exact News.isTup (by assumption) (by k_mem)); fail_if_success (focus skip)) (by (ktr_units); fail_if_success (focus skip)) (by (first | decide | simp_all); fail_if_success (focus skip)) ?_; k_whole)
      | (refine eq_one_f (by (ktr_rel); fail_if_success (focus skip)) (by (exact News.isTup (by assumption) (by k_mem)); fail_if_success (focus skip)) (by (ktr_units); fail_if_success (focus skip)) (by (first | decide | simp_all); fail_if_success (focus skip)) ?_; k_whole))))
  (k_with "h rel" => exact SAt.keeps (by assumption) (Fr.keep (by assumption)))
  (k_with "compareOp In bool ref" => (k_here; k_dflt (refine in_bools (News.isList (by k_asm) (by k_mem)) ?_)))
  (k_with "compareOp NotIn bool ref" => (k_here; k_dflt (refine notIn_bools (News.isList (by k_asm) (by k_mem)) ?_)))
  (k_with "h inst" => exact InstAt.keeps (by assumption) (Fr.keep (by assumption)))
  (k_with "compareOp NotIn str ref" => (k_here; k_dflt (first | refine env_notin (by ktr_rel) (by assumption) ?_ | refine env_notin_none (by ktr_rel) (by assumption) ?_)))
  (k_with "compareOp In ref ref" => (k_here; k_dflt (first
      | (refine in_two_t (by (exact News.isTup (by assumption) (by k_mem)); fail_if_success (focus skip)) (by (exact News.isTup (by assumption) (by k_mem)); fail_if_success (focus skip)) (by (exact News.isTup (by assumption) (by k_mem)); fail_if_success (focus skip)) (by (ktr_rel); fail_if_success (focus skip)) (by (ktr_units); fail_if_success (focus skip)) (by (first | decide | simp_all); fail_if_success (focus skip)) ?_; k_whole)
      | (refine in_two_f (by (exact News.isTup (by assumption) (by k_mem)); fail_if_success (focus skip)) (by (exact News.isTup (by assumption) (by k_mem)); fail_if_success (focus skip)) (by (exact News.isTup (by assumption) (by k_mem)); fail_if_success (focus skip)) (by (ktr_rel); fail_if_success (focus skip)) (by (ktr_units); fail_if_success (focus skip)) (by (first | decide | simp_all); fail_if_success (focus skip)) ?_; k_whole))))
  (k_with "compareOp NotIn ref ref" => (k_here; k_dflt (first
      | (refine notIn_four_t (by (exact News.isTup (by assumption) (by k_mem)); fail_if_success (focus skip)) (by (exact News.isTup (by assumption) (by k_mem)); fail_if_success (focus skip)) (by (exact News.isTup (by assumption) (by k_mem)); fail_if_success (focus skip)) (by (exact News.isTup (by assumption) (by k_mem)); fail_if_success (focus skip)) (by (exact News.isTup (by assumption) (by k_mem)); fail_if_success (focus skip)) (by (exact News.isTup (by assumption) (by k_mem)); fail_if_success (focus skip)) (by (ktr_units); fail_if_success (focus skip)) (by (first | decide | simp_all); fail_if_success (focus skip)) ?_; k_whole)
      | (refine notIn_four_f (by (exact News.isTup (by assumption) (by k_mem)); fail_if_success (focus skip)) (by (exact News.isTup (by assumption) (by k_mem)); fail_if_success (focus skip)) (by (exact News.isTup (by assumption) (by k_mem)); fail_if_success (focus skip)) (by (exact News.isTup (by assumption) (by k_mem)); fail_if_success (focus skip)) (by (exact News.isTup (by assumption) (by k_mem)); fail_if_success (focus skip)) (by (exact News.isTup (by assumption) (by k_mem)); fail_if_success (focus skip)) (by (ktr_units); fail_if_success (focus skip)) (by (first | decide | simp_all); fail_if_success (focus skip)) ?_; k_whole))))
  (k_with "storeName" => (k_here; k_dflt (refine storeX_U (by k_asm) (by k_asm) ?_ (by rfl) (by rfl)); intro h' F' N'; (try k_sweep)))
  trivial
/-- a variable alone -/
noncomputable def St.isVar : St → Bool
  | .name x => Txt.slice x Option.none (some 1) == Str.ofString "?"
  | _ => false
/-- its names are short -/
noncomputable def St.short : St → Prop
  | .none | .all => True
  | .name x => x.length ≤ 20
  | .not a => a.short
  | .union a b | .meet a b | .less a b => a.short ∧ b.short
set_option maxHeartbeats 0 in
theorem isvar_call {t : St} {A : Around} {s : Shared} {v : Value} {Q E : Value → Shared → Prop}
    (C : Cal w mean mg mb A s) (hD : A.depth + 1 < recursionLimit) (ht : SAt s.heap v t) (hsh : t.short)
    (h : ∀ h' tk', Kept s.heap h' → Q (.bool t.isVar) { s with heap := h', toks := tk' }) : wpAny (model PR w) A (call (.ref 81) [v]) Q E s := by
  cases ht
  case none a tk ht =>
    refine enterP (binds := [(Str.ofString "t", .ref a)]) C (by k_is) (by k_is) (by first | exact Nat.lt_of_le_of_lt (by (simp +arith); fail_if_success (focus skip)) hD | exact Nat.lt_of_le_of_lt (by (simp +arith); fail_if_success (focus skip)) hU | exact Nat.lt_of_le_of_lt (by (simp +arith); fail_if_success (focus skip)) hD9 | exact Nat.lt_of_le_of_lt (by (simp +arith); fail_if_success (focus skip)) hU9 | omega) (BindsTo.of_eq rfl) (locs rfl) (fun L' h₁ base outer F N B X T hh => ?_) rfl rfl rfl (by decide)
    clear C
    k_steps
    all_goals first | exact pend_bool (by assumption) (by first | rfl | decide) (h _ _ (Fr.keep (by assumption)))
  case all a tk ht =>
    refine enterP (binds := [(Str.ofString "t", .ref a)]) C (by k_is) (by k_is) (by first | exact Nat.lt_of_le_of_lt (by (simp +arith); fail_if_success (focus skip)) hD | exact Nat.lt_of_le_of_lt (by (simp +arith); fail_if_success (focus skip)) hU | exact Nat.lt_of_le_of_lt (by (simp +arith); fail_if_success (focus skip)) hD9 | exact Nat.lt_of_le_of_lt (by (simp +arith); fail_if_success (focus skip)) hU9 | omega) (BindsTo.of_eq rfl) (locs rfl) (fun L' h₁ base outer F N B X T hh => ?_) rfl rfl rfl (by decide)
    clear C
    k_steps
    all_goals first | exact pend_bool (by assumption) (by first | rfl | decide) (h _ _ (Fr.keep (by assumption)))
  case name a x tk ht =>
    refine enterP (binds := [(Str.ofString "t", .ref a)]) C (by k_is) (by k_is) (by first | exact Nat.lt_of_le_of_lt (by (simp +arith); fail_if_success (focus skip)) hD | exact Nat.lt_of_le_of_lt (by (simp +arith); fail_if_success (focus skip)) hU | exact Nat.lt_of_le_of_lt (by (simp +arith); fail_if_success (focus skip)) hD9 | exact Nat.lt_of_le_of_lt (by (simp +arith); fail_if_success (focus skip)) hU9 | omega) (BindsTo.of_eq rfl) (locs rfl) (fun L' h₁ base outer F N B X T hh => ?_) rfl rfl rfl (by decide)
    clear C
    have hx : x.length ≤ 20 := hsh
    k_steps
    all_goals first | exact pend_bool (by assumption) (by first | rfl | decide) (h _ _ (Fr.keep (by assumption)))
  case not a tk v1 k1 ht h1 =>
    refine enterP (binds := [(Str.ofString "t", .ref a)]) C (by k_is) (by k_is) (by first | exact Nat.lt_of_le_of_lt (by (simp +arith); fail_if_success (focus skip)) hD | exact Nat.lt_of_le_of_lt (by (simp +arith); fail_if_success (focus skip)) hU | exact Nat.lt_of_le_of_lt (by (simp +arith); fail_if_success (focus skip)) hD9 | exact Nat.lt_of_le_of_lt (by (simp +arith); fail_if_success (focus skip)) hU9 | omega) (BindsTo.of_eq rfl) (locs rfl) (fun L' h₁ base outer F N B X T hh => ?_) rfl rfl rfl (by decide)
    clear C
    k_steps
    all_goals first | exact pend_bool (by assumption) (by first | rfl | decide) (h _ _ (Fr.keep (by assumption)))
  case union a tk v1 v2 k1 k2 ht h1 h2 =>
    refine enterP (binds := [(Str.ofString "t", .ref a)]) C (by k_is) (by k_is) (by first | exact Nat.lt_of_le_of_lt (by (simp +arith); fail_if_success (focus skip)) hD | exact Nat.lt_of_le_of_lt (by (simp +arith); fail_if_success (focus skip)) hU | exact Nat.lt_of_le_of_lt (by (simp +arith); fail_if_success (focus skip)) hD9 | exact Nat.lt_of_le_of_lt (by (simp +arith); fail_if_success (focus skip)) hU9 | omega) (BindsTo.of_eq rfl) (locs rfl) (fun L' h₁ base outer F N B X T hh => ?_) rfl rfl rfl (by decide)
    clear C
    k_steps
    all_goals first | exact pend_bool (by assumption) (by first | rfl | decide) (h _ _ (Fr.keep (by assumption)))
  case meet a tk v1 v2 k1 k2 ht h1 h2 =>
    refine enterP (binds := [(Str.ofString "t", .ref a)]) C (by k_is) (by k_is) (by first | exact Nat.lt_of_le_of_lt (by (simp +arith); fail_if_success (focus skip)) hD | exact Nat.lt_of_le_of_lt (by (simp +arith); fail_if_success (focus skip)) hU | exact Nat.lt_of_le_of_lt (by (simp +arith); fail_if_success (focus skip)) hD9 | exact Nat.lt_of_le_of_lt (by (simp +arith); fail_if_success (focus skip)) hU9 | omega) (BindsTo.of_eq rfl) (locs rfl) (fun L' h₁ base outer F N B X T hh => ?_) rfl rfl rfl (by decide)
    clear C
    k_steps
    all_goals first | exact pend_bool (by assumption) (by first | rfl | decide) (h _ _ (Fr.keep (by assumption)))
  case less a tk v1 v2 k1 k2 ht h1 h2 =>
    refine enterP (binds := [(Str.ofString "t", .ref a)]) C (by k_is) (by k_is) (by first | exact Nat.lt_of_le_of_lt (by (simp +arith); fail_if_success (focus skip)) hD | exact Nat.lt_of_le_of_lt (by (simp +arith); fail_if_success (focus skip)) hU | exact Nat.lt_of_le_of_lt (by (simp +arith); fail_if_success (focus skip)) hD9 | exact Nat.lt_of_le_of_lt (by (simp +arith); fail_if_success (focus skip)) hU9 | omega) (BindsTo.of_eq rfl) (locs rfl) (fun L' h₁ base outer F N B X T hh => ?_) rfl rfl rfl (by decide)
    clear C
    k_steps
    all_goals first | exact pend_bool (by assumption) (by first | rfl | decide) (h _ _ (Fr.keep (by assumption)))
end
end Mine
end
section
open PySem PySem.W PySem.Spec PySem.Calls PyProof.Rows
set_option maxRecDepth 100000
namespace Mine
section
variable {prog : Program} {w : World} {A : Around} {E : Value → Shared → Prop} {s : Shared}
open PySem.AutoSeq1 (wpAny_loadPart') in
theorem newEnum_tup (l : Addr) (items : Array Value) (n : Nat) (dct : Option Addr) (sl : Array (Option Value)) :
    Meets (Builtin.«enumerate.__new__» ⟨[.type "enumerate", .ref l], []⟩) (fun _ R s => s.heap.get? l = some { cls := .type "tuple", dict := dct, data := .seq items n, slots := sl } ∧
      R (.ok (.ret (.ref (s.heap.push { cls := .type "tuple_iterator", data := .fields #[.ref l, .int 0 0] }).objs.size)))
        { s with heap := (s.heap.push { cls := .type "tuple_iterator", data := .fields #[.ref l, .int 0 0] }).push { cls := .type "enumerate", data := .fields #[.none, .bool false, .ref s.heap.objs.size, rawInt 0, .none, .none] } }) :=
  .of_wp fun prog w A R s h => by
    obtain ⟨hp, g, d, tk, os⟩ := s; obtain ⟨hl, h⟩ := h
    have hsub := sub_enumerate
    have hL : Heap.IsTuple (Shared.heap ⟨hp, g, d, tk, os⟩) l items := ⟨_, hl, rfl, n, rfl⟩
    wp_walk using wpAny_loadPart' hl
    refine wpAny_stack_any fun st => wpAny_pure ?_
    split
    · rename_i c _ _ _ _ _
      cases (c == Value.type "enumerate")
      · wp_walk using wpAny_loadPart' hl, PySem.wpAny_pyIter_tuple hL
        exact ⟨_, rfl, h⟩
      · wp_walk using wpAny_loadPart' hl, PySem.wpAny_pyIter_tuple hL
        exact ⟨_, rfl, h⟩
    · wp_walk using wpAny_loadPart' hl, PySem.wpAny_pyIter_tuple hL
      exact ⟨_, rfl, h⟩
theorem call_enum_tup {l : Addr} {items : Array Value} {Q : Value → Shared → Prop} (hL : IsTup s.heap l items)
    (h : ∀ h', IsEnum h' (s.heap.objs.size + 1) s.heap.objs.size 0 .none → h'.IsTupleIter s.heap.objs.size l 0 → (∀ b o, s.heap.get? b = some o → h'.get? b = some o) → Q (.ref (s.heap.objs.size + 1)) { s with heap := h' }) :
    wpAny (model prog w) A (call (.type "enumerate") [.ref l]) Q E s := by
  obtain ⟨⟨c, dct, dt, sl⟩, hl, hc, n, hd⟩ := hL
  replace hc : c = .type "tuple" := hc
  replace hd : dt = .seq items n := hd
  subst hc hd
  refine callType_new F.called_enumerate (by decide) (F.typeCall_enumerate_1 _) (F.newCall_enumerate_1 _) (fun obj => F.args_object_init_2 obj _) F.entry_enumerate_new
    (newEnum_tup l items n dct sl) ⟨hl, ?_⟩
  have hz : (s.heap.push { cls := .type "tuple_iterator", data := .fields #[.ref l, .int 0 0] }).objs.size = s.heap.objs.size + 1 := Heap.size_push ..
  show _ ∧ _
  rw [hz]
  have he : IsEnum ((s.heap.push { cls := .type "tuple_iterator", data := .fields #[.ref l, .int 0 0] }).push
      { cls := .type "enumerate", data := .fields #[.none, .bool false, .ref s.heap.objs.size, rawInt 0, .none, .none] }) (s.heap.objs.size + 1) s.heap.objs.size 0 .none := by
    have := Heap.get?_push_size (s.heap.push { cls := .type "tuple_iterator", data := .fields #[.ref l, .int 0 0] })
      (o := { cls := .type "enumerate", data := .fields #[.none, .bool false, .ref s.heap.objs.size, rawInt 0, .none, .none] }) rfl
    rw [hz] at this; exact this
  exact ⟨⟨_, he, rfl⟩, h _ he ⟨_, Heap.get?_push_of_some _ (Heap.get?_push_size _ rfl), rfl, rfl⟩ fun b o x => Heap.get?_push_of_some _ (Heap.get?_push_of_some _ x)⟩

theorem nextOf_tup_item {it l : Addr} {i : Nat} {items : Array Value} {x : Value} {Q : Value → Shared → Prop} (hit : s.heap.IsTupleIter it l i) (hl : s.heap.IsTuple l items) (hx : items[i]? = some x)
    (hQ : ∀ h', h'.IsTupleIter it l (i + 1) → Heap.SameBut it s.heap h' → Q x { s with heap := h' }) : wpAny (model prog w) A (Builtin.SmallTypes.nextOf (.ref it)) Q E s := by
  obtain ⟨o, ho, hc, hd⟩ := id hit
  obtain ⟨ol, hol, _, nl, hdl⟩ := hl
  unfold Builtin.SmallTypes.nextOf
  refine wpAny_bind (wpAny_callSpecial?_slot (name := Str.ofString "__next__") hit.typeIs F.slot_tuple_iterator_next
    (wpAny_call_entry F.slot_tuple_iterator_next hit.typeIs F.entry_tuple_iterator_next ?_ (F.args_tuple_iterator_next_1 _)))
  show wpAny _ _ (field (.ref it) 0 >>= _) _ _ s
  refine wpAny_bind (wpAny_field ho hd (x := .ref l) rfl ?_)
  show wpAny _ _ (if (Value.ref l == Value.none) = true then _ else _) _ _ s
  rw [if_neg (show ¬ ((Value.ref l == Value.none) = true) from Bool.false_ne_true)]
  show wpAny _ _ (field (.ref it) 1 >>= _) _ _ s
  refine wpAny_bind (wpAny_field ho hd (x := .int i 0) rfl ?_)
  show wpAny _ _ (seqItems? (.ref l) >>= _) _ _ s
  refine wpAny_bind (wpAny_seqItems hol hdl ?_)
  simp only [Int.toNat_natCast, hx]
  refine wpAny_bind (wpAny_setField ho hd (by simp) (wpAny_pure ⟨x, rfl, wpAny_pure (hQ _ ?_ (Heap.SameBut.update ..))⟩))
  exact ⟨_, Heap.get?_update_self _ ho (Obj.isFreed_of_fields (Obj.data_mapFields hd _)), (Obj.cls_mapFields ..).trans hc, by
    rw [Obj.data_mapFields hd]; simp [rawInt]⟩
theorem nextOf_tup_end {it l : Addr} {i : Nat} {items : Array Value} {Q : Value → Shared → Prop} (hh : A.handled = none) (hit : s.heap.IsTupleIter it l i) (hl : s.heap.IsTuple l items) (hx : items[i]? = none)
    (hE : ∀ h' e, Heap.ExtBut it s.heap h' → (∃ o, h'.get? e = some o ∧ o.cls = .type "StopIteration") → E (.ref e) { s with heap := h' }) : wpAny (model prog w) A (Builtin.SmallTypes.nextOf (.ref it)) Q E s := by
  obtain ⟨o, ho, hc, hd⟩ := id hit
  obtain ⟨ol, hol, _, nl, hdl⟩ := hl
  unfold Builtin.SmallTypes.nextOf
  refine wpAny_bind (wpAny_callSpecial?_slot (name := Str.ofString "__next__") hit.typeIs F.slot_tuple_iterator_next
    (wpAny_call_entry F.slot_tuple_iterator_next hit.typeIs F.entry_tuple_iterator_next ?_ (F.args_tuple_iterator_next_1 _)))
  show wpAny _ _ (field (.ref it) 0 >>= _) _ _ s
  refine wpAny_bind (wpAny_field ho hd (x := .ref l) rfl ?_)
  show wpAny _ _ (if (Value.ref l == Value.none) = true then _ else _) _ _ s
  rw [if_neg (show ¬ ((Value.ref l == Value.none) = true) from Bool.false_ne_true)]
  show wpAny _ _ (field (.ref it) 1 >>= _) _ _ s
  refine wpAny_bind (wpAny_field ho hd (x := .int i 0) rfl ?_)
  show wpAny _ _ (seqItems? (.ref l) >>= _) _ _ s
  refine wpAny_bind (wpAny_seqItems hol hdl ?_)
  simp only [Int.toNat_natCast, hx]
  refine wpAny_bind (wpAny_rule (wpAny_bind (wpAny_setField ho hd (by simp) ?_)))
  show wpAny _ _ (newExc (.type "StopIteration") [] >>= _) _ _ _
  refine wpAny_bind ?_
  simp only [newExc, newTuple]
  refine wpAny_bind (wpAny_newObj_type ?_ (by size_fits))
  refine wpAny_bind (m := firstArgMember _ _) (wpAny_of_eq (a := Value.none) (by first | rfl | (simp only [firstArgMember]; rfl)) ?_)
  refine wpAny_newObj_type ?_ (by size_fits)
  simp only [raiseNew]
  refine wpAny_bind (wpAny_handled ?_)
  first | rw [show A.in1.handled = none from hh] | rw [hh]
  refine wpAny_bind (wpAny_pure (wpAny_throw ?_))
  exact hE _ _ (((Heap.SameBut.update ..).extBut.push _).push _) ⟨_, Heap.get?_push_size _ rfl, rfl⟩
end
theorem Draws.tup {prog : Program} {w : World} {A : Around} (hh : A.handled = none) (it l : Addr) (hne : l ≠ it) (items : Array Value) :
    Draws prog w A it [it, l] items.size (fun i v => items[i]? = some v) (fun i h => h.IsTupleIter it l i ∧ h.IsTuple l items) where
  live := fun _ _ st => let ⟨o, ho, _⟩ := st.1; ⟨o, ho⟩
  frame := fun _ _ _ st hk => ⟨let ⟨o, ho, r⟩ := st.1; ⟨o, hk it (by simp) o ho, r⟩, let ⟨o, ho, r⟩ := st.2; ⟨o, hk l (by simp) o ho, r⟩⟩
  item := fun i s Q E hi st hQ => by
    refine nextOf_tup_item st.1 st.2 (x := items[i]) (by simp [hi]) fun h' hit' hs' => ?_
    exact hQ _ h' s.toks (by simp [hi]) ⟨hit', st.2.extBut hs'.extBut hne⟩ hs'
  done := fun s Q E st hE => nextOf_tup_end hh st.1 st.2 (by simp) hE

section
variable {prog : Program} {w : World} {A : Around} {E : Value → Shared → Prop} {s : Shared} {env : Env} {h₀ : Heap} {body : List Stmt} {Q : Flow → Shared → Prop}
/-- for k, x in enumerate(t) over a tuple of the ledger, turn by turn -/
theorem enum_tup {elts : List Expr} {k : Nat} {pos : Pos} {l : Addr} {lo : Obj} {vs : List Value} {xs : List Itm} {n : Nat} {m₀ : Str → Option Value} {news : List (Addr × Obj)}
    (hh : A.handled = none) (F : Fr h₀ env.locals s.heap m₀) (N : News h₀ env.locals s.heap news) (hm : (l, lo) ∈ news) (hc : lo.cls = .type "tuple") (hd : lo.data = .seq vs.toArray n) (hx : enumItems 0 vs = xs)
    (rest₀ : ∀ I : Addr, (∀ p ∈ news, p.1 < I) → ItemsRest prog w A E h₀ env (.Tuple elts k pos) body Q s [(I + 1, "enumerate"), (I, "tuple_iterator")] [(l, lo)] xs m₀ news) :
    wpAny (model prog w) A (call (.type "enumerate") [.ref l]) (fun xv s₁ => wpAny (model prog w) A (pyIter xv) (fun it s₂ => TurnsAt prog w A h₀ env (.Tuple elts k pos) body Q E it s₂) E s₁) E s := by
  subst hx
  have hax := N _ hm
  have hl : IsTup s.heap l vs.toArray := ⟨lo, hax.1, hc, n, hd⟩
  have hlt : l < s.heap.objs.size := Heap.lt_size hax.1
  have hLs : env.locals < s.heap.objs.size := F.ns.lt
  have ne1 : ∀ {b : Addr}, b < s.heap.objs.size → b ≠ s.heap.objs.size + 1 := fun h => Nat.ne_of_lt (Nat.lt_succ_of_lt h)
  have new0 : ∀ {b : Addr}, s.heap.objs.size ≤ b → h₀.get? b = none := fun hb => by
    cases q : h₀.get? _ with
    | none => rfl
    | some o => exact absurd (Heap.lt_size (F.keep _ _ q)) (Nat.not_lt.mpr hb)
  refine call_enum_tup hl fun h' hE hI hk => ?_
  refine wpAny_pyIter_enum hE ?_
  have D := Draws.tup (prog := prog) (w := w) (A := A.in1) hh s.heap.objs.size l (Nat.ne_of_lt hlt) vs.toArray
  refine ktu_core (tk0 := s.toks) (keep := [(l, lo)]) (KTurns.ofWalksU (WalksT.enumerateD D (s.heap.objs.size + 1) (Nat.succ_ne_self _) (by
      intro hb
      have hb' : s.heap.objs.size + 1 = s.heap.objs.size ∨ s.heap.objs.size + 1 = l := by simpa using hb
      rcases hb' with q | q
      · exact Nat.succ_ne_self _ q
      · exact ne1 hlt q.symm) (.head _)).toU) (by simp [enumItems_length]) ?_ ?_ ?_ ?_ ?_ ?_ ?_ ?_ (F.keeps hk) (N.grown hk) (And.intro hm trivial) (rest₀ _ fun p hp => Heap.lt_size (N p hp).1)
  · rintro i v h ⟨T, vals, rfl, ⟨t, x, hx, rfl⟩, hT⟩
    refine ⟨_, enumItems_get vs 0 i (v := x) (by simpa using hx), T, t, rfl, ?_⟩
    show IsTup h T #[.int ((0 + i : Nat) : Int) t, x]
    rw [Nat.zero_add]
    exact hT
  · rintro i h ⟨⟨old, he⟩, ⟨oi, hoi, hic, _⟩, _⟩
    have he' : ∃ oe : Obj, h.get? (s.heap.objs.size + 1) = some oe ∧ oe.cls = .type "enumerate" := ⟨_, he, rfl⟩
    obtain ⟨oe, h1, h2⟩ := he'
    refine ⟨[(s.heap.objs.size + 1, oe), (s.heap.objs.size, oi)], ⟨⟨rfl, h2⟩, ⟨rfl, hic⟩, trivial⟩, fun p hp => ?_⟩
    rcases List.mem_cons.mp hp with rfl | hp
    · exact h1
    · rw [List.mem_singleton.mp hp]; exact hoi
  · intro b hb
    have hb' : b = s.heap.objs.size + 1 ∨ b = s.heap.objs.size := by simpa using hb
    rcases hb' with rfl | rfl
    · exact ⟨by simp, new0 (Nat.le_add_right _ _)⟩
    · exact ⟨by simp, new0 (Nat.le_refl _)⟩
  · intro b hb
    simpa using hb
  · intro b hb
    have hb' : b = s.heap.objs.size + 1 ∨ b = s.heap.objs.size ∨ b = l := by simpa using hb
    rcases hb' with rfl | rfl | rfl
    · exact .inl (by simp)
    · exact .inl (by simp)
    · exact .inr ⟨lo, by simp⟩
  · intro hI'
    have hb' : env.locals = s.heap.objs.size + 1 ∨ env.locals = s.heap.objs.size ∨ env.locals = l := by simpa using hI'
    rcases hb' with e | e | e
    · exact ne1 hLs e
    · exact Nat.ne_of_lt hLs e
    · exact hax.2.1 e.symm
  · intro p hp hI'
    have hb' : p.1 = s.heap.objs.size + 1 ∨ p.1 = s.heap.objs.size := by simpa using hI'
    have hlp := Heap.lt_size (N p hp).1
    rcases hb' with e | e
    · exact ne1 hlp e
    · exact Nat.ne_of_lt hlp e
  · exact ⟨⟨.none, hE⟩, hI, let ⟨o, ho, r⟩ := hl; ⟨o, hk _ _ ho, r⟩⟩
end
end Mine
end
section
open PySem PySem.W PySem.Spec PySem.Calls PyProof.Rows
set_option maxRecDepth 100000
namespace Mine
noncomputable def AllNe (d : Nat) : List (Addr × Obj) → Prop
  | [] => True
  | p :: r => @Ne Nat p.1 d ∧ AllNe d r
theorem allNe_of {d : Addr} : ∀ {l : List (Addr × Obj)}, (∀ p ∈ l, p.1 ≠ d) → AllNe d l
  | [], _ => trivial
  | p :: _, h => ⟨h p (.head _), allNe_of fun q hq => h q (.tail _ hq)⟩
/-- none of these is there -/
noncomputable def Apart (owns : List (Addr × Obj)) : List (Addr × Obj) → Prop
  | [] => True
  | p :: r => (∀ q ∈ owns, q.1 ≠ p.1) ∧ Apart owns r
theorem apart_of {owns : List (Addr × Obj)} : ∀ {l : List (Addr × Obj)}, (∀ p ∈ l, ∀ q ∈ owns, q.1 ≠ p.1) → Apart owns l
  | [], _ => trivial
  | p :: _, h => ⟨h p (.head _), apart_of fun q hq => h q (.tail _ hq)⟩
noncomputable def OwnCls (owns : List (Addr × Obj)) : Prop := ∀ q ∈ owns, q.2.cls = .type "tuple"
theorem Apart.get {owns : List (Addr × Obj)} {a : Addr} {o : Obj} : ∀ {l : List (Addr × Obj)}, Apart owns l → (a, o) ∈ l → ∀ q ∈ owns, q.1 ≠ a
  | [], _, h => nomatch h
  | _ :: _, x, h => by
    rcases List.mem_cons.mp h with rfl | h
    · exact x.1
    · exact Apart.get x.2 h
theorem OwnsAt.apart {h₀ h₁ h' : Heap} {L : Addr} {owns news : List (Addr × Obj)} (O : OwnsAt h₁ h' owns) (N : News h₀ L h₁ news) : Apart owns news :=
  apart_of fun p hp q hq e => by
    have := (O q hq).2.1
    rw [e, (N p hp).1] at this; cases this
theorem OwnsAt.news {h₀ h₁ h' : Heap} {L : Addr} {m : Str → Option Value} {owns news : List (Addr × Obj)} (O : OwnsAt h₁ h' owns) (F : Fr h₀ L h₁ m) (N : News h₀ L h' news) : News h₀ L h' (news ++ owns) := fun q hq => by
  rcases List.mem_append.mp hq with hq | hq
  · exact N q hq
  · have hn := (O q hq).2.1
    refine ⟨(O q hq).1, fun e => ?_, ?_⟩
    · obtain ⟨o, _, _, ho, _⟩ := F.ns
      rw [e, ho] at hn; cases hn
    · cases z : h₀.get? q.1 with
      | none => rfl
      | some o => rw [F.keep _ _ z] at hn; cases hn
theorem unrEnd {h₀ : Heap} {L : Addr} {its all news' : List (Addr × Obj)} {rest : (Str → Option Value) → List (Addr × Obj) → Prop} {s₁ : Shared} {h' : Heap} {tk : Nat} {m' : Str → Option Value} (F : Fr h₀ L h' m') (N : News h₀ L h' all)
    (hI : ∀ p ∈ its, p ∈ all) (sub : ∀ p ∈ news', p ∈ all) (off : ∀ p ∈ news', ∀ q ∈ its, p.1 ≠ q.1 ∨ p.2.cls ≠ q.2.cls) (r : rest m' news') : UnrEndW h₀ L s₁ its rest { s₁ with heap := h', toks := tk } :=
  ⟨h', tk, m', news', rfl, F, fun p hp => by
    rcases List.mem_append.mp hp with hp | hp
    · exact N p (hI p hp)
    · exact N p (sub p hp), fun p hp q hq e => by
    rcases off p hp q hq with h | h
    · exact h e
    · have h1 := (N _ (sub p hp)).1
      have h2 := (N _ (hI q hq)).1
      rw [e] at h1
      exact h (congrArg Obj.cls (Option.some.inj (h1.symm.trans h2))), r⟩
noncomputable abbrev PAt.G {g h : Heap} {n : Nat} {vs : List Value} {ts : List St} (_ : PAt g n h vs ts) := PG h n
theorem PAt.pairs {g h : Heap} {n : Nat} {vs : Array Value} {ts : List St} (x : PAt g n h vs.toList ts) : ∀ v, v ∈ vs → ∃ t v₁ v₂, v = .ref t ∧ IsTup h t #[v₁, v₂] := fun v hv => by
  obtain ⟨t, _, r, pa, its, y, e, h1, _⟩ := x.mem v (by simpa using hv)
  exact ⟨r, _, _, e, h1⟩
theorem PAt.at {g h : Heap} {n : Nat} {vs : Array Value} {ts : List St} {v v₁ v₂ : Value} {t : Addr} (x : PAt g n h vs.toList ts) (hv : v ∈ vs) (e : v = .ref t) (ht : IsTup h t #[v₁, v₂]) : ∃ pa its, v₁ = .ref pa ∧ IsTup h pa its ∧ its.size ≤ n := by
  obtain ⟨t', _, r, pa, its, y, e', h1, h2, h3, _⟩ := x.mem v (by simpa using hv)
  rw [e] at e'
  cases e'
  have := IsTup.inj ht h1
  injection this with this
  injection this with a _
  exact ⟨pa, its, a, h2, h3⟩
theorem Kept.none {h h' : Heap} (k : Kept h h') {a : Addr} (e : h'.get? a = .none) : h.get? a = .none := by
  cases z : h.get? a with
  | none => rfl
  | some o => rw [k _ _ z] at e; cases e
theorem filter_all {vs : Array Value} : vs.toList.filter (fun _ => true) = vs.toList := by simp
theorem Paired.length {α β : Type} {F : α → β → Prop} : ∀ {l₁ : List α} {l₂ : List β}, Paired F l₁ l₂ → l₁.length = l₂.length
  | _, _, .nil => rfl
  | _, _, .cons _ r => by simp [Paired.length r]

noncomputable def PartsC (w : World) (mean : ExcName → Option Value) (mg mb : Str → Option Value) (t : St) : Prop :=
  ∀ {A : Around} {s : Shared} {g : Heap} {v : Value} {Q E : Value → Shared → Prop},
    Cal w mean mg mb A s → A.depth + t.size < recursionLimit → A.units + 8 * t.size < cLine → Kept g s.heap → SAt g v t →
    (∀ h' tk D vs k, Kept s.heap h' → s.heap.get? D = none → h'.get? D = some { cls := .type "list", data := .seq vs k } → PAt g t.size h' vs.toList t.parts → Q (.ref D) { s with heap := h', toks := tk }) → wpAny (model PR w) A (call (.ref 91) [v]) Q E s
section
variable {w : World} {mean : ExcName → Option Value} {mg mb : Str → Option Value}
theorem PartsC.use {t : St} {v : Value} {A : Around} {base h₀ : Heap} {outer : List Env} {L : Addr} {m : Str → Option Value} {env : Env} {news : List (Addr × Obj)} {s : Shared} {Q E : Value → Shared → Prop}
    (B : Below A base outer h₀) (F : Fr h₀ L s.heap m) (X : (hd.heap_39 w.params).In h₀) (T : Top hd.view_39 LO mean mg mb h₀) (N : News h₀ L s.heap news) (hh : A.handled = none) (hf : env.frame = some L) (hk : env.scope.kind = .function)
    {g : Heap} (kg : Kept g h₀) (hv : SAt g v t) (c : PartsC w mean mg mb t) (hD : A.depth + 1 + t.size < recursionLimit) (hU : A.units + 3 + 8 * t.size < cLine)
    (h : ∀ h' tk D vs k, Fr h₀ L h' m → News h₀ L h' ((D, { cls := .type "list", data := .seq vs k }) :: news) → (∀ p ∈ news, p.1 ≠ D) → PAt g t.size h' vs.toList t.parts → Q (.ref D) { s with heap := h', toks := tk }) : wpAny (model PR w) (A.deeper env) (call (.ref 91) [v]) Q E s :=
  c (Cal.site B F X T hh hf hk) hD hU (Kept.trans kg F.keep) hv fun h' tk D vs k kp hn hD hP => by
    refine h h' tk D vs k (F.keeps kp) (fun q hq => ?_) (fun q hq e => ?_) hP
    · rcases List.mem_cons.mp hq with rfl | hq
      · refine ⟨hD, fun e => ?_, ?_⟩
        · obtain ⟨o, _, _, ho, _⟩ := F.ns
          have e : D = L := e
          rw [← e, hn] at ho; cases ho
        · cases q : h₀.get? D with
          | none => rfl
          | some o => have := F.keep _ _ q; rw [hn] at this; cases this
      · exact N.grown kp q hq
    · have := (N q hq).1
      rw [e, hn] at this; cases this
theorem lines_p5_1 : True := by
  k_with_none
  (k_with "h ne" => (refine neN ?_; (try dsimp only); first | assumption | (refine Ne.symm ?_; assumption) | (refine Nat.ne_of_lt ?_; assumption) | (refine Nat.ne_of_gt ?_; assumption) | ((repeat (rename (_ ∧ _) => hA9; first | ((repeat (first | exact hA9 | exact Ne.symm hA9 | exact Nat.ne_of_lt hA9 | exact Nat.ne_of_gt hA9 | (obtain ⟨h9a, hA9⟩ := hA9; first | exact h9a | exact Ne.symm h9a | exact Nat.ne_of_lt h9a | exact Nat.ne_of_gt h9a | exact h9a.1 | exact h9a.2.1 | exact h9a.2.2 | exact Ne.symm h9a.1 | exact Ne.symm h9a.2.1 | exact Ne.symm h9a.2.2 | clear h9a))); fail_if_success (focus skip)) | clear hA9)); fail_if_success (focus skip)) | omega))
  (k_with "h rel" => first | assumption | exact IsTup.keeps (by assumption) (Fr.keep (by assumption)) | exact EnvAt.keeps (by assumption) (Fr.keep (by assumption)) | exact SetsAt.keeps (by assumption) (Fr.keep (by assumption)))
  (k_with "call builtin:len" => (k_here; (with_reducible show wpAny _ _ (call (Value.builtin "len") [Value.ref _]) _ _ _); first | refine len_1 (by ktr_rel) ?_ | refine len_2 (by ktr_rel) ?_ | refine len_3 (by ktr_rel) ?_ | refine len_4 (by ktr_rel) ?_))
  (k_with "subscriptTail" => (k_here; (with_reducible show wpAny _ _ (subscriptTail _ _ (Value.ref _) (Value.str _ _)) _ _ _); k_dflt (refine env_item (by (ktr_rel); fail_if_success (focus skip)) (by (assumption); fail_if_success (focus skip)) ?_ (by (with_unfolding_all rfl); fail_if_success (focus skip)); k_whole; intro eT)))
  (k_with "subscriptTail" => (k_here; (with_reducible show wpAny _ _ (subscriptTail _ _ (Value.ref _) (Value.int _ _)) _ _ _); k_dflt (refine item_tupleT (by (ktr_rel); fail_if_success (focus skip)) (by (decide); fail_if_success (focus skip)) (by (decide); fail_if_success (focus skip)) (by (rfl); fail_if_success (focus skip)) (by (rfl); fail_if_success (focus skip)) ?_; k_whole)))
  (k_with "subscriptTail Name Slice ref ref" => (k_here; k_dflt (refine tail_slice (by (k_asm); fail_if_success (focus skip)) (by (k_asm); fail_if_success (focus skip)) (by (ktr_rel); fail_if_success (focus skip)) (by (exact Nat.le_of_ble_eq_true rfl); fail_if_success (focus skip)) ?_ (by (with_unfolding_all rfl); fail_if_success (focus skip)) (by (intro _; with_unfolding_all rfl); fail_if_success (focus skip)); k_whole; intro D' h' F' N' l1; (try k_lt l1); (try k_sweep))))
  (k_with "exec Assign cons ListComp" => (k_here; (with_reducible rename PyProof.Rows.News _ _ _ _ => nx9); (replace nx9 := News.last2 nx9); (change PyProof.Rows.News _ _ _ [(_, _), (_, _)] at nx9); (repeat (rename ((_ : Nat) < _ ∧ _) => lx9; clear lx9)); k_dflt (refine Assign_ListComp_T (by k_asm) (by rfl) (by with_unfolding_all rfl) (by with_unfolding_all rfl) (by decide) (by rfl) (by decide) (by rfl) (by rfl) (by rfl) ?_); (repeat (first | walk1 | (dsimp only; walk1))); k_dflt (refine SrcT.ledger (by first | rfl | assumption) (by k_asm) (by k_asm) (by k_mem) (by exact Nat.le_of_ble_eq_true rfl) ?_; intro g'; lcg_lit)))
  (k_with "h units" => (simp only [units_deeper, units_in1]; first | exact Nat.lt_of_le_of_lt (by (simp +arith); fail_if_success (focus skip)) hD | exact Nat.lt_of_le_of_lt (by (simp +arith); fail_if_success (focus skip)) hU | exact Nat.lt_of_le_of_lt (by (simp +arith); fail_if_success (focus skip)) hD9 | exact Nat.lt_of_le_of_lt (by (simp +arith); fail_if_success (focus skip)) hU9 | omega))
  (k_with "compareOp Eq ref ref" => (k_here; k_dflt (first
      | (refine eq_one_t (by (ktr_rel); fail_if_success (focus skip)) (by (exact News.isTup (by assumption) (by k_mem)); fail_if_success (focus skip)) (by (ktr_units); fail_if_success (focus skip)) (by (first | decide | simp_all); fail_if_success (focus skip)) ?_; k_whole)
      | (refine eq_one_f (by (ktr_rel); fail_if_success (focus skip)) (by (exact News.isTup (by assumption) (by k_mem)); fail_if_success (focus skip)) (by (ktr_units); fail_if_success (focus skip)) (by (first | decide | simp_all); fail_if_success (focus skip)) ?_; k_whole))))
  (k_with "h rel" => exact SAt.keeps (by assumption) (Fr.keep (by assumption)))
  (k_with "compareOp In bool ref" => (k_here; k_dflt (refine in_bools (News.isList (by k_asm) (by k_mem)) ?_)))
  (k_with "compareOp NotIn bool ref" => (k_here; k_dflt (refine notIn_bools (News.isList (by k_asm) (by k_mem)) ?_)))
  (k_with "h inst" => exact InstAt.keeps (by assumption) (Fr.keep (by assumption)))
  (k_with "compareOp NotIn str ref" => (k_here; k_dflt (first | refine env_notin (by ktr_rel) (by assumption) ?_ | refine env_notin_none (by ktr_rel) (by assumption) ?_)))
  (k_with "compareOp In ref ref" => (k_here; k_dflt (first
      | (refine in_two_t (by (exact News.isTup (by assumption) (by k_mem)); fail_if_success (focus skip)) (by (exact News.isTup (by assumption) (by k_mem)); fail_if_success (focus skip)) (by (exact News.isTup (by assumption) (by k_mem)); fail_if_success (focus skip)) (by (ktr_rel); fail_if_success (focus skip)) (by (ktr_units); fail_if_success (focus skip)) (by (first | decide | simp_all); fail_if_success (focus skip)) ?_; k_whole)
      | (refine in_two_f (by (exact News.isTup (by assumption) (by k_mem)); fail_if_success (focus skip)) (by (exact News.isTup (by assumption) (by k_mem)); fail_if_success (focus skip)) (by (exact News.isTup (by assumption) (by k_mem)); fail_if_success (focus skip)) (by (ktr_rel); fail_if_success (focus skip)) (by (ktr_units); fail_if_success (focus skip)) (by (first | decide | simp_all); fail_if_success (focus skip)) ?_; k_whole))))
  (k_with "compareOp NotIn ref ref" => (k_here; k_dflt (first
      | (refine notIn_four_t (by (exact News.isTup (by assumption) (by k_mem)); fail_if_success (focus skip)) (by (exact News.isTup (by assumption) (by k_mem)); fail_if_success (focus skip)) (by (exact News.isTup (by assumption) (by k_mem)); fail_if_success (focus skip)) (by (exact News.isTup (by assumption) (by k_mem)); fail_if_success (focus skip)) (by (exact News.isTup (by assumption) (by k_mem)); fail_if_success (focus skip)) (by (exact News.isTup (by assumption) (by k_mem)); fail_if_success (focus skip)) (by (ktr_units); fail_if_success (focus skip)) (by (first | decide | simp_all); fail_if_success (focus skip)) ?_; k_whole)
      | (refine notIn_four_f (by (exact News.isTup (by assumption) (by k_mem)); fail_if_success (focus skip)) (by (exact News.isTup (by assumption) (by k_mem)); fail_if_success (focus skip)) (by (exact News.isTup (by assumption) (by k_mem)); fail_if_success (focus skip)) (by (exact News.isTup (by assumption) (by k_mem)); fail_if_success (focus skip)) (by (exact News.isTup (by assumption) (by k_mem)); fail_if_success (focus skip)) (by (exact News.isTup (by assumption) (by k_mem)); fail_if_success (focus skip)) (by (ktr_units); fail_if_success (focus skip)) (by (first | decide | simp_all); fail_if_success (focus skip)) ?_; k_whole))))
  (k_with "storeName" => (k_here; k_dflt (refine storeX_U (by k_asm) (by k_asm) ?_ (by rfl) (by rfl)); intro h' F' N'; (try k_sweep)))
  (k_with "h all" => first | exact Apart.get (by assumption) (by k_mem) | exact List.forall_mem_append.mpr ⟨Apart.get (by assumption) (by k_mem), Apart.get (by assumption) (by k_mem)⟩)
  (k_with "call type:enumerate" => (k_here; (rename Fr _ _ _ _ => lF'); (rename News _ _ _ _ => lN'); (with_unfolding_all refine enum_tup (by first | rfl | assumption) lF' lN' (by k_mem) (by rfl) (by rfl) (by rfl) ?_); clear lF'; intro i' l1; (try k_lt l1)))
  (k_with "exec For Tuple Call cons nil" => (k_here; (rename Fr _ _ _ _ => lF'); (with_unfolding_all refine' For_turns lF' ?_; k_whole)))
  (k_with "call ref" => (k_here; (with_reducible show wpAny _ _ (call (Value.ref 91) _) _ _ _); k_dflt (refine PartsC.use (by (k_asm); fail_if_success (focus skip)) (by (k_asm); fail_if_success (focus skip)) (by (k_asm); fail_if_success (focus skip)) (by (k_asm); fail_if_success (focus skip)) (by (k_asm); fail_if_success (focus skip)) (by (first | exact rfl | k_asm); fail_if_success (focus skip)) (by (exact rfl); fail_if_success (focus skip)) (by (exact rfl); fail_if_success (focus skip)) (by (k_asm); fail_if_success (focus skip)) (by (k_asm); fail_if_success (focus skip)) (by (k_asm); fail_if_success (focus skip)) (by ((try dsimp only); first | exact Nat.lt_of_le_of_lt (by (simp +arith); fail_if_success (focus skip)) hD | exact Nat.lt_of_le_of_lt (by (simp +arith); fail_if_success (focus skip)) hU | exact Nat.lt_of_le_of_lt (by (simp +arith); fail_if_success (focus skip)) hD9 | exact Nat.lt_of_le_of_lt (by (simp +arith); fail_if_success (focus skip)) hU9 | omega); fail_if_success (focus skip)) (by ((try dsimp only); first | exact Nat.lt_of_le_of_lt (by (simp +arith); fail_if_success (focus skip)) hD | exact Nat.lt_of_le_of_lt (by (simp +arith); fail_if_success (focus skip)) hU | exact Nat.lt_of_le_of_lt (by (simp +arith); fail_if_success (focus skip)) hD9 | exact Nat.lt_of_le_of_lt (by (simp +arith); fail_if_success (focus skip)) hU9 | omega); fail_if_success (focus skip)) ?_; k_whole; intro h' tk' D' vs' k' F' N' n1 hP'; (replace n1 := allNe_of n1); (try simp only [AllNe, and_true] at n1); (try k_sweep); (try dsimp only))))
  (k_with "eval ListComp" => (k_here; k_dflt (refine ListComp_pairs (by k_asm) (by with_unfolding_all rfl) (by decide) (by rfl) (by decide) (by rfl) (by rfl) (by decide) (by first | rfl | assumption) ?_); (repeat (first | walk1 | (dsimp only; walk1)))))
  (k_with "call builtin:list.extend" => (k_here; (with_reducible show wpAny _ _ (call (Value.builtin _) [Value.ref _, Value.ref _]) _ _ _); k_dflt (refine ext_any (by (k_asm); fail_if_success (focus skip)) (by (k_asm); fail_if_success (focus skip)) (by (exact List.Mem.head _); fail_if_success (focus skip)) (by (k_upd); fail_if_success (focus skip)) (by ((rw [sizeLine_eq]; (simp only [Array.size_append, List.size_toArray, List.length_cons, List.length_nil]); omega)); fail_if_success (focus skip)) ?_; k_whole); intro h' F' N'; (try k_sweep)))
  (k_with "UnrEndW" => ((rename Fr _ _ _ _ => F'); (rename News _ _ _ _ => N'); (rename OwnCls _ => oc'); (refine unrEnd F' N' ?hI (fun p hp => .tail _ (.tail _ (.tail _ (.tail _ hp)))) ?off ⟨by k_subL, ?_⟩); (case hI => exact List.forall_mem_cons.mpr ⟨by k_mem, List.forall_mem_cons.mpr ⟨by k_mem, List.forall_mem_nil _⟩⟩); (case off => ((repeat (refine List.forall_mem_cons.mpr (And.intro (List.forall_mem_cons.mpr (And.intro ?_ (List.forall_mem_cons.mpr (And.intro ?_ (List.forall_mem_nil _))))) ?_); (focus (dsimp only; ktu_off)); (focus (dsimp only; ktu_off)))); exact fun p hp => List.forall_mem_cons.mpr ⟨Or.inr (ktu_clsNe3 (oc' p hp) (by assumption) (by k_cls)), List.forall_mem_cons.mpr ⟨Or.inr (ktu_clsNe3 (oc' p hp) (by assumption) (by k_cls)), List.forall_mem_nil _⟩⟩))))
  trivial
set_option maxHeartbeats 0 in
theorem parts_not {g : Heap} {a : Addr} {tk₀ : Tok} {x : St} {v' : Value} {A : Around} {s : Shared} {Q E : Value → Shared → Prop} (ih : PartsC w mean mg mb x)
    (C : Cal w mean mg mb A s) (hD : A.depth + (x.size + 1) < recursionLimit) (hU : A.units + 8 * (x.size + 1) < cLine) (kg : Kept g s.heap) (ht : IsTup g a #[Value.str (Str.ofString "not") tk₀, v']) (hx : SAt g v' x)
    (h : ∀ h' tk D vs k, Kept s.heap h' → s.heap.get? D = none → h'.get? D = some { cls := .type "list", data := .seq vs k } → PAt g (x.size + 1) h' vs.toList (.not x :: x.parts) → Q (.ref D) { s with heap := h', toks := tk }) : wpAny (model PR w) A (call (.ref 91) [.ref a]) Q E s := by
    have hs := SAt.not ht hx
    have hR : x.size < 5000 := by
      have := hD; simp only [recursionLimit] at this; omega
    have ht' := IsTup.keeps ht kg
    refine enterC (binds := [(Str.ofString "t", .ref a)]) C (by k_is) (by k_is) (by first | exact Nat.lt_of_le_of_lt (by (simp +arith); fail_if_success (focus skip)) hD | exact Nat.lt_of_le_of_lt (by (simp +arith); fail_if_success (focus skip)) hU | exact Nat.lt_of_le_of_lt (by (simp +arith); fail_if_success (focus skip)) hD9 | exact Nat.lt_of_le_of_lt (by (simp +arith); fail_if_success (focus skip)) hU9 | omega) (BindsTo.of_eq rfl) rfl (by decide +kernel) (fun L' h₁ tk cells base outer F N Y B X T hh => ?_) rfl rfl rfl
    clear C
    obtain ⟨ha, ad, af, ag, au⟩ := A
    replace hh : ha = Option.none := hh
    subst hh
    dsimp only at hD hU
    k_cells Y
    (try simp only [List.cons_append, List.nil_append] at N)
    k_steps
    (
      (rename PAt _ _ _ _ _ => hP'); (rename Fr _ _ _ _ => F'); (rename News _ _ _ _ => N');
      (refine ⟨fun _ => true, PAt.G hP', _, _, _, _, rfl, F', N', ?sz, News.isList N' (.head _), PAt.pairs hP', fun C oC v t v₁ v₂ m₂ s₃ E' _ _ _ _ _ _ _ _ _ => wpAny_pure ⟨rfl, _, _, rfl, fun _ _ e => e⟩, fun C oC v t v₁ v₂ m₂ s₃ E' hv' _ e' ht' F₃ N₃ ns ha' hb' kp' => ?elt, fun D' h' tk' ys' k' F₂ N₂ n1 kp' hn' hG' => ?rest⟩);
      (case sz => (have hl' := PAt.length hP'; rw [Array.length_toList, St.parts_length] at hl'; rw [sizeLine_eq]; omega));
      (case elt => (
        (obtain ⟨pa', its', e1', h1', h2'⟩ := PAt.at hP' hv' e' ht');
        (subst e1');
        (clear N' F');
        (refine pair_elt (kv := ?kv) (IsTup.keeps h1' kp') (by rw [sizeLine_eq]; omega) (fun h'' tk'' Q'' k'' hQ'' => ?e1) (fun h'' tk'' Q'' k'' hQ'' => ?e2) (fun h'' tk'' Q'' k'' hQ'' => ?e3) (fun T' P' its'' hs' nT' nP' => ⟨T', P', its'', v₂, t, _, rfl, rfl, Nat.le_trans hs' (Nat.succ_le_succ h2'), e', ht', Kept.none kp' nT', Kept.none kp' nP'⟩));
        (case e1 => ((have F4 := F₃.keeps k''); (have N4 := N₃.grown k''); walk1; exact hQ''));
        (case e2 => ((have F4 := F₃.keeps k''); (have N4 := N₃.grown k''); walk1; exact hQ''));
        (case e3 => ((have F4 := F₃.keeps k''); (have N4 := N₃.grown k''); walk1; exact hQ''))));
      ((
        (rw [filter_all] at hG'); (replace hG' : Paired (GAt (PG _ _) _) _ _ := hG');
        (have hl' := PAt.length hP');
        (have hl'' := Paired.length hG');
        (rw [Array.length_toList, St.parts_length] at hl');
        (rw [Array.length_toList, Array.length_toList, hl'] at hl''); (replace hl'' := hl''.symm);
        (obtain ⟨owns', O', P'⟩ := comp_owns hP' hG');
        (have ap' := OwnsAt.apart O' N');
        (replace N₂ := OwnsAt.news O' F' N₂);
        (have oc' : OwnCls owns' := fun q hq => (O' q hq).2.2);
        (replace n1 := allNe_of n1);
        (simp only [AllNe, and_true] at n1);
        (simp only [List.cons_append, List.nil_append] at N₂);
        (clear hG' hP' O' N' F' kp' hn' hl'))))
    k_steps
    dsimp only
    rename Fr _ _ _ _ => F'
    rename News _ _ _ _ => N'
    refine' pend F' (h _ _ _ _ _ (Fr.keep F') ?zn ?zg ?zp)
    case zg => exact News.get N' (by k_mem)
    case zn => exact (N' (_, _) (by k_mem : (_, W.listOf _ _) ∈ _)).2.2
    case zp => exact Array.toList_append ▸ PAt.append (.cons ⟨_, _, #[], .ref a, rfl, News.isTup N' (by k_mem), News.isTup N' (by k_mem), Nat.zero_le _, hs⟩ .nil) (P' _ fun q hq => (N' q (by repeat (first | exact hq | refine List.Mem.tail _ ?_))).1)
set_option maxHeartbeats 0 in
theorem parts_leaf {g : Heap} {a : Addr} {tk₀ : Tok} {op : Str} {t : St} {A : Around} {s : Shared} {Q E : Value → Shared → Prop}
    (C : Cal w mean mg mb A s) (hD : A.depth + 1 < recursionLimit) (hU : A.units + 8 < cLine) (kg : Kept g s.heap) (ht : IsTup g a #[Value.str op tk₀]) (hs : SAt g (.ref a) t)
    (h : ∀ h' tk D vs k, Kept s.heap h' → s.heap.get? D = none → h'.get? D = some { cls := .type "list", data := .seq vs k } → PAt g 1 h' vs.toList [t] → Q (.ref D) { s with heap := h', toks := tk }) : wpAny (model PR w) A (call (.ref 91) [.ref a]) Q E s := by
    have ht' := IsTup.keeps ht kg
    refine enterC (binds := [(Str.ofString "t", .ref a)]) C (by k_is) (by k_is) (by first | exact Nat.lt_of_le_of_lt (by (simp +arith); fail_if_success (focus skip)) hD | exact Nat.lt_of_le_of_lt (by (simp +arith); fail_if_success (focus skip)) hU | exact Nat.lt_of_le_of_lt (by (simp +arith); fail_if_success (focus skip)) hD9 | exact Nat.lt_of_le_of_lt (by (simp +arith); fail_if_success (focus skip)) hU9 | omega) (BindsTo.of_eq rfl) rfl (by decide +kernel) (fun L' h₁ tk cells base outer F N Y B X T hh => ?_) rfl rfl rfl
    clear C
    obtain ⟨ha, ad, af, ag, au⟩ := A
    replace hh : ha = Option.none := hh
    subst hh
    dsimp only at hD hU
    k_cells Y
    (try simp only [List.cons_append, List.nil_append] at N)
    k_steps
    (try dsimp only)
    rename Fr _ _ _ _ => F'
    rename News _ _ _ _ => N'
    refine' pend F' (h _ _ _ _ _ (Fr.keep F') ?zn ?zg ?zp)
    case zg => exact News.get N' (by k_mem)
    case zn => exact (N' (_, _) (by k_mem : (_, W.listOf _ _) ∈ _)).2.2
    case zp => exact PAt.cons ⟨_, _, #[], .ref a, rfl, News.isTup N' (by k_mem), News.isTup N' (by k_mem), Nat.zero_le _, hs⟩ .nil
set_option maxHeartbeats 0 in
theorem parts_two {g : Heap} {a : Addr} {tk₀ : Tok} {op : Str} {x y t : St} {v' v'' : Value} {A : Around} {s : Shared} {Q E : Value → Shared → Prop} (ih : PartsC w mean mg mb x) (ih' : PartsC w mean mg mb y)
    (C : Cal w mean mg mb A s) (hD : A.depth + (x.size + y.size + 1) < recursionLimit) (hU : A.units + 8 * (x.size + y.size + 1) < cLine) (kg : Kept g s.heap) (ht : IsTup g a #[Value.str op tk₀, v', v'']) (hx : SAt g v' x) (hy : SAt g v'' y) (hs : SAt g (.ref a) t)
    (h : ∀ h' tk D vs k, Kept s.heap h' → s.heap.get? D = none → h'.get? D = some { cls := .type "list", data := .seq vs k } → PAt g (x.size + y.size + 1) h' vs.toList (t :: (x.parts ++ y.parts)) → Q (.ref D) { s with heap := h', toks := tk }) : wpAny (model PR w) A (call (.ref 91) [.ref a]) Q E s := by
    have hR : x.size + y.size < 5000 := by
      have := hD; simp only [recursionLimit] at this; omega
    have ht' := IsTup.keeps ht kg
    refine enterC (binds := [(Str.ofString "t", .ref a)]) C (by k_is) (by k_is) (by first | exact Nat.lt_of_le_of_lt (by (simp +arith); fail_if_success (focus skip)) hD | exact Nat.lt_of_le_of_lt (by (simp +arith); fail_if_success (focus skip)) hU | exact Nat.lt_of_le_of_lt (by (simp +arith); fail_if_success (focus skip)) hD9 | exact Nat.lt_of_le_of_lt (by (simp +arith); fail_if_success (focus skip)) hU9 | omega) (BindsTo.of_eq rfl) rfl (by decide +kernel) (fun L' h₁ tk cells base outer F N Y B X T hh => ?_) rfl rfl rfl
    clear C
    obtain ⟨ha, ad, af, ag, au⟩ := A
    replace hh : ha = Option.none := hh
    subst hh
    dsimp only at hD hU
    k_cells Y
    (try simp only [List.cons_append, List.nil_append] at N)
    k_steps
    (
      (rename PAt _ _ _ _ _ => hP'); (rename Fr _ _ _ _ => F'); (rename News _ _ _ _ => N');
      (refine ⟨fun _ => true, PAt.G hP', _, _, _, _, rfl, F', N', ?sz, News.isList N' (.head _), PAt.pairs hP', fun C oC v t v₁ v₂ m₂ s₃ E' _ _ _ _ _ _ _ _ _ => wpAny_pure ⟨rfl, _, _, rfl, fun _ _ e => e⟩, fun C oC v t v₁ v₂ m₂ s₃ E' hv' _ e' ht' F₃ N₃ ns ha' hb' kp' => ?elt, fun D' h' tk' ys' k' F₂ N₂ n1 kp' hn' hG' => ?rest⟩);
      (case sz => (have hl' := PAt.length hP'; rw [Array.length_toList, St.parts_length] at hl'; rw [sizeLine_eq]; omega));
      (case elt => (
        (obtain ⟨pa', its', e1', h1', h2'⟩ := PAt.at hP' hv' e' ht');
        (subst e1');
        (clear N' F');
        (refine pair_elt (kv := ?kv) (IsTup.keeps h1' kp') (by rw [sizeLine_eq]; omega) (fun h'' tk'' Q'' k'' hQ'' => ?e1) (fun h'' tk'' Q'' k'' hQ'' => ?e2) (fun h'' tk'' Q'' k'' hQ'' => ?e3) (fun T' P' its'' hs' nT' nP' => ⟨T', P', its'', v₂, t, _, rfl, rfl, Nat.le_trans hs' (Nat.succ_le_succ h2'), e', ht', Kept.none kp' nT', Kept.none kp' nP'⟩));
        (case e1 => ((have F4 := F₃.keeps k''); (have N4 := N₃.grown k''); walk1; exact hQ''));
        (case e2 => ((have F4 := F₃.keeps k''); (have N4 := N₃.grown k''); walk1; exact hQ''));
        (case e3 => ((have F4 := F₃.keeps k''); (have N4 := N₃.grown k''); walk1; exact hQ''))));
      ((
        (rw [filter_all] at hG'); (replace hG' : Paired (GAt (PG _ _) _) _ _ := hG');
        (have hl' := PAt.length hP');
        (have hl'' := Paired.length hG');
        (rw [Array.length_toList, St.parts_length] at hl');
        (rw [Array.length_toList, Array.length_toList, hl'] at hl''); (replace hl'' := hl''.symm);
        (obtain ⟨owns', O', P'⟩ := comp_owns hP' hG');
        (have ap' := OwnsAt.apart O' N');
        (replace N₂ := OwnsAt.news O' F' N₂);
        (have oc' : OwnCls owns' := fun q hq => (O' q hq).2.2);
        (replace n1 := allNe_of n1);
        (simp only [AllNe, and_true] at n1);
        (simp only [List.cons_append, List.nil_append] at N₂);
        (clear hG' hP' O' N' F' kp' hn' hl'))))
    rename PLater _ _ _ _ _ => P1
    k_steps
    rename OwnCls _ => oc1
    (
      (rename PAt _ _ _ _ _ => hP'); (rename Fr _ _ _ _ => F'); (rename News _ _ _ _ => N');
      (refine ⟨fun _ => true, PAt.G hP', _, _, _, _, rfl, F', N', ?sz2, News.isList N' (.head _), PAt.pairs hP', fun C oC v t v₁ v₂ m₂ s₃ E' _ _ _ _ _ _ _ _ _ => wpAny_pure ⟨rfl, _, _, rfl, fun _ _ e => e⟩, fun C oC v t v₁ v₂ m₂ s₃ E' hv' _ e' ht' F₃ N₃ ns ha' hb' kp' => ?elt2, fun D' h' tk' ys' k' F₂ N₂ n1 kp' hn' hG' => ?rest2⟩);
      (case sz2 => (have hl' := PAt.length hP'; rw [Array.length_toList, St.parts_length] at hl'; rw [sizeLine_eq]; omega));
      (case elt2 => (
        (obtain ⟨pa', its', e1', h1', h2'⟩ := PAt.at hP' hv' e' ht');
        (subst e1');
        (clear N' F');
        (refine pair_elt (kv := ?kv2) (IsTup.keeps h1' kp') (by rw [sizeLine_eq]; omega) (fun h'' tk'' Q'' k'' hQ'' => ?f1) (fun h'' tk'' Q'' k'' hQ'' => ?f2) (fun h'' tk'' Q'' k'' hQ'' => ?f3) (fun T' P' its'' hs' nT' nP' => ⟨T', P', its'', v₂, t, _, rfl, rfl, Nat.le_trans hs' (Nat.succ_le_succ h2'), e', ht', Kept.none kp' nT', Kept.none kp' nP'⟩));
        (case f1 => ((have F4 := F₃.keeps k''); (have N4 := N₃.grown k''); walk1; exact hQ''));
        (case f2 => ((have F4 := F₃.keeps k''); (have N4 := N₃.grown k''); walk1; exact hQ''));
        (case f3 => ((have F4 := F₃.keeps k''); (have N4 := N₃.grown k''); walk1; exact hQ''))));
      ((
        (rw [filter_all] at hG'); (replace hG' : Paired (GAt (PG _ _) _) _ _ := hG');
        (have hl' := PAt.length hP');
        (have hl'' := Paired.length hG');
        (rw [Array.length_toList, St.parts_length] at hl');
        (rw [Array.length_toList, Array.length_toList, hl'] at hl''); (replace hl'' := hl''.symm);
        (obtain ⟨owns', O', P'⟩ := comp_owns hP' hG');
        (have ap' := OwnsAt.apart O' N');
        (replace N₂ := OwnsAt.news O' F' N₂);
        (have oc' : OwnCls owns' := fun q hq => (O' q hq).2.2);
        (replace n1 := allNe_of n1);
        (simp only [AllNe, and_true] at n1);
        (simp only [List.cons_append, List.nil_append] at N₂);
        (clear hG' hP' O' N' F' kp' hn' hl'))))
    have oc2 : OwnCls (_ ++ _) := fun q hq => (List.mem_append.mp hq).elim (oc1 q) (oc' q)
    k_steps
    dsimp only
    rename Fr _ _ _ _ => F'
    rename News _ _ _ _ => N'
    refine' pend F' (h _ _ _ _ _ (Fr.keep F') ?zn ?zg ?zp)
    case zg => exact News.get N' (by k_mem)
    case zn => exact (N' (_, _) (by k_mem : (_, W.listOf _ _) ∈ _)).2.2
    case zp =>
      have e : ∀ (r : Array Value) (p q : Array Value), ((r ++ p) ++ q).toList = (r.toList ++ p.toList) ++ q.toList := fun _ _ _ => by simp
      exact e .. ▸ PAt.append (PAt.append (.cons ⟨_, _, #[], .ref a, rfl, News.isTup N' (by k_mem), News.isTup N' (by k_mem), Nat.zero_le _, hs⟩ .nil) (PAt.keeps (P1 _ fun q hq => (N' q (by repeat (first | exact List.mem_append_left _ hq | refine List.Mem.tail _ ?_))).1) (by omega) (Kept.refl _))) (PAt.keeps (P' _ fun q hq => (N' q (by repeat (first | exact List.mem_append_right _ hq | refine List.Mem.tail _ ?_))).1) (by omega) (Kept.refl _))
theorem parts_call (t : St) : PartsC w mean mg mb t := by
  induction t with
  | none | all | name x =>
    intro A s g v Q E C hD hU kg ht h
    have ht₂ := ht
    cases ht
    exact parts_leaf C hD hU kg (by assumption) ht₂ h
  | not x ih =>
    intro A s g v Q E C hD hU kg ht h
    cases ht with | not i hx => exact parts_not ih C hD hU kg i hx h
  | union x y ih ih' | meet x y ih ih' | less x y ih ih' =>
    intro A s g v Q E C hD hU kg ht h
    have ht₂ := ht
    cases ht
    exact parts_two ih ih' C hD hU kg (by assumption) (by assumption) (by assumption) ht₂ h
end
end Mine
end
section
open PySem PySem.W PySem.Spec PySem.Calls PyProof.Rows
set_option maxRecDepth 100000
namespace Mine
/-- a set of texts: led as this world leads sets; not plain once it holds one -/
noncomputable def SSet (w : World) (h : Heap) (a : Addr) (S : Str → Prop) (n : Nat) : Prop :=
  ∃ es ep t, h.get? a = some { cls := .type "set", dict := none, data := .set es ep t, slots := #[] } ∧ (∀ e ∈ es.toList, ∃ x tk, e.2 = .str x tk ∧ e.1 = (strKind PR w).hash x) ∧ (∀ x, S x ↔ ∃ e ∈ es.toList, ∃ tk, e.2 = .str x tk)
    ∧ es.size ≤ n ∧ t.fits es.size = true ∧ t.led = !(w.params.followText "set-order") ∧ (0 < es.size → t.plain = false)
theorem layNew_led (t : SetTable) (es : Array (Int × Value)) (h : Int) (x : Value) : (layNew t es h x).2.1.led = t.led := by
  unfold layNew
  split
  · show (SetTable.orStandIn _ _).led = _
    unfold SetTable.orStandIn
    split <;> rfl
  · rfl
theorem laid_led {mask finger moves : Nat} {led plain : Bool} {hs : Array Int} {r : SetTable × Array Nat} (e : SetTable.laid mask finger moves led plain hs = some r) : r.1.led = led ∧ r.1.plain = plain := by
  unfold SetTable.laid at e
  cases q : SetTable.layClean mask hs with
  | none => rw [q] at e; cases e
  | some o => rw [q] at e; cases e; exact ⟨rfl, rfl⟩
theorem relayAll_led (t : SetTable) (es : Array (Int × Value)) (wanted : Nat) (hp : t.plain = false) : (relayAll t es wanted).2.1.led = t.led ∧ (relayAll t es wanted).2.1.plain = false := by
  unfold relayAll
  split
  · rename_i t' order e
    have q := laid_led e
    dsimp only
    split
    · exact ⟨q.1, q.2.trans hp⟩
    · exact ⟨rfl, rfl⟩
  · exact ⟨rfl, rfl⟩

section
variable {w : World} {A : Around} {E : Value → Shared → Prop} {s : Shared}
theorem elems_of {es : Array (Int × Value)} (h : ∀ e ∈ es.toList, ∃ x tk, e.2 = .str x tk ∧ e.1 = (strKind PR w).hash x) : ElemsOf (strKind PR w) es.toList := by
  intro e he
  obtain ⟨x, tk, e2, e1⟩ := h e he
  exact ⟨⟨x, by rw [e2]; exact strKind_is _ _ _ _, e1⟩, by rw [e2]; rfl⟩
theorem sset_tail {g : Bool → Sem Unit} (hg : ∀ (b : Bool) (s₁ : Shared) (Q' : Unit → Shared → Prop), Q' () s₁ → wpAny (model PR w) A (g b) Q' E s₁)
    {a : Addr} {es : Array (Int × Value)} {ep : Nat} {t : SetTable} (ho : s.heap.get? a = some { cls := .type "set", dict := none, data := .set es ep t, slots := #[] })
    {es1 : Array (Int × Value)} {t2 : SetTable} {S : Str → Prop} {n : Nat} (hel : ∀ e ∈ es1.toList, ∃ x tk, e.2 = .str x tk ∧ e.1 = (strKind PR w).hash x) (hmem : ∀ x, S x ↔ ∃ e ∈ es1.toList, ∃ tk, e.2 = .str x tk)
    (hn : es1.size ≤ n) (hn' : n < scanBound) (hf : t2.fits es1.size = true) (hl : t2.led = !(w.params.followText "set-order")) (hp : t2.plain = false) {wasDummy : Bool} {R : Option Bool → Shared → Prop}
    (h : ∀ h', Heap.SameBut a s.heap h' → SSet w h' a S n → R (some true) { s with heap := h' }) :
    wpAny (model PR w) A (do
        storeSet a es1 t2
        if (!wasDummy && t2.tooFull) = true then do
            g (relayAll t2 es1 (SetTable.grown es1.size)).2.2
            storeSet a (relayAll t2 es1 (SetTable.grown es1.size)).1 (relayAll t2 es1 (SetTable.grown es1.size)).2.1
            pure (some true)
          else pure (some true)) R E s := by
  refine wpAny_bind (wpAny_storeSet_of ho rfl ?_ (fits_of_scanBound (by omega)))
  have hg1 : (s.heap.update a (Obj.putSet es1 t2)).get? a = some { cls := .type "set", dict := none, data := .set es1 (ep + 1) t2, slots := #[] } := by
    have := Heap.get?_update_self (Obj.putSet es1 t2) ho (by rw [putSet_of es1 t2 rfl]; rfl)
    rw [putSet_of es1 t2 rfl] at this; exact this
  have sb1 := Heap.SameBut.update s.heap a (Obj.putSet es1 t2)
  split
  · have hpm := relayAll_perm t2 es1 (SetTable.grown es1.size)
    have hfr := relayAll_fits t2 es1 (SetTable.grown es1.size)
    have hld := relayAll_led t2 es1 (SetTable.grown es1.size) hp
    generalize hR : relayAll t2 es1 (SetTable.grown es1.size) = Rl at hpm hfr hld ⊢
    obtain ⟨es2, t3, gave⟩ := Rl
    dsimp only at hpm hfr hld ⊢
    have hsz : es2.size = es1.size := by rw [← Array.length_toList, hpm.length_eq, Array.length_toList]
    refine wpAny_bind (hg _ _ _ ?_)
    refine wpAny_bind (wpAny_storeSet_of hg1 rfl ?_ (fits_of_scanBound (by omega)))
    have hg2 : ((s.heap.update a (Obj.putSet es1 t2)).update a (Obj.putSet es2 t3)).get? a = some { cls := .type "set", dict := none, data := .set es2 (ep + 1 + 1) t3, slots := #[] } := by
      have := Heap.get?_update_self (Obj.putSet es2 t3) hg1 (by rw [putSet_of es2 t3 rfl]; rfl)
      rw [putSet_of es2 t3 rfl] at this; exact this
    refine wpAny_pure (h _ (sb1.trans (Heap.SameBut.update _ a _)) ⟨es2, _, t3, hg2, fun e he => hel e (hpm.mem_iff.mp he), fun x => ?_, by omega, hfr, hld.1.trans hl, fun _ => hld.2⟩)
    rw [hmem x]
    exact ⟨fun ⟨e, he, q⟩ => ⟨e, hpm.mem_iff.mpr he, q⟩, fun ⟨e, he, q⟩ => ⟨e, hpm.mem_iff.mp he, q⟩⟩
  · exact wpAny_pure (h _ sb1 ⟨es1, _, t2, hg1, hel, hmem, hn, hf, hl, fun _ => hp⟩)
theorem sset_add {a : Addr} {x : Str} {tk : Tok} {S : Str → Prop} {n : Nat} {Q : Bool → Shared → Prop} (hS : SSet w s.heap a S n) (hn : n < 64)
    (h : ∀ b h', Heap.SameBut a s.heap h' → SSet w h' a (fun y => S y ∨ y = x) (n + 1) → Q b { s with heap := h', toks := s.toks + 1 }) : wpAny (model PR w) A (setAdd a (.str x tk)) Q E s := by
  obtain ⟨es, ep, t, ho, hel, hmem, hsz, hf, hl, hp⟩ := hS
  have hkey := strKind_is PR w x tk
  have hE := elems_of hel
  have hbs : scanBound = 4096 := rfl
  unfold setAdd
  refine wpAny_holding (wpAny_bind ((strKind PR w).pyHash hkey ?_))
  unfold setAddHashed setAddHashedIn
  refine wpAny_holding (wpAny_bind (wpAny_setState_of ho rfl hf ?_))
  dsimp only
  rw [byScan_of rfl (by omega) hE]
  simp only [↓reduceIte]
  unfold setAddByScan
  refine wpAny_bind ?_
  refine wpAny_bind (wpAny_rule ?_)
  refine wpAny_bind (wpAny_setScan_of hkey ho rfl hf hE ?_)
  cases hr : List.findIdx? (fun e => (strKind PR w).is x e.2) es.toList with
  | some j =>
    dsimp only
    obtain ⟨hj, hpj, _⟩ := List.findIdx?_eq_some_iff_getElem.mp hr
    refine wpAny_pure (wpAny_pure ?_)
    refine h false s.heap (Heap.SameBut.refl a s.heap) ⟨es, ep, t, ho, hel, fun y => ?_, by omega, hf, hl, hp⟩
    rw [← hmem y]
    refine ⟨fun q => q.elim id fun e => ?_, .inl⟩
    subst e
    obtain ⟨z, tz, e2, _⟩ := hel _ (List.getElem_mem hj)
    refine (hmem y).mpr ⟨_, List.getElem_mem hj, tz, ?_⟩
    rw [e2] at hpj ⊢
    rw [(strKind PR w).inj _ _ _ hpj (strKind_is PR w z tz)]
  | none =>
    dsimp only
    have hperm := layNew_perm t es ((strKind PR w).hash x) (.str x tk)
    have hfits := layNew_fits t es ((strKind PR w).hash x) (.str x tk)
    have hled := layNew_led t es ((strKind PR w).hash x) (.str x tk)
    generalize hL : layNew t es ((strKind PR w).hash x) (.str x tk) = L at hperm hfits hled ⊢
    obtain ⟨es1, t1, wasDummy, gave⟩ := L
    dsimp only at hperm hfits hled ⊢
    rw [Array.toList_push] at hperm
    have hel1 : ∀ e ∈ es1.toList, ∃ x tk, e.2 = .str x tk ∧ e.1 = (strKind PR w).hash x := by
      intro e he
      rcases List.mem_append.mp (hperm.mem_iff.mp he) with he | he
      · exact hel e he
      · rw [List.mem_singleton] at he; subst he; exact ⟨x, tk, rfl, rfl⟩
    have hmem1 : ∀ y, (S y ∨ y = x) ↔ ∃ e ∈ es1.toList, ∃ tk, e.2 = .str y tk := by
      intro y
      rw [hmem y]
      constructor
      · rintro (⟨e, he, q⟩ | rfl)
        · exact ⟨e, hperm.mem_iff.mpr (List.mem_append_left _ he), q⟩
        · exact ⟨_, hperm.mem_iff.mpr (List.mem_append_right _ (List.mem_singleton.mpr rfl)), tk, rfl⟩
      · rintro ⟨e, he, q⟩
        rcases List.mem_append.mp (hperm.mem_iff.mp he) with he | he
        · exact .inl ⟨e, he, q⟩
        · rw [List.mem_singleton] at he; subst he
          obtain ⟨tk', q⟩ := q
          injection q with q _
          exact .inr q.symm
    have hsz1 : es1.size = es.size + 1 := by rw [← Array.length_toList, hperm.length_eq, List.length_append, Array.length_toList]; rfl
    have hgw : ∀ (b : Bool) {s₁ : Shared} {Q' : Unit → Shared → Prop}, Q' () s₁ → wpAny (model PR w) A (match b with | true => rule "set.scan.the-table-gave-way" | false => pure ()) Q' E s₁ :=
      fun b s₁ Q' hq => by cases b <;> first | exact wpAny_pure hq | exact wpAny_rule hq
    refine wpAny_bind (hgw _ ?_)
    split
    · refine wpAny_bind ?_
      rw [hashByValue_scannable 8 rfl]
      refine wpAny_pure ?_
      simp only [plainKind, Bool.false_eq_true, ↓reduceIte]
      refine sset_tail (s := { s with toks := s.toks + 1 }) ?_ ho hel1 hmem1 (n := n + 1) (by omega) (by omega) (SetTable.fits_plain_off hfits) (hled.trans hl) rfl fun h' sb hS' => ?_
      · intro b s₁ Q' hq; cases b <;> first | exact wpAny_pure hq | exact wpAny_rule hq
      exact wpAny_pure (h true h' sb hS')
    · rename_i hp1
      refine wpAny_bind (wpAny_pure ?_)
      simp only [↓reduceIte]
      refine sset_tail (s := { s with toks := s.toks + 1 }) ?_ ho hel1 hmem1 (n := n + 1) (by omega) (by omega) hfits (hled.trans hl) (by simpa using hp1) fun h' sb hS' => ?_
      · intro b s₁ Q' hq; cases b <;> first | exact wpAny_pure hq | exact wpAny_rule hq
      exact wpAny_pure (h true h' sb hS')
end
end Mine
end
section
open PySem PySem.W PySem.Spec PySem.Calls PyProof.Rows
set_option maxRecDepth 100000
namespace Mine
section
variable {w : World} {A : Around} {R : Result → Shared → Prop} {I : Addr} {fp wr : List Addr} {G : Array GenState → Array GenState → Prop} {n : Nat} {St : Nat → Shared → Prop}
/-- the texts of a list go into a set one by one -/
theorem sset_loop {xs : List Str} (W : WalksS PR w A.in1 I fp wr G xs.length (fun i v => ∃ x tk, xs[i]? = some x ∧ v = .str x tk) St) (D : Addr) (hDf : D ∉ fp) (hn : xs.length < 60) :
    ∀ (k i : Nat) (s : Shared), xs.length - i = k → i ≤ xs.length → St i s → SSet w s.heap D (fun x => x ∈ xs.take i) i →
      (∀ s', Moved (D :: wr) G s s' → SSet w s'.heap D (fun x => x ∈ xs) xs.length → R (.ok (.ret .none)) s') →
      codeAny (model PR w) A (.builtin "set.update.loop" ⟨[.ref D, .ref I], []⟩) R s := by
  have hDw : D ∉ wr := fun h => hDf (W.sub _ h)
  have hsub : ∀ b ∈ wr, b ∈ D :: wr := fun b hb => List.mem_cons_of_mem _ hb
  have keepS : ∀ {s s' : Shared} {S : Str → Prop} {m : Nat}, Moved wr G s s' → SSet w s.heap D S m → SSet w s'.heap D S m := fun hm hS => by
    obtain ⟨es, ep, t, ho, r⟩ := hS
    exact ⟨es, ep, t, hm.heap D _ hDw ho, r⟩
  intro k
  induction k with
  | zero =>
    intro i s hk hi hst hS hR
    obtain rfl : i = xs.length := by omega
    refine codeAny_builtin F.entry_set_update_loop ?_
    rw [Around.under_plainId F.plain_set_update_loop _]
    show wpAny _ A.in1 (pyNext (.ref I) >>= _) _ _ s
    refine wpAny_bind (W.done s _ _ hst fun s' hm => ?_)
    show wpAny _ A.in1 (ret Value.none) _ _ s'
    refine wpAny_pure (hR s' (hm.mono hsub) ?_)
    have := keepS hm hS
    rw [List.take_length] at this
    exact this
  | succ k ih =>
    intro i s hk hi hst hS hR
    have hlt : i < xs.length := by omega
    refine codeAny_builtin F.entry_set_update_loop ?_
    rw [Around.under_plainId F.plain_set_update_loop _]
    show wpAny _ A.in1 (pyNext (.ref I) >>= _) _ _ s
    refine wpAny_bind (W.item i s _ _ hlt hst fun v s' hP hst' hm => ?_)
    obtain ⟨x, tk, hx, rfl⟩ := hP
    show wpAny _ A.in1 (holding [Value.str x tk] (setAdd D (.str x tk)) >>= _) _ _ s'
    refine wpAny_bind (wpAny_holding ?_)
    refine sset_add (keepS hm hS) (by omega) fun b h' hsb hS2 => ?_
    have hSi : SSet w h' D (fun y => y ∈ xs.take (i + 1)) (i + 1) := by
      obtain ⟨es, ep, t, a1, a2, a3, r⟩ := hS2
      refine ⟨es, ep, t, a1, a2, fun y => ?_, r⟩
      rw [← a3 y, List.take_succ, hx]
      simp
    refine wpAny_pure ⟨plainId_quiet F.plain_set_update_loop _, ih (i + 1) _ (by omega) hlt (W.frame _ s' _ _ hst' (Nat.le_succ _) fun b hb o e => ?_) hSi fun s'' hm'' hS'' => ?_⟩
    · rw [hsb.2 b (fun h : b = D => hDf (by rw [← h]; exact hb))]; exact e
    · refine hR s'' (Moved.trans W.gtrans ((hm.mono hsub).then_heap (Nat.le_succ _) fun b o hb e => ?_) hm'') hS''
      rw [hsb.2 b (fun h : b = D => hb (by rw [h]; exact List.mem_cons_self))]; exact e
end

section
variable {w : World} {A : Around} {E : Value → Shared → Prop} {s : Shared}
theorem sset_fresh {h : Heap} : SSet w (h.push { cls := .type "set", dict := none, data := .set #[] 0 (.fresh 0 0 (!(w.params.followText "set-order"))) }) h.objs.size (fun _ => False) 0 :=
  ⟨#[], 0, _, Heap.get?_push_size _ rfl, fun e he => by simp at he, fun x => by simp, Nat.le_refl _, by rfl, rfl, fun h => absurd h (by simp)⟩
theorem set_new_led (a : Value) {Q₁ : Value → Shared → Prop}
    (h : Q₁ (.ref s.heap.objs.size) { s with heap := s.heap.push { cls := .type "set", dict := none, data := .set #[] 0 (.fresh 0 0 (!(w.params.followText "set-order"))) } }) :
    codeAny (model PR w) A (.call (.builtin "set.__new__") ⟨[.type "set", a], []⟩) (wants Q₁ E) s := by
  refine codeAny_of_tree ?_
  show wpAny _ A.in1 (do checkBuiltinCall "set.__new__" ⟨[.type "set", a], []⟩; again (.builtin "set.__new__" ⟨[.type "set", a], []⟩)) _ _ s
  refine wpAny_bind (wpAny_of_eq (F.newCall_set_1 a) (wpAny_pure ⟨plainId_quiet F.plain_set_new _, codeAny_builtin F.entry_set_new ?_⟩))
  rw [Around.under_plainId F.plain_set_new _]
  unfold Builtin.«set.__new__» Builtin.Frozenset.newClass
  have hsub := sub_set_self
  obtain ⟨hp, g, d, tk, os⟩ := s
  dsimp only
  wp_walk
  refine wpAny_askSetting (wpAny_pure ?_)
  dsimp only
  simp only [newObj]
  refine wpAny_bind (wpAny_alloc (wpAny_pure ?_))
  exact wpAny_pure h
end
end Mine
end
section
open PySem PySem.W PySem.Spec PySem.Calls PyProof.Rows
set_option maxRecDepth 100000
namespace Mine
theorem StrsAre.at_ {vs : List Value} {xs : List Str} (h : StrsAre vs xs) : ∀ (i : Nat) (v : Value), vs[i]? = some v → ∃ x tk, xs[i]? = some x ∧ v = .str x tk := by
  induction h with
  | nil => intro i v e; simp at e
  | cons x t _ ih =>
    intro i v e
    cases i with
    | zero => simp at e; exact ⟨x, t, rfl, e.symm⟩
    | succ i => exact ih i v (by simpa using e)
theorem WalksS.weaken {prog : Program} {w : World} {A : Around} {I : Addr} {fp wr : List Addr} {G : Array GenState → Array GenState → Prop} {n : Nat} {P P' : Nat → Value → Prop} {St : Nat → Shared → Prop} (W : WalksS prog w A I fp wr G n P St) (h : ∀ i v, P i v → P' i v) :
    WalksS prog w A I fp wr G n P' St :=
  { sub := W.sub, grefl := W.grefl, gtrans := W.gtrans, frame := W.frame, done := W.done, self := W.self, item := fun i s Q E hi st hQ => W.item i s Q E hi st fun v s' hP st' hm => hQ v s' (h i v hP) st' hm }
section
variable {w : World} {A : Around} {E : Value → Shared → Prop} {s : Shared}
set_option maxHeartbeats 3200000 in
/-- set(l) of a list of texts -/
theorem set_strs {l : Addr} {items : Array Value} {xs : List Str} {Q : Value → Shared → Prop}
    (hh : A.handled = none) (hl : s.heap.IsList l items) (hi : StrsAre items.toList xs) (hb : xs.length < 60)
    (h : ∀ (h' : Heap) (tk : Nat), SSet w h' s.heap.objs.size (fun x => x ∈ xs) xs.length → Kept s.heap h' → Q (.ref s.heap.objs.size) { s with heap := h', toks := tk }) :
    wpAny (model PR w) A (call (.type "set") [.ref l]) Q E s := by
  have hlen : items.size = xs.length := by have := StrsAre.length hi; simpa using this
  obtain ⟨c, tl, hmro⟩ := F.called_set.mro
  have hmade := F.called_set.made
  have hsub := F.called_set.sub
  refine wpAny_call (codeAny_of_tree ?_)
  show wpAny _ _ (callAny (.type "set") _) _ _ _
  refine wpAny_pure ⟨Code.quiet_builtin _ (by decide +kernel), codeAny_builtin F.entry_type_call ?_⟩
  rw [Around.under_plain (weight_type_call_type "set" [.ref l] []) rfl]
  have h1 := F.called_set.notType
  have h2 := F.called_set.canCreate
  have hct := F.typeCall_set_1 (.ref l)
  repeat (any_goals (first | assumption | wp_step))
  refine codeAny_mono (set_new_led (w := w) (.ref l) (E := E) (Q₁ := fun obj s₁ => obj = .ref s.heap.objs.size ∧ s₁ = { s with heap := s.heap.push { cls := .type "set", dict := none, data := .set #[] 0 (.fresh 0 0 (!(w.params.followText "set-order"))) } }) ⟨rfl, rfl⟩) fun r s₁ hr => ?_
  cases r with
  | error e => exact hr
  | ok fl =>
    cases fl with
    | ret obj =>
      obtain ⟨rfl, rfl⟩ := hr
      generalize hled : (!(w.params.followText "set-order")) = led
      have hS : (s.heap.push { cls := .type "set", dict := none, data := .set #[] 0 (.fresh 0 0 led) }).get? s.heap.objs.size = some { cls := .type "set", dict := none, data := .set #[] 0 (.fresh 0 0 led) } := Heap.get?_push_size _ rfl
      have hT : Shared.TypeIs { s with heap := s.heap.push { cls := .type "set", dict := none, data := .set #[] 0 (.fresh 0 0 led) } } (.ref s.heap.objs.size) "set" := ⟨_, hS, rfl⟩
      have hli := F.called_set.init.lookup
      have hbi := F.called_set.init.bind (.ref s.heap.objs.size)
      repeat (any_goals (first | assumption | wp_step))
      refine codeAny_mono (codeAny_call_builtin (R := wants (fun r s₂ => r = .none ∧ ∃ h' tk, s₂ = { s with heap := h', toks := tk } ∧
          SSet w h' s.heap.objs.size (fun x => x ∈ xs) xs.length ∧ (∀ b o, b < s.heap.objs.size → s.heap.get? b = some o → h'.get? b = some o)) E) F.called_set.init.plain F.entry_set_init (check_set_init_1 hT ?_)) fun r₂ s₂ hr₂ => ?_
      · obtain ⟨ol, hol, hcl, nl, hdl⟩ := hl
        obtain ⟨ocls, odict, odata, oslots⟩ := ol
        simp only at hcl hdl
        subst hcl; subst hdl
        have hol' : (s.heap.push { cls := .type "set", dict := none, data := .set #[] 0 (.fresh 0 0 led) }).get? l = some { cls := .type "list", dict := odict, data := .seq items nl, slots := oslots } := Heap.get?_push_of_some _ hol
        have hsls := F.sub_list_set
        have hslf := F.sub_list_frozenset
        have hne : (Value.type "list" == Value.type "dict") = false := by decide
        have hl1 : (s.heap.push { cls := .type "set", dict := none, data := .set #[] 0 (.fresh 0 0 led) }).IsList l items := ⟨_, hol', rfl, nl, rfl⟩
        unfold Builtin.«set.__init__» noKeywords Builtin.Frozenset.updateFrom
        generalize hPI : pyIter = PI
        wp_walk
        subst hPI
        refine wpAny_pyIter_list hl1 ?_
        refine wpAny_bind (wpAny_runValue ?_)
        have hlS : l < s.heap.objs.size := Heap.lt_size hol
        have hh3 : A.in1.in1.in1.handled = none := by simp [hh]
        have hneI : l ≠ (s.heap.push { cls := .type "set", dict := none, data := .set #[] 0 (.fresh 0 0 led) }).objs.size := by
          rw [Heap.size_push]; exact Nat.ne_of_lt (Nat.lt_succ_of_lt hlS)
        have hSf : s.heap.objs.size ∉ [(s.heap.push { cls := .type "set", dict := none, data := .set #[] 0 (.fresh 0 0 led) }).objs.size, l] := by
          rw [Heap.size_push]; simp only [List.mem_cons, List.mem_singleton, List.not_mem_nil, or_false, not_or]
          exact ⟨Nat.ne_of_lt (Nat.lt_succ_self _), Nat.ne_of_gt hlS⟩
        have W0 := (Walks.list (prog := PR) (w := w) hh3 (s.heap.push { cls := .type "set", dict := none, data := .set #[] 0 (.fresh 0 0 led) }).objs.size l hneI items).toS
        rw [hlen] at W0
        have W1 := WalksS.weaken W0 (P' := fun i v => ∃ x tk, xs[i]? = some x ∧ v = .str x tk) fun i v hP => StrsAre.at_ hi i v (by rw [Array.getElem?_toList]; exact hP)
        refine sset_loop W1 s.heap.objs.size hSf hb (xs.length - 0) 0 _ (by omega) (Nat.zero_le _)
          ⟨⟨_, Heap.get?_push_size _ rfl, rfl, rfl⟩, (hl1.push _)⟩ ?hS0 ?hR
        case hS0 =>
          have hget : ((s.heap.push { cls := .type "set", dict := none, data := .set #[] 0 (.fresh 0 0 led) }).push { cls := .type "list_iterator", data := .fields #[.ref l, .int 0 0] }).get? s.heap.objs.size
              = some { cls := .type "set", dict := none, data := .set #[] 0 (.fresh 0 0 led) } := Heap.get?_push_of_some _ hS
          exact ⟨#[], 0, _, hget, fun e he => by simp at he, fun x => by simp, Nat.le_refl _, by rfl, hled.symm, fun h => absurd h (by simp)⟩
        case hR =>
          intro s' hm hS'
          obtain ⟨h', g', d', tk', os'⟩ := s'
          have eg : g' = s.gens := hm.gens
          have ed : d' = s.drawn := hm.drawn
          have eo : os' = s.os := hm.os
          subst eg; subst ed; subst eo
          show wpAny _ _ _ _ _ _
          refine wpAny_pure ?_
          show wpAny _ _ (ret Value.none) _ _ _
          refine wpAny_pure ⟨rfl, h', tk', rfl, hS', fun b o hb e => ?_⟩
          have hb1 : b ≠ s.heap.objs.size := Nat.ne_of_lt hb
          have hb2 : b ≠ (s.heap.push { cls := .type "set", dict := none, data := .set #[] 0 (.fresh 0 0 led) }).objs.size := by
            rw [Heap.size_push]; exact Nat.ne_of_lt (Nat.lt_succ_of_lt hb)
          exact hm.heap b o (by simp only [List.mem_cons, List.mem_singleton, List.not_mem_nil, or_false, not_or]; exact ⟨hb1, hb2⟩) (Heap.get?_push_of_some _ (Heap.get?_push_of_some _ e))
      · cases r₂ with
        | error e => exact hr₂
        | ok fl₂ =>
          cases fl₂ with
          | ret r =>
            obtain ⟨rfl, h', tk, rfl, hS', hk'⟩ := hr₂
            repeat (any_goals (first | assumption | wp_step))
            exact h _ _ hS' fun b o e => hk' b o (Heap.lt_size e) e
          | _ => exact hr₂.elim
    | _ => exact hr.elim
end
end Mine
end
section
open PySem PySem.W PySem.Spec PySem.Calls PyProof.Rows
set_option maxRecDepth 100000
namespace Mine
theorem entry_set_iter : entryFor table "set.__iter__" = some Builtin.«frozenset.__iter__» := entryFor_alias (id' := "frozenset.__iter__") (by kernel_rfl) rfl (by decide +kernel) (by kernel_rfl)
theorem slot_setit_next : Slot "set_iterator" "__next__" "set_iterator.__next__" :=
  .of (owner := "set_iterator") (n := "__next__") (by rw [typeLookup_type, builtinLookup_eq_fast]; kernel_rfl) (by decide +kernel) (by decide +kernel) (by decide +kernel)
    (by first | exact .inl (by decide +kernel) | exact .inr (by decide +kernel)) (by rw [isSubtype_type]; kernel_rfl)
theorem entry_setit_next : entryFor table "set_iterator.__next__" = some Builtin.«set_iterator.__next__» := entryFor_of_fast (by kernel_rfl)
theorem args_setit_next (a : Value) : argsOk "set_iterator.__next__" ⟨[a], []⟩ := by unfold argsOk; kernel_rfl
theorem setit_no_len : typeLookup (.type "set_iterator") "__len__" = pure none := by rw [typeLookup_type, builtinLookup_eq_fast]; kernel_rfl
theorem setit_hint : typeLookup (.type "set_iterator") "__length_hint__" = pure (some (.builtin "set_iterator.__length_hint__")) := by rw [typeLookup_type, builtinLookup_eq_fast]; kernel_rfl

theorem erase_perm {α : Type} : ∀ {l : List α} {i : Nat} (h : i < l.length), (l[i] :: l.eraseIdx i).Perm l
  | [], _, h => absurd h (Nat.not_lt_zero _)
  | x :: r, 0, _ => List.Perm.refl _
  | x :: r, i + 1, h => by
    have ih := erase_perm (l := r) (i := i) (by simpa using h)
    exact (List.Perm.swap _ _ _).trans (List.Perm.cons _ ih)
theorem go_perm {α : Type} (next : Nat → Nat) : ∀ (fuel k : Nat) (left : List α) (out : Array α), left.length ≤ fuel → (pickOrder.go next fuel k left out).toList.Perm (out.toList ++ left)
  | 0, k, left, out, h => by
    have : left = [] := List.length_eq_zero_iff.mp (Nat.le_zero.mp h)
    subst this
    unfold pickOrder.go
    simp
  | fuel + 1, k, left, out, h => by
    unfold pickOrder.go
    by_cases h0 : left.length = 0
    · have : left = [] := List.length_eq_zero_iff.mp h0
      subst this
      simp
    · have hlt : next k % left.length < left.length := Nat.mod_lt _ (Nat.pos_of_ne_zero h0)
      rw [List.getElem?_eq_getElem hlt]
      dsimp only
      refine (go_perm next fuel (k + 1) _ _ (by rw [List.length_eraseIdx_of_lt hlt]; omega)).trans ?_
      rw [Array.toList_push, List.append_assoc]
      exact List.Perm.append_left _ (erase_perm hlt)
theorem pickOrder_perm {α : Type} (next : Nat → Nat) (xs : Array α) : (pickOrder next xs).toList.Perm xs.toList := by
  unfold pickOrder
  exact go_perm next xs.size 0 xs.toList #[] (by simp)

section
variable {w : World} {A : Around} {E : Value → Shared → Prop}
theorem choose_any {M : Model} {src : Source} {n : Nat} {s : Shared} {Q : Nat → Shared → Prop} (hn : n ≠ 0) (h : ∀ i d, i < n → Q i { s with drawn := d }) : wpAny M A (choose src n) Q E s :=
  fun Γ p _ => by
    show Sem.wp M Γ (.choose src n .pure) _ _ p s
    rw [Sem.wp_choose]
    exact ⟨hn, h _ _ (Nat.mod_lt _ (Nat.pos_of_ne_zero hn))⟩
theorem drawOrder_any {M : Model} {α : Type} : ∀ (n : Nat) (xs : List α) (s : Shared) (Q : List α → Shared → Prop), xs.length ≤ n → (∀ ys d, ys.Perm xs → Q ys { s with drawn := d }) → wpAny M A (drawOrder n xs) Q E s
  | 0, xs, s, Q, hn, h => by
    have : xs = [] := List.length_eq_zero_iff.mp (Nat.le_zero.mp hn)
    subst this
    unfold drawOrder
    exact wpAny_pure (h [] s.drawn (List.Perm.refl _))
  | n + 1, [], s, Q, hn, h => by
    unfold drawOrder
    exact wpAny_pure (h [] s.drawn (List.Perm.refl _))
  | n + 1, x :: xs, s, Q, hn, h => by
    unfold drawOrder
    refine wpAny_bind (choose_any (by simp) fun i d hi => ?_)
    rw [List.getElem?_eq_getElem hi]
    dsimp only
    refine wpAny_bind (drawOrder_any n _ _ _ (by rw [List.length_eraseIdx_of_lt hi]; simp at hn ⊢; omega) fun ys d' hp => ?_)
    refine wpAny_pure (h _ d' ?_)
    exact (List.Perm.cons _ hp).trans (erase_perm hi)
end

noncomputable abbrev setIt (f : Value) (i : Nat) (d : Addr) (n ep : Nat) : Obj := { cls := .type "set_iterator", data := .fields #[f, .int i 0, .ref d, .int n 0, .int ep 0] }
noncomputable abbrev setObj (es : Array (Int × Value)) (ep : Nat) (t : SetTable) : Obj := { cls := .type "set", dict := none, data := .set es ep t, slots := #[] }
noncomputable abbrev placesObj (π : List Nat) : Obj := { cls := .type "tuple", data := .seq (π.map fun (i : Nat) => Value.int (i : Int) 0).toArray }
section
variable {w : World} {A : Around} {E : Value → Shared → Prop} {s : Shared}
theorem setit_item_drawn {I d T : Addr} {i n ep : Nat} {es : Array (Int × Value)} {t : SetTable} {π : List Nat} {p : Nat} {hx : Int} {v : Value} {Q : Option Value → Shared → Prop}
    (hI : s.heap.get? I = some (setIt (.ref T) i d n ep)) (hd : s.heap.get? d = some (setObj es ep t)) (hf : t.fits es.size = true) (hn : es.size = n) (hT : s.heap.get? T = some (placesObj π)) (hp : π[i]? = some p) (hv : es[p]? = some (hx, v))
    (h : ∀ h', h'.get? I = some (setIt (.ref T) (i + 1) d n ep) → Heap.SameBut I s.heap h' → Q (some v) { s with heap := h' }) : wpAny (model PR w) A (pyNext (.ref I)) Q E s := by
  have hTy : s.TypeIs (.ref I) "set_iterator" := ⟨_, hI, rfl⟩
  unfold pyNext
  refine wpAny_bind (wpAny_attempt (wpAny_callSpecial?_slot (name := Str.ofString "__next__") hTy slot_setit_next (wpAny_call_entry slot_setit_next hTy entry_setit_next ?_ (args_setit_next _))))
  show wpAny _ _ (fieldsOf (.ref I) >>= _) _ _ s
  refine wpAny_bind (wpAny_fieldsOf hI rfl ?_)
  show wpAny _ _ (setEntries d >>= _) _ _ s
  refine wpAny_bind (wpAny_setEntries_of hd rfl hf ?_)
  show wpAny _ _ (if ((es.size : Int) != (n : Int)) = true then _ else _) _ _ s
  rw [if_neg (by rw [hn]; simp)]
  show wpAny _ _ (seqItems? (.ref T) >>= _) _ _ s
  refine wpAny_bind (wpAny_seqItems hT rfl ?_)
  dsimp only
  rw [show ((π.map fun (i : Nat) => Value.int (i : Int) 0).toArray)[(Int.toNat (i : Int))]? = some (.int (p : Int) 0) from by simp [hp]]
  dsimp only
  show wpAny _ _ (setNextDrawn d (Int.toNat (p : Int)) (Int.toNat (ep : Int)) >>= _) _ _ s
  refine wpAny_bind ?_
  unfold setNextDrawn
  refine wpAny_bind (wpAny_setState_of hd rfl hf ?_)
  dsimp only
  rw [if_neg (by simp)]
  simp only [Int.toNat_natCast, hv]
  refine wpAny_pure ?_
  refine wpAny_bind (wpAny_setField hI rfl (by simp) (wpAny_pure ⟨v, rfl, wpAny_pure (h _ ?_ (Heap.SameBut.update ..))⟩))
  refine (Heap.get?_update_self _ hI rfl).trans ?_
  rfl

theorem stop_iter {Q : Option Value → Shared → Prop} (hh : A.handled = none) (h : ∀ h', Kept s.heap h' → Q none { s with heap := h' }) :
    wpAny (model PR w) A (newExc (.type "StopIteration") [] >>= fun e => (raiseNew e : Sem Fin)) (fun _ _ => False) (fun e s' => wpAny (model PR w) A (isInstance e (.type "StopIteration")) (fun b s'' => b = true ∧ Q none s'') (fun _ _ => False) s') s := by
  refine wpAny_bind ?_
  simp only [newExc, newTuple]
  refine wpAny_bind (wpAny_newObj_type ?_ (by size_fits))
  refine wpAny_bind (m := firstArgMember _ _) (wpAny_of_eq (a := Value.none) (by first | rfl | (simp only [firstArgMember]; rfl)) ?_)
  refine wpAny_newObj_type ?_ (by size_fits)
  simp only [raiseNew]
  refine wpAny_bind (wpAny_handled ?_)
  rw [hh]
  refine wpAny_bind (wpAny_pure (wpAny_throw ?_))
  refine wpAny_isInstance (T := "StopIteration") (b := true) ⟨_, Heap.get?_push_size _ rfl, rfl⟩ isSubtype_stop ?_
  exact ⟨rfl, h _ fun b o e => Heap.get?_push_of_some _ (Heap.get?_push_of_some _ e)⟩
theorem setit_end_drawn {I d T : Addr} {i n ep : Nat} {es : Array (Int × Value)} {t : SetTable} {π : List Nat} {Q : Option Value → Shared → Prop} (hh : A.handled = none)
    (hI : s.heap.get? I = some (setIt (.ref T) i d n ep)) (hd : s.heap.get? d = some (setObj es ep t)) (hf : t.fits es.size = true) (hn : es.size = n) (hT : s.heap.get? T = some (placesObj π)) (hp : π[i]? = none)
    (h : ∀ h', (∀ b o, b ≠ I → s.heap.get? b = some o → h'.get? b = some o) → Q none { s with heap := h' }) : wpAny (model PR w) A (pyNext (.ref I)) Q E s := by
  have hTy : s.TypeIs (.ref I) "set_iterator" := ⟨_, hI, rfl⟩
  unfold pyNext
  refine wpAny_bind (wpAny_attempt (wpAny_callSpecial?_slot (name := Str.ofString "__next__") hTy slot_setit_next (wpAny_call_entry slot_setit_next hTy entry_setit_next ?_ (args_setit_next _))))
  show wpAny _ _ (fieldsOf (.ref I) >>= _) _ _ s
  refine wpAny_bind (wpAny_fieldsOf hI rfl ?_)
  show wpAny _ _ (setEntries d >>= _) _ _ s
  refine wpAny_bind (wpAny_setEntries_of hd rfl hf ?_)
  show wpAny _ _ (if ((es.size : Int) != (n : Int)) = true then _ else _) _ _ s
  rw [if_neg (by rw [hn]; simp)]
  show wpAny _ _ (seqItems? (.ref T) >>= _) _ _ s
  refine wpAny_bind (wpAny_seqItems hT rfl ?_)
  dsimp only
  rw [show ((π.map fun (i : Nat) => Value.int (i : Int) 0).toArray)[(Int.toNat (i : Int))]? = none from by simp [hp]]
  dsimp only
  refine wpAny_bind (wpAny_setField hI rfl (by simp) ?_)
  have h1 := (Heap.get?_update_self (Obj.mapFields (·.setIfInBounds 0 (rawInt 0))) hI rfl)
  refine wpAny_bind (wpAny_setField h1 rfl (by simp [Obj.mapFields]) ?_)
  have sb := (Heap.SameBut.update s.heap I (Obj.mapFields (·.setIfInBounds 0 (rawInt 0)))).trans (Heap.SameBut.update (s.heap.update I (Obj.mapFields (·.setIfInBounds 0 (rawInt 0)))) I (Obj.mapFields (·.setIfInBounds 2 Value.none)))
  refine wpAny_mono (stop_iter (Q := Q) hh fun h' k => h h' fun b o hb e => k b o (sb.extBut b o hb e)) (fun _ _ f => f.elim) fun e s' he => ?_
  refine wpAny_bind (wpAny_mono (wpAny_of_in1 he) (fun b s'' hb => ?_) fun _ _ f => False.elim f)
  obtain ⟨rfl, q⟩ := hb
  exact wpAny_pure q

theorem setit_item_plain {I d : Addr} {i n ep sl sl' : Nat} {es : Array (Int × Value)} {t : SetTable} {v : Value} {Q : Option Value → Shared → Prop}
    (hI : s.heap.get? I = some (setIt (.int sl 0) i d n ep)) (hd : s.heap.get? d = some (setObj es ep t)) (hf : t.fits es.size = true) (hn : es.size = n)
    (hx : ∀ (A' : Around) (E' : Value → Shared → Prop) (P : Option (Value × Nat) → Shared → Prop), P (some (v, sl')) s → wpAny (model PR w) A' (setNext d sl i ep) P E' s)
    (h : ∀ h', h'.get? I = some (setIt (.int sl' 0) (i + 1) d n ep) → Heap.SameBut I s.heap h' → Q (some v) { s with heap := h' }) : wpAny (model PR w) A (pyNext (.ref I)) Q E s := by
  have hTy : s.TypeIs (.ref I) "set_iterator" := ⟨_, hI, rfl⟩
  unfold pyNext
  refine wpAny_bind (wpAny_attempt (wpAny_callSpecial?_slot (name := Str.ofString "__next__") hTy slot_setit_next (wpAny_call_entry slot_setit_next hTy entry_setit_next ?_ (args_setit_next _))))
  show wpAny _ _ (fieldsOf (.ref I) >>= _) _ _ s
  refine wpAny_bind (wpAny_fieldsOf hI rfl ?_)
  show wpAny _ _ (setEntries d >>= _) _ _ s
  refine wpAny_bind (wpAny_setEntries_of hd rfl hf ?_)
  show wpAny _ _ (if ((es.size : Int) != (n : Int)) = true then _ else _) _ _ s
  rw [if_neg (by rw [hn]; simp)]
  show wpAny _ _ (setNext d (Int.toNat (sl : Int)) (Int.toNat (i : Int)) (Int.toNat (ep : Int)) >>= _) _ _ s
  simp only [Int.toNat_natCast]
  refine wpAny_bind (hx _ _ _ ?_)
  dsimp only
  refine wpAny_bind (wpAny_setField hI rfl (by simp) ?_)
  have h1 := (Heap.get?_update_self (Obj.mapFields (·.setIfInBounds 0 (rawInt sl'))) hI rfl)
  refine wpAny_bind (wpAny_setField h1 rfl (by simp [Obj.mapFields]) (wpAny_pure ⟨v, rfl, wpAny_pure (h _ ?_ ((Heap.SameBut.update ..).trans (Heap.SameBut.update ..)))⟩))
  refine (Heap.get?_update_self _ h1 rfl).trans ?_
  rfl
theorem setit_end_plain {I d : Addr} {i n ep sl : Nat} {es : Array (Int × Value)} {t : SetTable} {Q : Option Value → Shared → Prop} (hh : A.handled = none)
    (hI : s.heap.get? I = some (setIt (.int sl 0) i d n ep)) (hd : s.heap.get? d = some (setObj es ep t)) (hf : t.fits es.size = true) (hn : es.size = n)
    (hx : ∀ (A' : Around) (E' : Value → Shared → Prop) (P : Option (Value × Nat) → Shared → Prop), P none s → wpAny (model PR w) A' (setNext d sl i ep) P E' s)
    (h : ∀ h', (∀ b o, b ≠ I → s.heap.get? b = some o → h'.get? b = some o) → Q none { s with heap := h' }) : wpAny (model PR w) A (pyNext (.ref I)) Q E s := by
  have hTy : s.TypeIs (.ref I) "set_iterator" := ⟨_, hI, rfl⟩
  unfold pyNext
  refine wpAny_bind (wpAny_attempt (wpAny_callSpecial?_slot (name := Str.ofString "__next__") hTy slot_setit_next (wpAny_call_entry slot_setit_next hTy entry_setit_next ?_ (args_setit_next _))))
  show wpAny _ _ (fieldsOf (.ref I) >>= _) _ _ s
  refine wpAny_bind (wpAny_fieldsOf hI rfl ?_)
  show wpAny _ _ (setEntries d >>= _) _ _ s
  refine wpAny_bind (wpAny_setEntries_of hd rfl hf ?_)
  show wpAny _ _ (if ((es.size : Int) != (n : Int)) = true then _ else _) _ _ s
  rw [if_neg (by rw [hn]; simp)]
  show wpAny _ _ (setNext d (Int.toNat (sl : Int)) (Int.toNat (i : Int)) (Int.toNat (ep : Int)) >>= _) _ _ s
  simp only [Int.toNat_natCast]
  refine wpAny_bind (hx _ _ _ ?_)
  dsimp only
  refine wpAny_bind (wpAny_setField hI rfl (by simp) ?_)
  refine wpAny_mono (stop_iter (Q := Q) hh fun h' k => h h' fun b o hb e => k b o ((Heap.SameBut.update ..).extBut b o hb e)) (fun _ _ f => f.elim) fun e s' he => ?_
  refine wpAny_bind (wpAny_mono (wpAny_of_in1 he) (fun b s'' hb => ?_) fun _ _ f => False.elim f)
  obtain ⟨rfl, q⟩ := hb
  exact wpAny_pure q
/-- what setNext gives where the text of the settings leads -/
theorem setNext_text {d : Addr} {sl i ep : Nat} {es : Array (Int × Value)} {t : SetTable} (hd : s.heap.get? d = some (setObj es ep t)) (hf : t.fits es.size = true) (hb : w.params.followText "set-order" = true)
    (A' : Around) (E' : Value → Shared → Prop) (P : Option (Value × Nat) → Shared → Prop) (h : P (((pickOrder (w.params.setOrder d ep) es)[i]?).map fun e => (e.2, sl)) s) : wpAny (model PR w) A' (setNext d sl i ep) P E' s := by
  unfold setNext
  refine wpAny_bind (wpAny_setState_of hd rfl hf ?_)
  dsimp only
  unfold setsByText
  refine wpAny_bind (wpAny_bind (wpAny_askSetting (wpAny_pure ?_)))
  show wpAny _ _ (if (w.params.followText "set-order") = true then _ else _) _ _ s
  rw [if_pos hb, if_neg (by simp)]
  refine wpAny_bind ?_
  unfold setWalk
  refine wpAny_bind (wpAny_setState_of hd rfl hf ?_)
  dsimp only
  unfold setsByText
  refine wpAny_bind (wpAny_bind (wpAny_askSetting (wpAny_pure ?_)))
  show wpAny _ _ (if (w.params.followText "set-order") = true then _ else _) _ _ s
  rw [if_pos hb]
  refine wpAny_bind (wpAny_askSetting (wpAny_pure ?_))
  exact wpAny_pure h
/-- the place behind sl -/
noncomputable def nextOne (es : Array (Int × Value)) (t : SetTable) (sl : Nat) : Option (Value × Nat) := match es[SetTable.below t.place sl]?, t.place[SetTable.below t.place sl]? with | some (_, x), some j => some (x, j + 1) | _, _ => none
/-- and where it does not, for a set of at most one -/
theorem setNext_one {d : Addr} {sl i ep : Nat} {es : Array (Int × Value)} {t : SetTable} (hd : s.heap.get? d = some (setObj es ep t)) (hf : t.fits es.size = true) (hb : w.params.followText "set-order" = false) (hl : t.led = true) (h1 : es.size ≤ 1)
    (A' : Around) (E' : Value → Shared → Prop) (P : Option (Value × Nat) → Shared → Prop) (h : P (nextOne es t sl) s) : wpAny (model PR w) A' (setNext d sl i ep) P E' s := by
  unfold setNext
  refine wpAny_bind (wpAny_setState_of hd rfl hf ?_)
  dsimp only
  unfold setsByText
  refine wpAny_bind (wpAny_bind (wpAny_askSetting (wpAny_pure ?_)))
  show wpAny _ _ (if (w.params.followText "set-order") = true then _ else _) _ _ s
  rw [if_neg (by rw [hb]; simp)]
  show wpAny _ _ (if (!t.plain && decide (es.size > 1)) = true then _ else _) _ _ s
  rw [if_neg (by simp; intro _; omega)]
  refine wpAny_bind ?_
  show wpAny _ _ (if (!t.led && !es.isEmpty) = true then _ else pure ()) _ _ s
  rw [if_neg (by rw [hl]; simp)]
  exact wpAny_pure (wpAny_pure h)
end
end Mine
end
section
open PySem PySem.W PySem.Spec PySem.Calls PyProof.Rows
set_option maxRecDepth 100000
namespace Mine
theorem slot_setit_iter : Slot "set_iterator" "__iter__" "set_iterator.__iter__" :=
  .of (owner := "set_iterator") (n := "__iter__") (by rw [typeLookup_type, builtinLookup_eq_fast]; kernel_rfl) (by decide +kernel) (by decide +kernel) (by decide +kernel)
    (by first | exact .inl (by decide +kernel) | exact .inr (by decide +kernel)) (by rw [isSubtype_type]; kernel_rfl)
theorem entry_setit_iter : entryFor table "set_iterator.__iter__" = some Builtin.«dict_keyiterator.__iter__» := entryFor_alias (id' := "dict_keyiterator.__iter__") (by kernel_rfl) rfl (by decide +kernel) (by kernel_rfl)
theorem args_setit_iter (a : Value) : argsOk "set_iterator.__iter__" ⟨[a], []⟩ := by unfold argsOk; kernel_rfl
section
variable {w : World} {A : Around} {E : Value → Shared → Prop} {s : Shared}
theorem setit_self {I : Addr} {o : Obj} {Q : Value → Shared → Prop} (hI : s.heap.get? I = some o) (hc : o.cls = .type "set_iterator") (h : Q (.ref I) s) : wpAny (model PR w) A (pyIter (.ref I)) Q E s := by
  have hT : s.TypeIs (.ref I) "set_iterator" := ⟨_, hI, hc⟩
  refine wpAny_pyIter_slot hT slot_setit_iter (wpAny_call_entry slot_setit_iter hT entry_setit_iter ?_ (args_setit_iter _))
  show wpAny _ _ (ret (.ref I)) _ _ s
  exact wpAny_pure ⟨_, rfl, "set_iterator", _, hT, slot_setit_next.lookup, h⟩

theorem walks_drawn {I d T : Addr} {n ep : Nat} {es : Array (Int × Value)} {t : SetTable} {π : List Nat} (hh : A.handled = none) (hf : t.fits es.size = true) (hn : es.size = n) (hπ : ∀ p ∈ π, p < es.size) (h1 : d ≠ I) (h2 : T ≠ I) :
    Walks PR w A I [I, d, T] [I] π.length (fun i v => ∃ p hx, π[i]? = some p ∧ es[p]? = some (hx, v)) (fun i h => h.get? I = some (setIt (.ref T) i d n ep) ∧ h.get? d = some (setObj es ep t) ∧ h.get? T = some (placesObj π)) where
  sub := fun b hb => by rw [List.mem_singleton.mp hb]; exact .head _
  frame := fun i h h' st k => ⟨k _ (.head _) _ st.1, k _ (.tail _ (.head _)) _ st.2.1, k _ (.tail _ (.tail _ (.head _))) _ st.2.2⟩
  item := fun i s Q E hi st hQ => by
    obtain ⟨a, b, c⟩ := st
    have hp := List.getElem?_eq_getElem hi
    have hlt := hπ _ (List.getElem_mem hi)
    refine setit_item_drawn a b hf hn c hp (hx := es[π[i]].1) (v := es[π[i]].2) (by rw [Array.getElem?_eq_getElem hlt]) fun h' hI' sb => ?_
    exact hQ _ h' s.toks ⟨_, _, hp, by rw [Array.getElem?_eq_getElem hlt]⟩ ⟨hI', sb.extBut _ _ h1 b, sb.extBut _ _ h2 c⟩ fun x o hx e => sb.extBut x o (fun q => hx (q ▸ .head _)) e
  done := fun s Q E st hQ => by
    obtain ⟨a, b, c⟩ := st
    exact setit_end_drawn hh a b hf hn c (List.getElem?_eq_none (Nat.le_refl _)) fun h' k => hQ h' s.toks fun x o hx e => k x o (fun q => hx (q ▸ .head _)) e
  self := fun i s Q E st h => setit_self st.1 rfl h
theorem walks_text {I d : Addr} {n ep : Nat} {es : Array (Int × Value)} {t : SetTable} (hh : A.handled = none) (hf : t.fits es.size = true) (hn : es.size = n) (hb : w.params.followText "set-order" = true) (h1 : d ≠ I) :
    Walks PR w A I [I, d] [I] (pickOrder (w.params.setOrder d ep) es).size (fun i v => ∃ hx, (pickOrder (w.params.setOrder d ep) es)[i]? = some (hx, v)) (fun i h => h.get? I = some (setIt (.int 0 0) i d n ep) ∧ h.get? d = some (setObj es ep t)) where
  sub := fun b hb => by rw [List.mem_singleton.mp hb]; exact .head _
  frame := fun i h h' st k => ⟨k _ (.head _) _ st.1, k _ (.tail _ (.head _)) _ st.2⟩
  item := fun i s Q E hi st hQ => by
    obtain ⟨a, b⟩ := st
    refine setit_item_plain (sl := 0) (sl' := 0) (v := (pickOrder (w.params.setOrder d ep) es)[i].2) a b hf hn (fun A' E' P hP => setNext_text b hf hb A' E' P (by rw [Array.getElem?_eq_getElem hi]; exact hP)) fun h' hI' sb => ?_
    exact hQ _ h' s.toks ⟨_, by rw [Array.getElem?_eq_getElem hi]⟩ ⟨hI', sb.extBut _ _ h1 b⟩ fun x o hx e => sb.extBut x o (fun q => hx (q ▸ .head _)) e
  done := fun s Q E st hQ => by
    obtain ⟨a, b⟩ := st
    exact setit_end_plain (sl := 0) hh a b hf hn (fun A' E' P hP => setNext_text b hf hb A' E' P (by rw [Array.getElem?_eq_none (Nat.le_refl _)]; exact hP)) fun h' k => hQ h' s.toks fun x o hx e => k x o (fun q => hx (q ▸ .head _)) e
  self := fun i s Q E st h => setit_self st.1 rfl h
theorem below_one (j : Nat) : SetTable.below #[j] 0 = 0 ∧ SetTable.below #[j] (j + 1) = 1 := by
  constructor
  · simp [SetTable.below, SetTable.below.go]
  · simp [SetTable.below, SetTable.below.go]
theorem below_nil (k : Nat) : SetTable.below #[] k = 0 := by simp [SetTable.below, SetTable.below.go]
theorem walks_one {I d : Addr} {n ep : Nat} {es : Array (Int × Value)} {t : SetTable} (hf : t.fits es.size = true) (hn : es.size = n) (hb : w.params.followText "set-order" = false) (hl : t.led = true) (h1 : d ≠ I) (hs : es.size ≤ 1) :
    ∃ f : Nat → Nat, f 0 = 0 ∧ ∀ A : Around, A.handled = none → Walks PR w A I [I, d] [I] es.size (fun i v => ∃ hx, es[i]? = some (hx, v)) (fun i h => h.get? I = some (setIt (.int (f i : Nat) 0) i d n ep) ∧ h.get? d = some (setObj es ep t)) := by
  have hp : t.place.size = es.size := by simp only [SetTable.fits, Bool.and_eq_true, beq_iff_eq, decide_eq_true_eq] at hf; exact hf.1
  have key : ∀ f : Nat → Nat, f 0 = 0 → (∀ i, i < es.size → nextOne es t (f i) = some (es[i]!.2, f (i + 1)) ∧ ∃ hx, es[i]? = some (hx, es[i]!.2)) →
      nextOne es t (f es.size) = none →
      ∀ A : Around, A.handled = none → Walks PR w A I [I, d] [I] es.size (fun i v => ∃ hx, es[i]? = some (hx, v)) (fun i h => h.get? I = some (setIt (.int (f i : Nat) 0) i d n ep) ∧ h.get? d = some (setObj es ep t)) := fun f _ hi he A hh =>
    { sub := fun b hb => by rw [List.mem_singleton.mp hb]; exact .head _
      frame := fun i h h' st k => ⟨k _ (.head _) _ st.1, k _ (.tail _ (.head _)) _ st.2⟩
      item := fun i s Q E hlt st hQ => by
        obtain ⟨a, b⟩ := st
        refine setit_item_plain (sl := f i) (sl' := f (i + 1)) (v := es[i]!.2) a b hf hn (fun A' E' P hP => setNext_one b hf hb hl hs A' E' P (by rw [(hi i hlt).1]; exact hP)) fun h' hI' sb => ?_
        exact hQ _ h' s.toks (hi i hlt).2 ⟨hI', sb.extBut _ _ h1 b⟩ fun x o hx e => sb.extBut x o (fun q => hx (q ▸ .head _)) e
      done := fun s Q E st hQ => by
        obtain ⟨a, b⟩ := st
        exact setit_end_plain (sl := f es.size) hh a b hf hn (fun A' E' P hP => setNext_one b hf hb hl hs A' E' P (by rw [he]; exact hP)) fun h' k => hQ h' s.toks fun x o hx e => k x o (fun q => hx (q ▸ .head _)) e
      self := fun i s Q E st h => setit_self st.1 rfl h }
  match hes : es, hpl : t.place, hp, hs with
  | ⟨[]⟩, ⟨[]⟩, _, _ =>
    subst hes
    exact ⟨fun _ => 0, rfl, key _ rfl (fun i hi => absurd hi (Nat.not_lt_zero _)) (by unfold nextOne; simp)⟩
  | ⟨[e]⟩, ⟨[j]⟩, _, _ =>
    subst hes
    refine ⟨fun i => if i = 0 then 0 else j + 1, rfl, key _ rfl (fun i hi => ?_) ?_⟩
    · have : i = 0 := by simpa using hi
      subst this
      unfold nextOne
      rw [hpl]
      simp only [↓reduceIte]
      rw [(below_one j).1]
      exact ⟨rfl, e.1, rfl⟩
    · show nextOne #[e] t (j + 1) = none
      unfold nextOne
      rw [hpl, (below_one j).2]
      rfl
  | ⟨[]⟩, ⟨_ :: _⟩, h, _ => exact absurd h (by simp)
  | ⟨[e]⟩, ⟨[]⟩, h, _ => exact absurd h (by simp)
  | ⟨[e]⟩, ⟨_ :: _ :: _⟩, h, _ => exact absurd h (by simp)
  | ⟨_ :: _ :: _⟩, _, _, h => exact absurd h (by simp)
end
end Mine
end
section
open PySem PySem.W PySem.Spec PySem.Calls PyProof.Rows
set_option maxRecDepth 100000
namespace Mine
noncomputable def txt : Value → Str
  | .str x _ => x
  | _ => ⟨#[]⟩
section
variable {w : World} {A : Around} {E : Value → Shared → Prop} {s : Shared}
/-- the iterator of a set of texts walks its texts in some order -/
noncomputable def SetWalk (w : World) (d z I : Addr) (h' : Heap) (xs : List Str) : Prop :=
  ∃ fp St, (∀ A' : Around, A'.handled = none → Walks PR w A' I fp [I] xs.length (fun i v => ∃ x tk, xs[i]? = some x ∧ v = .str x tk) St) ∧ St 0 h' ∧ (∀ i h, St i h → ∃ o, h.get? I = some o ∧ o.cls = .type "set_iterator") ∧ (∀ b ∈ fp, b < h'.objs.size) ∧ I ∈ fp ∧ ∀ b ∈ fp, b = d ∨ z ≤ b
theorem Walks.weaken {prog : Program} {w : World} {A : Around} {I : Addr} {fp wr : List Addr} {n : Nat} {P P' : Nat → Value → Prop} {St : Nat → Heap → Prop} (W : Walks prog w A I fp wr n P St) (h : ∀ i v, P i v → P' i v) : Walks prog w A I fp wr n P' St :=
  { sub := W.sub, frame := W.frame, done := W.done, self := W.self, item := fun i s Q E hi st hQ => W.item i s Q E hi st fun v h' tk hP => hQ v h' tk (h i v hP) }
theorem perm_txt {es : Array (Int × Value)} {S : Str → Prop} (hel : ∀ e ∈ es.toList, ∃ x tk, e.2 = .str x tk ∧ e.1 = (strKind PR w).hash x) (hmem : ∀ x, S x ↔ ∃ e ∈ es.toList, ∃ tk, e.2 = .str x tk) {l : List (Int × Value)} (p : l.Perm es.toList) :
    (∀ x, S x ↔ x ∈ l.map fun e => txt e.2) ∧ (∀ (i : Nat) hx v, l[i]? = some (hx, v) → ∃ x tk, (l.map fun e => txt e.2)[i]? = some x ∧ v = .str x tk) := by
  refine ⟨fun x => ?_, fun i hx v e => ?_⟩
  · rw [hmem x, List.mem_map]
    constructor
    · rintro ⟨e, he, tk, q⟩
      exact ⟨e, p.mem_iff.mpr he, by rw [q]; rfl⟩
    · rintro ⟨e, he, q⟩
      obtain ⟨y, tk, e2, _⟩ := hel e (p.mem_iff.mp he)
      rw [e2] at q
      exact ⟨e, p.mem_iff.mp he, tk, by rw [e2, ← q]; rfl⟩
  · have hm : (hx, v) ∈ l := List.mem_of_getElem? e
    obtain ⟨y, tk, e2, _⟩ := hel _ (p.mem_iff.mp hm)
    refine ⟨y, tk, ?_, e2⟩
    rw [List.getElem?_map, e]
    have e2' : v = .str y tk := e2
    rw [e2']; rfl
theorem sset_iter {d : Addr} {S : Str → Prop} {n : Nat} {Q : Value → Shared → Prop} (hS : SSet w s.heap d S n) (hn : n < 64)
    (h : ∀ I h' dr xs, SetWalk w d s.heap.objs.size I h' xs → s.heap.objs.size ≤ I → (∀ x, S x ↔ x ∈ xs) → xs.length ≤ n → Kept s.heap h' → Q (.ref I) { s with heap := h', drawn := dr }) : wpAny (model PR w) A (pyIter (.ref d)) Q E s := by
  obtain ⟨es, ep, t, ho, hel, hmem, hsz, hf, hl, hp⟩ := hS
  have hT : s.TypeIs (.ref d) "set" := ⟨_, ho, rfl⟩
  have hlt : d < s.heap.objs.size := Heap.lt_size ho
  refine wpAny_pyIter_slot hT F.slot_set_iter (wpAny_call_entry F.slot_set_iter hT entry_set_iter ?_ (F.args_set_iter_1 _))
  show wpAny _ _ ((setEntries d >>= fun es => pure es.size) >>= _) _ _ s
  refine wpAny_bind (wpAny_bind (wpAny_setEntries_of ho rfl hf (wpAny_pure ?_)))
  unfold setDrawn
  refine wpAny_bind ?_
  refine wpAny_bind (wpAny_setState_of ho rfl hf ?_)
  dsimp only
  unfold setsByText
  refine wpAny_bind (wpAny_bind (wpAny_askSetting (wpAny_pure ?_)))
  show wpAny _ _ (pure (!(w.params.followText "set-order") && (!t.plain && decide (es.size > 1)))) _ _ s
  refine wpAny_pure ?_
  by_cases hdr : (!(w.params.followText "set-order") && (!t.plain && decide (es.size > 1))) = true
  · rw [if_pos hdr]
    refine wpAny_bind (drawOrder_any es.size (List.range es.size) s _ (by simp) fun π dr hπ => ?_)
    have hzz : (π.map fun (i : Nat) => rawInt (i : Int)).length ≤ sizeLine := by rw [List.length_map, hπ.length_eq, List.length_range, sizeLine_eq]; omega
    refine wpAny_bind (wpAny_newTuple (hsz := hzz) ?_)
    have hd1 : (s.heap.push (placesObj π)).get? d = some (setObj es ep t) := Heap.get?_push_of_some _ ho
    refine wpAny_bind (m := setEpoch d) (wpAny_setEpoch_of (s := { s with heap := s.heap.push (placesObj π), drawn := dr }) hd1 rfl hf ?_)
    refine wpAny_bind (wpAny_newObj_type (wpAny_pure ⟨_, rfl, "set_iterator", _, ⟨_, Heap.get?_push_size _ rfl, rfl⟩, slot_setit_next.lookup, ?_⟩))
    have hsize : (s.heap.push (placesObj π)).objs.size = s.heap.objs.size + 1 := by rw [Heap.size_push]
    have hl' : (π.map fun p => es[p]!).Perm es.toList := by
      have e1 : es.toList = (List.range es.size).map fun p => es[p]! := by
        apply List.ext_getElem
        · simp
        · intro i h1 h2
          simp at h1 ⊢
          rw [getElem!_pos es i h1]
      rw [e1]
      exact hπ.map _
    obtain ⟨m1, m2⟩ := perm_txt hel hmem hl'
    have hπlt : ∀ p ∈ π, p < es.size := fun p hp => by simpa using hπ.mem_iff.mp hp
    refine h _ _ dr ((π.map fun p => es[p]!).map fun e => txt e.2) ⟨[(s.heap.push (placesObj π)).objs.size, d, s.heap.objs.size], fun i h => h.get? (s.heap.push (placesObj π)).objs.size = some (setIt (.ref s.heap.objs.size) i d es.size ep) ∧ h.get? d = some (setObj es ep t) ∧ h.get? s.heap.objs.size = some (placesObj π), fun A' hA' => ?_, ⟨Heap.get?_push_size _ rfl, Heap.get?_push_of_some _ hd1, Heap.get?_push_of_some _ (Heap.get?_push_size _ rfl)⟩, fun i h' st => ⟨_, st.1, rfl⟩, fun b hb => ?_, .head _, fun b hb => ?_⟩ ?_ m1 ?_ fun b o e => Heap.get?_push_of_some _ (Heap.get?_push_of_some _ e)
    · have W := walks_drawn (w := w) (A := A') (I := (s.heap.push (placesObj π)).objs.size) (d := d) (T := s.heap.objs.size) (n := es.size) (ep := ep) (es := es) (t := t) (π := π) hA' hf rfl hπlt (by rw [hsize]; exact Nat.ne_of_lt (Nat.lt_succ_of_lt hlt)) (by rw [hsize]; exact Nat.ne_of_lt (Nat.lt_succ_self _))
      simp only [List.length_map]
      refine Walks.weaken W fun i v hv => ?_
      obtain ⟨p, hx, e1, e2⟩ := hv
      exact m2 i hx v (by rw [List.getElem?_map, e1]; simp [getElem!_def, e2])
    · show b < ((s.heap.push (placesObj π)).push _).objs.size
      rw [Heap.size_push, hsize]
      simp only [List.mem_cons, List.not_mem_nil, or_false] at hb
      rcases hb with rfl | rfl | rfl
      · rw [hsize]; exact Nat.lt_succ_self _
      · exact Nat.lt_succ_of_lt (Nat.lt_succ_of_lt hlt)
      · exact Nat.lt_succ_of_lt (Nat.lt_succ_self _)
    · simp only [List.mem_cons, List.not_mem_nil, or_false] at hb
      rcases hb with rfl | rfl | rfl
      · rw [hsize]; exact .inr (Nat.le_succ _)
      · exact .inl rfl
      · exact .inr (Nat.le_refl _)
    · show s.heap.objs.size ≤ (s.heap.push (placesObj π)).objs.size
      rw [hsize]; exact Nat.le_succ _
    · simp only [List.length_map]
      rw [hπ.length_eq, List.length_range]; exact hsz
  · rw [if_neg hdr]
    refine wpAny_bind (wpAny_pure ?_)
    refine wpAny_bind (m := setEpoch d) (wpAny_setEpoch_of ho rfl hf ?_)
    refine wpAny_bind (wpAny_newObj_type (wpAny_pure ⟨_, rfl, "set_iterator", _, ⟨_, Heap.get?_push_size _ rfl, rfl⟩, slot_setit_next.lookup, ?_⟩))
    have hne : d ≠ s.heap.objs.size := Nat.ne_of_lt hlt
    have hfp : ∀ b ∈ [s.heap.objs.size, d], b < (s.heap.push (setIt (.int 0 0) 0 d es.size ep)).objs.size := fun b hb => by
      rw [Heap.size_push]
      simp only [List.mem_cons, List.not_mem_nil, or_false] at hb
      rcases hb with rfl | rfl
      · exact Nat.lt_succ_self _
      · exact Nat.lt_succ_of_lt hlt
    have hfz : ∀ b ∈ [s.heap.objs.size, d], b = d ∨ s.heap.objs.size ≤ b := fun b hb => by
      simp only [List.mem_cons, List.not_mem_nil, or_false] at hb
      rcases hb with rfl | rfl
      · exact .inr (Nat.le_refl _)
      · exact .inl rfl
    cases hb : w.params.followText "set-order" with
    | true =>
      have pp := pickOrder_perm (w.params.setOrder d ep) es
      obtain ⟨m1, m2⟩ := perm_txt hel hmem pp
      refine h _ _ s.drawn ((pickOrder (w.params.setOrder d ep) es).toList.map fun e => txt e.2) ⟨[s.heap.objs.size, d], fun i h => h.get? s.heap.objs.size = some (setIt (.int 0 0) i d es.size ep) ∧ h.get? d = some (setObj es ep t), fun A' hA' => ?_, ⟨Heap.get?_push_size _ rfl, Heap.get?_push_of_some _ ho⟩, fun i h' st => ⟨_, st.1, rfl⟩, hfp, .head _, hfz⟩ (Nat.le_refl _) m1 ?_ fun b o e => Heap.get?_push_of_some _ e
      · have W := walks_text (w := w) (A := A') (I := s.heap.objs.size) (d := d) (n := es.size) (ep := ep) (es := es) (t := t) hA' hf rfl hb hne
        rw [List.length_map, Array.length_toList]
        refine Walks.weaken W fun i v hv => ?_
        obtain ⟨hx, e⟩ := hv
        exact m2 i hx v (by rw [Array.getElem?_toList]; exact e)
      · rw [List.length_map, pp.length_eq, Array.length_toList]; exact hsz
    | false =>
      have hs1 : es.size ≤ 1 := by
        rw [hb] at hdr
        rcases Nat.lt_or_ge 1 es.size with q | q
        · exact absurd (by simp [hp (by omega), q]) hdr
        · exact q
      have hled : t.led = true := by rw [hl, hb]; rfl
      obtain ⟨m1, m2⟩ := perm_txt hel hmem (List.Perm.refl es.toList)
      obtain ⟨f, f0, W0⟩ := walks_one (w := w) (I := s.heap.objs.size) (d := d) (n := es.size) (ep := ep) (es := es) (t := t) hf rfl hb hled hne hs1
      refine h _ _ s.drawn (es.toList.map fun e => txt e.2) ⟨[s.heap.objs.size, d], fun i h => h.get? s.heap.objs.size = some (setIt (.int (f i : Nat) 0) i d es.size ep) ∧ h.get? d = some (setObj es ep t), fun A' hA' => ?_, ⟨by rw [f0]; exact Heap.get?_push_size _ rfl, Heap.get?_push_of_some _ ho⟩, fun i h' st => ⟨_, st.1, rfl⟩, hfp, .head _, hfz⟩ (Nat.le_refl _) m1 ?_ fun b o e => Heap.get?_push_of_some _ e
      · rw [List.length_map, Array.length_toList]
        refine Walks.weaken (W0 A' hA') fun i v hv => ?_
        obtain ⟨hx, e⟩ := hv
        exact m2 i hx v (by rw [Array.getElem?_toList]; exact e)
      · rw [List.length_map, Array.length_toList]; exact hsz
end
end Mine
end
section
open PySem PySem.W PySem.Spec PySem.Calls PyProof.Rows
set_option maxRecDepth 100000
namespace Mine
theorem set_len_lookup : typeLookup (.type "set") "__len__" = pure (some (.builtin "set.__len__")) := by rw [typeLookup_type, builtinLookup_eq_fast]; kernel_rfl
section
variable {w : World} {A : Around} {E : Value → Shared → Prop} {s : Shared}
set_option maxHeartbeats 2000000 in
/-- all texts of a set -/
theorem collect_set {d : Addr} {S : Str → Prop} {n : Nat} {Q : List Value → Shared → Prop} (hh : A.handled = none) (hS : SSet w s.heap d S n) (hn : n < 60)
    (h : ∀ h' dr tk vs xs, StrsAre vs xs → (∀ x, S x ↔ x ∈ xs) → xs.length ≤ n → Kept s.heap h' → Q vs { s with heap := h', drawn := dr, toks := tk }) : wpAny (model PR w) A (collect (.ref d)) Q E s := by
  have hd : ∃ o, s.heap.get? d = some o ∧ o.cls = .type "set" := by obtain ⟨es, ep, t, ho, _⟩ := hS; exact ⟨_, ho, rfl⟩
  have hdlt : d < s.heap.objs.size := by obtain ⟨o, ho, _⟩ := hd; exact Heap.lt_size ho
  unfold collect
  refine wpAny_bind (wpAny_runValue (codeAny_builtin F.entry_proto_collect ?_))
  rw [Around.under_plainId F.plain_proto_collect _]
  show wpAny _ A.in1 (newList [] >>= fun l => again (.builtin "list.__iadd__" ⟨[l, .ref d], []⟩)) _ _ s
  refine wpAny_bind (wpAny_newObj_type ?_)
  refine wpAny_pure ⟨plainId_quiet F.plain_list_iadd _, codeAny_builtin F.entry_list_iadd ?_⟩
  rw [Around.under_plainId F.plain_list_iadd _]
  have hS₁ : (s.heap.push { cls := .type "list", data := .seq ([] : List Value).toArray }).get? s.heap.objs.size = some { cls := .type "list", data := .seq ([] : List Value).toArray } := Heap.get?_push_size _ rfl
  have kp1 : Kept s.heap (s.heap.push { cls := .type "list", data := .seq ([] : List Value).toArray }) := fun b o e => Heap.get?_push_of_some _ e
  show wpAny _ A.in1 (Builtin.List.listExtendWith (.ref s.heap.objs.size) (.ref d) (.ref s.heap.objs.size)) _ _ _
  unfold Builtin.List.listExtendWith
  obtain ⟨o, ho, hc⟩ := hd
  refine wpAny_bind (wpAny_typeOf (T := "set") ⟨o, kp1 _ _ ho, hc⟩ ?_)
  have h1 : Builtin.List.listSameRef (.ref s.heap.objs.size) (.ref d) = false := by simp [Builtin.List.listSameRef]; exact Nat.ne_of_gt hdlt
  rw [if_neg (by rw [h1]; decide)]
  have hS' : SSet w (s.heap.push { cls := .type "list", data := .seq ([] : List Value).toArray }) d S n := by
    obtain ⟨es, ep, t, ho, r⟩ := hS
    exact ⟨es, ep, t, kp1 _ _ ho, r⟩
  refine wpAny_bind (sset_iter (s := { s with heap := s.heap.push { cls := .type "list", data := .seq ([] : List Value).toArray } }) hS' (by omega) fun I h2 dr xs hW hI hmem hlen kp2 => ?_)
  obtain ⟨fp, St, W, hst, hty, hfp, hIf, hfz⟩ := hW
  have hTy : ∀ (tk : Tok), Shared.TypeIs { s with heap := h2, drawn := dr, toks := tk } (.ref I) "set_iterator" := fun tk => by obtain ⟨oI, e1, e2⟩ := hty _ _ hst; exact ⟨oI, e1, e2⟩
  refine wpAny_bind (wpAny_holding ?_)
  unfold Builtin.List.listLengthHint
  have hTd : Shared.TypeIs { s with heap := h2, drawn := dr } (.ref d) "set" := ⟨o, kp2 _ _ (kp1 _ _ ho), hc⟩
  refine wpAny_bind (wpAny_specialOf hTd set_len_lookup ?_)
  (generalize hid : ("set.__len__" : String) = id0; (fail_if_success (clear hid id0)); wp_delta; rw [show splitId id0 = some ("set", "__len__") from by subst hid; decide +kernel]; subst hid)
  refine wpAny_bind (wpAny_isInstance (b := true) hTd (by rw [isSubtype_type]; kernel_rfl) ?_)
  refine wpAny_bind (wpAny_typeOf hTd ?_)
  refine wpAny_pure ?_
  show wpAny _ A.in1 (rule "list.extend.makes-room" >>= fun _ => Builtin.List.listTouch (.ref s.heap.objs.size) >>= fun _ =>
    again (.builtin "list.extend.loop" ⟨[.ref s.heap.objs.size, .ref I, .ref s.heap.objs.size], []⟩)) _ _ _
  refine wpAny_bind (wpAny_rule ?_)
  have hS₂ : h2.get? s.heap.objs.size = some { cls := .type "list", data := .seq ([] : List Value).toArray } := kp2 _ _ hS₁
  refine wpAny_bind ?_
  show wpAny _ A.in1 (updateSeq s.heap.objs.size (·.push .none) >>= fun _ => updateSeq s.heap.objs.size (·.pop)) _ _ _
  refine wpAny_bind (wpAny_updateSeq hS₂ rfl ?_)
  have hS₃ := Heap.get?_update_self (Obj.mapSeq (·.push Value.none)) hS₂ rfl
  refine wpAny_updateSeq hS₃ rfl ?_
  have hS₄ := Heap.get?_update_self (Obj.mapSeq (·.pop)) hS₃ rfl
  have oth : ∀ b o, b ≠ s.heap.objs.size → h2.get? b = some o → ((h2.update s.heap.objs.size (Obj.mapSeq (·.push Value.none))).update s.heap.objs.size (Obj.mapSeq (·.pop))).get? b = some o :=
    fun b o hb e => (Heap.get?_update_other _ _ (Ne.symm hb)).trans ((Heap.get?_update_other _ _ (Ne.symm hb)).trans e)
  have hSf : s.heap.objs.size ∉ fp := fun hm => by
    rcases hfz _ hm with q | q
    · exact Nat.ne_of_gt hdlt q
    · rw [Heap.size_push] at q; exact Nat.lt_irrefl _ (Nat.lt_of_succ_le q)
  have hz : xs.length ≤ sizeLine := by rw [sizeLine_eq]; omega
  have W' := W A.in1 hh
  have hst2 : St 0 ((h2.update s.heap.objs.size (Obj.mapSeq (·.push Value.none))).update s.heap.objs.size (Obj.mapSeq (·.pop))) := W'.frame 0 h2 _ hst fun b hb o e => oth b o (fun q => hSf (q ▸ hb)) e
  refine wpAny_pure ⟨plainId_quiet F.plain_extend_loop _, codeAny_extend_loopS W'.toS hz _ hSf _ xs.length 0 _ _ _ rfl (Nat.zero_le _) hst2 hS₄ (ItemsOf.nil _) fun s' acc' c' hm hS' hacc => ?_⟩
  show wpAny _ A (load s.heap.objs.size >>= _) _ _ s'
  refine wpAny_bind (wpAny_load hS' ?_)
  obtain ⟨h', g', d', tk', os'⟩ := s'
  have eg : g' = s.gens := hm.gens
  have ed : d' = dr := hm.drawn
  have eo : os' = s.os := hm.os
  subst eg; subst ed; subst eo
  refine wpAny_pure (h h' d' tk' acc'.toList xs ?_ hmem hlen fun b o e => ?_)
  · obtain ⟨hs, hv⟩ := hacc
    have : ∀ (l : List Value) (ys : List Str), l.length = ys.length → (∀ (j : Nat) v, l[j]? = some v → ∃ x tk, ys[j]? = some x ∧ v = .str x tk) → StrsAre l ys := by
      intro l
      induction l with
      | nil => intro ys e _; cases ys with | nil => exact .nil | cons _ _ => cases e
      | cons a r ih =>
        intro ys e hv
        cases ys with
        | nil => cases e
        | cons y ys =>
          obtain ⟨x, tk, e1, rfl⟩ := hv 0 a rfl
          simp at e1
          subst e1
          exact .cons _ _ (ih ys (by simpa using e) fun j v q => hv (j + 1) v (by simpa using q))
    exact this _ _ (by rw [Array.length_toList]; exact hs) fun j v e => hv j v (by rw [← Array.getElem?_toList]; exact e)
  · have hb : b < s.heap.objs.size := Heap.lt_size e
    refine hm.heap b o (fun q => ?_) (oth b o (Nat.ne_of_lt hb) (kp2 b o (kp1 b o e)))
    rcases List.mem_cons.mp q with rfl | q
    · exact Nat.lt_irrefl _ hb
    · rw [List.mem_singleton.mp q] at hb
      rw [Heap.size_push] at hI
      exact Nat.lt_irrefl _ (Nat.lt_of_lt_of_le hb (Nat.le_of_succ_le hI))
end
end Mine
end
section
open PySem PySem.W PySem.Spec PySem.Calls PyProof.Rows
set_option maxRecDepth 100000
namespace Mine
section
variable {w : World} {A : Around} {E : Value → Shared → Prop} {s : Shared}
set_option maxHeartbeats 2000000 in
/-- sorted(d) of a set of texts: a new list of just its texts -/
theorem sorted_set {d : Addr} {S : Str → Prop} {n : Nat} {Q : Value → Shared → Prop} (hh : A.handled = none) (hS : SSet w s.heap d S n) (hn : n < 60)
    (h : ∀ D h' dr tk vs xs k, StrsAre vs xs → (∀ x, S x ↔ x ∈ xs) → xs.length ≤ n → Kept s.heap h' → s.heap.get? D = none → h'.get? D = some { cls := .type "list", data := .seq vs.toArray k } → Q (.ref D) { s with heap := h', drawn := dr, toks := tk }) :
    wpAny (model PR w) A (call (.builtin "sorted") [.ref d]) Q E s := by
  refine Calls.call_function_entry kind_sorted plain_sorted entry_sorted (args_sorted1 _) ?_
  unfold Builtin.«sorted»
  refine wpAny_bind (m := checkCount "sorted" 1 1 _) (wpAny_pure ?_)
  refine wpAny_bind (collect_set (A := A.in1) hh hS hn fun h1 dr tk vs xs hvs hmem hlen kp => ?_)
  refine wpAny_bind (wpAny_newList ?_ (hsz := by have := StrsAre.length hvs; rw [sizeLine_eq]; omega))
  have hlv : vs.length < 64 := by have := StrsAre.length hvs; omega
  have hoL : (h1.push (seqObj "list" vs.toArray 0)).get? h1.objs.size = some (seqObj "list" vs.toArray 0) := Heap.get?_push_size _ rfl
  show wpAny _ _ _ _ _ { s with heap := h1.push (seqObj "list" vs.toArray 0), drawn := dr, toks := tk }
  have hnone : s.heap.get? h1.objs.size = none := by
    cases q : s.heap.get? h1.objs.size with
    | none => rfl
    | some o => exact absurd (Heap.lt_size (kp _ _ q)) (Nat.lt_irrefl _)
  refine wpAny_bind (wpAny_holding (wpAny_call_entry slot_list_sort ⟨_, hoL, rfl⟩ entry_list_sort (list_sort_treeK strKind_oneLt hoL hvs.keysOf (fun v₁ v₂ rest e => keyKind_strs (by rw [← e]; exact hvs)) hlv fun st' hp hs => ⟨_, rfl, ?_⟩) (args_list_sort _)))
  obtain ⟨ss', a1, a2, a3⟩ := sorted_out_str hvs hp hs
  obtain ⟨e, he⟩ := sortedHeap_at (out := (arrOf st').map (·.2)) hoL
  refine wpAny_pure ⟨_, rfl, h h1.objs.size _ dr tk ((arrOf st').map (·.2)).toList ss' e a1 (fun x => (hmem x).trans a2.mem_iff.symm) (by rw [a2.length_eq]; exact hlen) (fun b o q => ?_) hnone (by rw [Array.toArray_toList]; exact he)⟩
  have hb := kp b o q
  have hlt := Heap.lt_size hb
  rw [sortedHeap_old (Nat.ne_of_lt hlt) (by rw [Heap.size_push]; exact Nat.lt_succ_of_lt hlt)]
  exact Heap.get?_push_of_some _ hb
end
end Mine
end
section
open PySem PySem.W PySem.Spec PySem.Calls PyProof.Rows
set_option maxRecDepth 100000
namespace Mine
noncomputable def St.varName : St → Option Str
  | .name x => if (St.name x).isVar then some x else .none
  | _ => .none
/-- the names of the variables in a term -/
noncomputable def St.vars (t : St) : List Str := t.parts.filterMap St.varName
theorem St.short_parts {t : St} (h : t.short) : ∀ u ∈ t.parts, u.short := by
  induction t with
  | none | all | name x => intro u hu; rw [List.mem_singleton.mp hu]; exact h
  | not a ih =>
    intro u hu
    rcases List.mem_cons.mp hu with rfl | hu
    · exact h
    · exact ih h u hu
  | union a b ih ih' | meet a b ih ih' | less a b ih ih' =>
    intro u hu
    rcases List.mem_cons.mp hu with rfl | hu
    · exact h
    · rcases List.mem_append.mp hu with hu | hu
      · exact ih h.1 u hu
      · exact ih' h.2 u hu
/-- this value is a variable -/
noncomputable def VarV (g : Heap) (y : Value) (x : Str) : Prop := ∃ a tk, y = .ref a ∧ IsTup g a #[.str x tk] ∧ (Txt.slice x Option.none (some 1) == Str.ofString "?") = true
theorem varName_iff {g : Heap} {y : Value} {t : St} (h : SAt g y t) (x : Str) : t.varName = some x ↔ VarV g y x := by
  cases h with
  | @none a tk ht =>
    refine ⟨fun e => (by cases e), fun ⟨a', tk', e, h1, h2⟩ => ?_⟩
    cases e
    have := IsTup.inj ht h1
    injection this with this; injection this with this _; injection this with this _
    subst this; revert h2; decide
  | @all a tk ht =>
    refine ⟨fun e => (by cases e), fun ⟨a', tk', e, h1, h2⟩ => ?_⟩
    cases e
    have := IsTup.inj ht h1
    injection this with this; injection this with this _; injection this with this _
    subst this; revert h2; decide
  | @name a x' tk ht =>
    constructor
    · intro e
      simp only [St.varName] at e
      split at e
      · rename_i hv
        cases e
        exact ⟨a, tk, rfl, ht, hv⟩
      · cases e
    · rintro ⟨a', tk', e, h1, h2⟩
      cases e
      have := IsTup.inj ht h1
      injection this with this; injection this with this _; injection this with this _
      subst this
      exact if_pos h2
  | @not a tk v k ht _ =>
    refine ⟨fun e => (by cases e), fun ⟨a', tk', e, h1, h2⟩ => ?_⟩
    cases e
    have := congrArg Array.size (IsTup.inj ht h1)
    simp at this
  | @union a tk v v' k k' ht _ _ =>
    refine ⟨fun e => (by cases e), fun ⟨a', tk', e, h1, h2⟩ => ?_⟩
    cases e
    have := congrArg Array.size (IsTup.inj ht h1)
    simp at this
  | @meet a tk v v' k k' ht _ _ =>
    refine ⟨fun e => (by cases e), fun ⟨a', tk', e, h1, h2⟩ => ?_⟩
    cases e
    have := congrArg Array.size (IsTup.inj ht h1)
    simp at this
  | @less a tk v v' k k' ht _ _ =>
    refine ⟨fun e => (by cases e), fun ⟨a', tk', e, h1, h2⟩ => ?_⟩
    cases e
    have := congrArg Array.size (IsTup.inj ht h1)
    simp at this
theorem isVar_some (t : St) : t.isVar = true ↔ ∃ x, t.varName = some x := by
  cases t with
  | name x =>
    constructor
    · intro h; exact ⟨x, if_pos h⟩
    · rintro ⟨y, h⟩
      simp only [St.varName] at h
      split at h
      · assumption
      · cases h
  | _ => exact ⟨fun h => (by cases h), fun ⟨_, h⟩ => (by cases h)⟩
/-- this pair tells a variable -/
noncomputable def VarP (g h₁ : Heap) (v : Value) : Prop := ∃ t v₁ y x, v = .ref t ∧ IsTup h₁ t #[v₁, y] ∧ VarV g y x
theorem varP_iff {g h₁ : Heap} {v y v₁ : Value} {t : Addr} {st : St} (e : v = .ref t) (h : IsTup h₁ t #[v₁, y]) (hs : SAt g y st) : VarP g h₁ v ↔ st.isVar = true := by
  rw [isVar_some]
  constructor
  · rintro ⟨t', w₁, y', x, e', h', hv⟩
    rw [e] at e'; cases e'
    have := IsTup.inj h h'
    injection this with this; injection this with _ this; injection this with this _
    subst this
    exact ⟨x, (varName_iff hs x).mpr hv⟩
  · rintro ⟨x, hx⟩
    exact ⟨t, v₁, y, x, e, h, (varName_iff hs x).mp hx⟩
noncomputable def VG (g h₁ : Heap) (v y : Value) (_own : List (Addr × Obj)) : Prop := ∃ t v₁ y' x tk, v = .ref t ∧ IsTup h₁ t #[v₁, y'] ∧ VarV g y' x ∧ y = .str x tk
open Classical in
theorem vars_paired {g h₁ h' : Heap} {n : Nat} {vs ys : List Value} {ts : List St} (x : PAt g n h₁ vs ts) (y : Paired (GAt (VG g h₁) h') (vs.filter fun v => decide (VarP g h₁ v)) ys) : StrsAre ys (ts.filterMap St.varName) := by
  induction x generalizing ys with
  | nil => cases y; exact .nil
  | @cons v t vs ts a b ih =>
    obtain ⟨r, pa, its, z, e, i1, i2, i3, i4⟩ := a
    by_cases hv : t.isVar = true
    · obtain ⟨nx, hnx⟩ := (isVar_some t).mp hv
      have hp : VarP g h₁ v := (varP_iff e i1 i4).mpr hv
      rw [List.filter_cons_of_pos (by simpa using hp)] at y
      rw [List.filterMap_cons_some hnx]
      cases y with
      | cons p q =>
      obtain ⟨own, ⟨t', w₁, y', x', tk, e', j1, j2, rfl⟩, _⟩ := p
      rw [e] at e'; cases e'
      have := IsTup.inj i1 j1
      injection this with this; injection this with _ this; injection this with this _
      subst this
      have := (varName_iff i4 x').mpr j2
      rw [hnx] at this; cases this
      exact .cons _ _ (ih q)
    · have hn : t.varName = .none := by
        cases q : t.varName with
        | none => rfl
        | some x => exact absurd ((isVar_some t).mpr ⟨x, q⟩) hv
      have hp : ¬ VarP g h₁ v := fun q => hv ((varP_iff e i1 i4).mp q)
      rw [List.filter_cons_of_neg (by simpa using hp)] at y
      rw [List.filterMap_cons_none hn]
      exact ih y
end Mine
end
section
open PySem PySem.W PySem.Spec PySem.Calls PyProof.Rows
set_option maxRecDepth 100000
namespace Mine
section
variable {w : World} {mean : ExcName → Option Value} {mg mb : Str → Option Value}
theorem lines_p6b_1 : True := by
  k_with_none
  (k_with "h ne" => (refine neN ?_; (try dsimp only); first | assumption | (refine Ne.symm ?_; assumption) | (refine Nat.ne_of_lt ?_; assumption) | (refine Nat.ne_of_gt ?_; assumption) | ((repeat (rename (_ ∧ _) => hA9; first | ((repeat (first | exact hA9 | exact Ne.symm hA9 | exact Nat.ne_of_lt hA9 | exact Nat.ne_of_gt hA9 | (obtain ⟨h9a, hA9⟩ := hA9; first | exact h9a | exact Ne.symm h9a | exact Nat.ne_of_lt h9a | exact Nat.ne_of_gt h9a | exact h9a.1 | exact h9a.2.1 | exact h9a.2.2 | exact Ne.symm h9a.1 | exact Ne.symm h9a.2.1 | exact Ne.symm h9a.2.2 | clear h9a))); fail_if_success (focus skip)) | clear hA9)); fail_if_success (focus skip)) | omega))
  (k_with "h rel" => first | assumption | exact IsTup.keeps (by assumption) (Fr.keep (by assumption)) | exact EnvAt.keeps (by assumption) (Fr.keep (by assumption)) | exact SetsAt.keeps (by assumption) (Fr.keep (by assumption)))
  (k_with "call builtin:len" => (k_here; (with_reducible show wpAny _ _ (call (Value.builtin "len") [Value.ref _]) _ _ _); first | refine len_1 (by ktr_rel) ?_ | refine len_2 (by ktr_rel) ?_ | refine len_3 (by ktr_rel) ?_ | refine len_4 (by ktr_rel) ?_))
  (k_with "subscriptTail" => (k_here; (with_reducible show wpAny _ _ (subscriptTail _ _ (Value.ref _) (Value.str _ _)) _ _ _); k_dflt (refine env_item (by (ktr_rel); fail_if_success (focus skip)) (by (assumption); fail_if_success (focus skip)) ?_ (by (with_unfolding_all rfl); fail_if_success (focus skip)); k_whole; intro eT)))
  (k_with "subscriptTail" => (k_here; (with_reducible show wpAny _ _ (subscriptTail _ _ (Value.ref _) (Value.int _ _)) _ _ _); k_dflt (refine item_tupleT (by (ktr_rel); fail_if_success (focus skip)) (by (decide); fail_if_success (focus skip)) (by (decide); fail_if_success (focus skip)) (by (rfl); fail_if_success (focus skip)) (by (rfl); fail_if_success (focus skip)) ?_; k_whole)))
  (k_with "subscriptTail Name Slice ref ref" => (k_here; k_dflt (refine tail_slice (by (k_asm); fail_if_success (focus skip)) (by (k_asm); fail_if_success (focus skip)) (by (ktr_rel); fail_if_success (focus skip)) (by (exact Nat.le_of_ble_eq_true rfl); fail_if_success (focus skip)) ?_ (by (with_unfolding_all rfl); fail_if_success (focus skip)) (by (intro _; with_unfolding_all rfl); fail_if_success (focus skip)); k_whole; intro D' h' F' N' l1; (try k_lt l1); (try k_sweep))))
  (k_with "exec Assign cons ListComp" => (k_here; (with_reducible rename PyProof.Rows.News _ _ _ _ => nx9); (replace nx9 := News.last2 nx9); (change PyProof.Rows.News _ _ _ [(_, _), (_, _)] at nx9); (repeat (rename ((_ : Nat) < _ ∧ _) => lx9; clear lx9)); k_dflt (refine Assign_ListComp_T (by k_asm) (by rfl) (by with_unfolding_all rfl) (by with_unfolding_all rfl) (by decide) (by rfl) (by decide) (by rfl) (by rfl) (by rfl) ?_); (repeat (first | walk1 | (dsimp only; walk1))); k_dflt (refine SrcT.ledger (by first | rfl | assumption) (by k_asm) (by k_asm) (by k_mem) (by exact Nat.le_of_ble_eq_true rfl) ?_; intro g'; lcg_lit)))
  (k_with "h units" => (simp only [units_deeper, units_in1]; first | exact Nat.lt_of_le_of_lt (by (simp +arith); fail_if_success (focus skip)) hD | exact Nat.lt_of_le_of_lt (by (simp +arith); fail_if_success (focus skip)) hU | exact Nat.lt_of_le_of_lt (by (simp +arith); fail_if_success (focus skip)) hD9 | exact Nat.lt_of_le_of_lt (by (simp +arith); fail_if_success (focus skip)) hU9 | omega))
  (k_with "compareOp Eq ref ref" => (k_here; k_dflt (first
      | (refine eq_one_t (by (ktr_rel); fail_if_success (focus skip)) (by (exact News.isTup (by assumption) (by k_mem)); fail_if_success (focus skip)) (by (ktr_units); fail_if_success (focus skip)) (by (first | decide | simp_all); fail_if_success (focus skip)) ?_; k_whole)
      | (refine eq_one_f (by (ktr_rel); fail_if_success (focus skip)) (by (exact News.isTup (by assumption) (by k_mem)); fail_if_success (focus skip)) (by (ktr_units); fail_if_success (focus skip)) (by (first | decide | simp_all); fail_if_success (focus skip)) ?_; k_whole))))
  (k_with "h rel" => exact SAt.keeps (by assumption) (Fr.keep (by assumption)))
  (k_with "compareOp In bool ref" => (k_here; k_dflt (refine in_bools (News.isList (by k_asm) (by k_mem)) ?_)))
  (k_with "compareOp NotIn bool ref" => (k_here; k_dflt (refine notIn_bools (News.isList (by k_asm) (by k_mem)) ?_)))
  (k_with "h inst" => exact InstAt.keeps (by assumption) (Fr.keep (by assumption)))
  (k_with "compareOp NotIn str ref" => (k_here; k_dflt (first | refine env_notin (by ktr_rel) (by assumption) ?_ | refine env_notin_none (by ktr_rel) (by assumption) ?_)))
  (k_with "compareOp In ref ref" => (k_here; k_dflt (first
      | (refine in_two_t (by (exact News.isTup (by assumption) (by k_mem)); fail_if_success (focus skip)) (by (exact News.isTup (by assumption) (by k_mem)); fail_if_success (focus skip)) (by (exact News.isTup (by assumption) (by k_mem)); fail_if_success (focus skip)) (by (ktr_rel); fail_if_success (focus skip)) (by (ktr_units); fail_if_success (focus skip)) (by (first | decide | simp_all); fail_if_success (focus skip)) ?_; k_whole)
      | (refine in_two_f (by (exact News.isTup (by assumption) (by k_mem)); fail_if_success (focus skip)) (by (exact News.isTup (by assumption) (by k_mem)); fail_if_success (focus skip)) (by (exact News.isTup (by assumption) (by k_mem)); fail_if_success (focus skip)) (by (ktr_rel); fail_if_success (focus skip)) (by (ktr_units); fail_if_success (focus skip)) (by (first | decide | simp_all); fail_if_success (focus skip)) ?_; k_whole))))
  (k_with "compareOp NotIn ref ref" => (k_here; k_dflt (first
      | (refine notIn_four_t (by (exact News.isTup (by assumption) (by k_mem)); fail_if_success (focus skip)) (by (exact News.isTup (by assumption) (by k_mem)); fail_if_success (focus skip)) (by (exact News.isTup (by assumption) (by k_mem)); fail_if_success (focus skip)) (by (exact News.isTup (by assumption) (by k_mem)); fail_if_success (focus skip)) (by (exact News.isTup (by assumption) (by k_mem)); fail_if_success (focus skip)) (by (exact News.isTup (by assumption) (by k_mem)); fail_if_success (focus skip)) (by (ktr_units); fail_if_success (focus skip)) (by (first | decide | simp_all); fail_if_success (focus skip)) ?_; k_whole)
      | (refine notIn_four_f (by (exact News.isTup (by assumption) (by k_mem)); fail_if_success (focus skip)) (by (exact News.isTup (by assumption) (by k_mem)); fail_if_success (focus skip)) (by (exact News.isTup (by assumption) (by k_mem)); fail_if_success (focus skip)) (by (exact News.isTup (by assumption) (by k_mem)); fail_if_success (focus skip)) (by (exact News.isTup (by assumption) (by k_mem)); fail_if_success (focus skip)) (by (exact News.isTup (by assumption) (by k_mem)); fail_if_success (focus skip)) (by (ktr_units); fail_if_success (focus skip)) (by (first | decide | simp_all); fail_if_success (focus skip)) ?_; k_whole))))
  (k_with "storeName" => (k_here; k_dflt (refine storeX_U (by k_asm) (by k_asm) ?_ (by rfl) (by rfl)); intro h' F' N'; (try k_sweep)))
  (k_with "call ref" => (k_here; (with_reducible show wpAny _ _ (call (Value.ref 91) _) _ _ _); k_dflt (refine PartsC.use (by (k_asm); fail_if_success (focus skip)) (by (k_asm); fail_if_success (focus skip)) (by (k_asm); fail_if_success (focus skip)) (by (k_asm); fail_if_success (focus skip)) (by (k_asm); fail_if_success (focus skip)) (by (first | exact rfl | k_asm); fail_if_success (focus skip)) (by (exact rfl); fail_if_success (focus skip)) (by (exact rfl); fail_if_success (focus skip)) (by (k_asm); fail_if_success (focus skip)) (by (k_asm); fail_if_success (focus skip)) (by (exact parts_call _); fail_if_success (focus skip)) (by ((try dsimp only); first | exact Nat.lt_of_le_of_lt (by (simp +arith); fail_if_success (focus skip)) hD | exact Nat.lt_of_le_of_lt (by (simp +arith); fail_if_success (focus skip)) hU | exact Nat.lt_of_le_of_lt (by (simp +arith); fail_if_success (focus skip)) hD9 | exact Nat.lt_of_le_of_lt (by (simp +arith); fail_if_success (focus skip)) hU9 | omega); fail_if_success (focus skip)) (by ((try dsimp only); first | exact Nat.lt_of_le_of_lt (by (simp +arith); fail_if_success (focus skip)) hD | exact Nat.lt_of_le_of_lt (by (simp +arith); fail_if_success (focus skip)) hU | exact Nat.lt_of_le_of_lt (by (simp +arith); fail_if_success (focus skip)) hD9 | exact Nat.lt_of_le_of_lt (by (simp +arith); fail_if_success (focus skip)) hU9 | omega); fail_if_success (focus skip)) ?_; k_whole; intro h' tk' D' vs' k' F' N' n1 hP'; (replace n1 := allNe_of n1); (try simp only [AllNe, and_true] at n1); (try k_sweep); (try dsimp only))))
  (k_with "eval ListComp" => (k_here; k_dflt (refine ListComp_pairs (by k_asm) (by with_unfolding_all rfl) (by decide) (by rfl) (by decide) (by rfl) (by rfl) (by decide) (by first | rfl | assumption) ?_); (repeat (first | walk1 | (dsimp only; walk1)))))
  trivial
theorem St.size_pos (t : St) : 1 ≤ t.size := by cases t <;> simp [St.size]
theorem StrsAre.len {vs : List Value} {xs : List Str} (h : StrsAre vs xs) : vs.length = xs.length := by
  induction h with
  | nil => rfl
  | cons _ _ _ ih => simp [ih]
noncomputable abbrev PAt.isV {g h : Heap} {n : Nat} {vs : List Value} {ts : List St} (_ : PAt g n h vs ts) := VarP g h
noncomputable abbrev PAt.V {g h : Heap} {n : Nat} {vs : List Value} {ts : List St} (_ : PAt g n h vs ts) := VG g h
set_option maxHeartbeats 0 in
open Classical in
theorem vars_call {t : St} (h60 : t.size < 60) (hsh : t.short) {A : Around} {s : Shared} {g : Heap} {v : Value} {Q E : Value → Shared → Prop}
    (C : Cal w mean mg mb A s) (hD : A.depth + 1 + t.size < recursionLimit) (hU : A.units + 3 + 8 * t.size < cLine) (kg : Kept g s.heap) (ht : SAt g v t)
    (h : ∀ D h' dr tk vs xs k, StrsAre vs xs → (∀ x, x ∈ xs ↔ x ∈ t.vars) → xs.length ≤ 60 → Kept s.heap h' → s.heap.get? D = none → h'.get? D = some { cls := .type "list", data := .seq vs.toArray k } → Q (.ref D) { s with heap := h', drawn := dr, toks := tk }) :
    wpAny (model PR w) A (call (.ref 86) [v]) Q E s := by
    refine enterP (binds := [(Str.ofString "t", v)]) C (by k_is) (by k_is) (by first | exact Nat.lt_of_le_of_lt (by (simp +arith); fail_if_success (focus skip)) hD | exact Nat.lt_of_le_of_lt (by (simp +arith); fail_if_success (focus skip)) hU | exact Nat.lt_of_le_of_lt (by (simp +arith); fail_if_success (focus skip)) hD9 | exact Nat.lt_of_le_of_lt (by (simp +arith); fail_if_success (focus skip)) hU9 | omega) (BindsTo.of_eq rfl) (locs rfl) (fun L' h₁ base outer F N B X T hh => ?_) rfl rfl rfl (by decide)
    clear C
    obtain ⟨ha, ad, af, ag, au⟩ := A
    replace hh : ha = Option.none := hh
    subst hh
    dsimp only at hD hU
    have h1 := St.size_pos t
    k_steps
    (rename PAt _ _ _ _ _ => hP'); (rename Fr _ _ _ _ => F'); (rename News _ _ _ _ => N')
    refine ⟨fun v => decide (PAt.isV hP' v), PAt.V hP', _, _, _, _, rfl, F', N', ?sz, News.isList N' (.head _), PAt.pairs hP', fun C oC v t v₁ v₂ m₂ s₃ E' hv' e' ht' F₃ N₃ ns ha' hb' kp' => ?tst, fun C oC v t v₁ v₂ m₂ s₃ E' hv' hp' e' ht' F₃ N₃ ns ha' hb' kp' => ?elt, fun D' h' tk' ys' k' F₂ N₂ n1 kp' hn' hG' => ?rest⟩
    case sz =>
      have hl' := PAt.length hP'
      rw [Array.length_toList, St.parts_length] at hl'
      rw [sizeLine_eq]; omega
    case tst =>
      obtain ⟨st, hst, r, pa, its, z, e, i1, i2, i3, i4⟩ := hP'.mem v (by simpa using hv')
      rw [e'] at e; cases e
      have := IsTup.inj ht' i1
      injection this with this; injection this with _ this; injection this with this _
      subst this
      refine wpAny_tests_one ?_
      repeat (first | walk1 | (dsimp only; walk1))
      refine isvar_call (Cal.site B F₃ X T rfl rfl rfl) (by simp only [depth_deeper]; first | exact Nat.lt_of_le_of_lt (by (simp +arith); fail_if_success (focus skip)) hD | exact Nat.lt_of_le_of_lt (by (simp +arith); fail_if_success (focus skip)) hU | exact Nat.lt_of_le_of_lt (by (simp +arith); fail_if_success (focus skip)) hD9 | exact Nat.lt_of_le_of_lt (by (simp +arith); fail_if_success (focus skip)) hU9 | omega) (SAt.keeps i4 (Kept.trans kg F₃.keep)) (St.short_parts hsh st hst) fun h' tk' kp => ?_
      repeat (first | walk1 | (dsimp only; walk1))
      exact ⟨Bool.eq_iff_iff.mpr ((varP_iff e' ht' i4).symm.trans decide_eq_true_iff.symm), _, _, rfl, kp⟩
    case elt =>
      obtain ⟨t', w₁, y', x', e, i1, hV⟩ := of_decide_eq_true hp'
      rw [e'] at e; cases e
      have := IsTup.inj ht' i1
      injection this with this; injection this with _ this; injection this with this _
      subst this
      obtain ⟨a', tk', e2, i2, _⟩ := id hV
      subst e2
      have i3 := IsTup.keeps i2 kg
      repeat (first | walk1 | (dsimp only; walk1))
      exact ⟨⟨[], ⟨t, _, _, x', _, e', ht', hV, rfl⟩, fun q hq => nomatch hq⟩, _, _, rfl, fun _ _ e => e⟩
    case rest =>
      have hS := vars_paired hP' hG'
      have hl : (List.filterMap St.varName t.parts).length ≤ t.size := Nat.le_trans (List.length_filterMap_le _ _) (Nat.le_of_eq (St.parts_length t))
      clear hG' hP' kp' hn' N' F'
      k_steps
      refine set_strs rfl (News.isList N₂ (.head _)) hS (by omega) fun h'' tk'' hSS kp => ?_
      replace F₂ := F₂.keeps kp
      replace N₂ := N₂.grown kp
      repeat (first | walk1 | (dsimp only; walk1))
      have K₂ := F₂.keep
      refine sorted_set rfl hSS (by omega) fun D h' dr tk vs xs k hs hm hl' kp hn hD => ?_
      replace F₂ := F₂.keeps kp
      repeat (first | walk1 | (dsimp only; walk1))
      exact pend F₂ (h D h' dr _ vs xs k hs (fun x => (hm x).symm) (by omega) F₂.keep (Kept.none K₂ hn) hD)
end
end Mine
end
section
open PySem PySem.W PySem.Spec PySem.Calls PyProof.Rows
set_option maxRecDepth 100000
namespace Mine
theorem under_call (ha : Option Value) (ad : Nat) (af : Option (List Env)) (ag : Option (List Code)) (au : Nat) (C : Addr) (pos : List Value) :
    (Around.under ⟨ha, ad, af, ag, au⟩ (.builtin "type.__call__" ⟨.ref C :: pos, []⟩)) = ⟨ha, ad + 1, af, ag, au + 1⟩ := by
  kernel_rfl
/-- a def may be called here, and it may change these objects -/
noncomputable def CalM (w : World) (mean : ExcName → Option Value) (mg mb : Str → Option Value) (A : Around) (s : Shared) (own : List (Addr × Obj)) : Prop :=
  ∃ (A₀ : Around) (base h₀ : Heap) (outer : List Env) (L : Addr) (m : Str → Option Value) (env : Env),
    Below A₀ base outer h₀ ∧ Fr h₀ L s.heap m ∧ (hd.heap_39 w.params).In h₀ ∧ Top hd.view_39 LO mean mg mb h₀ ∧ A.frames = some (env :: outer) ∧ env.frame = some L ∧ env.scope.kind = .function ∧ A.handled = none ∧ News h₀ L s.heap own
section
variable {w : World} {mean : ExcName → Option Value} {mg mb : Str → Option Value} {A : Around} {s : Shared}
theorem CalM.cal {own : List (Addr × Obj)} (C : CalM w mean mg mb A s own) : Cal w mean mg mb A s := by
  obtain ⟨A₀, base, h₀, outer, L, m, env, a, b, c, d, e, f, g, h, _⟩ := C
  exact ⟨A₀, base, h₀, outer, L, m, env, a, b, c, d, e, f, g, h⟩
theorem CalM.site {base h₀ : Heap} {outer : List Env} {L : Addr} {m : Str → Option Value} {env : Env} {own : List (Addr × Obj)} (B : Below A base outer h₀) (F : Fr h₀ L s.heap m) (X : (hd.heap_39 w.params).In h₀) (T : Top hd.view_39 LO mean mg mb h₀)
    (hh : A.handled = none) (hf : env.frame = some L) (hk : env.scope.kind = .function) (N : News h₀ L s.heap own) : CalM w mean mg mb (A.deeper env) s own :=
  ⟨A, base, h₀, outer, L, m, env, B, F, X, T, Around.frames_deeper B.stack, hf, hk, hh, N⟩
/-- all but these stands -/
noncomputable def KeptBut (own : List (Addr × Obj)) (h h' : Heap) : Prop := ∀ b o, (∀ p ∈ own, p.1 ≠ b) → h.get? b = some o → h'.get? b = some o
/-- a new object of a class, before its __init__ -/
theorem call_classM {C : Addr} {fI : Addr} {pos : List Value} {Q E : Value → Shared → Prop} (c : Cal w mean mg mb A s) (hm : makesIn (hd.heap_39 w.params) C = true)
    (hi : findIn (hd.heap_39 w.params) (.ref C) "__init__" = some (some (.ref fI))) (hf : isFn (hd.heap_39 w.params) (.ref fI) = true)
    (h : ∀ x dx h', Kept s.heap h' → s.heap.get? x = none → s.heap.get? dx = none → dx < x → CalM w mean mg mb (A.under (.builtin "type.__call__" ⟨.ref C :: pos, []⟩)) { s with heap := h' } [(x, instObj C dx), (dx, dictOf [] 0)] →
      codeAny (model PR w) (A.under (.builtin "type.__call__" ⟨.ref C :: pos, []⟩)) (.call (.ref fI) ⟨.ref x :: pos, []⟩) (InitBack x fun r s' => match r with | .ok (.ret v) => Q v s' | .ok _ => False | .error e => E e s') { s with heap := h' }) :
    wpAny (model PR w) A (call (.ref C) pos) Q E s := by
  obtain ⟨A₀, base, h₀, outer, L, m, env, B, F, X, T, hA, hfr, hk, hh⟩ := c
  obtain ⟨ha, ad, af, ag, au⟩ := A
  have X' := X.keeps F.keep
  refine wpAny_call ?_
  obtain ⟨hp, g, d, t, os⟩ := s
  have hx : ((hp.push emptyDict).push (instObj C hp.objs.size)).get? (hp.objs.size + 1) = some (instObj C hp.objs.size) := by heap_get
  have hdx : ((hp.push emptyDict).push (instObj C hp.objs.size)).get? hp.objs.size = some emptyDict := Heap.get?_push_of_some _ (Heap.get?_push_size _ rfl)
  refine make_core (makes_of X' hm) (looks_findIn X' hi) (fun self => bind_fn X' self (beq_iff_eq.mp hf)) (.inl rfl) (h _ hp.objs.size _ (fun b o e => Heap.get?_push_of_some _ (Heap.get?_push_of_some _ e)) (Heap.get?_none_of_le (Nat.le_succ _)) (Heap.get?_none_of_le (Nat.le_refl _)) (Nat.lt_succ_self _) ?_)
  refine ⟨A₀, base, h₀, outer, L, m, env, B, (F.push _).push _, X, T, by rw [under_call]; exact hA, hfr, hk, by rw [under_call]; exact hh, ?_⟩
  have := (News.push F News.nil emptyDict).push (F.push _) (instObj C hp.objs.size)
  rwa [Heap.size_push] at this

theorem enterM {R : Result → Shared → Prop} {own : List (Addr × Obj)} {name qual : Str} {params : Arguments} {body : List Stmt} {scope : Scope} {dV kV doc pm cdv ct oc : Value} {an od : Option Addr} {osl : Array (Option Value)} {f : Addr} {args : Args} {binds : List (Str × Value)}
    (C : CalM w mean mg mb A s own)
    (ho : (hd.heap_39 w.params).lookup f = some ⟨oc, od, .func (fnOf name qual params body scope dV kV doc pm an cdv ct), osl⟩) (hcd : codeIn (hd.heap_39 w.params) cdv qual = true) (hroom : A.depth < recursionLimit)
    (hbind : BindsTo s (fnOf name qual params body scope dV kV doc pm an cdv ct) args binds) (hkind : (binds.all fun y => scope.names.lookup y.1 == some .local || scope.names.lookup y.1 == some .cell) = true)
    (hnd : ((cellsFrom 0 scope.names []).map (·.1)).Nodup)
    (h : ∀ g L' h₁ tk cells base outer, KeptBut own s.heap g → Kept g s.heap → Fr g L' h₁ (bindL (envOfC qual scope L' f cdv).kindOf binds fun _ => none) → News g L' h₁ (cells ++ own) →
      CellsAre (bindC (envOfC qual scope L' f cdv).kindOf binds fun _ => none) (cellsFrom (L' + 1) scope.names []) cells →
      Below A base outer g → (hd.heap_39 w.params).In g → Top hd.view_39 LO mean mg mb g → A.handled = none → (∀ p ∈ own, p.1 < L') →
      wpAny (model PR w) (A.deeper (envOfC qual scope L' f cdv)) (execs body (envOfC qual scope L' f cdv)) (PEnd g fun v s' => R (.ok (.ret v)) s')
        (fun e s' => wpAny (model PR w) (A.deeper (envOfC qual scope L' f cdv)) (leaving (envOfC qual scope L' f cdv) e) (fun _ s'' => R (.error e) s'') (fun e' s'' => R (.error e') s'') s')
        { s with heap := h₁, toks := tk })
    (hco : scope.isCoroutine = false) (hgen : scope.isGenerator = false) (hk : scope.kind = .function) :
    codeAny (model PR w) A (.call (.ref f) args) R s := by
  obtain ⟨A₀, base, h₀, outer, L, m, env, B, F, X, T, hA, hf, hke, hh, N⟩ := C
  obtain ⟨FG, BG, st, _⟩ := groundX (R := R) B F N hA hf hke
  have X' := X.keeps F.keep
  have T' : Top hd.view_39 LO mean mg mb s.heap := T.keeps F.keep
  refine codeAny_call_function (fd := fnX name qual params body scope [] dV kV doc pm an cdv ct) hroom (X' _ _ ho) rfl hco hgen rfl (codeRec_of X' hcd) (hbind _ _ _ _ ?_)
  refine wpAny_newFunctionEnv_cells hk (kindsX hkind _) fun env' he s' x => ?_
  subst he
  refine ⟨T'.nolimit.keeps x.toInCall.keep, codeAny_func ?_⟩
  obtain ⟨h₁, tk, rfl, _⟩ := x.done
  have hk₁ := x.toInCall.keep
  obtain ⟨cells, NC, Y⟩ := Cl.news (h₀ := s.heap) (Nat.le_refl _) fun n c hm => ⟨x.cell n c (lookup_of_mem_nodup (cellsFrom_names scope.names 0 (s.heap.objs.size + 1) [] [] rfl ▸ hnd) hm), x.above n c hm⟩
  refine wpAny_mono (h (hideAll s.heap (own.map (·.1))) s.heap.objs.size h₁ tk cells base (env :: outer) (fun b o hb e => hideAll_get _ e fun q => ?_) (fun b o e => of_hideAll _ e) ⟨x.toInCall.ns, fun b o e => hk₁ b o (of_hideAll _ e), Nat.le_of_eq (hideAll_size _ _)⟩ (fun p hp => ?_) Y BG (X.keeps fun b o e => st b o e) (T.keeps fun b o e => st b o e) hh (fun p hp => Heap.lt_size (N p hp).1)) (fun fl s' hl => ?_) fun _ _ y => y
  · obtain ⟨p, hp, e'⟩ := List.mem_map.mp q
    exact hb p hp e'
  · rcases List.mem_append.mp hp with hp | hp
    · refine ⟨(NC p hp).1, (NC p hp).2.1, ?_⟩
      cases q : (hideAll s.heap (own.map (·.1))).get? p.1 with
      | none => rfl
      | some o => have := of_hideAll _ q; rw [(NC p hp).2.2] at this; cases this
    · exact ⟨hk₁ _ _ (N p hp).1, Nat.ne_of_lt (Heap.lt_size (N p hp).1), hideAll_none _ (List.mem_map_of_mem hp)⟩
  · obtain ⟨_, _, _, q⟩ := hl
    exact q
theorem enterMP {R : Result → Shared → Prop} {own : List (Addr × Obj)} {name qual : Str} {params : Arguments} {body : List Stmt} {scope : Scope} {dV kV doc pm cdv ct oc : Value} {an od : Option Addr} {osl : Array (Option Value)} {f : Addr} {args : Args} {binds : List (Str × Value)}
    (C : CalM w mean mg mb A s own)
    (ho : (hd.heap_39 w.params).lookup f = some ⟨oc, od, .func (fnOf name qual params body scope dV kV doc pm an cdv ct), osl⟩) (hcd : codeIn (hd.heap_39 w.params) cdv qual = true) (hroom : A.depth < recursionLimit)
    (hbind : BindsTo s (fnOf name qual params body scope dV kV doc pm an cdv ct) args binds) (hloc : ∀ y ∈ binds, scope.names.lookup y.1 = some .local)
    (h : ∀ g L' h₁ base outer, KeptBut own s.heap g → Kept g s.heap → Fr g L' h₁ (fun y => binds.reverse.lookup y) → News g L' h₁ own →
      Below A base outer g → (hd.heap_39 w.params).In g → Top hd.view_39 LO mean mg mb g → A.handled = none → (∀ p ∈ own, p.1 < L') →
      wpAny (model PR w) (A.deeper (envOf qual scope L' f cdv)) (execs body (envOf qual scope L' f cdv)) (PEnd g fun v s' => R (.ok (.ret v)) s')
        (fun e s' => wpAny (model PR w) (A.deeper (envOf qual scope L' f cdv)) (leaving (envOf qual scope L' f cdv) e) (fun _ s'' => R (.error e) s'') (fun e' s'' => R (.error e') s'') s')
        { s with heap := h₁, toks := s.toks + binds.length })
    (hco : scope.isCoroutine = false) (hgen : scope.isGenerator = false) (hk : scope.kind = .function) (hcell : ∀ x ∈ scope.names, x.2 ≠ .cell) :
    codeAny (model PR w) A (.call (.ref f) args) R s := by
  obtain ⟨A₀, base, h₀, outer, L, m, env, B, F, X, T, hA, hf, hke, hh, N⟩ := C
  obtain ⟨FG, BG, st, _⟩ := groundX (R := R) B F N hA hf hke
  have X' := X.keeps F.keep
  have T' : Top hd.view_39 LO mean mg mb s.heap := T.keeps F.keep
  refine codeAny_call_def (fd := fnX name qual params body scope [] dV kV doc pm an cdv ct) (body := body) (binds := binds) hroom (X' _ _ ho) rfl T'.nolimit (codeRec_of X' hcd) rfl hbind hcell hloc (fun h₁ hns hk₁ => ?_) hco hgen hk
  refine wpAny_mono (h (hideAll s.heap (own.map (·.1))) s.heap.objs.size h₁ base (env :: outer) (fun b o hb e => hideAll_get _ e fun q => ?_) (fun b o e => of_hideAll _ e) ⟨hns, fun b o e => hk₁ b o (of_hideAll _ e), Nat.le_of_eq (hideAll_size _ _)⟩ (fun p hp => ?_) BG (X.keeps fun b o e => st b o e) (T.keeps fun b o e => st b o e) hh (fun p hp => Heap.lt_size (N p hp).1)) (fun fl s' hl => ?_) fun _ _ y => y
  · obtain ⟨p, hp, e'⟩ := List.mem_map.mp q
    exact hb p hp e'
  · exact ⟨hk₁ _ _ (N p hp).1, Nat.ne_of_lt (Heap.lt_size (N p hp).1), hideAll_none _ (List.mem_map_of_mem hp)⟩
  · obtain ⟨_, _, _, q⟩ := hl
    exact q
end
end Mine
end
section
open PySem PySem.W PySem.Spec PySem.Calls PyProof.Rows PyProof.Rows.LCg
set_option maxRecDepth 100000
namespace Mine
section
variable {prog : Program} {w : World} {A : Around} {E : Value → Shared → Prop} {s : Shared} {h₀ : Heap} {L : Addr} {m : Str → Option Value} {env : Env}
/-- y = [a comprehension whose tests and elements change nothing that stands] -/
theorem Assign_ListComp_quiet {elt iter : Expr} {x y : Str} {px py : Pos} {ifs : List Expr} {scope : Scope} {cl : List (Str × Addr)} {pos spos : Pos} {Q : Flow → Shared → Prop} {m₀ : Str → Option Value} (_F₀ : Fr h₀ L s.heap m₀) (hLe : env.locals = L) (p : Value → Bool) (G : Value → Value → Prop)
    (hsw : swapsWith (.ListComp elt [⟨.Name x px, iter, ifs, 0⟩] scope pos) (some (.Name y py)) spos.line env = pure true)
    (hclos : closureFor scope env = pure cl) (hcell : ∀ z ∈ scope.names, z.2 ≠ .cell) (hkind : scope.kind = .function)
    (hnames : ∀ z ∈ scope.names, z.2 = .local → scope.names.lookup z.1 = some .local) (hx : scope.names.lookup x = some .local)
    (hy : env.kindOf y = some .local) (hp : (env.scope.kind == .class || (env.scope.kind == .module && env.locals != env.globals)) = false)
    (h : wpAny (model prog w) A (eval iter env) (Stop fun xv s₁ => ∃ m news n P, Fr h₀ L s₁.heap m ∧ News h₀ L s₁.heap news ∧ n ≤ sizeLine ∧ QSrc prog w A xv s₁ n P ∧
      (∀ C oC i v m₂ s₃ E', P i v → Fr h₀ L s₃.heap m → News h₀ L s₃.heap ((C, oC) :: news) → NsObj oC m₂ → m₂ x = some v →
        wpAny (model prog w) A (forIn ifs true fun c r => if r = true then do let ok ← isTrue c (compEnvC scope cl C env) (eval c (compEnvC scope cl C env)); pure (ForInStep.yield ok) else pure (ForInStep.yield r))
          (QTest (p v) s₃) E' s₃) ∧
      (∀ C oC i v m₂ s₃ E', P i v → p v = true → Fr h₀ L s₃.heap m → News h₀ L s₃.heap ((C, oC) :: news) → NsObj oC m₂ → m₂ x = some v →
        wpAny (model prog w) A (eval elt (compEnvC scope cl C env)) (QElt (G v) s₃) E' s₃) ∧
      (∀ D h' tk ys (vs : List Value) k, Fr h₀ L h' (fun z => if z = y then some (.ref D) else m z) → News h₀ L h' ((D, { cls := .type "list", data := .seq ys k }) :: news) → (∀ p ∈ news, p.1 ≠ D) → vs.length = n → (∀ j v, vs[j]? = some v → P j v) → Paired G (vs.filter p) ys.toList → Q .next { s₁ with heap := h', toks := tk })) E s)
    (hs : ∀ x, foldedSetIterable iter env x = pure x := by intro _; rfl) :
    wpAny (model prog w) A (exec (.Assign [.Name y py] (.ListComp elt [⟨.Name x px, iter, ifs, 0⟩] scope pos) spos) env) Q E s := by
  subst hLe
  refine wpAny_Assign_ListComp_free p G hsw hclos hcell hkind hnames hx hy hp (wpAny_mono h (fun xv s₁ h₁ => ?_) fun _ _ e => e) hs
  obtain ⟨m, news, n, P, F, N, hsz, src, ht, he, hQ⟩ := h₁
  refine src _ _ fun I h₂ fp St W hst hI hle kp hfp => ?_
  have offI : ∀ b, b < s₁.heap.objs.size → b ∉ [I] := fun b hb q => by rw [List.mem_singleton.mp q] at hb; exact Nat.lt_irrefl _ (Nat.lt_of_lt_of_le hb hI)
  have up : ∀ {h₃ : Heap}, (∀ b o, b ∉ [I] → h₂.get? b = some o → h₃.get? b = some o) → Kept s₁.heap h₃ := fun hk b o e => hk b o (offI b (Heap.lt_size e)) (kp b o e)
  have fresh₀ : ∀ C, s₁.heap.objs.size ≤ C → h₀.get? C = none := fun C hC => by
    cases q : h₀.get? C with
    | none => rfl
    | some o => exact absurd (Heap.lt_size (F.keep _ _ q)) (Nat.not_lt.mpr hC)
  have neL : ∀ C, s₁.heap.objs.size ≤ C → C ≠ env.locals := fun C hC q => by rw [q] at hC; exact absurd F.ns.lt (Nat.not_lt.mpr hC)
  have led : ∀ {h₃ : Heap} {C : Addr} {oC : Obj}, h₂.objs.size ≤ C → Kept s₁.heap h₃ → h₃.get? C = some oC → News h₀ env.locals h₃ ((C, oC) :: news) := fun hC k e q hq => by
    rcases List.mem_cons.mp hq with rfl | hq
    · exact ⟨e, neL _ (Nat.le_trans hle hC), fresh₀ _ (Nat.le_trans hle hC)⟩
    · exact N.grown k q hq
  have hLI : env.locals ∉ [I] := offI _ F.ns.lt
  refine ⟨I, fp, [I], n, P, St, m, rfl, W, hsz, hst, hfp, hLI, (F.keeps kp).ns, ⟨?_, ?_⟩, ?_⟩
  · intro C i v s₃ m₃ E' hC hP hn hm hk _
    obtain ⟨oC, e, ho⟩ := ns_obj hn
    exact ht C oC i v m₃ s₃ E' hP (F.keeps (up hk)) (led hC (up hk) e) ho hm
  · intro C i v s₃ m₃ E' hC hP hp hn hm hk _
    obtain ⟨oC, e, ho⟩ := ns_obj hn
    exact he C oC i v m₃ s₃ E' hP hp (F.keeps (up hk)) (led hC (up hk) e) ho hm
  · intro D h' tk ys vs hD hl hpl hlen hP hF hns hk
    obtain ⟨k, hDk⟩ := hpl
    have hD1 : s₁.heap.get? D = none := by
      cases q : s₁.heap.get? D with
      | none => rfl
      | some o => have := kp D o q; rw [hD] at this; cases this
    have hDL : D ≠ env.locals := by
      rintro rfl
      obtain ⟨o, _, _, ho, _⟩ := F.ns
      rw [hD1] at ho; cases ho
    have hD0 : h₀.get? D = none := by
      cases q : h₀.get? D with
      | none => rfl
      | some o => have := F.keep D o q; rw [hD1] at this; cases this
    have upL : ∀ b o, b ≠ env.locals → s₁.heap.get? b = some o → h'.get? b = some o := fun b o n e => hk b o n (offI b (Heap.lt_size e)) (kp b o e)
    have hL₀ : h₀.get? env.locals = none := Heap.get?_none_of_le F.above
    refine hQ D h' tk ys vs k ⟨hns, fun b o e => upL b o (fun q => by rw [q, hL₀] at e; cases e) (F.keep b o e), F.above⟩ (fun q hq => ?_) (fun q hq e => ?_) hlen hP hF
    · rcases List.mem_cons.mp hq with rfl | hq
      · exact ⟨hDk, hDL, hD0⟩
      · exact ⟨upL _ _ (N q hq).2.1 (N q hq).1, (N q hq).2⟩
    · have := (N q hq).1
      rw [e, hD1] at this; cases this
end
end Mine
end
section
open PySem PySem.W PySem.Spec PySem.Calls PyProof.Rows
set_option maxRecDepth 100000
namespace Mine
section
variable {prog : Program} {w : World} {A : Around} {E : Value → Shared → Prop} {s : Shared} {env : Env} {h₀ : Heap} {target : Expr} {body : List Stmt} {Q : Flow → Shared → Prop}
/-- after the one turn: the list and its iterator stand -/
noncomputable def OneEnd (h₀ : Heap) (L : Addr) (I : Addr) (o : Obj) (l : Addr) (lo : Obj) (Q : Flow → Shared → Prop) (s₃ : Shared) : Prop :=
  ∃ m' news', Fr h₀ L s₃.heap m' ∧ News h₀ L s₃.heap news' ∧ (∀ p ∈ news', p.1 ≠ I) ∧ s₃.heap.get? I = some o ∧ s₃.heap.get? l = some lo ∧ ∀ h' tk, Fr h₀ L h' m' → News h₀ L h' news' → Q .next { s₃ with heap := h', toks := tk }
noncomputable def OneStep (h₀ : Heap) (L : Addr) (I : Addr) (o : Obj) (l : Addr) (lo : Obj) (Q : Flow → Shared → Prop) (f : Flow) (s₃ : Shared) : Prop := match f with
  | .ret v => Q (.ret v) s₃
  | .brk => Q .next s₃
  | _ => OneEnd h₀ L I o l lo Q s₃
noncomputable def OneAt (prog : Program) (w : World) (A : Around) (h₀ : Heap) (env : Env) (target : Expr) (body : List Stmt) (Q : Flow → Shared → Prop) (E : Value → Shared → Prop) (xv : Value) (s₁ : Shared) : Prop :=
  ∃ l v k m news, xv = .ref l ∧ A.handled = none ∧ Fr h₀ env.locals s₁.heap m ∧ News h₀ env.locals s₁.heap news ∧ (l, ({ cls := .type "list", data := .seq #[v] k } : Obj)) ∈ news ∧
    ∀ I o h₁ tk₁, o.cls = .type "list_iterator" → (∀ p ∈ news, p.1 < I) → Fr h₀ env.locals h₁ m → News h₀ env.locals h₁ ((I, o) :: news) →
      wpAny (model prog w) A (assign target env v) (fun _ s₂ => wpAny (model prog w) A (execs body env) (OneStep h₀ env.locals I o l { cls := .type "list", data := .seq #[v] k } Q) E s₂) E { s₁ with heap := h₁, toks := tk₁ }
theorem For_one {iter : Expr} {pos : Pos} {m : Str → Option Value} (_F : Fr h₀ env.locals s.heap m)
    (h : wpAny (model prog w) A (eval iter env) (OneAt prog w A h₀ env target body Q E) E s)
    (hs : ∀ x, foldedSetIterable iter env x = pure x)
    (hE : PassesOwn (model prog w) A env E) :
    wpAny (model prog w) A (exec (.For target iter body [] pos) env) Q E s := by
  refine wpAny_For (wpAny_mono h (fun xv s₁ h₁ => ?_) fun _ _ e => e) hs
  obtain ⟨l, v, k, m, news, rfl, hh, F, N, hm, step⟩ := h₁
  have hl : s₁.heap.IsList l #[v] := ⟨_, (N _ hm).1, rfl, k, rfl⟩
  have hlt : l < s₁.heap.objs.size := Heap.lt_size (N _ hm).1
  have hne : l ≠ s₁.heap.objs.size := Nat.ne_of_lt hlt
  refine wpAny_pyIter_list hl ?_
  have W := Walks.list (prog := prog) (w := w) (A := A) hh s₁.heap.objs.size l hne #[v]
  have hI0 : h₀.get? s₁.heap.objs.size = none := next_is_new F
  have hIL : s₁.heap.objs.size ≠ env.locals := fun q => absurd F.ns.lt (q ▸ Nat.lt_irrefl _)
  have hnI : ∀ p ∈ news, p.1 < s₁.heap.objs.size := fun p hp => Heap.lt_size (N p hp).1
  have nxt : ∀ {h h₁ : Heap} {m' : Str → Option Value} {nw : List (Addr × Obj)}, (∀ b o, b ∉ [s₁.heap.objs.size] → h.get? b = some o → h₁.get? b = some o) → Fr h₀ env.locals h m' → News h₀ env.locals h nw → (∀ p ∈ nw, p.1 ≠ s₁.heap.objs.size) → Fr h₀ env.locals h₁ m' ∧ News h₀ env.locals h₁ nw := fun hk F' N' hn =>
    ⟨⟨F'.ns.at' fun o e => hk _ o (fun q => hIL (List.mem_singleton.mp q).symm) e, fun b o e => hk b o (fun q => by rw [List.mem_singleton.mp q, hI0] at e; cases e) (F'.keep b o e), F'.above⟩, fun p hp => ⟨hk _ _ (fun q => hn p hp (List.mem_singleton.mp q)) (N' p hp).1, (N' p hp).2⟩⟩
  refine codeAny_forLoop_any (fun n s' => (n = 1 ∧ s' = { s₁ with heap := s₁.heap.push { cls := .type "list_iterator", data := .fields #[.ref l, .int 0 0] } }) ∨
    (n = 0 ∧ s'.heap.IsListIter s₁.heap.objs.size l 1 ∧ s'.heap.IsList l #[v] ∧ ∃ m' news', Fr h₀ env.locals s'.heap m' ∧ News h₀ env.locals s'.heap news' ∧ (∀ p ∈ news', p.1 ≠ s₁.heap.objs.size) ∧ ∀ h' tk, Fr h₀ env.locals h' m' → News h₀ env.locals h' news' → Q .next { s' with heap := h', toks := tk })) ?_ 1 (.inl ⟨rfl, rfl⟩)
  rintro n s' (⟨rfl, rfl⟩ | ⟨rfl, hI1, hl1, m', news', F', N', hn', hQ⟩)
  · refine W.item 0 _ _ _ (Nat.lt_succ_self 0) ⟨⟨_, Heap.get?_push_size _ rfl, rfl, rfl⟩, hl.at fun o e => Heap.get?_push_of_some _ e⟩ fun x h₁ tk₁ hP st hk => ?_
    have hx : x = v := by
      have : (#[v] : Array Value)[0]? = some x := hP
      simpa using this.symm
    subst hx
    refine letGo_listiter st.1 ?_
    obtain ⟨o, ho, hoc, hod⟩ := id st.1
    obtain ⟨F₁, N₁⟩ := nxt (fun b o hb e => hk b o hb (Heap.get?_push_of_some _ e)) F N fun p hp => Nat.ne_of_lt (hnI p hp)
    have N₂ : News h₀ env.locals h₁ ((s₁.heap.objs.size, o) :: news) := fun q hq => by
      rcases List.mem_cons.mp hq with rfl | hq
      · exact ⟨ho, hIL, hI0⟩
      · exact N₁ q hq
    refine wpAny_mono (step s₁.heap.objs.size o h₁ tk₁ hoc hnI F₁ N₂) (fun _ s₂ h₂ => wpAny_mono (wpAny_passesOwn hE h₂) (fun f s₃ h₃ => ?_) fun _ _ e => e) hE
    have fin : OneEnd h₀ env.locals s₁.heap.objs.size o l { cls := .type "list", data := .seq #[x] k } Q s₃ → ∃ m, m < 1 ∧ ((m = 1 ∧ s₃ = { s₁ with heap := s₁.heap.push { cls := .type "list_iterator", data := .fields #[.ref l, .int 0 0] } }) ∨
      (m = 0 ∧ s₃.heap.IsListIter s₁.heap.objs.size l 1 ∧ s₃.heap.IsList l #[x] ∧ ∃ m' news', Fr h₀ env.locals s₃.heap m' ∧ News h₀ env.locals s₃.heap news' ∧ (∀ p ∈ news', p.1 ≠ s₁.heap.objs.size) ∧ ∀ h' tk, Fr h₀ env.locals h' m' → News h₀ env.locals h' news' → Q .next { s₃ with heap := h', toks := tk })) := by
      rintro ⟨m', news', F', N', hn', hI, hlo, hQ⟩
      exact ⟨0, Nat.lt_succ_self 0, .inr ⟨rfl, ⟨o, hI, hoc, hod⟩, ⟨_, hlo, rfl, k, rfl⟩, m', news', F', N', hn', hQ⟩⟩
    cases f with
    | ret v => exact h₃
    | brk => exact h₃
    | cont => exact fin h₃
    | next => exact fin h₃
  · refine W.done _ _ _ ⟨hI1, hl1⟩ fun h₁ tk₁ hk₁ => wpAny_execs_nil ?_
    obtain ⟨F₁, N₁⟩ := nxt hk₁ F' N' hn'
    exact hQ h₁ tk₁ F₁ N₁
end
end Mine
end
section
open PySem PySem.W PySem.Spec PySem.Calls PyProof.Rows
set_option maxRecDepth 100000
namespace Mine
section
variable {w : World} {mean : ExcName → Option Value} {mg mb : Str → Option Value}
theorem isvar_use {t : St} {A : Around} {base h₀ : Heap} {outer : List Env} {L : Addr} {m : Str → Option Value} {env : Env} {news : List (Addr × Obj)} {s : Shared} {v : Value} {Q E : Value → Shared → Prop}
    (B : Below A base outer h₀) (F : Fr h₀ L s.heap m) (X : (hd.heap_39 w.params).In h₀) (T : Top hd.view_39 LO mean mg mb h₀) (N : News h₀ L s.heap news) (hh : A.handled = none) (hf : env.frame = some L) (hk : env.scope.kind = .function)
    (hD : A.depth + 2 < recursionLimit) (ht : SAt s.heap v t) (hsh : t.short)
    (h : ∀ h' tk', Fr h₀ L h' m → News h₀ L h' news → Q (.bool t.isVar) { s with heap := h', toks := tk' }) : wpAny (model PR w) (A.deeper env) (call (.ref 81) [v]) Q E s :=
  isvar_call (Cal.site B F X T hh hf hk) (by simp only [depth_deeper]; first | exact Nat.lt_of_le_of_lt (by (simp +arith); fail_if_success (focus skip)) hD | exact Nat.lt_of_le_of_lt (by (simp +arith); fail_if_success (focus skip)) hU | exact Nat.lt_of_le_of_lt (by (simp +arith); fail_if_success (focus skip)) hD9 | exact Nat.lt_of_le_of_lt (by (simp +arith); fail_if_success (focus skip)) hU9 | omega) ht hsh fun h' tk' kp => h h' tk' (F.keeps kp) (N.grown kp)
theorem vars_use {t : St} {A : Around} {base h₀ g : Heap} {outer : List Env} {L : Addr} {m : Str → Option Value} {env : Env} {news : List (Addr × Obj)} {s : Shared} {v : Value} {Q E : Value → Shared → Prop}
    (B : Below A base outer h₀) (F : Fr h₀ L s.heap m) (X : (hd.heap_39 w.params).In h₀) (T : Top hd.view_39 LO mean mg mb h₀) (N : News h₀ L s.heap news) (hh : A.handled = none) (hf : env.frame = some L) (hk : env.scope.kind = .function)
    (kg : Kept g h₀) (ht : SAt g v t) (h60 : t.size < 60) (hD : A.depth + 2 + t.size < recursionLimit) (hU : A.units + 6 + 8 * t.size < cLine) (hsh : t.short)
    (h : ∀ D h' dr tk vs xs k, StrsAre vs xs → (∀ x, x ∈ xs ↔ x ∈ t.vars) → xs.length ≤ 60 → Fr h₀ L h' m → News h₀ L h' ((D, { cls := .type "list", data := .seq vs.toArray k }) :: news) → (∀ p ∈ news, p.1 ≠ D) → Q (.ref D) { s with heap := h', drawn := dr, toks := tk }) :
    wpAny (model PR w) (A.deeper env) (call (.ref 86) [v]) Q E s :=
  vars_call h60 hsh (Cal.site B F X T hh hf hk) (by simp only [depth_deeper]; first | exact Nat.lt_of_le_of_lt (by (simp +arith); fail_if_success (focus skip)) hD | exact Nat.lt_of_le_of_lt (by (simp +arith); fail_if_success (focus skip)) hU | exact Nat.lt_of_le_of_lt (by (simp +arith); fail_if_success (focus skip)) hD9 | exact Nat.lt_of_le_of_lt (by (simp +arith); fail_if_success (focus skip)) hU9 | omega) (by simp only [units_deeper]; first | exact Nat.lt_of_le_of_lt (by (simp +arith); fail_if_success (focus skip)) hD | exact Nat.lt_of_le_of_lt (by (simp +arith); fail_if_success (focus skip)) hU | exact Nat.lt_of_le_of_lt (by (simp +arith); fail_if_success (focus skip)) hD9 | exact Nat.lt_of_le_of_lt (by (simp +arith); fail_if_success (focus skip)) hU9 | omega) (Kept.trans kg F.keep) ht fun D h' dr tk vs xs k hs hm hl kp hn hD => by
    refine h D h' dr tk vs xs k hs hm hl (F.keeps kp) (fun q hq => ?_) (fun q hq e => ?_)
    · rcases List.mem_cons.mp hq with rfl | hq
      · refine ⟨hD, fun e => ?_, ?_⟩
        · obtain ⟨o, _, _, ho, _⟩ := F.ns
          have e : D = L := e
          rw [← e, hn] at ho; cases ho
        · exact Kept.none F.keep hn
      · exact N.grown kp q hq
    · have := (N q hq).1
      rw [e, hn] at this; cases this
theorem lines_p7_1 : True := by
  k_with_none
  (k_with "h ne" => (refine neN ?_; (try dsimp only); first | assumption | (refine Ne.symm ?_; assumption) | (refine Nat.ne_of_lt ?_; assumption) | (refine Nat.ne_of_gt ?_; assumption) | ((repeat (rename (_ ∧ _) => hA9; first | ((repeat (first | exact hA9 | exact Ne.symm hA9 | exact Nat.ne_of_lt hA9 | exact Nat.ne_of_gt hA9 | (obtain ⟨h9a, hA9⟩ := hA9; first | exact h9a | exact Ne.symm h9a | exact Nat.ne_of_lt h9a | exact Nat.ne_of_gt h9a | exact h9a.1 | exact h9a.2.1 | exact h9a.2.2 | exact Ne.symm h9a.1 | exact Ne.symm h9a.2.1 | exact Ne.symm h9a.2.2 | clear h9a))); fail_if_success (focus skip)) | clear hA9)); fail_if_success (focus skip)) | omega))
  (k_with "h rel" => first | assumption | exact IsTup.keeps (by assumption) (Fr.keep (by assumption)) | exact EnvAt.keeps (by assumption) (Fr.keep (by assumption)) | exact SetsAt.keeps (by assumption) (Fr.keep (by assumption)))
  (k_with "call builtin:len" => (k_here; (with_reducible show wpAny _ _ (call (Value.builtin "len") [Value.ref _]) _ _ _); first | refine len_1 (by ktr_rel) ?_ | refine len_2 (by ktr_rel) ?_ | refine len_3 (by ktr_rel) ?_ | refine len_4 (by ktr_rel) ?_))
  (k_with "subscriptTail" => (k_here; (with_reducible show wpAny _ _ (subscriptTail _ _ (Value.ref _) (Value.str _ _)) _ _ _); k_dflt (refine env_item (by (ktr_rel); fail_if_success (focus skip)) (by (assumption); fail_if_success (focus skip)) ?_ (by (with_unfolding_all rfl); fail_if_success (focus skip)); k_whole; intro eT)))
  (k_with "subscriptTail" => (k_here; (with_reducible show wpAny _ _ (subscriptTail _ _ (Value.ref _) (Value.int _ _)) _ _ _); k_dflt (refine item_tupleT (by (ktr_rel); fail_if_success (focus skip)) (by (decide); fail_if_success (focus skip)) (by (decide); fail_if_success (focus skip)) (by (rfl); fail_if_success (focus skip)) (by (rfl); fail_if_success (focus skip)) ?_; k_whole)))
  (k_with "subscriptTail Name Slice ref ref" => (k_here; k_dflt (refine tail_slice (by (k_asm); fail_if_success (focus skip)) (by (k_asm); fail_if_success (focus skip)) (by (ktr_rel); fail_if_success (focus skip)) (by (exact Nat.le_of_ble_eq_true rfl); fail_if_success (focus skip)) ?_ (by (with_unfolding_all rfl); fail_if_success (focus skip)) (by (intro _; with_unfolding_all rfl); fail_if_success (focus skip)); k_whole; intro D' h' F' N' l1; (try k_lt l1); (try k_sweep))))
  (k_with "exec Assign cons ListComp" => (k_here; (with_reducible rename PyProof.Rows.News _ _ _ _ => nx9); (replace nx9 := News.last2 nx9); (change PyProof.Rows.News _ _ _ [(_, _), (_, _)] at nx9); (repeat (rename ((_ : Nat) < _ ∧ _) => lx9; clear lx9)); k_dflt (refine Assign_ListComp_T (by k_asm) (by rfl) (by with_unfolding_all rfl) (by with_unfolding_all rfl) (by decide) (by rfl) (by decide) (by rfl) (by rfl) (by rfl) ?_); (repeat (first | walk1 | (dsimp only; walk1))); k_dflt (refine SrcT.ledger (by first | rfl | assumption) (by k_asm) (by k_asm) (by k_mem) (by exact Nat.le_of_ble_eq_true rfl) ?_; intro g'; lcg_lit)))
  (k_with "h units" => (simp only [units_deeper, units_in1]; first | exact Nat.lt_of_le_of_lt (by (simp +arith); fail_if_success (focus skip)) hD | exact Nat.lt_of_le_of_lt (by (simp +arith); fail_if_success (focus skip)) hU | exact Nat.lt_of_le_of_lt (by (simp +arith); fail_if_success (focus skip)) hD9 | exact Nat.lt_of_le_of_lt (by (simp +arith); fail_if_success (focus skip)) hU9 | omega))
  (k_with "compareOp Eq ref ref" => (k_here; k_dflt (first
      | (refine eq_one_t (by (ktr_rel); fail_if_success (focus skip)) (by (exact News.isTup (by assumption) (by k_mem)); fail_if_success (focus skip)) (by (ktr_units); fail_if_success (focus skip)) (by (first | decide | simp_all); fail_if_success (focus skip)) ?_; k_whole)
      | (refine eq_one_f (by (ktr_rel); fail_if_success (focus skip)) (by (exact News.isTup (by assumption) (by k_mem)); fail_if_success (focus skip)) (by (ktr_units); fail_if_success (focus skip)) (by (first | decide | simp_all); fail_if_success (focus skip)) ?_; k_whole))))
  (k_with "h rel" => exact SAt.keeps (by assumption) (Fr.keep (by assumption)))
  (k_with "compareOp In bool ref" => (k_here; k_dflt (refine in_bools (News.isList (by k_asm) (by k_mem)) ?_)))
  (k_with "compareOp NotIn bool ref" => (k_here; k_dflt (refine notIn_bools (News.isList (by k_asm) (by k_mem)) ?_)))
  (k_with "h inst" => exact InstAt.keeps (by assumption) (Fr.keep (by assumption)))
  (k_with "compareOp NotIn str ref" => (k_here; k_dflt (first | refine env_notin (by ktr_rel) (by assumption) ?_ | refine env_notin_none (by ktr_rel) (by assumption) ?_)))
  (k_with "compareOp In ref ref" => (k_here; k_dflt (first
      | (refine in_two_t (by (exact News.isTup (by assumption) (by k_mem)); fail_if_success (focus skip)) (by (exact News.isTup (by assumption) (by k_mem)); fail_if_success (focus skip)) (by (exact News.isTup (by assumption) (by k_mem)); fail_if_success (focus skip)) (by (ktr_rel); fail_if_success (focus skip)) (by (ktr_units); fail_if_success (focus skip)) (by (first | decide | simp_all); fail_if_success (focus skip)) ?_; k_whole)
      | (refine in_two_f (by (exact News.isTup (by assumption) (by k_mem)); fail_if_success (focus skip)) (by (exact News.isTup (by assumption) (by k_mem)); fail_if_success (focus skip)) (by (exact News.isTup (by assumption) (by k_mem)); fail_if_success (focus skip)) (by (ktr_rel); fail_if_success (focus skip)) (by (ktr_units); fail_if_success (focus skip)) (by (first | decide | simp_all); fail_if_success (focus skip)) ?_; k_whole))))
  (k_with "compareOp NotIn ref ref" => (k_here; k_dflt (first
      | (refine notIn_four_t (by (exact News.isTup (by assumption) (by k_mem)); fail_if_success (focus skip)) (by (exact News.isTup (by assumption) (by k_mem)); fail_if_success (focus skip)) (by (exact News.isTup (by assumption) (by k_mem)); fail_if_success (focus skip)) (by (exact News.isTup (by assumption) (by k_mem)); fail_if_success (focus skip)) (by (exact News.isTup (by assumption) (by k_mem)); fail_if_success (focus skip)) (by (exact News.isTup (by assumption) (by k_mem)); fail_if_success (focus skip)) (by (ktr_units); fail_if_success (focus skip)) (by (first | decide | simp_all); fail_if_success (focus skip)) ?_; k_whole)
      | (refine notIn_four_f (by (exact News.isTup (by assumption) (by k_mem)); fail_if_success (focus skip)) (by (exact News.isTup (by assumption) (by k_mem)); fail_if_success (focus skip)) (by (exact News.isTup (by assumption) (by k_mem)); fail_if_success (focus skip)) (by (exact News.isTup (by assumption) (by k_mem)); fail_if_success (focus skip)) (by (exact News.isTup (by assumption) (by k_mem)); fail_if_success (focus skip)) (by (exact News.isTup (by assumption) (by k_mem)); fail_if_success (focus skip)) (by (ktr_units); fail_if_success (focus skip)) (by (first | decide | simp_all); fail_if_success (focus skip)) ?_; k_whole))))
  (k_with "storeName" => (k_here; k_dflt (refine storeX_U (by k_asm) (by k_asm) ?_ (by rfl) (by rfl)); intro h' F' N'; (try k_sweep)))
  (k_with "call ref" => (k_here; (with_reducible show wpAny _ _ (call (Value.ref 81) _) _ _ _); k_dflt (refine isvar_use (by (k_asm); fail_if_success (focus skip)) (by (k_asm); fail_if_success (focus skip)) (by (k_asm); fail_if_success (focus skip)) (by (k_asm); fail_if_success (focus skip)) (by (k_asm); fail_if_success (focus skip)) (by (first | exact rfl | k_asm); fail_if_success (focus skip)) (by (exact rfl); fail_if_success (focus skip)) (by (exact rfl); fail_if_success (focus skip)) (by ((try dsimp only); first | exact Nat.lt_of_le_of_lt (by (simp +arith); fail_if_success (focus skip)) hD | exact Nat.lt_of_le_of_lt (by (simp +arith); fail_if_success (focus skip)) hU | exact Nat.lt_of_le_of_lt (by (simp +arith); fail_if_success (focus skip)) hD9 | exact Nat.lt_of_le_of_lt (by (simp +arith); fail_if_success (focus skip)) hU9 | omega); fail_if_success (focus skip)) (by (exact SAt.keeps (by assumption) (Fr.keep (by assumption))); fail_if_success (focus skip)) (by (k_asm); fail_if_success (focus skip)) ?_; k_whole; intro h' tk' F' N'; (try k_sweep); (try dsimp only))))
  (k_with "call ref" => (k_here; (with_reducible show wpAny _ _ (call (Value.ref 86) _) _ _ _); k_dflt (refine vars_use (by (k_asm); fail_if_success (focus skip)) (by (k_asm); fail_if_success (focus skip)) (by (k_asm); fail_if_success (focus skip)) (by (k_asm); fail_if_success (focus skip)) (by (k_asm); fail_if_success (focus skip)) (by (first | exact rfl | k_asm); fail_if_success (focus skip)) (by (exact rfl); fail_if_success (focus skip)) (by (exact rfl); fail_if_success (focus skip)) (by (exact Kept.refl _); fail_if_success (focus skip)) (by (k_asm); fail_if_success (focus skip)) (by (k_asm); fail_if_success (focus skip)) (by ((try dsimp only); first | exact Nat.lt_of_le_of_lt (by (simp +arith); fail_if_success (focus skip)) hD | exact Nat.lt_of_le_of_lt (by (simp +arith); fail_if_success (focus skip)) hU | exact Nat.lt_of_le_of_lt (by (simp +arith); fail_if_success (focus skip)) hD9 | exact Nat.lt_of_le_of_lt (by (simp +arith); fail_if_success (focus skip)) hU9 | omega); fail_if_success (focus skip)) (by ((try dsimp only); first | exact Nat.lt_of_le_of_lt (by (simp +arith); fail_if_success (focus skip)) hD | exact Nat.lt_of_le_of_lt (by (simp +arith); fail_if_success (focus skip)) hU | exact Nat.lt_of_le_of_lt (by (simp +arith); fail_if_success (focus skip)) hD9 | exact Nat.lt_of_le_of_lt (by (simp +arith); fail_if_success (focus skip)) hU9 | omega); fail_if_success (focus skip)) (by (k_asm); fail_if_success (focus skip)) ?_; k_whole; intro D' h' dr' tk' vs' xs' k' hs' hm' hl' F' N' n1; (replace n1 := allNe_of n1); (try simp only [AllNe, and_true] at n1); (try k_sweep); (try dsimp only))))
  (k_with "exec Assign cons ListComp" => (k_here; k_dflt (refine Assign_ListComp_quiet (by k_asm) (by rfl) (fun _ => false) (fun _ _ => True) (by with_unfolding_all rfl) (by with_unfolding_all rfl) (by decide) (by rfl) (by decide) (by rfl) (by rfl) (by rfl) ?_); (repeat (first | walk1 | (dsimp only; walk1)))))
  trivial
theorem StrsAre.get {vs : List Value} {xs : List Str} (h : StrsAre vs xs) {i : Nat} {v : Value} (e : vs[i]? = some v) : ∃ x tk, v = .str x tk ∧ x ∈ xs := by
  induction h generalizing i with
  | nil => simp at e
  | cons y t _ ih =>
    cases i with
    | zero => simp at e; exact ⟨y, t, e.symm, .head _⟩
    | succ i => obtain ⟨x, tk, e', hx⟩ := ih (by simpa using e); exact ⟨x, tk, e', .tail _ hx⟩
theorem News.two {h₀ h : Heap} {L a b : Addr} {o o' : Obj} {news : List (Addr × Obj)} (N : News h₀ L h news) (h1 : (a, o) ∈ news) (h2 : (b, o') ∈ news) : News h₀ L h [(a, o), (b, o')] := fun q hq => by
  rcases List.mem_cons.mp hq with rfl | hq
  · exact N _ h1
  · rw [List.mem_singleton.mp hq]; exact N _ h2
theorem late_in {vs1 vs2 : List Value} {xs1 xs2 : List Str} {t u : St} {i : Nat} {v : Value} (h1 : StrsAre vs1 xs1) (m1 : ∀ x, x ∈ xs1 ↔ x ∈ t.vars) (h2 : StrsAre vs2 xs2) (m2 : ∀ x, x ∈ xs2 ↔ x ∈ u.vars)
    (e : (vs1.toArray.toList ++ vs2.toArray.toList).toArray[i]? = some v) : ∃ x tk, v = .str x tk ∧ (x ∈ t.vars ∨ x ∈ u.vars) := by
  obtain ⟨x, tk, e', hx⟩ := StrsAre.get (StrsAre.append' h1 h2) (i := i) (by simpa using e)
  refine ⟨x, tk, e', ?_⟩
  rcases List.mem_append.mp hx with q | q
  · exact .inl ((m1 x).mp q)
  · exact .inr ((m2 x).mp q)
theorem late_sz {vs1 vs2 : List Value} {xs1 xs2 : List Str} (h1 : StrsAre vs1 xs1) (l1 : xs1.length ≤ 60) (h2 : StrsAre vs2 xs2) (l2 : xs2.length ≤ 60) : (vs1.toArray.toList ++ vs2.toArray.toList).toArray.size ≤ sizeLine := by
  have := StrsAre.len h1
  have := StrsAre.len h2
  rw [sizeLine_eq]
  simp
  omega
theorem known_any {xs : List Str} {l : St} {x : Str} (m : ∀ x, x ∈ xs ↔ x ∈ l.vars) (hx : x ∈ l.vars) : (!xs.any fun y => y == x) = false := by
  have : (xs.any fun y => y == x) = true := List.any_eq_true.mpr ⟨x, (m x).mpr hx, by simp⟩
  rw [this]; rfl
theorem add_strs {A : Around} {s : Shared} {E : Value → Shared → Prop} {h₀ : Heap} {L : Addr} {m : Str → Option Value} {news : List (Addr × Obj)} {l b : Addr} {vs ws : List Value} {xs ys : List Str} {k1 k2 : Nat} {Q : Value → Shared → Prop} (F : Fr h₀ L s.heap m) (N : News h₀ L s.heap news)
    (hl : (l, { cls := .type "list", data := .seq vs.toArray k1 }) ∈ news) (hb : (b, { cls := .type "list", data := .seq ws.toArray k2 }) ∈ news) (h1 : StrsAre vs xs) (h2 : StrsAre ws ys) (l1 : xs.length ≤ 60) (l2 : ys.length ≤ 60)
    (h : ∀ D h', Fr h₀ L h' m → News h₀ L h' ((D, { cls := .type "list", data := .seq (vs.toArray.toList ++ ws.toArray.toList).toArray }) :: news) → (∀ p ∈ news, p.1 < D) → Q (.ref D) { s with heap := h' }) :
    wpAny (model PR w) A (binaryOp .Add (.ref l) (.ref b)) Q E s :=
  add_arrays (hsz := by have := StrsAre.len h1; have := StrsAre.len h2; simp only [List.size_toArray]; rw [sizeLine_eq]; omega) F N (News.isList N hl) (News.isList N hb) fun h' F' N' => h _ h' F' N' fun p hp => Heap.lt_size (N p hp).1
theorem lines_p7_2 : True := by
  (k_with "binaryOp Add ref ref" => (k_here; k_dflt (refine add_strs (by (k_asm); fail_if_success (focus skip)) (by (k_asm); fail_if_success (focus skip)) (by (k_mem); fail_if_success (focus skip)) (by (k_mem); fail_if_success (focus skip)) (by (assumption); fail_if_success (focus skip)) (by (assumption); fail_if_success (focus skip)) (by (assumption); fail_if_success (focus skip)) (by (assumption); fail_if_success (focus skip)) ?_; k_whole; intro D' h' F' N' l1; (try k_lt l1); (try k_sweep))))
  (k_with "compareOp NotIn str ref" => (k_here; k_dflt (refine notin_list_strs (News.isList (by k_asm) (by k_mem)) (by assumption) ?_)))
  (k_with "exec For Tuple Name cons nil" => (k_here; (rename Fr _ _ _ _ => lF'); (with_unfolding_all refine' For_one lF' ?_ (by intro _; rfl) (by passes_own); k_whole)))
  trivial
set_option maxHeartbeats 0 in
theorem rule_call {nm : Str} {l r : St} {tk₀ : Tok} {lv rv : Value} {na : Addr} {A : Around} {s : Shared} {Q E : Value → Shared → Prop} (hl : l.size < 20) (hr : r.size < 20) (sl : l.short) (sr : r.short) (hv : l.isVar = false) (hsub : ∀ x, x ∈ r.vars → x ∈ l.vars)
    (C : Cal w mean mg mb A s) (hD : A.depth + 40 < recursionLimit) (hU : A.units + 300 < cLine) (hlv : SAt s.heap lv l) (hrv : SAt s.heap rv r) (hn : IsTup s.heap na #[])
    (h : ∀ h' dr tk x dx h1 h2 h3 h4 t1 t2 t3 t4 t5 n, Kept s.heap h' → s.heap.get? x = none → s.heap.get? dx = none → dx < x → h'.get? x = some (instObj 113 dx) →
      h'.get? dx = some (dictOf [⟨h1, .str (Str.ofString "name") t1, .str nm t5⟩, ⟨h2, .str (Str.ofString "left") t2, lv⟩, ⟨h3, .str (Str.ofString "right") t3, rv⟩, ⟨h4, .str (Str.ofString "needs") t4, .ref na⟩] n) → Q (.ref x) { s with heap := h', drawn := dr, toks := tk }) :
    wpAny (model PR w) A (call (.ref 113) [.str nm tk₀, lv, rv, .ref na]) Q E s := by
    refine call_classM C (by k_is) (by k_is) (by k_is) fun x dx h' kp nx ndx lt CM => ?_
    clear C
    obtain ⟨ha, ad, af, ag, au⟩ := A
    rw [under_call] at CM ⊢
    refine enterM (binds := [(Str.ofString "self", .ref x), (Str.ofString "name", .str nm tk₀), (Str.ofString "left", lv), (Str.ofString "right", rv), (Str.ofString "needs", .ref na)]) CM (by k_is) (by k_is) (by dsimp only at hD ⊢; omega) (BindsTo.of_eq rfl) rfl (by decide +kernel) (fun g L' h₁ tk cells base outer kb kb' F N Y B X T hh lo => ?_) rfl rfl rfl
    clear CM
    replace hh : ha = Option.none := hh
    subst hh
    dsimp only at hD hU
    have kg : Kept s.heap g := fun b o e => kb b o (fun p hp q => by
      rcases List.mem_cons.mp hp with rfl | hp
      · rw [show x = b from q, e] at nx; cases nx
      · rw [List.mem_singleton.mp hp] at q
        rw [show dx = b from q, e] at ndx; cases ndx) (kp b o e)
    have hlg := SAt.keeps hlv kg
    have hrg := SAt.keeps hrv kg
    have hng := IsTup.keeps hn kg
    have hl6 : l.size < 60 := by omega
    have hr6 : r.size < 60 := by omega
    have lx := lo _ (.head _)
    have ldx := lo _ (.tail _ (.head _))
    dsimp only at lx ldx
    replace lt := ltN lt
    replace lx := ltN lx
    replace ldx := ltN ldx
    k_cells Y
    (try simp only [List.cons_append, List.nil_append] at N)
    k_steps
    refine ⟨_, _, _, _, _, rfl, rfl, by k_asm, by k_asm, by k_mem, fun I o h₁ tk₁ hc l1 F' N' => ?_⟩
    simp only [AllLt, List.cons_append, List.nil_append, and_true] at *
    replace l1 := allLt_of l1
    simp only [AllLt, and_true] at l1
    k_sweep
    k_steps
    refine ⟨_, _, _, _, by k_asm, by k_asm, ?sz, QSrc.list rfl (News.isList (by k_asm) (by k_mem)), fun C oC i v m₂ s₃ E' hP F₃ N₃ ns hm => ?tst, fun C oC i v m₂ s₃ E' hP hp => (by cases hp), fun D h' tk ys vs k F₂ N₂ n1 hlen hP hF => ?rest⟩
    case sz => exact late_sz (by assumption) (by assumption) (by assumption) (by assumption)
    case tst =>
      obtain ⟨x', tk', rfl, hx⟩ : ∃ x tk, v = .str x tk ∧ (x ∈ r.vars ∨ x ∈ r.vars) := by
        exact late_in (by assumption) (by assumption) (by assumption) (by assumption) hP
      refine wpAny_tests_one ?_
      repeat (first | walk1 | (dsimp only; walk1))
      exact ⟨known_any (by assumption) (hx.elim (hsub _) (hsub _)), _, _, rfl, fun _ _ e => e⟩
    case rest =>
      have hys : ys = #[] := by
        have : vs.filter (fun _ => false) = [] := by simp
        rw [this] at hF
        cases hq : ys.toList with
        | nil => exact Array.toList_inj.mp hq
        | cons a b => rw [hq] at hF; cases hF
      subst hys
      k_steps
      rename Fr _ _ _ _ => F'
      rename News _ _ _ _ => N'
      refine ⟨_, [(x, instObj 113 dx), (dx, dictOf [] 0)], F', News.two N' (by k_mem) (by k_mem), List.forall_mem_cons.mpr ⟨by k_ne, List.forall_mem_cons.mpr ⟨by k_ne, List.forall_mem_nil _⟩⟩, News.get N' (by k_mem), News.get N' (by k_mem), fun h' tk F₄ N₄ => ?_⟩
      clear N' F'
      k_steps
      (try dsimp only)
      rename Fr _ _ _ _ => F'
      rename News _ _ _ _ => N'
      refine ⟨_, _, F', rfl, h _ _ _ x dx _ _ _ _ _ _ _ _ _ _ (Kept.trans kg F'.keep) nx ndx lt (News.get N' (.head _)) (News.get N' (.tail _ (.head _)))⟩
end
end Mine
end
section
open PySem PySem.W PySem.Spec PySem.Calls PyProof.Rows
set_option maxRecDepth 100000
namespace Mine
structure RuleS where
  nm : Str
  left : St
  right : St
/-- the dict of a rule -/
noncomputable abbrev ruleDict (h1 h2 h3 h4 : Int) (t1 t2 t3 t4 t5 : Tok) (nm : Str) (lv rv : Value) (na : Addr) (n : Nat) : Obj :=
  dictOf [⟨h1, .str (Str.ofString "name") t1, .str nm t5⟩, ⟨h2, .str (Str.ofString "left") t2, lv⟩, ⟨h3, .str (Str.ofString "right") t3, rv⟩, ⟨h4, .str (Str.ofString "needs") t4, .ref na⟩] n
noncomputable def RuleAt (h : Heap) (v : Value) (r : RuleS) : Prop :=
  ∃ x dx h1 h2 h3 h4 t1 t2 t3 t4 t5 lv rv na n, v = .ref x ∧ h.get? x = some (instObj 113 dx) ∧ h.get? dx = some (ruleDict h1 h2 h3 h4 t1 t2 t3 t4 t5 r.nm lv rv na n) ∧ SAt h lv r.left ∧ SAt h rv r.right ∧ IsTup h na #[]
inductive RAt (h : Heap) : List Value → List RuleS → Prop
  | nil : RAt h [] []
  | cons {v : Value} {r : RuleS} {vs : List Value} {rs : List RuleS} : RuleAt h v r → RAt h vs rs → RAt h (v :: vs) (r :: rs)
theorem RAt.append {h : Heap} {vs vs' : List Value} {rs rs' : List RuleS} (x : RAt h vs rs) (y : RAt h vs' rs') : RAt h (vs ++ vs') (rs ++ rs') := by
  induction x with
  | nil => exact y
  | cons a _ ih => exact .cons a ih
/-- these objects stand -/
noncomputable def Tups (h : Heap) (l : List (Addr × Obj)) : Prop := ∀ q ∈ l, h.get? q.1 = some q.2
theorem News.tups {h₀ h : Heap} {L : Addr} {news : List (Addr × Obj)} (N : News h₀ L h news) : Tups h news := fun q hq => (N q hq).1
theorem Tups.tup {h : Heap} {l : List (Addr × Obj)} {a : Addr} {its : Array Value} {n : Nat} (T : Tups h l) (hm : (a, ({ cls := .type "tuple", data := .seq its n } : Obj)) ∈ l) : IsTup h a its := ⟨_, T _ hm, rfl, n, rfl⟩
noncomputable def RLater (w : World) (owns : List (Addr × Obj)) (vs : List Value) (rs : List RuleS) : Prop := ∀ h'', (hd.heap_39 w.params).In h'' → Tups h'' owns → RAt h'' vs rs
noncomputable def OwnsN (g h' : Heap) (owns : List (Addr × Obj)) : Prop := ∀ q ∈ owns, h'.get? q.1 = some q.2 ∧ g.get? q.1 = none
theorem News.ownsN {h₀ h : Heap} {L : Addr} {news : List (Addr × Obj)} (N : News h₀ L h news) : OwnsN h₀ h news := fun q hq => ⟨(N q hq).1, (N q hq).2.2⟩
theorem ruleAt_mk {h : Heap} {owns : List (Addr × Obj)} {r : RuleS} {x dx na : Addr} {h1 h2 h3 h4 : Int} {t1 t2 t3 t4 t5 : Tok} {lv rv : Value} {n : Nat} (T : Tups h owns) (m1 : (x, instObj 113 dx) ∈ owns)
    (m2 : (dx, ruleDict h1 h2 h3 h4 t1 t2 t3 t4 t5 r.nm lv rv na n) ∈ owns) (hl : SAt h lv r.left) (hr : SAt h rv r.right) (hn : IsTup h na #[]) : RuleAt h (.ref x) r :=
  ⟨x, dx, h1, h2, h3, h4, t1, t2, t3, t4, t5, lv, rv, na, n, rfl, T _ m1, T _ m2, hl, hr, hn⟩
noncomputable abbrev sA : St := .name (Str.ofString "?a")
noncomputable abbrev sB : St := .name (Str.ofString "?b")
noncomputable abbrev sC : St := .name (Str.ofString "?c")
noncomputable def lawsU : List RuleS := [⟨Str.empty ++ Str.ofString "union" ++ Str.ofString "-turn", .union sA sB, .union sB sA⟩, ⟨Str.empty ++ Str.ofString "union" ++ Str.ofString "-put", .union (.union sA sB) sC, .union sA (.union sB sC)⟩, ⟨Str.empty ++ Str.ofString "union" ++ Str.ofString "-unit", .union sA .none, sA⟩]
noncomputable def lawsM : List RuleS := [⟨Str.empty ++ Str.ofString "meet" ++ Str.ofString "-turn", .meet sA sB, .meet sB sA⟩, ⟨Str.empty ++ Str.ofString "meet" ++ Str.ofString "-put", .meet (.meet sA sB) sC, .meet sA (.meet sB sC)⟩, ⟨Str.empty ++ Str.ofString "meet" ++ Str.ofString "-unit", .meet sA .all, sA⟩]
section
variable {w : World} {mean : ExcName → Option Value} {mg mb : Str → Option Value}
theorem satA {h : Heap} (X : (hd.heap_39 w.params).In h) : SAt h (.ref 118) (.name (Str.ofString "?a")) := by
  obtain ⟨o, tk, e⟩ : ∃ o tk, (hd.heap_39 w.params).lookup 118 = some { cls := .type "tuple", data := .seq #[.str (Str.ofString "?a") tk] o } := ⟨_, _, by with_unfolding_all rfl⟩
  exact SAt.name ⟨_, X _ _ e, rfl, _, rfl⟩
theorem satB {h : Heap} (X : (hd.heap_39 w.params).In h) : SAt h (.ref 119) (.name (Str.ofString "?b")) := by
  obtain ⟨o, tk, e⟩ : ∃ o tk, (hd.heap_39 w.params).lookup 119 = some { cls := .type "tuple", data := .seq #[.str (Str.ofString "?b") tk] o } := ⟨_, _, by with_unfolding_all rfl⟩
  exact SAt.name ⟨_, X _ _ e, rfl, _, rfl⟩
theorem satC {h : Heap} (X : (hd.heap_39 w.params).In h) : SAt h (.ref 120) (.name (Str.ofString "?c")) := by
  obtain ⟨o, tk, e⟩ : ∃ o tk, (hd.heap_39 w.params).lookup 120 = some { cls := .type "tuple", data := .seq #[.str (Str.ofString "?c") tk] o } := ⟨_, _, by with_unfolding_all rfl⟩
  exact SAt.name ⟨_, X _ _ e, rfl, _, rfl⟩
theorem ownsN_news {h₀ g h' : Heap} {L : Addr} {m : Str → Option Value} {owns news : List (Addr × Obj)} (O : OwnsN g h' owns) (F : Fr h₀ L g m) (N : News h₀ L h' news) : News h₀ L h' (news ++ owns) := fun q hq => by
  rcases List.mem_append.mp hq with hq | hq
  · exact N q hq
  · have hn := (O q hq).2
    refine ⟨(O q hq).1, fun e => ?_, Kept.none F.keep hn⟩
    obtain ⟨o, _, _, ho, _⟩ := F.ns
    rw [e, ho] at hn; cases hn
/-- a call that gives a new list and other new things -/
theorem lst_use {h₀ : Heap} {L : Addr} {m : Str → Option Value} {news owns : List (Addr × Obj)} {s : Shared} {h' : Heap} {D : Addr} {vs : Array Value} {k : Nat} (F : Fr h₀ L s.heap m) (N : News h₀ L s.heap news)
    (kp : Kept s.heap h') (hn : s.heap.get? D = none) (hD : h'.get? D = some { cls := .type "list", data := .seq vs k }) (O : OwnsN s.heap h' owns) :
    Fr h₀ L h' m ∧ News h₀ L h' (((D, ({ cls := .type "list", data := .seq vs k } : Obj)) :: news) ++ owns) := by
  refine ⟨F.keeps kp, ownsN_news O F fun q hq => ?_⟩
  rcases List.mem_cons.mp hq with rfl | hq
  · refine ⟨hD, fun e => ?_, Kept.none F.keep hn⟩
    obtain ⟨o, _, _, ho, _⟩ := F.ns
    have e : D = L := e
    rw [← e, hn] at ho; cases ho
  · exact N.grown kp q hq
theorem rule_use {nm : Str} {l r : St} {tk₀ : Tok} {lv rv : Value} {na : Addr} {A : Around} {base h₀ : Heap} {outer : List Env} {L : Addr} {m : Str → Option Value} {env : Env} {news : List (Addr × Obj)} {s : Shared} {Q E : Value → Shared → Prop}
    (B : Below A base outer h₀) (F : Fr h₀ L s.heap m) (X : (hd.heap_39 w.params).In h₀) (T : Top hd.view_39 LO mean mg mb h₀) (N : News h₀ L s.heap news) (hh : A.handled = none) (hf : env.frame = some L) (hk : env.scope.kind = .function)
    (hD : A.depth + 41 < recursionLimit) (hU : A.units + 303 < cLine)
    (hlv : (hd.heap_39 w.params).In s.heap → Tups s.heap news → SAt s.heap lv l) (hrv : (hd.heap_39 w.params).In s.heap → Tups s.heap news → SAt s.heap rv r) (hn : Tups s.heap news → IsTup s.heap na #[])
    (hl : l.size < 20) (hr : r.size < 20) (sl : l.short) (sr : r.short) (hv : l.isVar = false) (hsub : ∀ x, x ∈ r.vars → x ∈ l.vars)
    (h : ∀ h' dr tk x dx h1 h2 h3 h4 t1 t2 t3 t4 t5 n, Fr h₀ L h' m → News h₀ L h' ((x, instObj 113 dx) :: (dx, ruleDict h1 h2 h3 h4 t1 t2 t3 t4 t5 nm lv rv na n) :: news) → Q (.ref x) { s with heap := h', drawn := dr, toks := tk }) :
    wpAny (model PR w) (A.deeper env) (call (.ref 113) [.str nm tk₀, lv, rv, .ref na]) Q E s :=
  rule_call hl hr sl sr hv hsub (Cal.site B F X T hh hf hk) (by simp only [depth_deeper]; first | exact Nat.lt_of_le_of_lt (by (simp +arith); fail_if_success (focus skip)) hD | exact Nat.lt_of_le_of_lt (by (simp +arith); fail_if_success (focus skip)) hU | exact Nat.lt_of_le_of_lt (by (simp +arith); fail_if_success (focus skip)) hD9 | exact Nat.lt_of_le_of_lt (by (simp +arith); fail_if_success (focus skip)) hU9 | omega) (by simp only [units_deeper]; first | exact Nat.lt_of_le_of_lt (by (simp +arith); fail_if_success (focus skip)) hD | exact Nat.lt_of_le_of_lt (by (simp +arith); fail_if_success (focus skip)) hU | exact Nat.lt_of_le_of_lt (by (simp +arith); fail_if_success (focus skip)) hD9 | exact Nat.lt_of_le_of_lt (by (simp +arith); fail_if_success (focus skip)) hU9 | omega) (hlv (X.keeps F.keep) (News.tups N)) (hrv (X.keeps F.keep) (News.tups N)) (hn (News.tups N)) fun h' dr tk x dx h1 h2 h3 h4 t1 t2 t3 t4 t5 n kp nx ndx lt e1 e2 => by
    have nL : ∀ {a : Addr}, s.heap.get? a = none → a ≠ L := fun ha e => by
      obtain ⟨o, _, _, ho, _⟩ := F.ns
      rw [e, ho] at ha; cases ha
    refine h h' dr tk x dx h1 h2 h3 h4 t1 t2 t3 t4 t5 n (F.keeps kp) fun q hq => ?_
    rcases List.mem_cons.mp hq with rfl | hq
    · exact ⟨e1, nL nx, Kept.none F.keep nx⟩
    · rcases List.mem_cons.mp hq with rfl | hq
      · exact ⟨e2, nL ndx, Kept.none F.keep ndx⟩
      · exact N.grown kp q hq
section
variable {A : Around} {env : Env} {h₀ : Heap} {L : Addr} {m : Str → Option Value} {news0 : List (Addr × Obj)}
/-- an expression that gives this text -/
noncomputable def TX (w : World) (A : Around) (env : Env) (h₀ : Heap) (L : Addr) (m : Str → Option Value) (e : Expr) (x : Str) : Prop :=
  (∀ rest, starEach (e :: rest) env = (false, eval e env) :: starEach rest env) ∧
  ∀ {s : Shared} {Q E : Value → Shared → Prop}, Fr h₀ L s.heap m → (∀ tk tks, Q (.str x tk) { s with toks := tks }) → wpAny (model PR w) A (eval e env) Q E s
/-- a name that gives this term -/
noncomputable def TN (w : World) (A : Around) (env : Env) (h₀ : Heap) (L : Addr) (m : Str → Option Value) (news0 : List (Addr × Obj)) (e : Expr) (t : St) : Prop :=
  (∀ rest, starEach (e :: rest) env = (false, eval e env) :: starEach rest env) ∧
  ∀ {s : Shared} {Q E : Value → Shared → Prop}, Fr h₀ L s.heap m → (∀ v, (∀ h'', (hd.heap_39 w.params).In h'' → Tups h'' news0 → SAt h'' v t) → Q v s) → wpAny (model PR w) A (eval e env) Q E s
/-- an expression that writes this term -/
inductive TE (w : World) (A : Around) (env : Env) (h₀ : Heap) (L : Addr) (m : Str → Option Value) (news0 : List (Addr × Obj)) : Expr → St → Prop
  | name {e : Expr} {t : St} : TN w A env h₀ L m news0 e t → TE w A env h₀ L m news0 e t
  | none {o : Expr} {k : Nat} {p : Pos} : TX w A env h₀ L m o (Str.ofString "none") → TE w A env h₀ L m news0 (.Tuple [o] k p) .none
  | all {o : Expr} {k : Nat} {p : Pos} : TX w A env h₀ L m o (Str.ofString "all") → TE w A env h₀ L m news0 (.Tuple [o] k p) .all
  | not {o a : Expr} {t : St} {k : Nat} {p : Pos} : TX w A env h₀ L m o (Str.ofString "not") → TE w A env h₀ L m news0 a t → TE w A env h₀ L m news0 (.Tuple [o, a] k p) (.not t)
  | union {o a b : Expr} {t u : St} {k : Nat} {p : Pos} : TX w A env h₀ L m o (Str.ofString "union") → TE w A env h₀ L m news0 a t → TE w A env h₀ L m news0 b u → TE w A env h₀ L m news0 (.Tuple [o, a, b] k p) (.union t u)
  | meet {o a b : Expr} {t u : St} {k : Nat} {p : Pos} : TX w A env h₀ L m o (Str.ofString "meet") → TE w A env h₀ L m news0 a t → TE w A env h₀ L m news0 b u → TE w A env h₀ L m news0 (.Tuple [o, a, b] k p) (.meet t u)
  | less {o a b : Expr} {t u : St} {k : Nat} {p : Pos} : TX w A env h₀ L m o (Str.ofString "less") → TE w A env h₀ L m news0 a t → TE w A env h₀ L m news0 b u → TE w A env h₀ L m news0 (.Tuple [o, a, b] k p) (.less t u)
theorem tx_const {x : Str} {k : Nat} {p : Pos} : TX w A env h₀ L m (.Constant (.str x) k p) x := ⟨fun _ => rfl, fun _ h => Constant_str (h _ _)⟩
theorem TE.star {e : Expr} {t : St} (x : TE w A env h₀ L m news0 e t) : ∀ rest, starEach (e :: rest) env = (false, eval e env) :: starEach rest env := by
  cases x with
  | name h => exact h.1
  | _ => exact fun _ => rfl
theorem tups_r {h : Heap} {a b c : List (Addr × Obj)} (T : Tups h ((a ++ b) ++ c)) : Tups h (b ++ c) := fun q hq => T q (by rw [List.append_assoc]; exact List.mem_append_right _ hq)
theorem tups_l {h : Heap} {a b c : List (Addr × Obj)} (T : Tups h ((a ++ b) ++ c)) : Tups h (a ++ c) := fun q hq => T q (by
  rcases List.mem_append.mp hq with hq | hq
  · exact List.mem_append_left _ (List.mem_append_left _ hq)
  · exact List.mem_append_right _ hq)
theorem tups_t {h : Heap} {a : Addr × Obj} {b : List (Addr × Obj)} (T : Tups h (a :: b)) : Tups h b := fun q hq => T q (.tail _ hq)
theorem tups_app {h : Heap} {x y : List (Addr × Obj)} (a : Tups h x) (b : Tups h y) : Tups h (x ++ y) := fun q hq => (List.mem_append.mp hq).elim (a q) (b q)
theorem tups_cc {h : Heap} {a : Addr × Obj} {b c : List (Addr × Obj)} (f : Tups h b → Tups h c) (T : Tups h (a :: b)) : Tups h (a :: c) := fun q hq => by
  rcases List.mem_cons.mp hq with rfl | hq
  · exact T _ (.head _)
  · exact f (tups_t T) q hq
/-- a tuple of three of these -/
theorem te_two {o a b : Expr} {x : Str} {t u r : St} {k : Nat} {p : Pos} (ho : TX w A env h₀ L m o x) (sa : ∀ rest, starEach (a :: rest) env = (false, eval a env) :: starEach rest env) (sb : ∀ rest, starEach (b :: rest) env = (false, eval b env) :: starEach rest env)
    (iha : ∀ {s : Shared} {news : List (Addr × Obj)} {Q E : Value → Shared → Prop}, Fr h₀ L s.heap m → News h₀ L s.heap news → (∀ h' tks v owns, Fr h₀ L h' m → News h₀ L h' (owns ++ news) → (∀ h'', (hd.heap_39 w.params).In h'' → Tups h'' (owns ++ news0) → SAt h'' v t) → Q v { s with heap := h', toks := tks }) → wpAny (model PR w) A (eval a env) Q E s)
    (ihb : ∀ {s : Shared} {news : List (Addr × Obj)} {Q E : Value → Shared → Prop}, Fr h₀ L s.heap m → News h₀ L s.heap news → (∀ h' tks v owns, Fr h₀ L h' m → News h₀ L h' (owns ++ news) → (∀ h'', (hd.heap_39 w.params).In h'' → Tups h'' (owns ++ news0) → SAt h'' v u) → Q v { s with heap := h', toks := tks }) → wpAny (model PR w) A (eval b env) Q E s)
    (mk : ∀ h'' D tk v v', IsTup h'' D #[.str x tk, v, v'] → SAt h'' v t → SAt h'' v' u → SAt h'' (.ref D) r)
    {s : Shared} {news : List (Addr × Obj)} {Q E : Value → Shared → Prop} (F : Fr h₀ L s.heap m) (N : News h₀ L s.heap news)
    (h : ∀ h' tks v owns, Fr h₀ L h' m → News h₀ L h' (owns ++ news) → (∀ h'', (hd.heap_39 w.params).In h'' → Tups h'' (owns ++ news0) → SAt h'' v r) → Q v { s with heap := h', toks := tks }) : wpAny (model PR w) A (eval (.Tuple [o, a, b] k p) env) Q E s := by
  refine Tuple_ (args_cons (ho.2 F fun tk tks => ?_) (ho.1 _))
  refine args_cons (iha F N fun h1 tk1 v1 o1 F1 N1 s1 => ?_) (sa _)
  refine args_cons (ihb F1 N1 fun h2 tk2 v2 o2 F2 N2 s2 => ?_) (sb _)
  refine args_nil (newTuple_N F2 N2 (fun h3 F3 N3 => ?_) (by rw [sizeLine_eq]; exact Nat.le_of_ble_eq_true rfl))
  refine h h3 _ _ ((_, _) :: (o2 ++ o1)) F3 (by rw [List.cons_append, List.append_assoc]; exact N3) fun h'' X'' T'' => ?_
  exact mk h'' _ tk v1 v2 (Tups.tup T'' (.head _)) (s1 h'' X'' (tups_r (tups_t T''))) (s2 h'' X'' (tups_l (tups_t T'')))
theorem te_one {o : Expr} {x : Str} {r : St} {k : Nat} {p : Pos} (ho : TX w A env h₀ L m o x) (mk : ∀ h'' D tk, IsTup h'' D #[.str x tk] → SAt h'' (.ref D) r)
    {s : Shared} {news : List (Addr × Obj)} {Q E : Value → Shared → Prop} (F : Fr h₀ L s.heap m) (N : News h₀ L s.heap news)
    (h : ∀ h' tks v owns, Fr h₀ L h' m → News h₀ L h' (owns ++ news) → (∀ h'', (hd.heap_39 w.params).In h'' → Tups h'' (owns ++ news0) → SAt h'' v r) → Q v { s with heap := h', toks := tks }) : wpAny (model PR w) A (eval (.Tuple [o] k p) env) Q E s := by
  refine Tuple_ (args_cons (ho.2 F fun tk tks => ?_) (ho.1 _))
  refine args_nil (newTuple_N F N (fun h3 F3 N3 => ?_) (by rw [sizeLine_eq]; exact Nat.le_of_ble_eq_true rfl))
  exact h h3 _ _ [(_, _)] F3 N3 fun h'' X'' T'' => mk h'' _ tk (Tups.tup T'' (.head _))
theorem te_eval {e : Expr} {t : St} (x : TE w A env h₀ L m news0 e t) : ∀ {s : Shared} {news : List (Addr × Obj)} {Q E : Value → Shared → Prop}, Fr h₀ L s.heap m → News h₀ L s.heap news →
    (∀ h' tks v owns, Fr h₀ L h' m → News h₀ L h' (owns ++ news) → (∀ h'', (hd.heap_39 w.params).In h'' → Tups h'' (owns ++ news0) → SAt h'' v t) → Q v { s with heap := h', toks := tks }) → wpAny (model PR w) A (eval e env) Q E s := by
  induction x with
  | name hn => exact fun F N h => hn.2 F fun v hv => h _ _ v [] F N hv
  | none ho => exact fun F N h => te_one ho (fun _ _ _ i => .none i) F N h
  | all ho => exact fun F N h => te_one ho (fun _ _ _ i => .all i) F N h
  | not ho ha iha =>
    intro s news Q E F N h
    refine Tuple_ (args_cons (ho.2 F fun tk tks => ?_) (ho.1 _))
    refine args_cons (iha F N fun h1 tk1 v1 o1 F1 N1 s1 => ?_) (ha.star _)
    refine args_nil (newTuple_N F1 N1 (fun h3 F3 N3 => ?_) (by rw [sizeLine_eq]; exact Nat.le_of_ble_eq_true rfl))
    exact h h3 _ _ ((_, _) :: o1) F3 N3 fun h'' X'' T'' => .not (Tups.tup T'' (.head _)) (s1 h'' X'' (tups_t T''))
  | union ho ha hb iha ihb => exact fun F N h => te_two ho ha.star hb.star iha ihb (fun _ _ _ _ _ i a b => .union i a b) F N h
  | meet ho ha hb iha ihb => exact fun F N h => te_two ho ha.star hb.star iha ihb (fun _ _ _ _ _ i a b => .meet i a b) F N h
  | less ho ha hb iha ihb => exact fun F N h => te_two ho ha.star hb.star iha ihb (fun _ _ _ _ _ i a b => .less i a b) F N h
noncomputable def RFine (R : RuleS) : Prop := R.left.size < 20 ∧ R.right.size < 20 ∧ R.left.short ∧ R.right.short ∧ R.left.isVar = false ∧ ∀ x, x ∈ R.right.vars → x ∈ R.left.vars
noncomputable def St.shortB : St → Bool
  | .none | .all => true
  | .name x => decide (x.length ≤ 20)
  | .not a => a.shortB
  | .union a b | .meet a b | .less a b => a.shortB && b.shortB
theorem St.short_of {t : St} (h : t.shortB = true) : t.short := by
  induction t with
  | none | all => trivial
  | name x => exact (of_decide_eq_true h : x.length ≤ 20)
  | not a ih => exact ih h
  | union a b i j | meet a b i j | less a b i j => exact ⟨i (Bool.and_eq_true_iff.mp h).1, j (Bool.and_eq_true_iff.mp h).2⟩
noncomputable def RuleS.fineB (R : RuleS) : Bool := (decide (R.left.size < 20) && decide (R.right.size < 20)) && ((R.left.shortB && R.right.shortB) && (!R.left.isVar && R.right.vars.all fun x => R.left.vars.contains x))
theorem rfine_of {R : RuleS} (h : R.fineB = true) : RFine R := by
  obtain ⟨h1, h2⟩ := Bool.and_eq_true_iff.mp h
  obtain ⟨a, b⟩ := Bool.and_eq_true_iff.mp h1
  obtain ⟨h3, h4⟩ := Bool.and_eq_true_iff.mp h2
  obtain ⟨c, d⟩ := Bool.and_eq_true_iff.mp h3
  obtain ⟨e, f⟩ := Bool.and_eq_true_iff.mp h4
  exact ⟨of_decide_eq_true a, of_decide_eq_true b, St.short_of c, St.short_of d, by simpa using e, fun x hx => by simpa using List.all_eq_true.mp f x hx⟩
/-- an expression that makes this rule -/
inductive RE (w : World) (A : Around) (env : Env) (h₀ : Heap) (L : Addr) (m : Str → Option Value) (news0 : List (Addr × Obj)) : Expr → RuleS → Prop
  | mk {n l r : Expr} {R : RuleS} {p p1 p2 : Pos} {k : Nat} : TX w A env h₀ L m n R.nm → TE w A env h₀ L m news0 l R.left → TE w A env h₀ L m news0 r R.right → RFine R → RE w A env h₀ L m news0 (.Call (.Name (Str.ofString "Rule") p1) [n, l, r, .Tuple [] k p2] [] p) R
end
section
variable {A : Around} {env : Env} {base h₀ : Heap} {outer : List Env} {L : Addr} {m : Str → Option Value} {news0 : List (Addr × Obj)}
theorem re_eval (B : Below A base outer h₀) (X : (hd.heap_39 w.params).In h₀) (T : Top hd.view_39 LO mean mg mb h₀) (hh : A.handled = none) (hf : env.frame = some L) (hk : env.scope.kind = .function) (hD : A.depth + 41 < recursionLimit) (hU : A.units + 303 < cLine)
    (hR : ∀ {p : Pos} {s : Shared} {Q E : Value → Shared → Prop}, Fr h₀ L s.heap m → Q (.ref 113) s → wpAny (model PR w) (A.deeper env) (eval (.Name (Str.ofString "Rule") p) env) Q E s)
    (hK : keepIn (hd.heap_39 w.params) (.ref 113) = true) {e : Expr} {R : RuleS} (x : RE w (A.deeper env) env h₀ L m news0 e R) {s : Shared} {news : List (Addr × Obj)} {Q E : Value → Shared → Prop} (F : Fr h₀ L s.heap m) (N : News h₀ L s.heap news) (h0 : ∀ q ∈ news0, q ∈ news)
    (h : ∀ h' dr tks a owns, Fr h₀ L h' m → News h₀ L h' (owns ++ news) → (∀ h'', (hd.heap_39 w.params).In h'' → Tups h'' (owns ++ news0) → RuleAt h'' (.ref a) R) → Q (.ref a) { s with heap := h', drawn := dr, toks := tks }) : wpAny (model PR w) (A.deeper env) (eval e env) Q E s := by
  cases x with
  | mk hn hl hr hf' =>
  obtain ⟨f1, f2, f3, f4, f5, f6⟩ := hf'
  refine Call_ (hR F (callWith_K X hK (args_cons (hn.2 F fun tk tks => ?_) (hn.1 _)) (hn.1 _) (by rw [hl.star, hr.star]; rfl)))
  refine args_cons (te_eval hl F N fun h1 tk1 v1 o1 F1 N1 s1 => ?_) (hl.star _)
  refine args_cons (te_eval hr F1 N1 fun h2 tk2 v2 o2 F2 N2 s2 => ?_) (hr.star _)
  refine args_cons (Tuple_ (args_nil (newTuple_N F2 N2 (fun h3 F3 N3 => ?_) (by rw [sizeLine_eq]; exact Nat.le_of_ble_eq_true rfl))))
  refine args_nil ⟨X.keeps F3.keep, ?_⟩
  have up : ∀ {h'' : Heap} {z : Addr × Obj}, Tups h'' (z :: (o2 ++ (o1 ++ news))) → Tups h'' (o1 ++ news0) ∧ Tups h'' (o2 ++ news0) := fun T'' => ⟨fun q hq => T'' q (.tail _ (List.mem_append_right _ (by
    rcases List.mem_append.mp hq with hq | hq
    · exact List.mem_append_left _ hq
    · exact List.mem_append_right _ (h0 q hq)))), fun q hq => T'' q (.tail _ (by
    rcases List.mem_append.mp hq with hq | hq
    · exact List.mem_append_left _ hq
    · exact List.mem_append_right _ (List.mem_append_right _ (h0 q hq))))⟩
  refine rule_use (nm := R.nm) B F3 X T N3 hh hf hk hD hU (fun X' T' => s1 _ X' (up T').1) (fun X' T' => s2 _ X' (up T').2) (fun T' => Tups.tup T' (.head _)) f1 f2 f3 f4 f5 f6 fun h' dr' tk' a d' g1 g2 g3 g4 t1 t2 t3 t4 t5 n' F' N' => ?_
  refine h h' dr' tk' a ((a, _) :: (d', _) :: (_, _) :: (o2 ++ o1)) F' (by simp only [List.cons_append, List.append_assoc]; exact N') fun h'' X'' T'' => ?_
  have T1 := tups_t (tups_t (tups_t T''))
  exact ruleAt_mk T'' (.head _) (.tail _ (.head _)) (s1 h'' X'' (tups_r T1)) (s2 h'' X'' (tups_l T1)) (Tups.tup T'' (.tail _ (.tail _ (.head _))))
/-- expressions that make these rules -/
inductive RES (w : World) (A : Around) (env : Env) (h₀ : Heap) (L : Addr) (m : Str → Option Value) (news0 : List (Addr × Obj)) : List Expr → List RuleS → Prop
  | nil : RES w A env h₀ L m news0 [] []
  | cons {e : Expr} {R : RuleS} {es : List Expr} {Rs : List RuleS} : RE w A env h₀ L m news0 e R → RES w A env h₀ L m news0 es Rs → RES w A env h₀ L m news0 (e :: es) (R :: Rs)
theorem res_eval (B : Below A base outer h₀) (X : (hd.heap_39 w.params).In h₀) (T : Top hd.view_39 LO mean mg mb h₀) (hh : A.handled = none) (hf : env.frame = some L) (hk : env.scope.kind = .function) (hD : A.depth + 41 < recursionLimit) (hU : A.units + 303 < cLine)
    (hR : ∀ {p : Pos} {s : Shared} {Q E : Value → Shared → Prop}, Fr h₀ L s.heap m → Q (.ref 113) s → wpAny (model PR w) (A.deeper env) (eval (.Name (Str.ofString "Rule") p) env) Q E s)
    (hK : keepIn (hd.heap_39 w.params) (.ref 113) = true) {pos : Pos} {es : List Expr} {Rs : List RuleS} (x : RES w (A.deeper env) env h₀ L m news0 es Rs) : ∀ {s : Shared} {news : List (Addr × Obj)} {Q : List Value → Shared → Prop} {E : Value → Shared → Prop}, Fr h₀ L s.heap m → News h₀ L s.heap news → (∀ q ∈ news0, q ∈ news) →
    (∀ h' dr tks vs owns, vs.length = es.length → Fr h₀ L h' m → News h₀ L h' (owns ++ news) → (∀ h'', (hd.heap_39 w.params).In h'' → Tups h'' (owns ++ news0) → RAt h'' vs Rs) → Q vs { s with heap := h', drawn := dr, toks := tks }) → wpAny (model PR w) (A.deeper env) (spliced (backTo pos (starEach es env))) Q E s := by
  induction x with
  | nil => exact fun F N _ h => args_nil (h _ _ _ [] [] rfl F N fun _ _ _ => .nil)
  | cons hr hrs ih =>
    intro s news Q E F N h0 h
    refine args_cons (re_eval B X T hh hf hk hD hU hR hK hr F N h0 fun h1 dr1 tk1 a o1 F1 N1 r1 => ?_) (by cases hr; rfl)
    refine ih F1 N1 (fun q hq => List.mem_append_right _ (h0 q hq)) fun h2 dr2 tk2 vs o2 hl F2 N2 r2 => ?_
    refine h h2 dr2 tk2 (.ref a :: vs) (o2 ++ o1) (by simp [hl]) F2 (by rw [List.append_assoc]; exact N2) fun h'' X'' T'' => ?_
    exact .cons (r1 h'' X'' (tups_r T'')) (r2 h'' X'' (tups_l T''))
theorem news_swap {g h : Heap} {L : Addr} {a : Addr × Obj} {xs ys : List (Addr × Obj)} (N : News g L h (a :: (xs ++ ys))) : News g L h (a :: (ys ++ xs)) := fun q hq => by
  rcases List.mem_cons.mp hq with rfl | hq
  · exact N _ (.head _)
  · rcases List.mem_append.mp hq with hq | hq
    · exact N q (.tail _ (List.mem_append_right _ hq))
    · exact N q (.tail _ (List.mem_append_left _ hq))
theorem rlist_eval (B : Below A base outer h₀) (X : (hd.heap_39 w.params).In h₀) (T : Top hd.view_39 LO mean mg mb h₀) (hh : A.handled = none) (hf : env.frame = some L) (hk : env.scope.kind = .function) (hD : A.depth + 41 < recursionLimit) (hU : A.units + 303 < cLine)
    (hR : ∀ {p : Pos} {s : Shared} {Q E : Value → Shared → Prop}, Fr h₀ L s.heap m → Q (.ref 113) s → wpAny (model PR w) (A.deeper env) (eval (.Name (Str.ofString "Rule") p) env) Q E s)
    (hK : keepIn (hd.heap_39 w.params) (.ref 113) = true) {pos : Pos} {es : List Expr} {Rs : List RuleS} (x : RES w (A.deeper env) env h₀ L m news0 es Rs) (hz : es.length ≤ 100) {s : Shared} {news : List (Addr × Obj)} {Q E : Value → Shared → Prop} (F : Fr h₀ L s.heap m) (N : News h₀ L s.heap news) (h0 : ∀ q ∈ news0, q ∈ news)
    (h : ∀ h' dr tks D vs owns, vs.length = es.length → Fr h₀ L h' m → News h₀ L h' ((D, ({ cls := .type "list", data := .seq vs.toArray } : Obj)) :: (news ++ owns)) → (∀ h'', (hd.heap_39 w.params).In h'' → Tups h'' (owns ++ news0) → RAt h'' vs Rs) → Q (.ref D) { s with heap := h', drawn := dr, toks := tks }) : wpAny (model PR w) (A.deeper env) (eval (.List es pos) env) Q E s :=
  List_ (res_eval B X T hh hf hk hD hU hR hK x F N h0 fun h1 dr tks vs owns hl F1 N1 r1 => newList_N F1 N1 (fun h2 F2 N2 => h h2 dr tks _ vs owns hl F2 (news_swap N2) r1) (by rw [sizeLine_eq]; omega))
end
end
end Mine
end
section
open PySem PySem.W PySem.Spec PySem.Calls PyProof.Rows
set_option maxRecDepth 100000
namespace Mine
section
variable {w : World} {mean : ExcName → Option Value} {mg mb : Str → Option Value}
theorem lines_p8_1 : True := by
  k_with_none
  (k_with "h ne" => (refine neN ?_; (try dsimp only); first | assumption | (refine Ne.symm ?_; assumption) | (refine Nat.ne_of_lt ?_; assumption) | (refine Nat.ne_of_gt ?_; assumption) | ((repeat (rename (_ ∧ _) => hA9; first | ((repeat (first | exact hA9 | exact Ne.symm hA9 | exact Nat.ne_of_lt hA9 | exact Nat.ne_of_gt hA9 | (obtain ⟨h9a, hA9⟩ := hA9; first | exact h9a | exact Ne.symm h9a | exact Nat.ne_of_lt h9a | exact Nat.ne_of_gt h9a | exact h9a.1 | exact h9a.2.1 | exact h9a.2.2 | exact Ne.symm h9a.1 | exact Ne.symm h9a.2.1 | exact Ne.symm h9a.2.2 | clear h9a))); fail_if_success (focus skip)) | clear hA9)); fail_if_success (focus skip)) | omega))
  (k_with "h rel" => first | assumption | exact IsTup.keeps (by assumption) (Fr.keep (by assumption)) | exact EnvAt.keeps (by assumption) (Fr.keep (by assumption)) | exact SetsAt.keeps (by assumption) (Fr.keep (by assumption)))
  (k_with "call builtin:len" => (k_here; (with_reducible show wpAny _ _ (call (Value.builtin "len") [Value.ref _]) _ _ _); first | refine len_1 (by ktr_rel) ?_ | refine len_2 (by ktr_rel) ?_ | refine len_3 (by ktr_rel) ?_ | refine len_4 (by ktr_rel) ?_))
  (k_with "subscriptTail" => (k_here; (with_reducible show wpAny _ _ (subscriptTail _ _ (Value.ref _) (Value.str _ _)) _ _ _); k_dflt (refine env_item (by (ktr_rel); fail_if_success (focus skip)) (by (assumption); fail_if_success (focus skip)) ?_ (by (with_unfolding_all rfl); fail_if_success (focus skip)); k_whole; intro eT)))
  (k_with "subscriptTail" => (k_here; (with_reducible show wpAny _ _ (subscriptTail _ _ (Value.ref _) (Value.int _ _)) _ _ _); k_dflt (refine item_tupleT (by (ktr_rel); fail_if_success (focus skip)) (by (decide); fail_if_success (focus skip)) (by (decide); fail_if_success (focus skip)) (by (rfl); fail_if_success (focus skip)) (by (rfl); fail_if_success (focus skip)) ?_; k_whole)))
  (k_with "subscriptTail Name Slice ref ref" => (k_here; k_dflt (refine tail_slice (by (k_asm); fail_if_success (focus skip)) (by (k_asm); fail_if_success (focus skip)) (by (ktr_rel); fail_if_success (focus skip)) (by (exact Nat.le_of_ble_eq_true rfl); fail_if_success (focus skip)) ?_ (by (with_unfolding_all rfl); fail_if_success (focus skip)) (by (intro _; with_unfolding_all rfl); fail_if_success (focus skip)); k_whole; intro D' h' F' N' l1; (try k_lt l1); (try k_sweep))))
  (k_with "exec Assign cons ListComp" => (k_here; (with_reducible rename PyProof.Rows.News _ _ _ _ => nx9); (replace nx9 := News.last2 nx9); (change PyProof.Rows.News _ _ _ [(_, _), (_, _)] at nx9); (repeat (rename ((_ : Nat) < _ ∧ _) => lx9; clear lx9)); k_dflt (refine Assign_ListComp_T (by k_asm) (by rfl) (by with_unfolding_all rfl) (by with_unfolding_all rfl) (by decide) (by rfl) (by decide) (by rfl) (by rfl) (by rfl) ?_); (repeat (first | walk1 | (dsimp only; walk1))); k_dflt (refine SrcT.ledger (by first | rfl | assumption) (by k_asm) (by k_asm) (by k_mem) (by exact Nat.le_of_ble_eq_true rfl) ?_; intro g'; lcg_lit)))
  (k_with "h units" => (simp only [units_deeper, units_in1]; first | exact Nat.lt_of_le_of_lt (by (simp +arith); fail_if_success (focus skip)) hD | exact Nat.lt_of_le_of_lt (by (simp +arith); fail_if_success (focus skip)) hU | exact Nat.lt_of_le_of_lt (by (simp +arith); fail_if_success (focus skip)) hD9 | exact Nat.lt_of_le_of_lt (by (simp +arith); fail_if_success (focus skip)) hU9 | omega))
  (k_with "compareOp Eq ref ref" => (k_here; k_dflt (first
      | (refine eq_one_t (by (ktr_rel); fail_if_success (focus skip)) (by (exact News.isTup (by assumption) (by k_mem)); fail_if_success (focus skip)) (by (ktr_units); fail_if_success (focus skip)) (by (first | decide | simp_all); fail_if_success (focus skip)) ?_; k_whole)
      | (refine eq_one_f (by (ktr_rel); fail_if_success (focus skip)) (by (exact News.isTup (by assumption) (by k_mem)); fail_if_success (focus skip)) (by (ktr_units); fail_if_success (focus skip)) (by (first | decide | simp_all); fail_if_success (focus skip)) ?_; k_whole))))
  (k_with "h rel" => exact SAt.keeps (by assumption) (Fr.keep (by assumption)))
  (k_with "compareOp In bool ref" => (k_here; k_dflt (refine in_bools (News.isList (by k_asm) (by k_mem)) ?_)))
  (k_with "compareOp NotIn bool ref" => (k_here; k_dflt (refine notIn_bools (News.isList (by k_asm) (by k_mem)) ?_)))
  (k_with "h inst" => exact InstAt.keeps (by assumption) (Fr.keep (by assumption)))
  (k_with "compareOp NotIn str ref" => (k_here; k_dflt (first | refine env_notin (by ktr_rel) (by assumption) ?_ | refine env_notin_none (by ktr_rel) (by assumption) ?_)))
  (k_with "compareOp In ref ref" => (k_here; k_dflt (first
      | (refine in_two_t (by (exact News.isTup (by assumption) (by k_mem)); fail_if_success (focus skip)) (by (exact News.isTup (by assumption) (by k_mem)); fail_if_success (focus skip)) (by (exact News.isTup (by assumption) (by k_mem)); fail_if_success (focus skip)) (by (ktr_rel); fail_if_success (focus skip)) (by (ktr_units); fail_if_success (focus skip)) (by (first | decide | simp_all); fail_if_success (focus skip)) ?_; k_whole)
      | (refine in_two_f (by (exact News.isTup (by assumption) (by k_mem)); fail_if_success (focus skip)) (by (exact News.isTup (by assumption) (by k_mem)); fail_if_success (focus skip)) (by (exact News.isTup (by assumption) (by k_mem)); fail_if_success (focus skip)) (by (ktr_rel); fail_if_success (focus skip)) (by (ktr_units); fail_if_success (focus skip)) (by (first | decide | simp_all); fail_if_success (focus skip)) ?_; k_whole))))
  (k_with "compareOp NotIn ref ref" => (k_here; k_dflt (first
      | (refine notIn_four_t (by (exact News.isTup (by assumption) (by k_mem)); fail_if_success (focus skip)) (by (exact News.isTup (by assumption) (by k_mem)); fail_if_success (focus skip)) (by (exact News.isTup (by assumption) (by k_mem)); fail_if_success (focus skip)) (by (exact News.isTup (by assumption) (by k_mem)); fail_if_success (focus skip)) (by (exact News.isTup (by assumption) (by k_mem)); fail_if_success (focus skip)) (by (exact News.isTup (by assumption) (by k_mem)); fail_if_success (focus skip)) (by (ktr_units); fail_if_success (focus skip)) (by (first | decide | simp_all); fail_if_success (focus skip)) ?_; k_whole)
      | (refine notIn_four_f (by (exact News.isTup (by assumption) (by k_mem)); fail_if_success (focus skip)) (by (exact News.isTup (by assumption) (by k_mem)); fail_if_success (focus skip)) (by (exact News.isTup (by assumption) (by k_mem)); fail_if_success (focus skip)) (by (exact News.isTup (by assumption) (by k_mem)); fail_if_success (focus skip)) (by (exact News.isTup (by assumption) (by k_mem)); fail_if_success (focus skip)) (by (exact News.isTup (by assumption) (by k_mem)); fail_if_success (focus skip)) (by (ktr_units); fail_if_success (focus skip)) (by (first | decide | simp_all); fail_if_success (focus skip)) ?_; k_whole))))
  (k_with "storeName" => (k_here; k_dflt (refine storeX_U (by k_asm) (by k_asm) ?_ (by rfl) (by rfl)); intro h' F' N'; (try k_sweep)))
  trivial
set_option maxHeartbeats 0 in
theorem laws_union {A : Around} {s : Shared} {Q E : Value → Shared → Prop} {t1 t2 : Tok}
    (C : Cal w mean mg mb A s) (hD : A.depth + 60 < recursionLimit) (hU : A.units + 400 < cLine)
    (h : ∀ D vs k owns h' dr tk, Kept s.heap h' → s.heap.get? D = none → h'.get? D = some { cls := .type "list", data := .seq vs k } → vs.size = 3 → OwnsN s.heap h' owns → RLater w owns vs.toList lawsU → Q (.ref D) { s with heap := h', drawn := dr, toks := tk }) :
    wpAny (model PR w) A (call (.ref 138) [.str (Str.ofString "union") t1, .str (Str.ofString "none") t2]) Q E s := by
    refine enterP (binds := [(Str.ofString "op", .str (Str.ofString "union") t1), (Str.ofString "unit", .str (Str.ofString "none") t2)]) C (by k_is) (by k_is) (by first | exact Nat.lt_of_le_of_lt (by (simp +arith); fail_if_success (focus skip)) hD | exact Nat.lt_of_le_of_lt (by (simp +arith); fail_if_success (focus skip)) hU | exact Nat.lt_of_le_of_lt (by (simp +arith); fail_if_success (focus skip)) hD9 | exact Nat.lt_of_le_of_lt (by (simp +arith); fail_if_success (focus skip)) hU9 | omega) (BindsTo.of_eq rfl) (locs rfl) (fun L' h₁ base outer F N B X T hh => ?_) rfl rfl rfl (by decide)
    clear C
    repeat ((fail_if_success (with_reducible show wpAny _ _ (eval (Expr.List _ _) _) _ _ _)); first | walk1 | (dsimp only; walk1))
    refine rlist_eval (news0 := []) (Rs := lawsU) B X T hh rfl rfl (by omega) (by omega) (fun F h => ?zr) (by k_is) ?zx (by exact Nat.le_of_ble_eq_true rfl) F N (fun _ q => nomatch q) (fun h' dr tks D vs owns hl F' N' R' => ?zk)
    case zr => walk1; exact h
    case zx =>
      show RES w (A.deeper ?ev) ?ev s.heap L' ?mm [] _ _
      have tA : ∀ {p : Pos}, TN w (A.deeper ?ev) ?ev s.heap L' ?mm [] (.Name (Str.ofString "A") p) sA := ⟨fun _ => rfl, fun F h => by walk1; exact h _ fun h'' X'' _ => satA X''⟩
      have tB : ∀ {p : Pos}, TN w (A.deeper ?ev) ?ev s.heap L' ?mm [] (.Name (Str.ofString "B") p) sB := ⟨fun _ => rfl, fun F h => by walk1; exact h _ fun h'' X'' _ => satB X''⟩
      have tC : ∀ {p : Pos}, TN w (A.deeper ?ev) ?ev s.heap L' ?mm [] (.Name (Str.ofString "C") p) sC := ⟨fun _ => rfl, fun F h => by walk1; exact h _ fun h'' X'' _ => satC X''⟩
      have tO : ∀ {p : Pos}, TX w (A.deeper ?ev) ?ev s.heap L' ?mm (.Name (Str.ofString "op") p) (Str.ofString "union") := ⟨fun _ => rfl, fun F h => by walk1; exact h _ _⟩
      have tU : ∀ {p : Pos}, TX w (A.deeper ?ev) ?ev s.heap L' ?mm (.Name (Str.ofString "unit") p) (Str.ofString "none") := ⟨fun _ => rfl, fun F h => by walk1; exact h _ _⟩
      refine .cons (.mk ⟨fun _ => rfl, fun F h => ?f1⟩ (.union tO (.name tA) (.name tB)) (.union tO (.name tB) (.name tA)) ?g1) (.cons (.mk ⟨fun _ => rfl, fun F h => ?f2⟩ (.union tO (.union tO (.name tA) (.name tB)) (.name tC)) (.union tO (.name tA) (.union tO (.name tB) (.name tC))) ?g2) (.cons (.mk ⟨fun _ => rfl, fun F h => ?f3⟩ (.union tO (.name tA) (.none tU)) (.name tA) ?g3) .nil))
      case f1 => k_steps; exact h _ _
      case f2 => k_steps; exact h _ _
      case f3 => k_steps; exact h _ _
      case g1 => exact rfine_of (by decide +kernel)
      case g2 => exact rfine_of (by decide +kernel)
      case g3 => exact rfine_of (by decide +kernel)
    case zk =>
      refine pend F' (h D vs.toArray _ owns h' _ _ (Fr.keep F') (N' _ (.head _)).2.2 (N' _ (.head _)).1 hl (fun q hq => News.ownsN N' q (.tail _ hq)) fun h'' X'' T'' => R' h'' X'' (by rw [List.append_nil]; exact T''))
set_option maxHeartbeats 0 in
theorem laws_meet {A : Around} {s : Shared} {Q E : Value → Shared → Prop} {t1 t2 : Tok}
    (C : Cal w mean mg mb A s) (hD : A.depth + 60 < recursionLimit) (hU : A.units + 400 < cLine)
    (h : ∀ D vs k owns h' dr tk, Kept s.heap h' → s.heap.get? D = none → h'.get? D = some { cls := .type "list", data := .seq vs k } → vs.size = 3 → OwnsN s.heap h' owns → RLater w owns vs.toList lawsM → Q (.ref D) { s with heap := h', drawn := dr, toks := tk }) :
    wpAny (model PR w) A (call (.ref 138) [.str (Str.ofString "meet") t1, .str (Str.ofString "all") t2]) Q E s := by
    refine enterP (binds := [(Str.ofString "op", .str (Str.ofString "meet") t1), (Str.ofString "unit", .str (Str.ofString "all") t2)]) C (by k_is) (by k_is) (by first | exact Nat.lt_of_le_of_lt (by (simp +arith); fail_if_success (focus skip)) hD | exact Nat.lt_of_le_of_lt (by (simp +arith); fail_if_success (focus skip)) hU | exact Nat.lt_of_le_of_lt (by (simp +arith); fail_if_success (focus skip)) hD9 | exact Nat.lt_of_le_of_lt (by (simp +arith); fail_if_success (focus skip)) hU9 | omega) (BindsTo.of_eq rfl) (locs rfl) (fun L' h₁ base outer F N B X T hh => ?_) rfl rfl rfl (by decide)
    clear C
    repeat ((fail_if_success (with_reducible show wpAny _ _ (eval (Expr.List _ _) _) _ _ _)); first | walk1 | (dsimp only; walk1))
    refine rlist_eval (news0 := []) (Rs := lawsM) B X T hh rfl rfl (by omega) (by omega) (fun F h => ?zr) (by k_is) ?zx (by exact Nat.le_of_ble_eq_true rfl) F N (fun _ q => nomatch q) (fun h' dr tks D vs owns hl F' N' R' => ?zk)
    case zr => walk1; exact h
    case zx =>
      show RES w (A.deeper ?ev) ?ev s.heap L' ?mm [] _ _
      have tA : ∀ {p : Pos}, TN w (A.deeper ?ev) ?ev s.heap L' ?mm [] (.Name (Str.ofString "A") p) sA := ⟨fun _ => rfl, fun F h => by walk1; exact h _ fun h'' X'' _ => satA X''⟩
      have tB : ∀ {p : Pos}, TN w (A.deeper ?ev) ?ev s.heap L' ?mm [] (.Name (Str.ofString "B") p) sB := ⟨fun _ => rfl, fun F h => by walk1; exact h _ fun h'' X'' _ => satB X''⟩
      have tC : ∀ {p : Pos}, TN w (A.deeper ?ev) ?ev s.heap L' ?mm [] (.Name (Str.ofString "C") p) sC := ⟨fun _ => rfl, fun F h => by walk1; exact h _ fun h'' X'' _ => satC X''⟩
      have tO : ∀ {p : Pos}, TX w (A.deeper ?ev) ?ev s.heap L' ?mm (.Name (Str.ofString "op") p) (Str.ofString "meet") := ⟨fun _ => rfl, fun F h => by walk1; exact h _ _⟩
      have tU : ∀ {p : Pos}, TX w (A.deeper ?ev) ?ev s.heap L' ?mm (.Name (Str.ofString "unit") p) (Str.ofString "all") := ⟨fun _ => rfl, fun F h => by walk1; exact h _ _⟩
      refine .cons (.mk ⟨fun _ => rfl, fun F h => ?f1⟩ (.meet tO (.name tA) (.name tB)) (.meet tO (.name tB) (.name tA)) ?g1) (.cons (.mk ⟨fun _ => rfl, fun F h => ?f2⟩ (.meet tO (.meet tO (.name tA) (.name tB)) (.name tC)) (.meet tO (.name tA) (.meet tO (.name tB) (.name tC))) ?g2) (.cons (.mk ⟨fun _ => rfl, fun F h => ?f3⟩ (.meet tO (.name tA) (.all tU)) (.name tA) ?g3) .nil))
      case f1 => k_steps; exact h _ _
      case f2 => k_steps; exact h _ _
      case f3 => k_steps; exact h _ _
      case g1 => exact rfine_of (by decide +kernel)
      case g2 => exact rfine_of (by decide +kernel)
      case g3 => exact rfine_of (by decide +kernel)
    case zk =>
      refine pend F' (h D vs.toArray _ owns h' _ _ (Fr.keep F') (N' _ (.head _)).2.2 (N' _ (.head _)).1 hl (fun q hq => News.ownsN N' q (.tail _ hq)) fun h'' X'' T'' => R' h'' X'' (by rw [List.append_nil]; exact T''))
end
end Mine
end
section
open PySem PySem.W PySem.Spec PySem.Calls PyProof.Rows
set_option maxRecDepth 100000
namespace Mine
noncomputable def rules9 : List RuleS := [⟨Str.ofString "union-twice", .union sA sA, sA⟩, ⟨Str.ofString "meet-twice", .meet sA sA, sA⟩, ⟨Str.ofString "union-meet", .union sA (.meet sA sB), sA⟩, ⟨Str.ofString "meet-union", .meet sA (.union sA sB), sA⟩,
  ⟨Str.ofString "union-not", .union sA (.not sA), .all⟩, ⟨Str.ofString "meet-not", .meet sA (.not sA), .none⟩, ⟨Str.ofString "spread", .meet sA (.union sB sC), .union (.meet sA sB) (.meet sA sC)⟩, ⟨Str.ofString "less", .less sA sB, .meet sA (.not sB)⟩,
  ⟨Str.ofString "not-less", .not (.less sA sB), .union (.not sA) sB⟩]
noncomputable def rulesS : List RuleS := (lawsU ++ lawsM) ++ rules9
section
variable {w : World} {mean : ExcName → Option Value} {mg mb : Str → Option Value}
theorem lines_p9_1 : True := by
  k_with_none
  (k_with "h ne" => (refine neN ?_; (try dsimp only); first | assumption | (refine Ne.symm ?_; assumption) | (refine Nat.ne_of_lt ?_; assumption) | (refine Nat.ne_of_gt ?_; assumption) | ((repeat (rename (_ ∧ _) => hA9; first | ((repeat (first | exact hA9 | exact Ne.symm hA9 | exact Nat.ne_of_lt hA9 | exact Nat.ne_of_gt hA9 | (obtain ⟨h9a, hA9⟩ := hA9; first | exact h9a | exact Ne.symm h9a | exact Nat.ne_of_lt h9a | exact Nat.ne_of_gt h9a | exact h9a.1 | exact h9a.2.1 | exact h9a.2.2 | exact Ne.symm h9a.1 | exact Ne.symm h9a.2.1 | exact Ne.symm h9a.2.2 | clear h9a))); fail_if_success (focus skip)) | clear hA9)); fail_if_success (focus skip)) | omega))
  (k_with "h rel" => first | assumption | exact IsTup.keeps (by assumption) (Fr.keep (by assumption)) | exact EnvAt.keeps (by assumption) (Fr.keep (by assumption)) | exact SetsAt.keeps (by assumption) (Fr.keep (by assumption)))
  (k_with "call builtin:len" => (k_here; (with_reducible show wpAny _ _ (call (Value.builtin "len") [Value.ref _]) _ _ _); first | refine len_1 (by ktr_rel) ?_ | refine len_2 (by ktr_rel) ?_ | refine len_3 (by ktr_rel) ?_ | refine len_4 (by ktr_rel) ?_))
  (k_with "subscriptTail" => (k_here; (with_reducible show wpAny _ _ (subscriptTail _ _ (Value.ref _) (Value.str _ _)) _ _ _); k_dflt (refine env_item (by (ktr_rel); fail_if_success (focus skip)) (by (assumption); fail_if_success (focus skip)) ?_ (by (with_unfolding_all rfl); fail_if_success (focus skip)); k_whole; intro eT)))
  (k_with "subscriptTail" => (k_here; (with_reducible show wpAny _ _ (subscriptTail _ _ (Value.ref _) (Value.int _ _)) _ _ _); k_dflt (refine item_tupleT (by (ktr_rel); fail_if_success (focus skip)) (by (decide); fail_if_success (focus skip)) (by (decide); fail_if_success (focus skip)) (by (rfl); fail_if_success (focus skip)) (by (rfl); fail_if_success (focus skip)) ?_; k_whole)))
  (k_with "subscriptTail Name Slice ref ref" => (k_here; k_dflt (refine tail_slice (by (k_asm); fail_if_success (focus skip)) (by (k_asm); fail_if_success (focus skip)) (by (ktr_rel); fail_if_success (focus skip)) (by (exact Nat.le_of_ble_eq_true rfl); fail_if_success (focus skip)) ?_ (by (with_unfolding_all rfl); fail_if_success (focus skip)) (by (intro _; with_unfolding_all rfl); fail_if_success (focus skip)); k_whole; intro D' h' F' N' l1; (try k_lt l1); (try k_sweep))))
  (k_with "exec Assign cons ListComp" => (k_here; (with_reducible rename PyProof.Rows.News _ _ _ _ => nx9); (replace nx9 := News.last2 nx9); (change PyProof.Rows.News _ _ _ [(_, _), (_, _)] at nx9); (repeat (rename ((_ : Nat) < _ ∧ _) => lx9; clear lx9)); k_dflt (refine Assign_ListComp_T (by k_asm) (by rfl) (by with_unfolding_all rfl) (by with_unfolding_all rfl) (by decide) (by rfl) (by decide) (by rfl) (by rfl) (by rfl) ?_); (repeat (first | walk1 | (dsimp only; walk1))); k_dflt (refine SrcT.ledger (by first | rfl | assumption) (by k_asm) (by k_asm) (by k_mem) (by exact Nat.le_of_ble_eq_true rfl) ?_; intro g'; lcg_lit)))
  (k_with "h units" => (simp only [units_deeper, units_in1]; first | exact Nat.lt_of_le_of_lt (by (simp +arith); fail_if_success (focus skip)) hD | exact Nat.lt_of_le_of_lt (by (simp +arith); fail_if_success (focus skip)) hU | exact Nat.lt_of_le_of_lt (by (simp +arith); fail_if_success (focus skip)) hD9 | exact Nat.lt_of_le_of_lt (by (simp +arith); fail_if_success (focus skip)) hU9 | omega))
  (k_with "compareOp Eq ref ref" => (k_here; k_dflt (first
      | (refine eq_one_t (by (ktr_rel); fail_if_success (focus skip)) (by (exact News.isTup (by assumption) (by k_mem)); fail_if_success (focus skip)) (by (ktr_units); fail_if_success (focus skip)) (by (first | decide | simp_all); fail_if_success (focus skip)) ?_; k_whole)
      | (refine eq_one_f (by (ktr_rel); fail_if_success (focus skip)) (by (exact News.isTup (by assumption) (by k_mem)); fail_if_success (focus skip)) (by (ktr_units); fail_if_success (focus skip)) (by (first | decide | simp_all); fail_if_success (focus skip)) ?_; k_whole))))
  (k_with "h rel" => exact SAt.keeps (by assumption) (Fr.keep (by assumption)))
  (k_with "compareOp In bool ref" => (k_here; k_dflt (refine in_bools (News.isList (by k_asm) (by k_mem)) ?_)))
  (k_with "compareOp NotIn bool ref" => (k_here; k_dflt (refine notIn_bools (News.isList (by k_asm) (by k_mem)) ?_)))
  (k_with "h inst" => exact InstAt.keeps (by assumption) (Fr.keep (by assumption)))
  (k_with "compareOp NotIn str ref" => (k_here; k_dflt (first | refine env_notin (by ktr_rel) (by assumption) ?_ | refine env_notin_none (by ktr_rel) (by assumption) ?_)))
  (k_with "compareOp In ref ref" => (k_here; k_dflt (first
      | (refine in_two_t (by (exact News.isTup (by assumption) (by k_mem)); fail_if_success (focus skip)) (by (exact News.isTup (by assumption) (by k_mem)); fail_if_success (focus skip)) (by (exact News.isTup (by assumption) (by k_mem)); fail_if_success (focus skip)) (by (ktr_rel); fail_if_success (focus skip)) (by (ktr_units); fail_if_success (focus skip)) (by (first | decide | simp_all); fail_if_success (focus skip)) ?_; k_whole)
      | (refine in_two_f (by (exact News.isTup (by assumption) (by k_mem)); fail_if_success (focus skip)) (by (exact News.isTup (by assumption) (by k_mem)); fail_if_success (focus skip)) (by (exact News.isTup (by assumption) (by k_mem)); fail_if_success (focus skip)) (by (ktr_rel); fail_if_success (focus skip)) (by (ktr_units); fail_if_success (focus skip)) (by (first | decide | simp_all); fail_if_success (focus skip)) ?_; k_whole))))
  (k_with "compareOp NotIn ref ref" => (k_here; k_dflt (first
      | (refine notIn_four_t (by (exact News.isTup (by assumption) (by k_mem)); fail_if_success (focus skip)) (by (exact News.isTup (by assumption) (by k_mem)); fail_if_success (focus skip)) (by (exact News.isTup (by assumption) (by k_mem)); fail_if_success (focus skip)) (by (exact News.isTup (by assumption) (by k_mem)); fail_if_success (focus skip)) (by (exact News.isTup (by assumption) (by k_mem)); fail_if_success (focus skip)) (by (exact News.isTup (by assumption) (by k_mem)); fail_if_success (focus skip)) (by (ktr_units); fail_if_success (focus skip)) (by (first | decide | simp_all); fail_if_success (focus skip)) ?_; k_whole)
      | (refine notIn_four_f (by (exact News.isTup (by assumption) (by k_mem)); fail_if_success (focus skip)) (by (exact News.isTup (by assumption) (by k_mem)); fail_if_success (focus skip)) (by (exact News.isTup (by assumption) (by k_mem)); fail_if_success (focus skip)) (by (exact News.isTup (by assumption) (by k_mem)); fail_if_success (focus skip)) (by (exact News.isTup (by assumption) (by k_mem)); fail_if_success (focus skip)) (by (exact News.isTup (by assumption) (by k_mem)); fail_if_success (focus skip)) (by (ktr_units); fail_if_success (focus skip)) (by (first | decide | simp_all); fail_if_success (focus skip)) ?_; k_whole))))
  (k_with "storeName" => (k_here; k_dflt (refine storeX_U (by k_asm) (by k_asm) ?_ (by rfl) (by rfl)); intro h' F' N'; (try k_sweep)))
  (k_with "h rel" => first
      | exact satA (by assumption) | exact satB (by assumption) | exact satC (by assumption)
      | exact SAt.none (Tups.tup (by assumption) (by k_mem)) | exact SAt.all (Tups.tup (by assumption) (by k_mem))
      | exact SAt.not (Tups.tup (by assumption) (by k_mem)) (by ktr_rel)
      | exact SAt.union (Tups.tup (by assumption) (by k_mem)) (by ktr_rel) (by ktr_rel)
      | exact SAt.meet (Tups.tup (by assumption) (by k_mem)) (by ktr_rel) (by ktr_rel)
      | exact SAt.less (Tups.tup (by assumption) (by k_mem)) (by ktr_rel) (by ktr_rel))
  (k_with "newTuple" => (k_here; kup_bare; k_dflt (refine kup_newTuple (by (k_asm); fail_if_success (focus skip)) (by (k_asm); fail_if_success (focus skip)) ?_ (by (kmk_size); fail_if_success (focus skip))); intro D' h' F' N' l1; clear l1; (try k_sweep)))
  (k_with "call ref" => (k_here; (with_reducible show wpAny _ _ (call (Value.ref 113) _) _ _ _); k_dflt (refine rule_use (by (k_asm); fail_if_success (focus skip)) (by (k_asm); fail_if_success (focus skip)) (by (k_asm); fail_if_success (focus skip)) (by (k_asm); fail_if_success (focus skip)) (by (k_asm); fail_if_success (focus skip)) (by (first | exact rfl | k_asm); fail_if_success (focus skip)) (by (exact rfl); fail_if_success (focus skip)) (by (exact rfl); fail_if_success (focus skip)) (by ((try dsimp only); first | exact Nat.lt_of_le_of_lt (by (simp +arith); fail_if_success (focus skip)) hD | exact Nat.lt_of_le_of_lt (by (simp +arith); fail_if_success (focus skip)) hU | exact Nat.lt_of_le_of_lt (by (simp +arith); fail_if_success (focus skip)) hD9 | exact Nat.lt_of_le_of_lt (by (simp +arith); fail_if_success (focus skip)) hU9 | omega); fail_if_success (focus skip)) (by ((try dsimp only); first | exact Nat.lt_of_le_of_lt (by (simp +arith); fail_if_success (focus skip)) hD | exact Nat.lt_of_le_of_lt (by (simp +arith); fail_if_success (focus skip)) hU | exact Nat.lt_of_le_of_lt (by (simp +arith); fail_if_success (focus skip)) hD9 | exact Nat.lt_of_le_of_lt (by (simp +arith); fail_if_success (focus skip)) hU9 | omega); fail_if_success (focus skip)) (by (intro X' T'; ktr_rel); fail_if_success (focus skip)) (by (intro X' T'; ktr_rel); fail_if_success (focus skip)) (by (intro T'; exact Tups.tup T' (by k_mem)); fail_if_success (focus skip)) (by (exact Nat.le_of_ble_eq_true rfl); fail_if_success (focus skip)) (by (exact Nat.le_of_ble_eq_true rfl); fail_if_success (focus skip)) (by ((simp only [St.short] <;> decide)); fail_if_success (focus skip)) (by ((simp only [St.short] <;> decide)); fail_if_success (focus skip)) (by (decide +kernel); fail_if_success (focus skip)) (by (decide +kernel); fail_if_success (focus skip)) ?_; k_whole; intro h' dr' tk' x' d' h1' h2' h3' h4' t1' t2' t3' t4' t5' n' F' N'; (try k_sweep); (try dsimp only))))
  (k_with "call ref" => (k_here; (with_reducible show wpAny _ _ (call (Value.ref 138) _) _ _ _); k_dflt (first
      | (refine laws_union (Cal.site (by k_asm) (by k_asm) (by k_asm) (by k_asm) rfl rfl rfl) (by (try simp only [depth_deeper]); first | exact Nat.lt_of_le_of_lt (by (simp +arith); fail_if_success (focus skip)) hD | exact Nat.lt_of_le_of_lt (by (simp +arith); fail_if_success (focus skip)) hU | exact Nat.lt_of_le_of_lt (by (simp +arith); fail_if_success (focus skip)) hD9 | exact Nat.lt_of_le_of_lt (by (simp +arith); fail_if_success (focus skip)) hU9 | omega) (by (try simp only [units_deeper]); first | exact Nat.lt_of_le_of_lt (by (simp +arith); fail_if_success (focus skip)) hD | exact Nat.lt_of_le_of_lt (by (simp +arith); fail_if_success (focus skip)) hU | exact Nat.lt_of_le_of_lt (by (simp +arith); fail_if_success (focus skip)) hD9 | exact Nat.lt_of_le_of_lt (by (simp +arith); fail_if_success (focus skip)) hU9 | omega) (fun D' vs' k' owns' h' dr' tk' kp' hn' hD' hs' O' hR' => ?_))
      | (refine laws_meet (Cal.site (by k_asm) (by k_asm) (by k_asm) (by k_asm) rfl rfl rfl) (by (try simp only [depth_deeper]); first | exact Nat.lt_of_le_of_lt (by (simp +arith); fail_if_success (focus skip)) hD | exact Nat.lt_of_le_of_lt (by (simp +arith); fail_if_success (focus skip)) hU | exact Nat.lt_of_le_of_lt (by (simp +arith); fail_if_success (focus skip)) hD9 | exact Nat.lt_of_le_of_lt (by (simp +arith); fail_if_success (focus skip)) hU9 | omega) (by (try simp only [units_deeper]); first | exact Nat.lt_of_le_of_lt (by (simp +arith); fail_if_success (focus skip)) hD | exact Nat.lt_of_le_of_lt (by (simp +arith); fail_if_success (focus skip)) hU | exact Nat.lt_of_le_of_lt (by (simp +arith); fail_if_success (focus skip)) hD9 | exact Nat.lt_of_le_of_lt (by (simp +arith); fail_if_success (focus skip)) hU9 | omega) (fun D' vs' k' owns' h' dr' tk' kp' hn' hD' hs' O' hR' => ?_))); (rename Fr _ _ _ _ => F'); (rename News _ _ _ _ => N'); (have FN' := lst_use F' N' kp' hn' hD' O'); (clear F' N' kp' hn' hD' O'); (obtain ⟨F', N'⟩ := FN'); (try simp only [List.cons_append, List.nil_append, List.append_assoc] at N'); (try dsimp only)))
  (k_with "binaryOp Add ref ref" => (k_here; k_dflt (refine add_arrays (by k_asm) (by k_asm) (News.isList (by k_asm) (by k_mem)) (News.isList (by k_asm) (by k_mem)) (fun h' F' N' => ?_) (by rw [sizeLine_eq]; (try simp only [List.size_toArray, List.length_append, Array.length_toList, List.length_cons, List.length_nil]); omega)); (try k_sweep)))
  trivial
set_option maxHeartbeats 0 in
theorem rules_call {A : Around} {s : Shared} {x : Addr} {Q E : Value → Shared → Prop}
    (C : Cal w mean mg mb A s) (hD : A.depth + 80 < recursionLimit) (hU : A.units + 500 < cLine)
    (h : ∀ D vs k owns h' dr tk, Kept s.heap h' → s.heap.get? D = none → h'.get? D = some { cls := .type "list", data := .seq vs k } → vs.size = 15 → OwnsN s.heap h' owns → RLater w owns vs.toList rulesS → Q (.ref D) { s with heap := h', drawn := dr, toks := tk }) :
    wpAny (model PR w) A (call (.ref 159) [.ref x]) Q E s := by
    refine enterP (binds := [(Str.ofString "self", .ref x)]) C (by k_is) (by k_is) (by first | exact Nat.lt_of_le_of_lt (by (simp +arith); fail_if_success (focus skip)) hD | exact Nat.lt_of_le_of_lt (by (simp +arith); fail_if_success (focus skip)) hU | exact Nat.lt_of_le_of_lt (by (simp +arith); fail_if_success (focus skip)) hD9 | exact Nat.lt_of_le_of_lt (by (simp +arith); fail_if_success (focus skip)) hU9 | omega) (BindsTo.of_eq rfl) (locs rfl) (fun L' h₁ base outer F N B X T hh => ?_) rfl rfl rfl (by decide)
    clear C
    obtain ⟨ha, ad, af, ag, au⟩ := A
    replace hh : ha = Option.none := hh
    subst hh
    dsimp only at hD hU
    repeat ((fail_if_success (with_reducible show wpAny _ _ (eval (Expr.List _ _) _) _ _ _)); first | walk1 | (dsimp only; walk1))
    rename Fr _ _ _ _ => F8
    rename News _ _ _ _ => N8
    refine rlist_eval (Rs := rules9) B X T rfl rfl rfl (by (try dsimp only); omega) (by (try dsimp only); omega) (fun F h => ?zr) ?zw ?zx ?zz F8 N8 (fun _ q => q) (fun h' dr tks D vs owns hl F' N' R' => ?zk)
    case zz => exact Nat.le_of_ble_eq_true rfl
    case zw => k_is
    case zr => walk1; exact h
    case zx =>
      clear F8 N8
      show RES w ?aa ?ev ?hz ?ll ?mm ?nn _ _
      have tA : ∀ {p : Pos}, TN w ?aa ?ev ?hz ?ll ?mm ?nn (.Name (Str.ofString "A") p) sA := ⟨fun _ => rfl, fun F h => by walk1; exact h _ fun h'' X'' _ => satA X''⟩
      have tB : ∀ {p : Pos}, TN w ?aa ?ev ?hz ?ll ?mm ?nn (.Name (Str.ofString "B") p) sB := ⟨fun _ => rfl, fun F h => by walk1; exact h _ fun h'' X'' _ => satB X''⟩
      have tC : ∀ {p : Pos}, TN w ?aa ?ev ?hz ?ll ?mm ?nn (.Name (Str.ofString "C") p) sC := ⟨fun _ => rfl, fun F h => by walk1; exact h _ fun h'' X'' _ => satC X''⟩
      have tN : ∀ {p : Pos}, TN w ?aa ?ev ?hz ?ll ?mm ?nn (.Name (Str.ofString "none") p) .none := ⟨fun _ => rfl, fun F h => by walk1; exact h _ fun h'' X'' T'' => .none (Tups.tup T'' (by k_mem))⟩
      have tW : ∀ {p : Pos}, TN w ?aa ?ev ?hz ?ll ?mm ?nn (.Name (Str.ofString "whole") p) .all := ⟨fun _ => rfl, fun F h => by walk1; exact h _ fun h'' X'' T'' => .all (Tups.tup T'' (by k_mem))⟩
      refine .cons (.mk tx_const (.union tx_const (.name tA) (.name tA)) (.name tA) (rfine_of (by decide +kernel))) ?_
      refine .cons (.mk tx_const (.meet tx_const (.name tA) (.name tA)) (.name tA) (rfine_of (by decide +kernel))) ?_
      refine .cons (.mk tx_const (.union tx_const (.name tA) (.meet tx_const (.name tA) (.name tB))) (.name tA) (rfine_of (by decide +kernel))) ?_
      refine .cons (.mk tx_const (.meet tx_const (.name tA) (.union tx_const (.name tA) (.name tB))) (.name tA) (rfine_of (by decide +kernel))) ?_
      refine .cons (.mk tx_const (.union tx_const (.name tA) (.not tx_const (.name tA))) (.name tW) (rfine_of (by decide +kernel))) ?_
      refine .cons (.mk tx_const (.meet tx_const (.name tA) (.not tx_const (.name tA))) (.name tN) (rfine_of (by decide +kernel))) ?_
      refine .cons (.mk tx_const (.meet tx_const (.name tA) (.union tx_const (.name tB) (.name tC))) (.union tx_const (.meet tx_const (.name tA) (.name tB)) (.meet tx_const (.name tA) (.name tC))) (rfine_of (by decide +kernel))) ?_
      refine .cons (.mk tx_const (.less tx_const (.name tA) (.name tB)) (.meet tx_const (.name tA) (.not tx_const (.name tB))) (rfine_of (by decide +kernel))) ?_
      refine .cons (.mk tx_const (.not tx_const (.less tx_const (.name tA) (.name tB))) (.union tx_const (.not tx_const (.name tA)) (.name tB)) (rfine_of (by decide +kernel))) .nil
    case zk =>
      clear F8 N8
      rename RLater _ _ _ lawsU => r1
      rename RLater _ _ _ lawsM => r2
      simp only [List.length_cons, List.length_nil] at hl
      simp only [List.cons_append, List.append_assoc] at N'
      k_steps
      rename Fr _ _ _ _ => F'
      rename News _ _ _ _ => N'
      refine' pend F' (h _ _ _ _ _ _ _ (Fr.keep F') ?zn ?zg ?zs (News.ownsN N') ?zl)
      case zg => exact News.get N' (by k_mem)
      case zs => simp only [List.size_toArray, List.length_append, Array.length_toList, List.length_cons, List.length_nil]; omega
      case zn => exact (N' (_, ({ cls := .type "list", data := .seq _ _ } : Obj)) (by k_mem)).2.2
      case zl =>
        intro h'' X'' T''
        have T1 : Tups h'' _ := fun q hq => T'' q (by (repeat refine List.Mem.tail _ ?_); exact List.mem_append_left _ hq)
        have T2 : Tups h'' _ := fun q hq => T'' q (by (repeat refine List.Mem.tail _ ?_); exact List.mem_append_right _ (List.mem_append_left _ hq))
        have T3 : Tups h'' _ := fun q hq => T'' q (by (repeat refine List.Mem.tail _ ?_); exact List.mem_append_right _ (List.mem_append_right _ hq))
        have R9 := RAt.append (r1 h'' X'' T1) (r2 h'' X'' T2)
        refine RAt.append R9 ?_
        simp only [List.toList_toArray]
        refine R' h'' X'' (tups_app T3 ?_)
        have T4 := tups_t (tups_t T'')
        revert T4
        repeat (refine tups_cc ?_)
        exact fun _ => tups_app T1 T2
end
end Mine
end
section
open PySem PySem.W PySem.Spec PySem.Calls PyProof.Rows
set_option maxRecDepth 100000
namespace Mine
section
variable {w : World} {mean : ExcName → Option Value} {mg mb : Str → Option Value}
theorem lines_p1_1 : True := by
  k_with_none
  (k_with "h ne" => (refine neN ?_; (try dsimp only); first | assumption | (refine Ne.symm ?_; assumption) | (refine Nat.ne_of_lt ?_; assumption) | (refine Nat.ne_of_gt ?_; assumption) | ((repeat (rename (_ ∧ _) => hA9; first | ((repeat (first | exact hA9 | exact Ne.symm hA9 | exact Nat.ne_of_lt hA9 | exact Nat.ne_of_gt hA9 | (obtain ⟨h9a, hA9⟩ := hA9; first | exact h9a | exact Ne.symm h9a | exact Nat.ne_of_lt h9a | exact Nat.ne_of_gt h9a | exact h9a.1 | exact h9a.2.1 | exact h9a.2.2 | exact Ne.symm h9a.1 | exact Ne.symm h9a.2.1 | exact Ne.symm h9a.2.2 | clear h9a))); fail_if_success (focus skip)) | clear hA9)); fail_if_success (focus skip)) | omega))
  (k_with "h rel" => first | assumption | exact IsTup.keeps (by assumption) (Fr.keep (by assumption)) | exact EnvAt.keeps (by assumption) (Fr.keep (by assumption)) | exact SetsAt.keeps (by assumption) (Fr.keep (by assumption)))
  (k_with "call builtin:len" => (k_here; (with_reducible show wpAny _ _ (call (Value.builtin "len") [Value.ref _]) _ _ _); first | refine len_1 (by ktr_rel) ?_ | refine len_2 (by ktr_rel) ?_ | refine len_3 (by ktr_rel) ?_ | refine len_4 (by ktr_rel) ?_))
  (k_with "subscriptTail" => (k_here; (with_reducible show wpAny _ _ (subscriptTail _ _ (Value.ref _) (Value.str _ _)) _ _ _); k_dflt (refine env_item (by (ktr_rel); fail_if_success (focus skip)) (by (assumption); fail_if_success (focus skip)) ?_ (by (with_unfolding_all rfl); fail_if_success (focus skip)); k_whole; intro eT)))
  (k_with "subscriptTail" => (k_here; (with_reducible show wpAny _ _ (subscriptTail _ _ (Value.ref _) (Value.int _ _)) _ _ _); k_dflt (refine item_tupleT (by (ktr_rel); fail_if_success (focus skip)) (by (decide); fail_if_success (focus skip)) (by (decide); fail_if_success (focus skip)) (by (rfl); fail_if_success (focus skip)) (by (rfl); fail_if_success (focus skip)) ?_; k_whole)))
  (k_with "subscriptTail Name Slice ref ref" => (k_here; k_dflt (refine tail_slice (by (k_asm); fail_if_success (focus skip)) (by (k_asm); fail_if_success (focus skip)) (by (ktr_rel); fail_if_success (focus skip)) (by (exact Nat.le_of_ble_eq_true rfl); fail_if_success (focus skip)) ?_ (by (with_unfolding_all rfl); fail_if_success (focus skip)) (by (intro _; with_unfolding_all rfl); fail_if_success (focus skip)); k_whole; intro D' h' F' N' l1; (try k_lt l1); (try k_sweep))))
  (k_with "exec Assign cons ListComp" => (k_here; (with_reducible rename PyProof.Rows.News _ _ _ _ => nx9); (replace nx9 := News.last2 nx9); (change PyProof.Rows.News _ _ _ [(_, _), (_, _)] at nx9); (repeat (rename ((_ : Nat) < _ ∧ _) => lx9; clear lx9)); k_dflt (refine Assign_ListComp_T (by k_asm) (by rfl) (by with_unfolding_all rfl) (by with_unfolding_all rfl) (by decide) (by rfl) (by decide) (by rfl) (by rfl) (by rfl) ?_); (repeat (first | walk1 | (dsimp only; walk1))); k_dflt (refine SrcT.ledger (by first | rfl | assumption) (by k_asm) (by k_asm) (by k_mem) (by exact Nat.le_of_ble_eq_true rfl) ?_; intro g'; lcg_lit)))
  (k_with "h units" => (simp only [units_deeper, units_in1]; first | exact Nat.lt_of_le_of_lt (by (simp +arith); fail_if_success (focus skip)) hD | exact Nat.lt_of_le_of_lt (by (simp +arith); fail_if_success (focus skip)) hU | exact Nat.lt_of_le_of_lt (by (simp +arith); fail_if_success (focus skip)) hD9 | exact Nat.lt_of_le_of_lt (by (simp +arith); fail_if_success (focus skip)) hU9 | omega))
  (k_with "compareOp Eq ref ref" => (k_here; k_dflt (first
      | (refine eq_one_t (by (ktr_rel); fail_if_success (focus skip)) (by (exact News.isTup (by assumption) (by k_mem)); fail_if_success (focus skip)) (by (ktr_units); fail_if_success (focus skip)) (by (first | decide | simp_all); fail_if_success (focus skip)) ?_; k_whole)
      | (refine eq_one_f (by (ktr_rel); fail_if_success (focus skip)) (by (exact News.isTup (by assumption) (by k_mem)); fail_if_success (focus skip)) (by (ktr_units); fail_if_success (focus skip)) (by (first | decide | simp_all); fail_if_success (focus skip)) ?_; k_whole))))
  (k_with "h rel" => exact SAt.keeps (by assumption) (Fr.keep (by assumption)))
  (k_with "compareOp In bool ref" => (k_here; k_dflt (refine in_bools (News.isList (by k_asm) (by k_mem)) ?_)))
  (k_with "compareOp NotIn bool ref" => (k_here; k_dflt (refine notIn_bools (News.isList (by k_asm) (by k_mem)) ?_)))
  (k_with "h inst" => exact InstAt.keeps (by assumption) (Fr.keep (by assumption)))
  (k_with "compareOp NotIn str ref" => (k_here; k_dflt (first | refine env_notin (by ktr_rel) (by assumption) ?_ | refine env_notin_none (by ktr_rel) (by assumption) ?_)))
  (k_with "compareOp In ref ref" => (k_here; k_dflt (first
      | (refine in_two_t (by (exact News.isTup (by assumption) (by k_mem)); fail_if_success (focus skip)) (by (exact News.isTup (by assumption) (by k_mem)); fail_if_success (focus skip)) (by (exact News.isTup (by assumption) (by k_mem)); fail_if_success (focus skip)) (by (ktr_rel); fail_if_success (focus skip)) (by (ktr_units); fail_if_success (focus skip)) (by (first | decide | simp_all); fail_if_success (focus skip)) ?_; k_whole)
      | (refine in_two_f (by (exact News.isTup (by assumption) (by k_mem)); fail_if_success (focus skip)) (by (exact News.isTup (by assumption) (by k_mem)); fail_if_success (focus skip)) (by (exact News.isTup (by assumption) (by k_mem)); fail_if_success (focus skip)) (by (ktr_rel); fail_if_success (focus skip)) (by (ktr_units); fail_if_success (focus skip)) (by (first | decide | simp_all); fail_if_success (focus skip)) ?_; k_whole))))
  (k_with "compareOp NotIn ref ref" => (k_here; k_dflt (first
      | (refine notIn_four_t (by (exact News.isTup (by assumption) (by k_mem)); fail_if_success (focus skip)) (by (exact News.isTup (by assumption) (by k_mem)); fail_if_success (focus skip)) (by (exact News.isTup (by assumption) (by k_mem)); fail_if_success (focus skip)) (by (exact News.isTup (by assumption) (by k_mem)); fail_if_success (focus skip)) (by (exact News.isTup (by assumption) (by k_mem)); fail_if_success (focus skip)) (by (exact News.isTup (by assumption) (by k_mem)); fail_if_success (focus skip)) (by (ktr_units); fail_if_success (focus skip)) (by (first | decide | simp_all); fail_if_success (focus skip)) ?_; k_whole)
      | (refine notIn_four_f (by (exact News.isTup (by assumption) (by k_mem)); fail_if_success (focus skip)) (by (exact News.isTup (by assumption) (by k_mem)); fail_if_success (focus skip)) (by (exact News.isTup (by assumption) (by k_mem)); fail_if_success (focus skip)) (by (exact News.isTup (by assumption) (by k_mem)); fail_if_success (focus skip)) (by (exact News.isTup (by assumption) (by k_mem)); fail_if_success (focus skip)) (by (exact News.isTup (by assumption) (by k_mem)); fail_if_success (focus skip)) (by (ktr_units); fail_if_success (focus skip)) (by (first | decide | simp_all); fail_if_success (focus skip)) ?_; k_whole))))
  (k_with "storeName" => (k_here; k_dflt (refine storeX_U (by k_asm) (by k_asm) ?_ (by rfl) (by rfl)); intro h' F' N'; (try k_sweep)))
  trivial
/-- what a call of _law_is_in gives -/
noncomputable def IsInC (w : World) (mean : ExcName → Option Value) (mg mb : Str → Option Value) (e : Str → Option Int) (ea : Addr) (k : Nat) (t : St) : Prop :=
  ∀ {A : Around} {s : Shared} {v : Value} {tk : Tok} {Q E : Value → Shared → Prop},
    Cal w mean mg mb A s → A.depth + t.size < recursionLimit → A.units + 8 * t.size < cLine → SAt s.heap v t → EnvAt w s.heap ea e → t.ok e →
    (∀ h' tk', Kept s.heap h' → Q (.bool (t.isIn e k)) { s with heap := h', toks := tk' }) → wpAny (model PR w) A (call (.ref 190) [v, .ref ea, .int k tk]) Q E s
theorem IsInC.use {e : Str → Option Int} {ea : Addr} {k : Nat} {t : St} {A : Around} {base h₀ : Heap} {outer : List Env} {L : Addr} {m : Str → Option Value} {env : Env} {news : List (Addr × Obj)} {s : Shared} {v : Value} {tk : Tok} {Q E : Value → Shared → Prop}
    (B : Below A base outer h₀) (F : Fr h₀ L s.heap m) (X : (hd.heap_39 w.params).In h₀) (T : Top hd.view_39 LO mean mg mb h₀) (N : News h₀ L s.heap news) (hh : A.handled = none) (hf : env.frame = some L) (hk : env.scope.kind = .function)
    (hv : SAt s.heap v t) (c : IsInC w mean mg mb e ea k t) (he : EnvAt w s.heap ea e) (hok : t.ok e) (hD : A.depth + 1 + t.size < recursionLimit) (hU : A.units + 3 + 8 * t.size < cLine)
    (h : ∀ h' tk', Fr h₀ L h' m → News h₀ L h' news → Q (.bool (t.isIn e k)) { s with heap := h', toks := tk' }) : wpAny (model PR w) (A.deeper env) (call (.ref 190) [v, .ref ea, .int k tk]) Q E s :=
  c (Cal.site B F X T hh hf hk) hD hU hv he hok fun h' tk' kp => h h' tk' (F.keeps kp) (N.grown kp)

theorem lines_p1_2 : True := by
  (k_with "call ref" => (k_here; (with_reducible show wpAny _ _ (call (Value.ref 190) _) _ _ _); k_dflt (refine IsInC.use (by (k_asm); fail_if_success (focus skip)) (by (k_asm); fail_if_success (focus skip)) (by (k_asm); fail_if_success (focus skip)) (by (k_asm); fail_if_success (focus skip)) (by (k_asm); fail_if_success (focus skip)) (by (first | exact rfl | k_asm); fail_if_success (focus skip)) (by (exact rfl); fail_if_success (focus skip)) (by (exact rfl); fail_if_success (focus skip)) (by (ktr_rel); fail_if_success (focus skip)) (by (k_asm); fail_if_success (focus skip)) (by (ktr_rel); fail_if_success (focus skip)) (by (k_asm); fail_if_success (focus skip)) (by (first | exact Nat.lt_of_le_of_lt (by (simp +arith); fail_if_success (focus skip)) hD | exact Nat.lt_of_le_of_lt (by (simp +arith); fail_if_success (focus skip)) hU | exact Nat.lt_of_le_of_lt (by (simp +arith); fail_if_success (focus skip)) hD9 | exact Nat.lt_of_le_of_lt (by (simp +arith); fail_if_success (focus skip)) hU9 | omega); fail_if_success (focus skip)) (by (first | exact Nat.lt_of_le_of_lt (by (simp +arith); fail_if_success (focus skip)) hD | exact Nat.lt_of_le_of_lt (by (simp +arith); fail_if_success (focus skip)) hU | exact Nat.lt_of_le_of_lt (by (simp +arith); fail_if_success (focus skip)) hD9 | exact Nat.lt_of_le_of_lt (by (simp +arith); fail_if_success (focus skip)) hU9 | omega); fail_if_success (focus skip)) ?_; k_whole; intro h' tk' F' N'; (try k_sweep); (try dsimp only))))
  trivial
set_option maxHeartbeats 0 in
theorem isin_call (e : Str → Option Int) (ea : Addr) (k : Nat) (hk : k < 8) (t : St) : IsInC w mean mg mb e ea k t := by
  induction t with
  | none =>
    intro A s v tk Q E C hD hU ht he hok h
    simp only [St.size] at hD hU
    cases ht with
    | none ht =>
    rename_i a tk'
    refine enterC (binds := [(Str.ofString "term", .ref a), (Str.ofString "env", .ref ea), (Str.ofString "thing", .int k tk)]) C (by k_is) (by k_is) (by first | exact Nat.lt_of_le_of_lt (by (simp +arith); fail_if_success (focus skip)) hD | exact Nat.lt_of_le_of_lt (by (simp +arith); fail_if_success (focus skip)) hU | exact Nat.lt_of_le_of_lt (by (simp +arith); fail_if_success (focus skip)) hD9 | exact Nat.lt_of_le_of_lt (by (simp +arith); fail_if_success (focus skip)) hU9 | omega) (BindsTo.of_eq rfl) rfl (by decide +kernel) (fun L' h₁ tk cells base outer F N Y B X T hh => ?_) rfl rfl rfl
    clear C
    k_cells Y
    (try simp only [List.cons_append, List.nil_append] at N)
    refine post_abs (fun R9 E9 hR9 => ?_)
    k_steps
    all_goals exact hR9 _ _ <| pend_bool (by assumption) rfl (h _ _ (Fr.keep (by assumption)))
  | all =>
    intro A s v tk Q E C hD hU ht he hok h
    simp only [St.size] at hD hU
    cases ht with
    | all ht =>
    rename_i a tk'
    refine enterC (binds := [(Str.ofString "term", .ref a), (Str.ofString "env", .ref ea), (Str.ofString "thing", .int k tk)]) C (by k_is) (by k_is) (by first | exact Nat.lt_of_le_of_lt (by (simp +arith); fail_if_success (focus skip)) hD | exact Nat.lt_of_le_of_lt (by (simp +arith); fail_if_success (focus skip)) hU | exact Nat.lt_of_le_of_lt (by (simp +arith); fail_if_success (focus skip)) hD9 | exact Nat.lt_of_le_of_lt (by (simp +arith); fail_if_success (focus skip)) hU9 | omega) (BindsTo.of_eq rfl) rfl (by decide +kernel) (fun L' h₁ tk cells base outer F N Y B X T hh => ?_) rfl rfl rfl
    clear C
    k_cells Y
    (try simp only [List.cons_append, List.nil_append] at N)
    refine post_abs (fun R9 E9 hR9 => ?_)
    k_steps
    all_goals exact hR9 _ _ <| pend_bool (by assumption) rfl (h _ _ (Fr.keep (by assumption)))
  | name x =>
    intro A s v tk Q E C hD hU ht he hok h
    simp only [St.size] at hD hU
    cases ht with
    | name ht =>
    rename_i a tk'
    obtain ⟨n1, n2, n, hn, hn0, hn1⟩ := hok
    refine enterC (binds := [(Str.ofString "term", .ref a), (Str.ofString "env", .ref ea), (Str.ofString "thing", .int k tk)]) C (by k_is) (by k_is) (by first | exact Nat.lt_of_le_of_lt (by (simp +arith); fail_if_success (focus skip)) hD | exact Nat.lt_of_le_of_lt (by (simp +arith); fail_if_success (focus skip)) hU | exact Nat.lt_of_le_of_lt (by (simp +arith); fail_if_success (focus skip)) hD9 | exact Nat.lt_of_le_of_lt (by (simp +arith); fail_if_success (focus skip)) hU9 | omega) (BindsTo.of_eq rfl) rfl (by decide +kernel) (fun L' h₁ tk cells base outer F N Y B X T hh => ?_) rfl rfl rfl
    clear C
    k_cells Y
    (try simp only [List.cons_append, List.nil_append] at N)
    refine post_abs (fun R9 E9 hR9 => ?_)
    k_steps
    all_goals exact hR9 _ _ <| pend_bool (by assumption) (by simp [St.isIn, hn]) (h _ _ (Fr.keep (by assumption)))
  | not x ih =>
    intro A s v tk Q E C hD hU ht he hok h
    simp only [St.size] at hD hU
    cases ht with
    | not ht hx =>
    rename_i a tk' v'
    have hok1 : x.ok e := hok
    refine enterC (binds := [(Str.ofString "term", .ref a), (Str.ofString "env", .ref ea), (Str.ofString "thing", .int k tk)]) C (by k_is) (by k_is) (by first | exact Nat.lt_of_le_of_lt (by (simp +arith); fail_if_success (focus skip)) hD | exact Nat.lt_of_le_of_lt (by (simp +arith); fail_if_success (focus skip)) hU | exact Nat.lt_of_le_of_lt (by (simp +arith); fail_if_success (focus skip)) hD9 | exact Nat.lt_of_le_of_lt (by (simp +arith); fail_if_success (focus skip)) hU9 | omega) (BindsTo.of_eq rfl) rfl (by decide +kernel) (fun L' h₁ tk cells base outer F N Y B X T hh => ?_) rfl rfl rfl
    clear C
    k_cells Y
    (try simp only [List.cons_append, List.nil_append] at N)
    refine post_abs (fun R9 E9 hR9 => ?_)
    k_steps
    all_goals exact hR9 _ _ <| pend_bool (by assumption) (by simp [St.isIn]) (h _ _ (Fr.keep (by assumption)))
  | union x y ihx ihy =>
    intro A s v tk Q E C hD hU ht he hok h
    simp only [St.size] at hD hU
    cases ht with
    | union ht hx hy =>
    rename_i a tk' v' v''
    have hok1 : x.ok e := hok.1
    have hok2 : y.ok e := hok.2
    refine enterC (binds := [(Str.ofString "term", .ref a), (Str.ofString "env", .ref ea), (Str.ofString "thing", .int k tk)]) C (by k_is) (by k_is) (by first | exact Nat.lt_of_le_of_lt (by (simp +arith); fail_if_success (focus skip)) hD | exact Nat.lt_of_le_of_lt (by (simp +arith); fail_if_success (focus skip)) hU | exact Nat.lt_of_le_of_lt (by (simp +arith); fail_if_success (focus skip)) hD9 | exact Nat.lt_of_le_of_lt (by (simp +arith); fail_if_success (focus skip)) hU9 | omega) (BindsTo.of_eq rfl) rfl (by decide +kernel) (fun L' h₁ tk cells base outer F N Y B X T hh => ?_) rfl rfl rfl
    clear C
    k_cells Y
    (try simp only [List.cons_append, List.nil_append] at N)
    refine post_abs (fun R9 E9 hR9 => ?_)
    k_steps
    all_goals exact hR9 _ _ <| pend_bool (by assumption) (by simp only [St.isIn]; cases hx : x.isIn e k <;> cases hy : y.isIn e k <;> simp_all) (h _ _ (Fr.keep (by assumption)))
  | meet x y ihx ihy =>
    intro A s v tk Q E C hD hU ht he hok h
    simp only [St.size] at hD hU
    cases ht with
    | meet ht hx hy =>
    rename_i a tk' v' v''
    have hok1 : x.ok e := hok.1
    have hok2 : y.ok e := hok.2
    refine enterC (binds := [(Str.ofString "term", .ref a), (Str.ofString "env", .ref ea), (Str.ofString "thing", .int k tk)]) C (by k_is) (by k_is) (by first | exact Nat.lt_of_le_of_lt (by (simp +arith); fail_if_success (focus skip)) hD | exact Nat.lt_of_le_of_lt (by (simp +arith); fail_if_success (focus skip)) hU | exact Nat.lt_of_le_of_lt (by (simp +arith); fail_if_success (focus skip)) hD9 | exact Nat.lt_of_le_of_lt (by (simp +arith); fail_if_success (focus skip)) hU9 | omega) (BindsTo.of_eq rfl) rfl (by decide +kernel) (fun L' h₁ tk cells base outer F N Y B X T hh => ?_) rfl rfl rfl
    clear C
    k_cells Y
    (try simp only [List.cons_append, List.nil_append] at N)
    refine post_abs (fun R9 E9 hR9 => ?_)
    k_steps
    all_goals exact hR9 _ _ <| pend_bool (by assumption) (by simp only [St.isIn]; cases hx : x.isIn e k <;> cases hy : y.isIn e k <;> simp_all) (h _ _ (Fr.keep (by assumption)))
  | less x y ihx ihy =>
    intro A s v tk Q E C hD hU ht he hok h
    simp only [St.size] at hD hU
    cases ht with
    | less ht hx hy =>
    rename_i a tk' v' v''
    have hok1 : x.ok e := hok.1
    have hok2 : y.ok e := hok.2
    refine enterC (binds := [(Str.ofString "term", .ref a), (Str.ofString "env", .ref ea), (Str.ofString "thing", .int k tk)]) C (by k_is) (by k_is) (by first | exact Nat.lt_of_le_of_lt (by (simp +arith); fail_if_success (focus skip)) hD | exact Nat.lt_of_le_of_lt (by (simp +arith); fail_if_success (focus skip)) hU | exact Nat.lt_of_le_of_lt (by (simp +arith); fail_if_success (focus skip)) hD9 | exact Nat.lt_of_le_of_lt (by (simp +arith); fail_if_success (focus skip)) hU9 | omega) (BindsTo.of_eq rfl) rfl (by decide +kernel) (fun L' h₁ tk cells base outer F N Y B X T hh => ?_) rfl rfl rfl
    clear C
    k_cells Y
    (try simp only [List.cons_append, List.nil_append] at N)
    refine post_abs (fun R9 E9 hR9 => ?_)
    k_steps
    all_goals exact hR9 _ _ <| pend_bool (by assumption) (by simp only [St.isIn]; cases hx : x.isIn e k <;> cases hy : y.isIn e k <;> simp_all) (h _ _ (Fr.keep (by assumption)))
end
end Mine
end
section
open PySem PySem.W PySem.Spec PySem.Calls PyProof.Rows
set_option maxRecDepth 100000
namespace Mine
section
variable {w : World} {mean : ExcName → Option Value} {mg mb : Str → Option Value}
theorem lines_p3_1 : True := by
  k_with_none
  (k_with "h ne" => (refine neN ?_; (try dsimp only); first | assumption | (refine Ne.symm ?_; assumption) | (refine Nat.ne_of_lt ?_; assumption) | (refine Nat.ne_of_gt ?_; assumption) | ((repeat (rename (_ ∧ _) => hA9; first | ((repeat (first | exact hA9 | exact Ne.symm hA9 | exact Nat.ne_of_lt hA9 | exact Nat.ne_of_gt hA9 | (obtain ⟨h9a, hA9⟩ := hA9; first | exact h9a | exact Ne.symm h9a | exact Nat.ne_of_lt h9a | exact Nat.ne_of_gt h9a | exact h9a.1 | exact h9a.2.1 | exact h9a.2.2 | exact Ne.symm h9a.1 | exact Ne.symm h9a.2.1 | exact Ne.symm h9a.2.2 | clear h9a))); fail_if_success (focus skip)) | clear hA9)); fail_if_success (focus skip)) | omega))
  (k_with "h rel" => first | assumption | exact IsTup.keeps (by assumption) (Fr.keep (by assumption)) | exact EnvAt.keeps (by assumption) (Fr.keep (by assumption)) | exact SetsAt.keeps (by assumption) (Fr.keep (by assumption)))
  (k_with "call builtin:len" => (k_here; (with_reducible show wpAny _ _ (call (Value.builtin "len") [Value.ref _]) _ _ _); first | refine len_1 (by ktr_rel) ?_ | refine len_2 (by ktr_rel) ?_ | refine len_3 (by ktr_rel) ?_ | refine len_4 (by ktr_rel) ?_))
  (k_with "subscriptTail" => (k_here; (with_reducible show wpAny _ _ (subscriptTail _ _ (Value.ref _) (Value.str _ _)) _ _ _); k_dflt (refine env_item (by (ktr_rel); fail_if_success (focus skip)) (by (assumption); fail_if_success (focus skip)) ?_ (by (with_unfolding_all rfl); fail_if_success (focus skip)); k_whole; intro eT)))
  (k_with "subscriptTail" => (k_here; (with_reducible show wpAny _ _ (subscriptTail _ _ (Value.ref _) (Value.int _ _)) _ _ _); k_dflt (refine item_tupleT (by (ktr_rel); fail_if_success (focus skip)) (by (decide); fail_if_success (focus skip)) (by (decide); fail_if_success (focus skip)) (by (rfl); fail_if_success (focus skip)) (by (rfl); fail_if_success (focus skip)) ?_; k_whole)))
  (k_with "subscriptTail Name Slice ref ref" => (k_here; k_dflt (refine tail_slice (by (k_asm); fail_if_success (focus skip)) (by (k_asm); fail_if_success (focus skip)) (by (ktr_rel); fail_if_success (focus skip)) (by (exact Nat.le_of_ble_eq_true rfl); fail_if_success (focus skip)) ?_ (by (with_unfolding_all rfl); fail_if_success (focus skip)) (by (intro _; with_unfolding_all rfl); fail_if_success (focus skip)); k_whole; intro D' h' F' N' l1; (try k_lt l1); (try k_sweep))))
  (k_with "exec Assign cons ListComp" => (k_here; (with_reducible rename PyProof.Rows.News _ _ _ _ => nx9); (replace nx9 := News.last2 nx9); (change PyProof.Rows.News _ _ _ [(_, _), (_, _)] at nx9); (repeat (rename ((_ : Nat) < _ ∧ _) => lx9; clear lx9)); k_dflt (refine Assign_ListComp_T (by k_asm) (by rfl) (by with_unfolding_all rfl) (by with_unfolding_all rfl) (by decide) (by rfl) (by decide) (by rfl) (by rfl) (by rfl) ?_); (repeat (first | walk1 | (dsimp only; walk1))); k_dflt (refine SrcT.ledger (by first | rfl | assumption) (by k_asm) (by k_asm) (by k_mem) (by exact Nat.le_of_ble_eq_true rfl) ?_; intro g'; lcg_lit)))
  (k_with "h units" => (simp only [units_deeper, units_in1]; first | exact Nat.lt_of_le_of_lt (by (simp +arith); fail_if_success (focus skip)) hD | exact Nat.lt_of_le_of_lt (by (simp +arith); fail_if_success (focus skip)) hU | exact Nat.lt_of_le_of_lt (by (simp +arith); fail_if_success (focus skip)) hD9 | exact Nat.lt_of_le_of_lt (by (simp +arith); fail_if_success (focus skip)) hU9 | omega))
  (k_with "compareOp Eq ref ref" => (k_here; k_dflt (first
      | (refine eq_one_t (by (ktr_rel); fail_if_success (focus skip)) (by (exact News.isTup (by assumption) (by k_mem)); fail_if_success (focus skip)) (by (ktr_units); fail_if_success (focus skip)) (by (first | decide | simp_all); fail_if_success (focus skip)) ?_; k_whole)
      | (refine eq_one_f (by (ktr_rel); fail_if_success (focus skip)) (by (exact News.isTup (by assumption) (by k_mem)); fail_if_success (focus skip)) (by (ktr_units); fail_if_success (focus skip)) (by (first | decide | simp_all); fail_if_success (focus skip)) ?_; k_whole))))
  (k_with "h rel" => exact SAt.keeps (by assumption) (Fr.keep (by assumption)))
  (k_with "compareOp In bool ref" => (k_here; k_dflt (refine in_bools (News.isList (by k_asm) (by k_mem)) ?_)))
  (k_with "compareOp NotIn bool ref" => (k_here; k_dflt (refine notIn_bools (News.isList (by k_asm) (by k_mem)) ?_)))
  (k_with "h inst" => exact InstAt.keeps (by assumption) (Fr.keep (by assumption)))
  (k_with "compareOp NotIn str ref" => (k_here; k_dflt (first | refine env_notin (by ktr_rel) (by assumption) ?_ | refine env_notin_none (by ktr_rel) (by assumption) ?_)))
  (k_with "compareOp In ref ref" => (k_here; k_dflt (first
      | (refine in_two_t (by (exact News.isTup (by assumption) (by k_mem)); fail_if_success (focus skip)) (by (exact News.isTup (by assumption) (by k_mem)); fail_if_success (focus skip)) (by (exact News.isTup (by assumption) (by k_mem)); fail_if_success (focus skip)) (by (ktr_rel); fail_if_success (focus skip)) (by (ktr_units); fail_if_success (focus skip)) (by (first | decide | simp_all); fail_if_success (focus skip)) ?_; k_whole)
      | (refine in_two_f (by (exact News.isTup (by assumption) (by k_mem)); fail_if_success (focus skip)) (by (exact News.isTup (by assumption) (by k_mem)); fail_if_success (focus skip)) (by (exact News.isTup (by assumption) (by k_mem)); fail_if_success (focus skip)) (by (ktr_rel); fail_if_success (focus skip)) (by (ktr_units); fail_if_success (focus skip)) (by (first | decide | simp_all); fail_if_success (focus skip)) ?_; k_whole))))
  (k_with "compareOp NotIn ref ref" => (k_here; k_dflt (first
      | (refine notIn_four_t (by (exact News.isTup (by assumption) (by k_mem)); fail_if_success (focus skip)) (by (exact News.isTup (by assumption) (by k_mem)); fail_if_success (focus skip)) (by (exact News.isTup (by assumption) (by k_mem)); fail_if_success (focus skip)) (by (exact News.isTup (by assumption) (by k_mem)); fail_if_success (focus skip)) (by (exact News.isTup (by assumption) (by k_mem)); fail_if_success (focus skip)) (by (exact News.isTup (by assumption) (by k_mem)); fail_if_success (focus skip)) (by (ktr_units); fail_if_success (focus skip)) (by (first | decide | simp_all); fail_if_success (focus skip)) ?_; k_whole)
      | (refine notIn_four_f (by (exact News.isTup (by assumption) (by k_mem)); fail_if_success (focus skip)) (by (exact News.isTup (by assumption) (by k_mem)); fail_if_success (focus skip)) (by (exact News.isTup (by assumption) (by k_mem)); fail_if_success (focus skip)) (by (exact News.isTup (by assumption) (by k_mem)); fail_if_success (focus skip)) (by (exact News.isTup (by assumption) (by k_mem)); fail_if_success (focus skip)) (by (exact News.isTup (by assumption) (by k_mem)); fail_if_success (focus skip)) (by (ktr_units); fail_if_success (focus skip)) (by (first | decide | simp_all); fail_if_success (focus skip)) ?_; k_whole))))
  (k_with "storeName" => (k_here; k_dflt (refine storeX_U (by k_asm) (by k_asm) ?_ (by rfl) (by rfl)); intro h' F' N'; (try k_sweep)))
  trivial
/-- the number of a term, thing by thing -/
noncomputable def St.num (e : Str → Option Int) (t : St) (many : Nat) : Int := (((List.range many).filter fun k => t.isIn e k).map fun k => (2 : Int) ^ k).sum
theorem paired_ints (f : Int → Bool) (g : Int → Int) (p : Value → Bool) (G : Value → Value → Prop) (hp : ∀ i t, p (.int i t) = f i) (hG : ∀ i t y, G (.int i t) y → ∃ t', y = .int (g i) t') :
    ∀ (vs : List Value) (a : Int) (ys : List Value), (∀ (j : Nat) v, vs[j]? = some v → ∃ t, v = .int (a + (j : Int)) t) → Paired G (vs.filter p) ys → IntsAre ys (((List.range vs.length).filter fun (k : Nat) => f (a + (k : Int))).map fun (k : Nat) => g (a + (k : Int)))
  | [], a, ys, h, hF => by
    cases hF; exact .nil
  | v :: r, a, ys, h, hF => by
    obtain ⟨t, rfl⟩ := h 0 v rfl
    have hr : ∀ (j : Nat) v, r[j]? = some v → ∃ t, v = .int ((a + 1) + (j : Int)) t := fun j v e => by
      obtain ⟨t, e'⟩ := h (j + 1) v (by simpa using e)
      exact ⟨t, by rw [e']; congr 1; omega⟩
    have e0 : (a + ((0 : Nat) : Int)) = a := by simp
    rw [e0] at hF
    have shift : (((List.range r.length).map Nat.succ).filter fun (k : Nat) => f (a + (k : Int))).map (fun (k : Nat) => g (a + (k : Int))) = (((List.range r.length).filter fun (k : Nat) => f ((a + 1) + (k : Int))).map fun (k : Nat) => g ((a + 1) + (k : Int))) := by
      rw [List.filter_map, List.map_map]
      have e1 : ∀ k : Nat, a + ((Nat.succ k : Nat) : Int) = (a + 1) + (k : Int) := fun k => by omega
      congr 1
      · funext k; simp only [Function.comp, e1]
      · congr 1; funext k; simp only [Function.comp, e1]
    rw [List.length_cons, List.range_succ_eq_map]
    by_cases hf : f a = true
    · rw [List.filter_cons, if_pos (by rw [e0]; exact hf), List.map_cons, e0, shift]
      rw [List.filter_cons, if_pos (by rw [hp]; exact hf)] at hF
      cases hF with
      | cons h1 h2 =>
        obtain ⟨t', rfl⟩ := hG _ _ _ h1
        exact .cons _ _ (paired_ints f g p G hp hG r (a + 1) _ hr h2)
    · rw [List.filter_cons, if_neg (by rw [e0]; exact hf), shift]
      rw [List.filter_cons, if_neg (by rw [hp]; exact hf)] at hF
      exact paired_ints f g p G hp hG r (a + 1) _ hr hF
theorem small_fin : ∀ n : Fin 9, Builtin.Range.small 0 (n.val : Nat) 1 = true ∧ Builtin.Range.rangeSize 0 (n.val : Nat) 1 = ((n.val : Nat) : Int) := by decide
theorem small_range {n : Nat} (h : n ≤ 8) : Builtin.Range.small 0 n 1 = true ∧ Builtin.Range.rangeSize 0 n 1 = ((n : Nat) : Int) := small_fin ⟨n, Nat.lt_succ_of_le h⟩
theorem pow_two {A : Around} {E : Value → Shared → Prop} {s : Shared} {Q : Value → Shared → Prop} {n : Int} {t u : Tok} (hn : 0 ≤ n) (h8 : n < 100) (h : Q (.int (2 ^ n.toNat) s.toks) { s with toks := s.toks + 1 }) : wpAny (model PR w) A (binaryOp .Pow (.int 2 t) (.int n u)) Q E s :=
  pow_int hn (by rw [show Builtin.Int.intBits 2 = 2 from by decide]; omega) h
theorem lines_p3_2 : True := by
  (k_with "binaryOp Pow int int" => (k_here; k_dflt (refine pow_two (by omega) (by omega) ?_)))
  (k_with "call builtin:sum" => (k_here; k_dflt (refine LSm.sum_ints (by k_asm) (by k_asm) (by k_asm) (News.isList (by k_asm) (by k_mem)) (by assumption) ?_; intro h' tk' t' F' N')))
  trivial
set_option maxHeartbeats 0 in
theorem num_call (e : Str → Option Int) (t : St) (many : Nat) (hm : many ≤ 8) {A : Around} {s : Shared} {ea : Addr} {v : Value} {tk : Tok} {Q E : Value → Shared → Prop}
    (C : Cal w mean mg mb A s) (hD : A.depth + (t.size + 1) < recursionLimit) (hU : A.units + 8 * (t.size + 1) < cLine) (ht : SAt s.heap v t) (he : EnvAt w s.heap ea e) (hok : t.ok e)
    (h : ∀ h' tk' t', Kept s.heap h' → Q (.int (t.num e many) t') { s with heap := h', toks := tk' }) : wpAny (model PR w) A (call (.ref 195) [v, .ref ea, .int many tk]) Q E s := by
  have ci : ∀ k, k < 8 → IsInC w mean mg mb e ea k t := fun k hk => isin_call e ea k hk t
  refine enterC (binds := [(Str.ofString "term", v), (Str.ofString "env", .ref ea), (Str.ofString "many", .int many tk)]) C (by k_is) (by k_is) (by first | exact Nat.lt_of_le_of_lt (by (simp +arith); fail_if_success (focus skip)) hD | exact Nat.lt_of_le_of_lt (by (simp +arith); fail_if_success (focus skip)) hU | exact Nat.lt_of_le_of_lt (by (simp +arith); fail_if_success (focus skip)) hD9 | exact Nat.lt_of_le_of_lt (by (simp +arith); fail_if_success (focus skip)) hU9 | omega) (BindsTo.of_eq rfl) rfl (by decide +kernel) (fun L' h₁ tk cells base outer F N Y B X T hh => ?_) rfl rfl rfl
  clear C
  k_cells Y
  (try simp only [List.cons_append, List.nil_append] at N)
  repeat (first | walk1 | (dsimp only; walk1))
  k_dflt (refine ListComp_quiet (by k_asm) (fun v => match v with | .int i _ => t.isIn e i.toNat | _ => false) (fun v y => ∀ i tk, v = .int i tk → ∃ tk', y = .int (2 ^ i.toNat) tk') (by with_unfolding_all rfl) (by decide) (by rfl) (by decide) (by rfl) ?_)
  repeat (first | walk1 | (dsimp only; walk1))
  unfold Stop
  refine ⟨_, _, many, fun (i : Nat) v => i < many ∧ ∃ t, v = .int (0 + (i : Int)) t, (by k_asm), (by k_asm), ?_, ?_, ?_, ?_, ?_⟩
  · rw [sizeLine_eq]; omega
  · exact (QSrc.range (by assumption) (by assumption) (small_range hm).1 (small_range hm).2).bound
  · intro C oC i v m₂ s₃ E' hP F' N' hC hm₂
    obtain ⟨hi, t1, rfl⟩ := hP
    rw [Int.zero_add] at hm₂ ⊢
    refine wpAny_tests_one ?_
    repeat (first | walk1 | (dsimp only; walk1))
    refine isin_call e ea i (by omega) t (Cal.site B F' X T hh rfl rfl) (by simp only [depth_deeper]; first | exact Nat.lt_of_le_of_lt (by (simp +arith); fail_if_success (focus skip)) hD | exact Nat.lt_of_le_of_lt (by (simp +arith); fail_if_success (focus skip)) hU | exact Nat.lt_of_le_of_lt (by (simp +arith); fail_if_success (focus skip)) hD9 | exact Nat.lt_of_le_of_lt (by (simp +arith); fail_if_success (focus skip)) hU9 | omega) (by simp only [units_deeper]; first | exact Nat.lt_of_le_of_lt (by (simp +arith); fail_if_success (focus skip)) hD | exact Nat.lt_of_le_of_lt (by (simp +arith); fail_if_success (focus skip)) hU | exact Nat.lt_of_le_of_lt (by (simp +arith); fail_if_success (focus skip)) hD9 | exact Nat.lt_of_le_of_lt (by (simp +arith); fail_if_success (focus skip)) hU9 | omega) (SAt.keeps ht F'.keep) (EnvAt.keeps he F'.keep) hok fun h' tk' kp => ?_
    repeat (first | walk1 | (dsimp only; walk1))
    exact ⟨by simp, _, _, rfl, kp⟩
  · intro C oC i v m₂ s₃ E' hP hp F' N' hC hm
    obtain ⟨hi, t1, rfl⟩ := hP
    rw [Int.zero_add] at hm ⊢
    repeat (first | walk1 | (dsimp only; walk1))
    exact ⟨fun i' tk e => by cases e; exact ⟨_, rfl⟩, _, _, rfl, fun _ _ e => e⟩
  · intro D h' tk ys vs k F' N' hne hlen hP hF
    have hi := paired_ints (fun i => t.isIn e i.toNat) (fun i => 2 ^ i.toNat) _ _ (fun i t => rfl) (fun i t y h => h i t rfl) vs 0 ys.toList (fun j v e => (hP j v e).2) hF
    have hy : ys = ys.toList.toArray := by simp
    rw [hy] at N'
    repeat (first | walk1 | (dsimp only; walk1))
    exact pend_int (by assumption) (by simp [St.num, hlen]) (h _ _ _ (Fr.keep (by assumption)))
end
end Mine
end
section
open PySem PySem.W PySem.Spec PySem.Calls PyProof.Rows
set_option maxRecDepth 100000
namespace Mine
/-- the store: two numbers -/
noncomputable abbrev storeObj (a b : Int) (ta tb : Tok) (k : Nat) : Obj := listOf #[.int a ta, .int b tb] k
section
variable {w : World} {mean : ExcName → Option Value} {mg mb : Str → Option Value}
theorem lines_p10_1 : True := by
  k_with_none
  (k_with "h ne" => (refine neN ?_; (try dsimp only); first | assumption | (refine Ne.symm ?_; assumption) | (refine Nat.ne_of_lt ?_; assumption) | (refine Nat.ne_of_gt ?_; assumption) | ((repeat (rename (_ ∧ _) => hA9; first | ((repeat (first | exact hA9 | exact Ne.symm hA9 | exact Nat.ne_of_lt hA9 | exact Nat.ne_of_gt hA9 | (obtain ⟨h9a, hA9⟩ := hA9; first | exact h9a | exact Ne.symm h9a | exact Nat.ne_of_lt h9a | exact Nat.ne_of_gt h9a | exact h9a.1 | exact h9a.2.1 | exact h9a.2.2 | exact Ne.symm h9a.1 | exact Ne.symm h9a.2.1 | exact Ne.symm h9a.2.2 | clear h9a))); fail_if_success (focus skip)) | clear hA9)); fail_if_success (focus skip)) | omega))
  (k_with "h rel" => first | assumption | exact IsTup.keeps (by assumption) (Fr.keep (by assumption)) | exact EnvAt.keeps (by assumption) (Fr.keep (by assumption)) | exact SetsAt.keeps (by assumption) (Fr.keep (by assumption)))
  (k_with "call builtin:len" => (k_here; (with_reducible show wpAny _ _ (call (Value.builtin "len") [Value.ref _]) _ _ _); first | refine len_1 (by ktr_rel) ?_ | refine len_2 (by ktr_rel) ?_ | refine len_3 (by ktr_rel) ?_ | refine len_4 (by ktr_rel) ?_))
  (k_with "subscriptTail" => (k_here; (with_reducible show wpAny _ _ (subscriptTail _ _ (Value.ref _) (Value.str _ _)) _ _ _); k_dflt (refine env_item (by (ktr_rel); fail_if_success (focus skip)) (by (assumption); fail_if_success (focus skip)) ?_ (by (with_unfolding_all rfl); fail_if_success (focus skip)); k_whole; intro eT)))
  (k_with "subscriptTail" => (k_here; (with_reducible show wpAny _ _ (subscriptTail _ _ (Value.ref _) (Value.int _ _)) _ _ _); k_dflt (refine item_tupleT (by (ktr_rel); fail_if_success (focus skip)) (by (decide); fail_if_success (focus skip)) (by (decide); fail_if_success (focus skip)) (by (rfl); fail_if_success (focus skip)) (by (rfl); fail_if_success (focus skip)) ?_; k_whole)))
  (k_with "subscriptTail Name Slice ref ref" => (k_here; k_dflt (refine tail_slice (by (k_asm); fail_if_success (focus skip)) (by (k_asm); fail_if_success (focus skip)) (by (ktr_rel); fail_if_success (focus skip)) (by (exact Nat.le_of_ble_eq_true rfl); fail_if_success (focus skip)) ?_ (by (with_unfolding_all rfl); fail_if_success (focus skip)) (by (intro _; with_unfolding_all rfl); fail_if_success (focus skip)); k_whole; intro D' h' F' N' l1; (try k_lt l1); (try k_sweep))))
  (k_with "exec Assign cons ListComp" => (k_here; (with_reducible rename PyProof.Rows.News _ _ _ _ => nx9); (replace nx9 := News.last2 nx9); (change PyProof.Rows.News _ _ _ [(_, _), (_, _)] at nx9); (repeat (rename ((_ : Nat) < _ ∧ _) => lx9; clear lx9)); k_dflt (refine Assign_ListComp_T (by k_asm) (by rfl) (by with_unfolding_all rfl) (by with_unfolding_all rfl) (by decide) (by rfl) (by decide) (by rfl) (by rfl) (by rfl) ?_); (repeat (first | walk1 | (dsimp only; walk1))); k_dflt (refine SrcT.ledger (by first | rfl | assumption) (by k_asm) (by k_asm) (by k_mem) (by exact Nat.le_of_ble_eq_true rfl) ?_; intro g'; lcg_lit)))
  (k_with "h units" => (simp only [units_deeper, units_in1]; first | exact Nat.lt_of_le_of_lt (by (simp +arith); fail_if_success (focus skip)) hD | exact Nat.lt_of_le_of_lt (by (simp +arith); fail_if_success (focus skip)) hU | exact Nat.lt_of_le_of_lt (by (simp +arith); fail_if_success (focus skip)) hD9 | exact Nat.lt_of_le_of_lt (by (simp +arith); fail_if_success (focus skip)) hU9 | omega))
  (k_with "compareOp Eq ref ref" => (k_here; k_dflt (first
      | (refine eq_one_t (by (ktr_rel); fail_if_success (focus skip)) (by (exact News.isTup (by assumption) (by k_mem)); fail_if_success (focus skip)) (by (ktr_units); fail_if_success (focus skip)) (by (first | decide | simp_all); fail_if_success (focus skip)) ?_; k_whole)
      | (refine eq_one_f (by (ktr_rel); fail_if_success (focus skip)) (by (exact News.isTup (by assumption) (by k_mem)); fail_if_success (focus skip)) (by (ktr_units); fail_if_success (focus skip)) (by (first | decide | simp_all); fail_if_success (focus skip)) ?_; k_whole))))
  (k_with "h rel" => exact SAt.keeps (by assumption) (Fr.keep (by assumption)))
  (k_with "compareOp In bool ref" => (k_here; k_dflt (refine in_bools (News.isList (by k_asm) (by k_mem)) ?_)))
  (k_with "compareOp NotIn bool ref" => (k_here; k_dflt (refine notIn_bools (News.isList (by k_asm) (by k_mem)) ?_)))
  (k_with "h inst" => exact InstAt.keeps (by assumption) (Fr.keep (by assumption)))
  (k_with "compareOp NotIn str ref" => (k_here; k_dflt (first | refine env_notin (by ktr_rel) (by assumption) ?_ | refine env_notin_none (by ktr_rel) (by assumption) ?_)))
  (k_with "compareOp In ref ref" => (k_here; k_dflt (first
      | (refine in_two_t (by (exact News.isTup (by assumption) (by k_mem)); fail_if_success (focus skip)) (by (exact News.isTup (by assumption) (by k_mem)); fail_if_success (focus skip)) (by (exact News.isTup (by assumption) (by k_mem)); fail_if_success (focus skip)) (by (ktr_rel); fail_if_success (focus skip)) (by (ktr_units); fail_if_success (focus skip)) (by (first | decide | simp_all); fail_if_success (focus skip)) ?_; k_whole)
      | (refine in_two_f (by (exact News.isTup (by assumption) (by k_mem)); fail_if_success (focus skip)) (by (exact News.isTup (by assumption) (by k_mem)); fail_if_success (focus skip)) (by (exact News.isTup (by assumption) (by k_mem)); fail_if_success (focus skip)) (by (ktr_rel); fail_if_success (focus skip)) (by (ktr_units); fail_if_success (focus skip)) (by (first | decide | simp_all); fail_if_success (focus skip)) ?_; k_whole))))
  (k_with "compareOp NotIn ref ref" => (k_here; k_dflt (first
      | (refine notIn_four_t (by (exact News.isTup (by assumption) (by k_mem)); fail_if_success (focus skip)) (by (exact News.isTup (by assumption) (by k_mem)); fail_if_success (focus skip)) (by (exact News.isTup (by assumption) (by k_mem)); fail_if_success (focus skip)) (by (exact News.isTup (by assumption) (by k_mem)); fail_if_success (focus skip)) (by (exact News.isTup (by assumption) (by k_mem)); fail_if_success (focus skip)) (by (exact News.isTup (by assumption) (by k_mem)); fail_if_success (focus skip)) (by (ktr_units); fail_if_success (focus skip)) (by (first | decide | simp_all); fail_if_success (focus skip)) ?_; k_whole)
      | (refine notIn_four_f (by (exact News.isTup (by assumption) (by k_mem)); fail_if_success (focus skip)) (by (exact News.isTup (by assumption) (by k_mem)); fail_if_success (focus skip)) (by (exact News.isTup (by assumption) (by k_mem)); fail_if_success (focus skip)) (by (exact News.isTup (by assumption) (by k_mem)); fail_if_success (focus skip)) (by (exact News.isTup (by assumption) (by k_mem)); fail_if_success (focus skip)) (by (exact News.isTup (by assumption) (by k_mem)); fail_if_success (focus skip)) (by (ktr_units); fail_if_success (focus skip)) (by (first | decide | simp_all); fail_if_success (focus skip)) ?_; k_whole))))
  (k_with "storeName" => (k_here; k_dflt (refine storeX_U (by k_asm) (by k_asm) ?_ (by rfl) (by rfl)); intro h' F' N'; (try k_sweep)))
  trivial
theorem mul_store {A : Around} {E : Value → Shared → Prop} {s : Shared} {x : Int} {t u : Tok} {Q : Value → Shared → Prop} (h0 : 0 ≤ x) (h1 : x < 2000) (h : Q (.int (x * x) s.toks) { s with toks := s.toks + 1 }) : wpAny (model PR w) A (binaryOp .Mult (.int x t) (.int x u)) Q E s :=
  PyProof.Rows.mul_int h (IntMulOk.of_left (PySem.intBits_le_64 (by omega) (by omega)))
theorem lines_p10_2 : True := by
  (k_with "binaryOp Mult int int" => (k_here; k_dflt (refine mul_store (by (simp; omega)) (by (simp; omega)) ?_)))
  trivial
theorem pick_r {a many : Int} (hm : 1 ≤ many) : 0 ≤ a.fmod many ∧ a.fmod many < many := ⟨Int.fmod_nonneg_of_pos _ (by omega), Int.fmod_lt_of_pos _ (by omega)⟩
set_option maxHeartbeats 0 in
theorem pick_call {A : Around} {s : Shared} {sa : Addr} {a b many : Int} {ta tb tm : Tok} {k : Nat} {Q E : Value → Shared → Prop}
    (C : CalM w mean mg mb A s [(sa, storeObj a b ta tb k)]) (hD : A.depth < recursionLimit) (ha : 0 ≤ a) (ha2 : a < 10 ^ 90) (hb : 0 ≤ b) (hb2 : b < 1000) (hm : 1 ≤ many) (hm2 : many ≤ 256)
    (h : ∀ h' tk r a' b' ta' tb' t k', KeptBut [(sa, storeObj a b ta tb k)] s.heap h' → h'.get? sa = some (storeObj a' b' ta' tb' k') → 0 ≤ r → r < many → 0 ≤ a' → a' < 10 ^ 90 → b' = b + 1 → Q (.int r t) { s with heap := h', toks := tk }) :
    wpAny (model PR w) A (call (.ref 185) [.ref sa, .int many tm]) Q E s := by
    refine wpAny_call ?_
    refine enterMP (binds := [(Str.ofString "store", .ref sa), (Str.ofString "many", .int many tm)]) C (by k_is) (by k_is) (by first | exact Nat.lt_of_le_of_lt (by (simp +arith); fail_if_success (focus skip)) hD | exact Nat.lt_of_le_of_lt (by (simp +arith); fail_if_success (focus skip)) hU | exact Nat.lt_of_le_of_lt (by (simp +arith); fail_if_success (focus skip)) hD9 | exact Nat.lt_of_le_of_lt (by (simp +arith); fail_if_success (focus skip)) hU9 | omega) (BindsTo.of_eq rfl) (locs rfl) (fun g L' h₁ base outer kb kb' F N B X T hh lo => ?_) rfl rfl rfl (by decide)
    clear C
    have lx := ltN (lo _ (.head _))
    clear lo
    dsimp only at lx
    k_steps
    all_goals (try dsimp only)
    all_goals (rename Fr _ _ _ _ => F'; rename News _ _ _ _ => N'; refine ⟨_, _, F', h _ _ _ _ _ _ _ _ _ (fun b o hb e => F'.keep _ _ (kb b o hb e)) (News.get N' (.head _)) (pick_r hm).1 (pick_r hm).2 ?_ ?_ rfl⟩)
    · exact ha
    · exact ha2
    · exact Int.fdiv_nonneg ha (by omega)
    · show a.fdiv many < 10 ^ 90
      rw [Int.fdiv_eq_ediv_of_nonneg _ (by omega)]
      have : a / many ≤ a := Int.ediv_le_self _ ha
      omega
end
end Mine
end
section
open PySem PySem.W PySem.Spec PySem.Calls PyProof.Rows
set_option maxRecDepth 100000
namespace Mine
noncomputable def namesW : List Str := [Str.ofString "a", Str.ofString "b", Str.ofString "c", Str.ofString "meet", Str.ofString "none", Str.ofString "all"]
/-- the list of names to draw from -/
noncomputable def NamesAt (h : Heap) (na : Addr) : Prop := ∃ t0 t1 t2 t3 t4 t5, h.IsList na #[.str (Str.ofString "a") t0, .str (Str.ofString "b") t1, .str (Str.ofString "c") t2, .str (Str.ofString "meet") t3, .str (Str.ofString "none") t4, .str (Str.ofString "all") t5]
noncomputable def leafSt (x : Str) : St := if x == Str.ofString "none" then .none else if x == Str.ofString "all" then .all else .name x
noncomputable def St.four : St → Prop
  | .none | .all => True
  | .name x => x ∈ [Str.ofString "a", Str.ofString "b", Str.ofString "c", Str.ofString "meet"]
  | .not a => a.four
  | .union a b | .meet a b | .less a b => a.four ∧ b.four
theorem leafSt_at {h : Heap} {a : Addr} {x : Str} {tk : Tok} (i : IsTup h a #[.str x tk]) : SAt h (.ref a) (leafSt x) := by
  unfold leafSt
  split
  · rename_i e; rw [beq_iff_eq.mp e] at i; exact .none i
  · split
    · rename_i e; rw [beq_iff_eq.mp e] at i; exact .all i
    · exact .name i
theorem leafSt_four {x : Str} (hx : x ∈ namesW) : (leafSt x).four ∧ (leafSt x).size = 1 := by
  unfold leafSt
  split
  · exact ⟨trivial, rfl⟩
  · split
    · exact ⟨trivial, rfl⟩
    · rename_i h1 h2
      refine ⟨?_, rfl⟩
      show x ∈ [_, _, _, _]
      simp only [namesW, List.mem_cons, List.not_mem_nil, or_false] at hx
      rcases hx with e | e | e | e | e | e
      · rw [e]; exact .head _
      · rw [e]; exact .tail _ (.head _)
      · rw [e]; exact .tail _ (.tail _ (.head _))
      · rw [e]; exact .tail _ (.tail _ (.tail _ (.head _)))
      · exact absurd (beq_iff_eq.mpr e) h1
      · exact absurd (beq_iff_eq.mpr e) h2
/-- how many draws and parts at the most -/
noncomputable def cnt : Nat → Nat
  | 0 => 1
  | f + 1 => 2 * cnt f + 1
noncomputable def SLater (owns : List (Addr × Obj)) (v : Value) (t : St) : Prop := ∀ h'', Tups h'' owns → SAt h'' v t
section
variable {w : World} {mean : ExcName → Option Value} {mg mb : Str → Option Value}
theorem pick_use {A : Around} {base h₀ : Heap} {outer : List Env} {L : Addr} {m : Str → Option Value} {env : Env} {news : List (Addr × Obj)} {gn : Obj → List (Addr × Obj)} {s : Shared} {sa : Addr} {a b many : Int} {ta tb tm : Tok} {k : Nat} {Q E : Value → Shared → Prop}
    (B : Below A base outer h₀) (F : Fr h₀ L s.heap m) (X : (hd.heap_39 w.params).In h₀) (T : Top hd.view_39 LO mean mg mb h₀) (N : News h₀ L s.heap news) (hh : A.handled = none) (hf : env.frame = some L) (hk : env.scope.kind = .function)
    (U : UpdF sa (storeObj a b ta tb k) news gn) (hD : A.depth + 1 < recursionLimit) (ha : 0 ≤ a) (ha2 : a < 10 ^ 90) (hb : 0 ≤ b) (hb2 : b < 1000) (hm : 1 ≤ many) (hm2 : many ≤ 256)
    (h : ∀ h' tk r a' b' ta' tb' t k', Fr h₀ L h' m → News h₀ L h' (gn (storeObj a' b' ta' tb' k')) → 0 ≤ r → r < many → 0 ≤ a' → a' < 10 ^ 90 → b' = b + 1 → Q (.int r t) { s with heap := h', toks := tk }) :
    wpAny (model PR w) (A.deeper env) (call (.ref 185) [.ref sa, .int many tm]) Q E s := by
  obtain ⟨pre, post, rfl, hg, h1, h2⟩ := U.split
  have hmem := N (sa, storeObj a b ta tb k) (List.mem_append_right _ (.head _))
  refine pick_call (CalM.site B F X T hh hf hk (fun q hq => by rw [List.mem_singleton.mp hq]; exact hmem)) (by simp only [depth_deeper]; first | exact Nat.lt_of_le_of_lt (by (simp +arith); fail_if_success (focus skip)) hD | exact Nat.lt_of_le_of_lt (by (simp +arith); fail_if_success (focus skip)) hU | exact Nat.lt_of_le_of_lt (by (simp +arith); fail_if_success (focus skip)) hD9 | exact Nat.lt_of_le_of_lt (by (simp +arith); fail_if_success (focus skip)) hU9 | omega) ha ha2 hb hb2 hm hm2 fun h' tk r a' b' ta' tb' t k' kb e r0 r1 a0 a1 eb => ?_
  have kb' : ∀ b o, b ≠ sa → s.heap.get? b = some o → h'.get? b = some o := fun b o n e => kb b o (fun p hp q => n (by rw [List.mem_singleton.mp hp] at q; exact q.symm)) e
  refine h h' tk r a' b' ta' tb' t k' ⟨F.ns.at' fun o e => kb' _ o (Ne.symm hmem.2.1) e, fun b o e => kb' b o (fun q => ?_) (F.keep b o e), F.above⟩ (hg _ ▸ fun q hq => ?_) r0 r1 a0 a1 eb
  · rw [q, hmem.2.2] at e; cases e
  · rcases List.mem_append.mp hq with hq | hq
    · exact ⟨kb' _ _ (h1 q hq) (N q (List.mem_append_left _ hq)).1, (N q (List.mem_append_left _ hq)).2⟩
    · rcases List.mem_cons.mp hq with rfl | hq
      · exact ⟨e, hmem.2⟩
      · exact ⟨kb' _ _ (h2 q hq) (N q (List.mem_append_right _ (.tail _ hq))).1, (N q (List.mem_append_right _ (.tail _ hq))).2⟩
theorem names_item {A : Around} {E : Value → Shared → Prop} {s : Shared} {Q : Value → Shared → Prop} {value slice : Expr} {na : Addr} {i : Int} {u : Tok} {t0 t1 t2 t3 t4 t5 : Tok} (hl : s.heap.IsList na #[.str (Str.ofString "a") t0, .str (Str.ofString "b") t1, .str (Str.ofString "c") t2, .str (Str.ofString "meet") t3, .str (Str.ofString "none") t4, .str (Str.ofString "all") t5])
    (h0 : 0 ≤ i) (h1 : i < 6) (h : ∀ x tk, x ∈ namesW → Q (.str x tk) s)
    (hs : subscripted slice false (.ref na) (.int i u) = operate [.ref na, .int i u] (getItem (.ref na) (.int i u))) :
    wpAny (model PR w) A (subscriptTail value slice (.ref na) (.int i u)) Q E s :=
  KTb.item_list (vs := [.str (Str.ofString "a") t0, .str (Str.ofString "b") t1, .str (Str.ofString "c") t2, .str (Str.ofString "meet") t3, .str (Str.ofString "none") t4, .str (Str.ofString "all") t5]) (ws := namesW) hl
    (.cons _ _ (.cons _ _ (.cons _ _ (.cons _ _ (.cons _ _ (.cons _ _ .nil)))))) h0 h1 (by omega) (fun t' hlt => h _ t' (by
      rw [List.getD_eq_getElem?_getD, List.getElem?_eq_getElem hlt]
      exact List.getElem_mem hlt)) hs
theorem lines_p11_1 : True := by
  k_with_none
  (k_with "h ne" => (refine neN ?_; (try dsimp only); first | assumption | (refine Ne.symm ?_; assumption) | (refine Nat.ne_of_lt ?_; assumption) | (refine Nat.ne_of_gt ?_; assumption) | ((repeat (rename (_ ∧ _) => hA9; first | ((repeat (first | exact hA9 | exact Ne.symm hA9 | exact Nat.ne_of_lt hA9 | exact Nat.ne_of_gt hA9 | (obtain ⟨h9a, hA9⟩ := hA9; first | exact h9a | exact Ne.symm h9a | exact Nat.ne_of_lt h9a | exact Nat.ne_of_gt h9a | exact h9a.1 | exact h9a.2.1 | exact h9a.2.2 | exact Ne.symm h9a.1 | exact Ne.symm h9a.2.1 | exact Ne.symm h9a.2.2 | clear h9a))); fail_if_success (focus skip)) | clear hA9)); fail_if_success (focus skip)) | omega))
  (k_with "h rel" => first | assumption | exact IsTup.keeps (by assumption) (Fr.keep (by assumption)) | exact EnvAt.keeps (by assumption) (Fr.keep (by assumption)) | exact SetsAt.keeps (by assumption) (Fr.keep (by assumption)))
  (k_with "call builtin:len" => (k_here; (with_reducible show wpAny _ _ (call (Value.builtin "len") [Value.ref _]) _ _ _); first | refine len_1 (by ktr_rel) ?_ | refine len_2 (by ktr_rel) ?_ | refine len_3 (by ktr_rel) ?_ | refine len_4 (by ktr_rel) ?_))
  (k_with "subscriptTail" => (k_here; (with_reducible show wpAny _ _ (subscriptTail _ _ (Value.ref _) (Value.str _ _)) _ _ _); k_dflt (refine env_item (by (ktr_rel); fail_if_success (focus skip)) (by (assumption); fail_if_success (focus skip)) ?_ (by (with_unfolding_all rfl); fail_if_success (focus skip)); k_whole; intro eT)))
  (k_with "subscriptTail" => (k_here; (with_reducible show wpAny _ _ (subscriptTail _ _ (Value.ref _) (Value.int _ _)) _ _ _); k_dflt (refine item_tupleT (by (ktr_rel); fail_if_success (focus skip)) (by (decide); fail_if_success (focus skip)) (by (decide); fail_if_success (focus skip)) (by (rfl); fail_if_success (focus skip)) (by (rfl); fail_if_success (focus skip)) ?_; k_whole)))
  (k_with "subscriptTail Name Slice ref ref" => (k_here; k_dflt (refine tail_slice (by (k_asm); fail_if_success (focus skip)) (by (k_asm); fail_if_success (focus skip)) (by (ktr_rel); fail_if_success (focus skip)) (by (exact Nat.le_of_ble_eq_true rfl); fail_if_success (focus skip)) ?_ (by (with_unfolding_all rfl); fail_if_success (focus skip)) (by (intro _; with_unfolding_all rfl); fail_if_success (focus skip)); k_whole; intro D' h' F' N' l1; (try k_lt l1); (try k_sweep))))
  (k_with "exec Assign cons ListComp" => (k_here; (with_reducible rename PyProof.Rows.News _ _ _ _ => nx9); (replace nx9 := News.last2 nx9); (change PyProof.Rows.News _ _ _ [(_, _), (_, _)] at nx9); (repeat (rename ((_ : Nat) < _ ∧ _) => lx9; clear lx9)); k_dflt (refine Assign_ListComp_T (by k_asm) (by rfl) (by with_unfolding_all rfl) (by with_unfolding_all rfl) (by decide) (by rfl) (by decide) (by rfl) (by rfl) (by rfl) ?_); (repeat (first | walk1 | (dsimp only; walk1))); k_dflt (refine SrcT.ledger (by first | rfl | assumption) (by k_asm) (by k_asm) (by k_mem) (by exact Nat.le_of_ble_eq_true rfl) ?_; intro g'; lcg_lit)))
  (k_with "h units" => (simp only [units_deeper, units_in1]; first | exact Nat.lt_of_le_of_lt (by (simp +arith); fail_if_success (focus skip)) hD | exact Nat.lt_of_le_of_lt (by (simp +arith); fail_if_success (focus skip)) hU | exact Nat.lt_of_le_of_lt (by (simp +arith); fail_if_success (focus skip)) hD9 | exact Nat.lt_of_le_of_lt (by (simp +arith); fail_if_success (focus skip)) hU9 | omega))
  (k_with "compareOp Eq ref ref" => (k_here; k_dflt (first
      | (refine eq_one_t (by (ktr_rel); fail_if_success (focus skip)) (by (exact News.isTup (by assumption) (by k_mem)); fail_if_success (focus skip)) (by (ktr_units); fail_if_success (focus skip)) (by (first | decide | simp_all); fail_if_success (focus skip)) ?_; k_whole)
      | (refine eq_one_f (by (ktr_rel); fail_if_success (focus skip)) (by (exact News.isTup (by assumption) (by k_mem)); fail_if_success (focus skip)) (by (ktr_units); fail_if_success (focus skip)) (by (first | decide | simp_all); fail_if_success (focus skip)) ?_; k_whole))))
  (k_with "h rel" => exact SAt.keeps (by assumption) (Fr.keep (by assumption)))
  (k_with "compareOp In bool ref" => (k_here; k_dflt (refine in_bools (News.isList (by k_asm) (by k_mem)) ?_)))
  (k_with "compareOp NotIn bool ref" => (k_here; k_dflt (refine notIn_bools (News.isList (by k_asm) (by k_mem)) ?_)))
  (k_with "h inst" => exact InstAt.keeps (by assumption) (Fr.keep (by assumption)))
  (k_with "compareOp NotIn str ref" => (k_here; k_dflt (first | refine env_notin (by ktr_rel) (by assumption) ?_ | refine env_notin_none (by ktr_rel) (by assumption) ?_)))
  (k_with "compareOp In ref ref" => (k_here; k_dflt (first
      | (refine in_two_t (by (exact News.isTup (by assumption) (by k_mem)); fail_if_success (focus skip)) (by (exact News.isTup (by assumption) (by k_mem)); fail_if_success (focus skip)) (by (exact News.isTup (by assumption) (by k_mem)); fail_if_success (focus skip)) (by (ktr_rel); fail_if_success (focus skip)) (by (ktr_units); fail_if_success (focus skip)) (by (first | decide | simp_all); fail_if_success (focus skip)) ?_; k_whole)
      | (refine in_two_f (by (exact News.isTup (by assumption) (by k_mem)); fail_if_success (focus skip)) (by (exact News.isTup (by assumption) (by k_mem)); fail_if_success (focus skip)) (by (exact News.isTup (by assumption) (by k_mem)); fail_if_success (focus skip)) (by (ktr_rel); fail_if_success (focus skip)) (by (ktr_units); fail_if_success (focus skip)) (by (first | decide | simp_all); fail_if_success (focus skip)) ?_; k_whole))))
  (k_with "compareOp NotIn ref ref" => (k_here; k_dflt (first
      | (refine notIn_four_t (by (exact News.isTup (by assumption) (by k_mem)); fail_if_success (focus skip)) (by (exact News.isTup (by assumption) (by k_mem)); fail_if_success (focus skip)) (by (exact News.isTup (by assumption) (by k_mem)); fail_if_success (focus skip)) (by (exact News.isTup (by assumption) (by k_mem)); fail_if_success (focus skip)) (by (exact News.isTup (by assumption) (by k_mem)); fail_if_success (focus skip)) (by (exact News.isTup (by assumption) (by k_mem)); fail_if_success (focus skip)) (by (ktr_units); fail_if_success (focus skip)) (by (first | decide | simp_all); fail_if_success (focus skip)) ?_; k_whole)
      | (refine notIn_four_f (by (exact News.isTup (by assumption) (by k_mem)); fail_if_success (focus skip)) (by (exact News.isTup (by assumption) (by k_mem)); fail_if_success (focus skip)) (by (exact News.isTup (by assumption) (by k_mem)); fail_if_success (focus skip)) (by (exact News.isTup (by assumption) (by k_mem)); fail_if_success (focus skip)) (by (exact News.isTup (by assumption) (by k_mem)); fail_if_success (focus skip)) (by (exact News.isTup (by assumption) (by k_mem)); fail_if_success (focus skip)) (by (ktr_units); fail_if_success (focus skip)) (by (first | decide | simp_all); fail_if_success (focus skip)) ?_; k_whole))))
  (k_with "storeName" => (k_here; k_dflt (refine storeX_U (by k_asm) (by k_asm) ?_ (by rfl) (by rfl)); intro h' F' N'; (try k_sweep)))
  (k_with "call ref" => (k_here; (with_reducible show wpAny _ _ (call (Value.ref 185) _) _ _ _); (fail_if_success (with_reducible show wpAny _ _ (call _ [_, Value.int 6 _]) _ _ _)); k_dflt (refine pick_use (by (k_asm); fail_if_success (focus skip)) (by (k_asm); fail_if_success (focus skip)) (by (k_asm); fail_if_success (focus skip)) (by (k_asm); fail_if_success (focus skip)) (by (k_asm); fail_if_success (focus skip)) (by (first | exact rfl | k_asm); fail_if_success (focus skip)) (by (exact rfl); fail_if_success (focus skip)) (by (exact rfl); fail_if_success (focus skip)) (by (k_updF); fail_if_success (focus skip)) (by ((try dsimp only); first | exact Nat.lt_of_le_of_lt (by (simp +arith); fail_if_success (focus skip)) hD | exact Nat.lt_of_le_of_lt (by (simp +arith); fail_if_success (focus skip)) hU | exact Nat.lt_of_le_of_lt (by (simp +arith); fail_if_success (focus skip)) hD9 | exact Nat.lt_of_le_of_lt (by (simp +arith); fail_if_success (focus skip)) hU9 | omega); fail_if_success (focus skip)) (by (first | assumption | omega); fail_if_success (focus skip)) (by (first | assumption | omega); fail_if_success (focus skip)) (by (first | assumption | omega); fail_if_success (focus skip)) (by (omega); fail_if_success (focus skip)) (by (first | omega | (simp; done)); fail_if_success (focus skip)) (by (first | omega | (simp; done)); fail_if_success (focus skip)) ?_; k_whole; intro h' tk' r' a' b' ta' tb' t' k' F' N' r0' r1' a0' a1' eb'; (try dsimp only at N'); (try k_sweep); (try dsimp only))))
  (k_with "call builtin:len" => (k_here; (with_reducible show wpAny _ _ (call (Value.builtin "len") [Value.ref _]) _ _ _); k_dflt (refine len_list (stays_list (Fr.keep (by k_asm)) (by assumption)) (by decide) ?_)))
  (k_with "subscriptTail" => (k_here; (with_reducible show wpAny _ _ (subscriptTail _ _ (Value.ref _) (Value.int _ _)) _ _ _); k_dflt (refine names_item (by (exact stays_list (Fr.keep (by k_asm)) (by assumption)); fail_if_success (focus skip)) (by (first | assumption | omega); fail_if_success (focus skip)) (by ((first | omega | (simp at *; omega))); fail_if_success (focus skip)) ?_ (by (with_unfolding_all rfl); fail_if_success (focus skip)); k_whole; intro xN' tN' hN')))
  trivial
theorem isList_but {h g : Heap} {na sa : Addr} {o : Obj} {items : Array Value} (hl : h.IsList na items) (kb : KeptBut [(sa, o)] h g) (hns : na ≠ sa) : g.IsList na items := by
  obtain ⟨o, ho, r⟩ := hl
  exact ⟨o, kb _ _ (fun p hp q => hns (by rw [List.mem_singleton.mp hp] at q; exact q.symm)) ho, r⟩
theorem KeptBut.to {own : List (Addr × Obj)} {h g h' : Heap} (kb : KeptBut own h g) (k : ∀ b o, g.get? b = some o → h'.get? b = some o) : KeptBut own h h' := fun b o n e => k _ _ (kb b o n e)
theorem ownsN_but {h g h' : Heap} {L sa : Addr} {o : Obj} {news owns : List (Addr × Obj)} (kb : KeptBut [(sa, o)] h g) (N : News g L h' news) (ho : ∀ q ∈ owns, q ∈ news ∧ q.1 ≠ sa) : OwnsN h h' owns := fun q hq => by
  obtain ⟨hm, hn⟩ := ho q hq
  refine ⟨(N q hm).1, ?_⟩
  cases z : h.get? q.1 with
  | none => rfl
  | some o' =>
    have := kb _ _ (fun p hp e => hn (by rw [List.mem_singleton.mp hp] at e; exact e.symm)) z
    rw [(N q hm).2.2] at this; cases this
noncomputable def DrawnC (w : World) (mean : ExcName → Option Value) (mg mb : Str → Option Value) (f : Nat) : Prop :=
  ∀ {A : Around} {s : Shared} {sa na : Addr} {a b fi : Int} {ta tb tf : Tok} {k : Nat} {Q E : Value → Shared → Prop}, fi = (f : Int) →
    CalM w mean mg mb A s [(sa, storeObj a b ta tb k)] → A.depth + 10 * f + 10 < recursionLimit → A.units + 40 * f + 40 < cLine → NamesAt s.heap na → na ≠ sa → 0 ≤ a → a < 10 ^ 90 → 0 ≤ b → b + (cnt f : Int) ≤ 900 →
    (∀ h' tk v t owns a' b' ta' tb' k', KeptBut [(sa, storeObj a b ta tb k)] s.heap h' → h'.get? sa = some (storeObj a' b' ta' tb' k') → OwnsN s.heap h' owns → SLater owns v t → t.four → t.size ≤ cnt f → 0 ≤ a' → a' < 10 ^ 90 → 0 ≤ b' → b' ≤ b + (cnt f : Int) → Q v { s with heap := h', toks := tk }) →
    wpAny (model PR w) A (call (.ref 200) [.ref sa, .int fi tf, .ref na]) Q E s
set_option maxHeartbeats 0 in
theorem drawn_zero : DrawnC w mean mg mb 0 := by
    intro A s sa na a b fi ta tb tf k Q E hfi C hD hU hna hns ha ha2 hb hb2 h
    subst hfi
    refine wpAny_call ?_
    refine enterM (binds := [(Str.ofString "store", .ref sa), (Str.ofString "floors", .int 0 tf), (Str.ofString "names", .ref na)]) C (by k_is) (by k_is) (by first | exact Nat.lt_of_le_of_lt (by (simp +arith); fail_if_success (focus skip)) hD | exact Nat.lt_of_le_of_lt (by (simp +arith); fail_if_success (focus skip)) hU | exact Nat.lt_of_le_of_lt (by (simp +arith); fail_if_success (focus skip)) hD9 | exact Nat.lt_of_le_of_lt (by (simp +arith); fail_if_success (focus skip)) hU9 | omega) (BindsTo.of_eq rfl) rfl (by decide +kernel) (fun g L' h₁ tk cells base outer kb kb' F N Y B X T hh lo => ?_) rfl rfl rfl
    clear C
    obtain ⟨ha', ad, af, ag, au⟩ := A
    replace hh : ha' = Option.none := hh
    subst hh
    dsimp only at hD hU
    have lx := ltN (lo _ (.head _))
    clear lo
    dsimp only at lx
    obtain ⟨t0, t1, t2, t3, t4, t5, hl⟩ := hna
    have hlg := isList_but hl kb hns
    k_cells Y
    (try simp only [List.cons_append, List.nil_append] at N)
    k_steps
    (try dsimp only)
    rename Fr _ _ _ _ => F'
    rename News _ _ _ _ => N'
    rename _ ∈ namesW => hx'
    refine' pend F' (h _ _ _ (leafSt _) [(_, ({ cls := .type "tuple", data := .seq #[_] } : Obj))] _ _ _ _ _ (KeptBut.to kb F'.keep) ?zg ?zo (fun h'' T'' => leafSt_at (Tups.tup T'' (.head _))) (leafSt_four hx').1 ?zs ?z0 ?z1 ?z2 ?z3)
    case zg => exact News.get N' (by k_mem)
    case zo => exact ownsN_but kb N' (List.forall_mem_cons.mpr ⟨⟨by k_mem, by k_ne⟩, List.forall_mem_nil _⟩)
    case zs => rw [(leafSt_four hx').2]; first | exact Nat.le_refl _ | omega
    case z0 => assumption
    case z1 => assumption
    case z2 => omega
    case z3 => (try simp only [cnt]); omega
end
end Mine
end
section
open PySem PySem.W PySem.Spec PySem.Calls PyProof.Rows
set_option maxRecDepth 100000
namespace Mine
section
variable {w : World} {mean : ExcName → Option Value} {mg mb : Str → Option Value}
theorem lines_p13_1 : True := by
  k_with_none
  (k_with "h ne" => (refine neN ?_; (try dsimp only); first | assumption | (refine Ne.symm ?_; assumption) | (refine Nat.ne_of_lt ?_; assumption) | (refine Nat.ne_of_gt ?_; assumption) | ((repeat (rename (_ ∧ _) => hA9; first | ((repeat (first | exact hA9 | exact Ne.symm hA9 | exact Nat.ne_of_lt hA9 | exact Nat.ne_of_gt hA9 | (obtain ⟨h9a, hA9⟩ := hA9; first | exact h9a | exact Ne.symm h9a | exact Nat.ne_of_lt h9a | exact Nat.ne_of_gt h9a | exact h9a.1 | exact h9a.2.1 | exact h9a.2.2 | exact Ne.symm h9a.1 | exact Ne.symm h9a.2.1 | exact Ne.symm h9a.2.2 | clear h9a))); fail_if_success (focus skip)) | clear hA9)); fail_if_success (focus skip)) | omega))
  (k_with "h rel" => first | assumption | exact IsTup.keeps (by assumption) (Fr.keep (by assumption)) | exact EnvAt.keeps (by assumption) (Fr.keep (by assumption)) | exact SetsAt.keeps (by assumption) (Fr.keep (by assumption)))
  (k_with "call builtin:len" => (k_here; (with_reducible show wpAny _ _ (call (Value.builtin "len") [Value.ref _]) _ _ _); first | refine len_1 (by ktr_rel) ?_ | refine len_2 (by ktr_rel) ?_ | refine len_3 (by ktr_rel) ?_ | refine len_4 (by ktr_rel) ?_))
  (k_with "subscriptTail" => (k_here; (with_reducible show wpAny _ _ (subscriptTail _ _ (Value.ref _) (Value.str _ _)) _ _ _); k_dflt (refine env_item (by (ktr_rel); fail_if_success (focus skip)) (by (assumption); fail_if_success (focus skip)) ?_ (by (with_unfolding_all rfl); fail_if_success (focus skip)); k_whole; intro eT)))
  (k_with "subscriptTail" => (k_here; (with_reducible show wpAny _ _ (subscriptTail _ _ (Value.ref _) (Value.int _ _)) _ _ _); k_dflt (refine item_tupleT (by (ktr_rel); fail_if_success (focus skip)) (by (decide); fail_if_success (focus skip)) (by (decide); fail_if_success (focus skip)) (by (rfl); fail_if_success (focus skip)) (by (rfl); fail_if_success (focus skip)) ?_; k_whole)))
  (k_with "subscriptTail Name Slice ref ref" => (k_here; k_dflt (refine tail_slice (by (k_asm); fail_if_success (focus skip)) (by (k_asm); fail_if_success (focus skip)) (by (ktr_rel); fail_if_success (focus skip)) (by (exact Nat.le_of_ble_eq_true rfl); fail_if_success (focus skip)) ?_ (by (with_unfolding_all rfl); fail_if_success (focus skip)) (by (intro _; with_unfolding_all rfl); fail_if_success (focus skip)); k_whole; intro D' h' F' N' l1; (try k_lt l1); (try k_sweep))))
  (k_with "exec Assign cons ListComp" => (k_here; (with_reducible rename PyProof.Rows.News _ _ _ _ => nx9); (replace nx9 := News.last2 nx9); (change PyProof.Rows.News _ _ _ [(_, _), (_, _)] at nx9); (repeat (rename ((_ : Nat) < _ ∧ _) => lx9; clear lx9)); k_dflt (refine Assign_ListComp_T (by k_asm) (by rfl) (by with_unfolding_all rfl) (by with_unfolding_all rfl) (by decide) (by rfl) (by decide) (by rfl) (by rfl) (by rfl) ?_); (repeat (first | walk1 | (dsimp only; walk1))); k_dflt (refine SrcT.ledger (by first | rfl | assumption) (by k_asm) (by k_asm) (by k_mem) (by exact Nat.le_of_ble_eq_true rfl) ?_; intro g'; lcg_lit)))
  (k_with "h units" => (simp only [units_deeper, units_in1]; first | exact Nat.lt_of_le_of_lt (by (simp +arith); fail_if_success (focus skip)) hD | exact Nat.lt_of_le_of_lt (by (simp +arith); fail_if_success (focus skip)) hU | exact Nat.lt_of_le_of_lt (by (simp +arith); fail_if_success (focus skip)) hD9 | exact Nat.lt_of_le_of_lt (by (simp +arith); fail_if_success (focus skip)) hU9 | omega))
  (k_with "compareOp Eq ref ref" => (k_here; k_dflt (first
      | (refine eq_one_t (by (ktr_rel); fail_if_success (focus skip)) (by (exact News.isTup (by assumption) (by k_mem)); fail_if_success (focus skip)) (by (ktr_units); fail_if_success (focus skip)) (by (first | decide | simp_all); fail_if_success (focus skip)) ?_; k_whole)
      | (refine eq_one_f (by (ktr_rel); fail_if_success (focus skip)) (by (exact News.isTup (by assumption) (by k_mem)); fail_if_success (focus skip)) (by (ktr_units); fail_if_success (focus skip)) (by (first | decide | simp_all); fail_if_success (focus skip)) ?_; k_whole))))
  (k_with "h rel" => exact SAt.keeps (by assumption) (Fr.keep (by assumption)))
  (k_with "compareOp In bool ref" => (k_here; k_dflt (refine in_bools (News.isList (by k_asm) (by k_mem)) ?_)))
  (k_with "compareOp NotIn bool ref" => (k_here; k_dflt (refine notIn_bools (News.isList (by k_asm) (by k_mem)) ?_)))
  (k_with "h inst" => exact InstAt.keeps (by assumption) (Fr.keep (by assumption)))
  (k_with "compareOp NotIn str ref" => (k_here; k_dflt (first | refine env_notin (by ktr_rel) (by assumption) ?_ | refine env_notin_none (by ktr_rel) (by assumption) ?_)))
  (k_with "compareOp In ref ref" => (k_here; k_dflt (first
      | (refine in_two_t (by (exact News.isTup (by assumption) (by k_mem)); fail_if_success (focus skip)) (by (exact News.isTup (by assumption) (by k_mem)); fail_if_success (focus skip)) (by (exact News.isTup (by assumption) (by k_mem)); fail_if_success (focus skip)) (by (ktr_rel); fail_if_success (focus skip)) (by (ktr_units); fail_if_success (focus skip)) (by (first | decide | simp_all); fail_if_success (focus skip)) ?_; k_whole)
      | (refine in_two_f (by (exact News.isTup (by assumption) (by k_mem)); fail_if_success (focus skip)) (by (exact News.isTup (by assumption) (by k_mem)); fail_if_success (focus skip)) (by (exact News.isTup (by assumption) (by k_mem)); fail_if_success (focus skip)) (by (ktr_rel); fail_if_success (focus skip)) (by (ktr_units); fail_if_success (focus skip)) (by (first | decide | simp_all); fail_if_success (focus skip)) ?_; k_whole))))
  (k_with "compareOp NotIn ref ref" => (k_here; k_dflt (first
      | (refine notIn_four_t (by (exact News.isTup (by assumption) (by k_mem)); fail_if_success (focus skip)) (by (exact News.isTup (by assumption) (by k_mem)); fail_if_success (focus skip)) (by (exact News.isTup (by assumption) (by k_mem)); fail_if_success (focus skip)) (by (exact News.isTup (by assumption) (by k_mem)); fail_if_success (focus skip)) (by (exact News.isTup (by assumption) (by k_mem)); fail_if_success (focus skip)) (by (exact News.isTup (by assumption) (by k_mem)); fail_if_success (focus skip)) (by (ktr_units); fail_if_success (focus skip)) (by (first | decide | simp_all); fail_if_success (focus skip)) ?_; k_whole)
      | (refine notIn_four_f (by (exact News.isTup (by assumption) (by k_mem)); fail_if_success (focus skip)) (by (exact News.isTup (by assumption) (by k_mem)); fail_if_success (focus skip)) (by (exact News.isTup (by assumption) (by k_mem)); fail_if_success (focus skip)) (by (exact News.isTup (by assumption) (by k_mem)); fail_if_success (focus skip)) (by (exact News.isTup (by assumption) (by k_mem)); fail_if_success (focus skip)) (by (exact News.isTup (by assumption) (by k_mem)); fail_if_success (focus skip)) (by (ktr_units); fail_if_success (focus skip)) (by (first | decide | simp_all); fail_if_success (focus skip)) ?_; k_whole))))
  (k_with "storeName" => (k_here; k_dflt (refine storeX_U (by k_asm) (by k_asm) ?_ (by rfl) (by rfl)); intro h' F' N'; (try k_sweep)))
  trivial
/-- how many parts an operation has -/
noncomputable def PartsTab (w : World) (h : Heap) (a : Addr) : Prop := ∃ f, h.MapOf (strKind PR w) a f ∧ (∃ t, f (Str.ofString "union") = some (.int 2 t)) ∧ (∃ t, f (Str.ofString "meet") = some (.int 2 t)) ∧ (∃ t, f (Str.ofString "less") = some (.int 2 t)) ∧ (∃ t, f (Str.ofString "not") = some (.int 1 t))
theorem tab_item {A : Around} {E : Value → Shared → Prop} {s : Shared} {a : Addr} {Q : Value → Shared → Prop} {value slice : Expr} {f : Str → Option Value} {x : Str} {n : Int} {t : Tok} (hm : s.heap.MapOf (strKind PR w) a f) (hv : ∃ tk, f x = some (.int n tk)) (h : ∀ tk, Q (.int n tk) { s with toks := s.toks + 1 })
    (hs : subscripted slice false (.ref a) (.str x t) = operate [.ref a, .str x t] (getItem (.ref a) (.str x t))) : wpAny (model PR w) A (subscriptTail value slice (.ref a) (.str x t)) Q E s := by
  obtain ⟨tk, hv⟩ := hv
  exact tail_any hm.typeIs slot_dict_getitem.lookup (wpAny_getItem_of (strKind_is PR w x t) hm hv (h tk)) hs
set_option maxHeartbeats 0 in
theorem tab_call {A : Around} {s : Shared} {Q E : Value → Shared → Prop}
    (C : Cal w mean mg mb A s) (hD : A.depth + 5 < recursionLimit)
    (h : ∀ h' tk D, Kept s.heap h' → PartsTab w h' D → Q (.ref D) { s with heap := h', toks := tk }) :
    wpAny (model PR w) A (call (.ref 178) []) Q E s := by
    refine enterP (binds := []) C (by k_is) (by k_is) (by first | exact Nat.lt_of_le_of_lt (by (simp +arith); fail_if_success (focus skip)) hD | exact Nat.lt_of_le_of_lt (by (simp +arith); fail_if_success (focus skip)) hU | exact Nat.lt_of_le_of_lt (by (simp +arith); fail_if_success (focus skip)) hD9 | exact Nat.lt_of_le_of_lt (by (simp +arith); fail_if_success (focus skip)) hU9 | omega) (BindsTo.of_eq rfl) (locs rfl) (fun L' h₁ base outer F N B X T hh => ?_) rfl rfl rfl (by decide)
    clear C
    k_steps
    (try dsimp only)
    rename Fr _ _ _ _ => F'
    rename News _ _ _ _ => N'
    rename Obj.IsDictOf _ _ _ => hd'
    refine pend F' (h _ _ _ (Fr.keep F') ⟨_, Heap.DictOf.mapOf (Heap.dictOf_iff.mpr ⟨_, News.get N' (.head _), hd'⟩), ⟨_, rfl⟩, ⟨_, rfl⟩, ⟨_, rfl⟩, ⟨_, rfl⟩⟩)
end
end Mine
end
section
open PySem PySem.W PySem.Spec PySem.Calls PyProof.Rows
set_option maxRecDepth 100000
namespace Mine
section
variable {w : World} {mean : ExcName → Option Value} {mg mb : Str → Option Value}
theorem off3_owns {owns news : List (Addr × Obj)} {I C D : Addr} {oI oC oD : Obj} (ap : Apart owns news) (hI : (I, oI) ∈ news) (hC : (C, oC) ∈ news) (hD : (D, oD) ∈ news) : LCg.Off3 I C D owns :=
  LCg.Off3.of fun p hp => ⟨Apart.get ap hI p hp, Apart.get ap hC p hp, Apart.get ap hD p hp⟩
theorem off3_append {I C D : Addr} : ∀ {l r : List (Addr × Obj)}, LCg.Off3 I C D l → LCg.Off3 I C D r → LCg.Off3 I C D (l ++ r)
  | [], _, _, h => h
  | _ :: _, _, x, h => ⟨x.1, off3_append x.2 h⟩
theorem off3_iff {I C D : Addr} : ∀ {l : List (Addr × Obj)}, LCg.Off3 I C D l → ∀ a ∈ l.map (·.1), a ≠ I ∧ a ≠ C ∧ a ≠ D
  | [], _, _, h => nomatch h
  | _ :: _, x, a, h => by
    rcases List.mem_cons.mp h with rfl | h
    · exact x.1
    · exact off3_iff x.2 a h
theorem off3_step {I C D : Addr} {l l' owns : List (Addr × Obj)} (o : LCg.Off3 I C D l) (p : LCg.Off3 I C D owns) (e : l'.map (·.1) = l.map (·.1) ++ owns.map (·.1)) : LCg.Off3 I C D l' :=
  LCg.Off3.of fun q hq => by
    have hm : q.1 ∈ l.map (·.1) ++ owns.map (·.1) := e ▸ List.mem_map_of_mem hq
    rcases List.mem_append.mp hm with h | h
    · exact off3_iff o _ h
    · exact off3_iff p _ h
theorem op3_item {A : Around} {E : Value → Shared → Prop} {s : Shared} {Q : Value → Shared → Prop} {value slice : Expr} {na : Addr} {i : Int} {u : Tok} {t0 t1 t2 t3 : Tok} (hl : IsTup s.heap na #[.str (Str.ofString "union") t0, .str (Str.ofString "meet") t1, .str (Str.ofString "less") t2, .str (Str.ofString "not") t3])
    (h0 : 0 ≤ i) (h1 : i < 3) (h : ∀ x tk, x = Str.ofString "union" ∨ x = Str.ofString "meet" ∨ x = Str.ofString "less" → Q (.str x tk) s)
    (hs : subscripted slice false (.ref na) (.int i u) = operate [.ref na, .int i u] (getItem (.ref na) (.int i u))) :
    wpAny (model PR w) A (subscriptTail value slice (.ref na) (.int i u)) Q E s :=
  KTb.item_tup (vs := [.str (Str.ofString "union") t0, .str (Str.ofString "meet") t1, .str (Str.ofString "less") t2, .str (Str.ofString "not") t3]) (ws := [Str.ofString "union", Str.ofString "meet", Str.ofString "less", Str.ofString "not"]) hl
    (.cons _ _ (.cons _ _ (.cons _ _ (.cons _ _ .nil)))) h0 (by simp only [List.length_cons, List.length_nil]; omega) (by omega) (fun t' hlt => h _ t' (by
      have : i.toNat = 0 ∨ i.toNat = 1 ∨ i.toNat = 2 := by omega
      rcases this with e | e | e
      · rw [e]; exact .inl rfl
      · rw [e]; exact .inr (.inl rfl)
      · rw [e]; exact .inr (.inr rfl))) hs
theorem tab_three {f : Str → Option Value} {x : Str} (h : x = Str.ofString "union" ∨ x = Str.ofString "meet" ∨ x = Str.ofString "less") (h1 : ∃ t, f (Str.ofString "union") = some (.int 2 t)) (h2 : ∃ t, f (Str.ofString "meet") = some (.int 2 t)) (h3 : ∃ t, f (Str.ofString "less") = some (.int 2 t)) : ∃ t, f x = some (.int 2 t) := by
  rcases h with rfl | rfl | rfl
  · exact h1
  · exact h2
  · exact h3
noncomputable abbrev tup3 (x : Str) (t : Tok) (v v' : Value) : Obj := { cls := .type "tuple", data := .seq #[.str x t, v, v'] }
noncomputable abbrev tup2 (x : Str) (t : Tok) (v : Value) : Obj := { cls := .type "tuple", data := .seq #[.str x t, v] }
theorem sat_three {h : Heap} {D : Addr} {x : Str} {t : Tok} {v v' : Value} {t1 t2 : St} (hO : x = Str.ofString "union" ∨ x = Str.ofString "meet" ∨ x = Str.ofString "less") (f1 : t1.four) (f2 : t2.four) :
    ∃ u : St, u.four ∧ u.size = t1.size + t2.size + 1 ∧ ∀ h, IsTup h D #[.str x t, v, v'] → SAt h v t1 → SAt h v' t2 → SAt h (.ref D) u := by
  rcases hO with rfl | rfl | rfl
  · exact ⟨.union t1 t2, ⟨f1, f2⟩, rfl, fun _ i a b => .union i a b⟩
  · exact ⟨.meet t1 t2, ⟨f1, f2⟩, rfl, fun _ i a b => .meet i a b⟩
  · exact ⟨.less t1 t2, ⟨f1, f2⟩, rfl, fun _ i a b => .less i a b⟩
noncomputable def DrawnPost (s : Shared) (sa : Addr) (a b : Int) (ta tb : Tok) (k f : Nat) (Q : Value → Shared → Prop) : Prop :=
  ∀ h' tk v t owns a' b' ta' tb' k', KeptBut [(sa, storeObj a b ta tb k)] s.heap h' → h'.get? sa = some (storeObj a' b' ta' tb' k') → OwnsN s.heap h' owns → SLater owns v t → t.four → t.size ≤ cnt f → 0 ≤ a' → a' < 10 ^ 90 → 0 ≤ b' → b' ≤ b + (cnt f : Int) → Q v { s with heap := h', toks := tk }
theorem bin_end {s : Shared} {sa D L' : Addr} {a b a' b' : Int} {ta tb ta' tb' tO : Tok} {k k' n tk : Nat} {Q : Value → Shared → Prop} {g h' : Heap} {m' : Str → Option Value} {e1 e2 e3 e4 e5 e6 e7 : Addr × Obj} {o1 o2 n1 n2 : List (Addr × Obj)} {ob1 ob2 : Obj} {x : Str} {v1 v2 : Value} {t1 t2 : St}
    (hO : x = Str.ofString "union" ∨ x = Str.ofString "meet" ∨ x = Str.ofString "less") (h : DrawnPost s sa a b ta tb k (n + 1) Q) (kb : KeptBut [(sa, storeObj a b ta tb k)] s.heap g) (F' : Fr g L' h' m')
    (N' : News g L' h' ((D, tup3 x tO v1 v2) :: e1 :: e2 :: e3 :: e4 :: e5 :: e6 :: e7 :: (sa, storeObj a' b' ta' tb' k') :: (o1 ++ o2))) (hne : D ≠ sa) (ap1 : Apart o1 n1) (m1 : (sa, ob1) ∈ n1) (ap2 : Apart o2 n2) (m2 : (sa, ob2) ∈ n2)
    (sl1 : SLater o1 v1 t1) (sl2 : SLater o2 v2 t2) (f1 : t1.four) (f2 : t2.four) (z1 : t1.size ≤ cnt n) (z2 : t2.size ≤ cnt n) (a0 : 0 ≤ a') (a1 : a' < 10 ^ 90) (b0 : 0 ≤ b') (b1 : b' ≤ b + (cnt (n + 1) : Int)) : PEnd g Q (.ret (.ref D)) { s with heap := h', toks := tk } := by
  obtain ⟨u, hu, hz, hs⟩ := sat_three (h := h') (D := D) (t := tO) (v := v1) (v' := v2) hO f1 f2
  have hcnt : cnt (n + 1) = 2 * cnt n + 1 := rfl
  have mem : ∀ q ∈ (D, tup3 x tO v1 v2) :: (o1 ++ o2), q ∈ (D, tup3 x tO v1 v2) :: e1 :: e2 :: e3 :: e4 :: e5 :: e6 :: e7 :: (sa, storeObj a' b' ta' tb' k') :: (o1 ++ o2) := fun q hq => by
    rcases List.mem_cons.mp hq with rfl | hq
    · exact .head _
    · exact .tail _ (.tail _ (.tail _ (.tail _ (.tail _ (.tail _ (.tail _ (.tail _ (.tail _ hq))))))))
  refine pend F' (h _ _ _ u ((D, tup3 x tO v1 v2) :: (o1 ++ o2)) _ _ _ _ _ (KeptBut.to kb F'.keep) (News.get N' (by k_mem)) (ownsN_but kb N' fun q hq => ⟨mem q hq, ?_⟩) (fun h'' T'' => hs h'' (Tups.tup T'' (.head _)) (sl1 h'' fun q hq => T'' q (.tail _ (List.mem_append_left _ hq))) (sl2 h'' fun q hq => T'' q (.tail _ (List.mem_append_right _ hq)))) hu (by omega) a0 a1 b0 b1)
  rcases List.mem_cons.mp hq with rfl | hq
  · exact hne
  · rcases List.mem_append.mp hq with hq | hq
    · exact Apart.get ap1 m1 q hq
    · exact Apart.get ap2 m2 q hq
theorem not_end {s : Shared} {sa D L' : Addr} {a b a' b' : Int} {ta tb ta' tb' tO : Tok} {k k' n tk : Nat} {Q : Value → Shared → Prop} {g h' : Heap} {m' : Str → Option Value} {e1 e2 e3 e4 e5 e6 e7 : Addr × Obj} {o1 n1 : List (Addr × Obj)} {ob1 : Obj} {v1 : Value} {t1 : St}
    (h : DrawnPost s sa a b ta tb k (n + 1) Q) (kb : KeptBut [(sa, storeObj a b ta tb k)] s.heap g) (F' : Fr g L' h' m')
    (N' : News g L' h' ((D, tup2 (Str.ofString "not") tO v1) :: e1 :: e2 :: e3 :: e4 :: e5 :: e6 :: e7 :: (sa, storeObj a' b' ta' tb' k') :: o1)) (hne : D ≠ sa) (ap1 : Apart o1 n1) (m1 : (sa, ob1) ∈ n1)
    (sl1 : SLater o1 v1 t1) (f1 : t1.four) (z1 : t1.size ≤ cnt n) (a0 : 0 ≤ a') (a1 : a' < 10 ^ 90) (b0 : 0 ≤ b') (b1 : b' ≤ b + (cnt (n + 1) : Int)) : PEnd g Q (.ret (.ref D)) { s with heap := h', toks := tk } := by
  have hcnt : cnt (n + 1) = 2 * cnt n + 1 := rfl
  have mem : ∀ q ∈ (D, tup2 (Str.ofString "not") tO v1) :: o1, q ∈ (D, tup2 (Str.ofString "not") tO v1) :: e1 :: e2 :: e3 :: e4 :: e5 :: e6 :: e7 :: (sa, storeObj a' b' ta' tb' k') :: o1 := fun q hq => by
    rcases List.mem_cons.mp hq with rfl | hq
    · exact .head _
    · exact .tail _ (.tail _ (.tail _ (.tail _ (.tail _ (.tail _ (.tail _ (.tail _ (.tail _ hq))))))))
  refine pend F' (h _ _ _ (.not t1) ((D, tup2 (Str.ofString "not") tO v1) :: o1) _ _ _ _ _ (KeptBut.to kb F'.keep) (News.get N' (by k_mem)) (ownsN_but kb N' fun q hq => ⟨mem q hq, ?_⟩) (fun h'' T'' => .not (Tups.tup T'' (.head _)) (sl1 h'' fun q hq => T'' q (.tail _ hq))) f1 (by show t1.size + 1 ≤ _; omega) a0 a1 b0 b1)
  rcases List.mem_cons.mp hq with rfl | hq
  · exact hne
  · exact Apart.get ap1 m1 q hq
theorem apart_ofN {h₀ h h' : Heap} {L : Addr} {owns news : List (Addr × Obj)} (O : OwnsN h h' owns) (N : News h₀ L h news) : Apart owns news :=
  apart_of fun p hp q hq e => by
    have := (O q hq).2
    rw [e, (N p hp).1] at this; cases this
theorem drawn_use {f : Nat} {A : Around} {base h₀ : Heap} {outer : List Env} {L : Addr} {m : Str → Option Value} {env : Env} {news : List (Addr × Obj)} {gn : Obj → List (Addr × Obj)} {s : Shared} {sa na : Addr} {a b fi : Int} {ta tb tf : Tok} {k : Nat} {Q E : Value → Shared → Prop} {t0 t1 t2 t3 t4 t5 : Tok}
    (ih : DrawnC w mean mg mb f) (B : Below A base outer h₀) (F : Fr h₀ L s.heap m) (X : (hd.heap_39 w.params).In h₀) (T : Top hd.view_39 LO mean mg mb h₀) (N : News h₀ L s.heap news) (hh : A.handled = none) (hf : env.frame = some L) (hk : env.scope.kind = .function)
    (U : UpdF sa (storeObj a b ta tb k) news gn) (hfi : fi = (f : Int)) (hD : A.depth + 1 + 10 * f + 10 < recursionLimit) (hU : A.units + 3 + 40 * f + 40 < cLine)
    (hl : s.heap.IsList na #[.str (Str.ofString "a") t0, .str (Str.ofString "b") t1, .str (Str.ofString "c") t2, .str (Str.ofString "meet") t3, .str (Str.ofString "none") t4, .str (Str.ofString "all") t5])
    (hns : na ≠ sa) (ha : 0 ≤ a) (ha2 : a < 10 ^ 90) (hb : 0 ≤ b) (hb2 : b + (cnt f : Int) ≤ 900)
    (h : ∀ h' tk v t owns a' b' ta' tb' k', Fr h₀ L h' m → News h₀ L h' (gn (storeObj a' b' ta' tb' k') ++ owns) → Apart owns news → SLater owns v t → t.four → t.size ≤ cnt f → 0 ≤ a' → a' < 10 ^ 90 → 0 ≤ b' → b' ≤ b + (cnt f : Int) → Q v { s with heap := h', toks := tk }) :
    wpAny (model PR w) (A.deeper env) (call (.ref 200) [.ref sa, .int fi tf, .ref na]) Q E s := by
  obtain ⟨pre, post, rfl, hg, h1, h2⟩ := U.split
  have hmem := N (sa, storeObj a b ta tb k) (List.mem_append_right _ (.head _))
  refine ih hfi (CalM.site B F X T hh hf hk (fun q hq => by rw [List.mem_singleton.mp hq]; exact hmem)) (by simp only [depth_deeper]; first | exact Nat.lt_of_le_of_lt (by (simp +arith); fail_if_success (focus skip)) hD | exact Nat.lt_of_le_of_lt (by (simp +arith); fail_if_success (focus skip)) hU | exact Nat.lt_of_le_of_lt (by (simp +arith); fail_if_success (focus skip)) hD9 | exact Nat.lt_of_le_of_lt (by (simp +arith); fail_if_success (focus skip)) hU9 | omega) (by simp only [units_deeper]; first | exact Nat.lt_of_le_of_lt (by (simp +arith); fail_if_success (focus skip)) hD | exact Nat.lt_of_le_of_lt (by (simp +arith); fail_if_success (focus skip)) hU | exact Nat.lt_of_le_of_lt (by (simp +arith); fail_if_success (focus skip)) hD9 | exact Nat.lt_of_le_of_lt (by (simp +arith); fail_if_success (focus skip)) hU9 | omega) ⟨t0, t1, t2, t3, t4, t5, hl⟩ hns ha ha2 hb hb2 fun h' tk v t owns a' b' ta' tb' k' kb e O sl fo sz a0 a1 b0 b1 => ?_
  have kb' : ∀ b o, b ≠ sa → s.heap.get? b = some o → h'.get? b = some o := fun b o n e => kb b o (fun p hp q => n (by rw [List.mem_singleton.mp hp] at q; exact q.symm)) e
  refine h h' tk v t owns a' b' ta' tb' k' ⟨F.ns.at' fun o e => kb' _ o (Ne.symm hmem.2.1) e, fun b o e => kb' b o (fun q => ?_) (F.keep b o e), F.above⟩ (ownsN_news O F (hg _ ▸ fun q hq => ?_)) (apart_ofN O N) sl fo sz a0 a1 b0 b1
  · rw [q, hmem.2.2] at e; cases e
  · rcases List.mem_append.mp hq with hq | hq
    · exact ⟨kb' _ _ (h1 q hq) (N q (List.mem_append_left _ hq)).1, (N q (List.mem_append_left _ hq)).2⟩
    · rcases List.mem_cons.mp hq with rfl | hq
      · exact ⟨e, hmem.2⟩
      · exact ⟨kb' _ _ (h2 q hq) (N q (List.mem_append_right _ (.tail _ hq))).1, (N q (List.mem_append_right _ (.tail _ hq))).2⟩
theorem lines_p12_1 : True := by
  k_with_none
  (k_with "h ne" => (refine neN ?_; (try dsimp only); first | assumption | (refine Ne.symm ?_; assumption) | (refine Nat.ne_of_lt ?_; assumption) | (refine Nat.ne_of_gt ?_; assumption) | ((repeat (rename (_ ∧ _) => hA9; first | ((repeat (first | exact hA9 | exact Ne.symm hA9 | exact Nat.ne_of_lt hA9 | exact Nat.ne_of_gt hA9 | (obtain ⟨h9a, hA9⟩ := hA9; first | exact h9a | exact Ne.symm h9a | exact Nat.ne_of_lt h9a | exact Nat.ne_of_gt h9a | exact h9a.1 | exact h9a.2.1 | exact h9a.2.2 | exact Ne.symm h9a.1 | exact Ne.symm h9a.2.1 | exact Ne.symm h9a.2.2 | clear h9a))); fail_if_success (focus skip)) | clear hA9)); fail_if_success (focus skip)) | omega))
  (k_with "h rel" => first | assumption | exact IsTup.keeps (by assumption) (Fr.keep (by assumption)) | exact EnvAt.keeps (by assumption) (Fr.keep (by assumption)) | exact SetsAt.keeps (by assumption) (Fr.keep (by assumption)))
  (k_with "call builtin:len" => (k_here; (with_reducible show wpAny _ _ (call (Value.builtin "len") [Value.ref _]) _ _ _); first | refine len_1 (by ktr_rel) ?_ | refine len_2 (by ktr_rel) ?_ | refine len_3 (by ktr_rel) ?_ | refine len_4 (by ktr_rel) ?_))
  (k_with "subscriptTail" => (k_here; (with_reducible show wpAny _ _ (subscriptTail _ _ (Value.ref _) (Value.str _ _)) _ _ _); k_dflt (refine env_item (by (ktr_rel); fail_if_success (focus skip)) (by (assumption); fail_if_success (focus skip)) ?_ (by (with_unfolding_all rfl); fail_if_success (focus skip)); k_whole; intro eT)))
  (k_with "subscriptTail" => (k_here; (with_reducible show wpAny _ _ (subscriptTail _ _ (Value.ref _) (Value.int _ _)) _ _ _); k_dflt (refine item_tupleT (by (ktr_rel); fail_if_success (focus skip)) (by (decide); fail_if_success (focus skip)) (by (decide); fail_if_success (focus skip)) (by (rfl); fail_if_success (focus skip)) (by (rfl); fail_if_success (focus skip)) ?_; k_whole)))
  (k_with "subscriptTail Name Slice ref ref" => (k_here; k_dflt (refine tail_slice (by (k_asm); fail_if_success (focus skip)) (by (k_asm); fail_if_success (focus skip)) (by (ktr_rel); fail_if_success (focus skip)) (by (exact Nat.le_of_ble_eq_true rfl); fail_if_success (focus skip)) ?_ (by (with_unfolding_all rfl); fail_if_success (focus skip)) (by (intro _; with_unfolding_all rfl); fail_if_success (focus skip)); k_whole; intro D' h' F' N' l1; (try k_lt l1); (try k_sweep))))
  (k_with "exec Assign cons ListComp" => (k_here; (with_reducible rename PyProof.Rows.News _ _ _ _ => nx9); (replace nx9 := News.last2 nx9); (change PyProof.Rows.News _ _ _ [(_, _), (_, _)] at nx9); (repeat (rename ((_ : Nat) < _ ∧ _) => lx9; clear lx9)); k_dflt (refine Assign_ListComp_T (by k_asm) (by rfl) (by with_unfolding_all rfl) (by with_unfolding_all rfl) (by decide) (by rfl) (by decide) (by rfl) (by rfl) (by rfl) ?_); (repeat (first | walk1 | (dsimp only; walk1))); k_dflt (refine SrcT.ledger (by first | rfl | assumption) (by k_asm) (by k_asm) (by k_mem) (by exact Nat.le_of_ble_eq_true rfl) ?_; intro g'; lcg_lit)))
  (k_with "h units" => (simp only [units_deeper, units_in1]; first | exact Nat.lt_of_le_of_lt (by (simp +arith); fail_if_success (focus skip)) hD | exact Nat.lt_of_le_of_lt (by (simp +arith); fail_if_success (focus skip)) hU | exact Nat.lt_of_le_of_lt (by (simp +arith); fail_if_success (focus skip)) hD9 | exact Nat.lt_of_le_of_lt (by (simp +arith); fail_if_success (focus skip)) hU9 | omega))
  (k_with "compareOp Eq ref ref" => (k_here; k_dflt (first
      | (refine eq_one_t (by (ktr_rel); fail_if_success (focus skip)) (by (exact News.isTup (by assumption) (by k_mem)); fail_if_success (focus skip)) (by (ktr_units); fail_if_success (focus skip)) (by (first | decide | simp_all); fail_if_success (focus skip)) ?_; k_whole)
      | (refine eq_one_f (by (ktr_rel); fail_if_success (focus skip)) (by (exact News.isTup (by assumption) (by k_mem)); fail_if_success (focus skip)) (by (ktr_units); fail_if_success (focus skip)) (by (first | decide | simp_all); fail_if_success (focus skip)) ?_; k_whole))))
  (k_with "h rel" => exact SAt.keeps (by assumption) (Fr.keep (by assumption)))
  (k_with "compareOp In bool ref" => (k_here; k_dflt (refine in_bools (News.isList (by k_asm) (by k_mem)) ?_)))
  (k_with "compareOp NotIn bool ref" => (k_here; k_dflt (refine notIn_bools (News.isList (by k_asm) (by k_mem)) ?_)))
  (k_with "h inst" => exact InstAt.keeps (by assumption) (Fr.keep (by assumption)))
  (k_with "compareOp NotIn str ref" => (k_here; k_dflt (first | refine env_notin (by ktr_rel) (by assumption) ?_ | refine env_notin_none (by ktr_rel) (by assumption) ?_)))
  (k_with "compareOp In ref ref" => (k_here; k_dflt (first
      | (refine in_two_t (by (exact News.isTup (by assumption) (by k_mem)); fail_if_success (focus skip)) (by (exact News.isTup (by assumption) (by k_mem)); fail_if_success (focus skip)) (by (exact News.isTup (by assumption) (by k_mem)); fail_if_success (focus skip)) (by (ktr_rel); fail_if_success (focus skip)) (by (ktr_units); fail_if_success (focus skip)) (by (first | decide | simp_all); fail_if_success (focus skip)) ?_; k_whole)
      | (refine in_two_f (by (exact News.isTup (by assumption) (by k_mem)); fail_if_success (focus skip)) (by (exact News.isTup (by assumption) (by k_mem)); fail_if_success (focus skip)) (by (exact News.isTup (by assumption) (by k_mem)); fail_if_success (focus skip)) (by (ktr_rel); fail_if_success (focus skip)) (by (ktr_units); fail_if_success (focus skip)) (by (first | decide | simp_all); fail_if_success (focus skip)) ?_; k_whole))))
  (k_with "compareOp NotIn ref ref" => (k_here; k_dflt (first
      | (refine notIn_four_t (by (exact News.isTup (by assumption) (by k_mem)); fail_if_success (focus skip)) (by (exact News.isTup (by assumption) (by k_mem)); fail_if_success (focus skip)) (by (exact News.isTup (by assumption) (by k_mem)); fail_if_success (focus skip)) (by (exact News.isTup (by assumption) (by k_mem)); fail_if_success (focus skip)) (by (exact News.isTup (by assumption) (by k_mem)); fail_if_success (focus skip)) (by (exact News.isTup (by assumption) (by k_mem)); fail_if_success (focus skip)) (by (ktr_units); fail_if_success (focus skip)) (by (first | decide | simp_all); fail_if_success (focus skip)) ?_; k_whole)
      | (refine notIn_four_f (by (exact News.isTup (by assumption) (by k_mem)); fail_if_success (focus skip)) (by (exact News.isTup (by assumption) (by k_mem)); fail_if_success (focus skip)) (by (exact News.isTup (by assumption) (by k_mem)); fail_if_success (focus skip)) (by (exact News.isTup (by assumption) (by k_mem)); fail_if_success (focus skip)) (by (exact News.isTup (by assumption) (by k_mem)); fail_if_success (focus skip)) (by (exact News.isTup (by assumption) (by k_mem)); fail_if_success (focus skip)) (by (ktr_units); fail_if_success (focus skip)) (by (first | decide | simp_all); fail_if_success (focus skip)) ?_; k_whole))))
  (k_with "storeName" => (k_here; k_dflt (refine storeX_U (by k_asm) (by k_asm) ?_ (by rfl) (by rfl)); intro h' F' N'; (try k_sweep)))
  (k_with "call ref" => (k_here; (with_reducible show wpAny _ _ (call (Value.ref 185) _) _ _ _); (fail_if_success (with_reducible show wpAny _ _ (call _ [_, Value.int 6 _]) _ _ _)); k_dflt (refine pick_use (by (k_asm); fail_if_success (focus skip)) (by (k_asm); fail_if_success (focus skip)) (by (k_asm); fail_if_success (focus skip)) (by (k_asm); fail_if_success (focus skip)) (by (k_asm); fail_if_success (focus skip)) (by (first | exact rfl | k_asm); fail_if_success (focus skip)) (by (exact rfl); fail_if_success (focus skip)) (by (exact rfl); fail_if_success (focus skip)) (by (k_updF); fail_if_success (focus skip)) (by ((try dsimp only); first | exact Nat.lt_of_le_of_lt (by (simp +arith); fail_if_success (focus skip)) hD | exact Nat.lt_of_le_of_lt (by (simp +arith); fail_if_success (focus skip)) hU | exact Nat.lt_of_le_of_lt (by (simp +arith); fail_if_success (focus skip)) hD9 | exact Nat.lt_of_le_of_lt (by (simp +arith); fail_if_success (focus skip)) hU9 | omega); fail_if_success (focus skip)) (by (first | assumption | omega); fail_if_success (focus skip)) (by (first | assumption | omega); fail_if_success (focus skip)) (by (first | assumption | omega); fail_if_success (focus skip)) (by (omega); fail_if_success (focus skip)) (by (first | omega | (simp; done)); fail_if_success (focus skip)) (by (first | omega | (simp; done)); fail_if_success (focus skip)) ?_; k_whole; intro h' tk' r' a' b' ta' tb' t' k' F' N' r0' r1' a0' a1' eb'; (try dsimp only at N'); (try k_sweep); (try dsimp only))))
  (k_with "call builtin:len" => (k_here; (with_reducible show wpAny _ _ (call (Value.builtin "len") [Value.ref _]) _ _ _); k_dflt (refine len_list (stays_list (Fr.keep (by k_asm)) (by assumption)) (by decide) ?_)))
  (k_with "subscriptTail" => (k_here; (with_reducible show wpAny _ _ (subscriptTail _ _ (Value.ref _) (Value.int _ _)) _ _ _); k_dflt (refine names_item (by (exact stays_list (Fr.keep (by k_asm)) (by assumption)); fail_if_success (focus skip)) (by (first | assumption | omega); fail_if_success (focus skip)) (by ((first | omega | (simp at *; omega))); fail_if_success (focus skip)) ?_ (by (with_unfolding_all rfl); fail_if_success (focus skip)); k_whole; intro xN' tN' hN')))
  (k_with "call ref" => (k_here; (with_reducible show wpAny _ _ (call (Value.ref 178) _) _ _ _); k_dflt (refine tab_call (Cal.site (by k_asm) (by k_asm) (by k_asm) (by k_asm) rfl rfl rfl) (by (try simp only [depth_deeper]); (try dsimp only); first | exact Nat.lt_of_le_of_lt (by (simp +arith); fail_if_success (focus skip)) hD | exact Nat.lt_of_le_of_lt (by (simp +arith); fail_if_success (focus skip)) hU | exact Nat.lt_of_le_of_lt (by (simp +arith); fail_if_success (focus skip)) hD9 | exact Nat.lt_of_le_of_lt (by (simp +arith); fail_if_success (focus skip)) hU9 | omega) (fun h' tk' D' kp' hT' => ?_)); (rename Fr _ _ _ _ => F'); (rename News _ _ _ _ => N'); (replace F' := PyProof.Rows.Fr.keeps F' kp'); (replace N' := PyProof.Rows.News.grown N' kp'); clear kp'; (obtain ⟨f', hm', hu', he', hl', hn'⟩ := hT'); (try dsimp only)))
  (k_with "subscriptTail" => (k_here; (with_reducible show wpAny _ _ (subscriptTail _ _ (Value.ref _) (Value.str _ _)) _ _ _); k_dflt (refine tab_item (by (with_reducible assumption); fail_if_success (focus skip)) (by (first | assumption | exact tab_three (by assumption) (by assumption) (by assumption) (by assumption)); fail_if_success (focus skip)) ?_ (by (with_unfolding_all rfl); fail_if_success (focus skip)); k_whole; intro eT)))
  (k_with "h all" => first | exact Apart.get (by assumption) (by k_mem) | exact List.forall_mem_append.mpr ⟨Apart.get (by assumption) (by k_mem), Apart.get (by assumption) (by k_mem)⟩)
  (k_with "call ref" => (k_here; (with_reducible show wpAny _ _ (call (Value.ref 200) _) _ _ _); k_dflt (refine drawn_use (by (k_asm); fail_if_success (focus skip)) (by (k_asm); fail_if_success (focus skip)) (by (k_asm); fail_if_success (focus skip)) (by (k_asm); fail_if_success (focus skip)) (by (k_asm); fail_if_success (focus skip)) (by (k_asm); fail_if_success (focus skip)) (by (first | exact rfl | k_asm); fail_if_success (focus skip)) (by (exact rfl); fail_if_success (focus skip)) (by (exact rfl); fail_if_success (focus skip)) (by (k_updF); fail_if_success (focus skip)) (by (first | assumption | omega); fail_if_success (focus skip)) (by ((try dsimp only); first | exact Nat.lt_of_le_of_lt (by (simp +arith); fail_if_success (focus skip)) hD | exact Nat.lt_of_le_of_lt (by (simp +arith); fail_if_success (focus skip)) hU | exact Nat.lt_of_le_of_lt (by (simp +arith); fail_if_success (focus skip)) hD9 | exact Nat.lt_of_le_of_lt (by (simp +arith); fail_if_success (focus skip)) hU9 | omega); fail_if_success (focus skip)) (by ((try dsimp only); first | exact Nat.lt_of_le_of_lt (by (simp +arith); fail_if_success (focus skip)) hD | exact Nat.lt_of_le_of_lt (by (simp +arith); fail_if_success (focus skip)) hU | exact Nat.lt_of_le_of_lt (by (simp +arith); fail_if_success (focus skip)) hD9 | exact Nat.lt_of_le_of_lt (by (simp +arith); fail_if_success (focus skip)) hU9 | omega); fail_if_success (focus skip)) (by (exact stays_list (Fr.keep (by k_asm)) (by assumption)); fail_if_success (focus skip)) (by (first | k_asm | k_ne); fail_if_success (focus skip)) (by (first | assumption | omega); fail_if_success (focus skip)) (by (first | assumption | omega); fail_if_success (focus skip)) (by (first | assumption | omega); fail_if_success (focus skip)) (by (omega); fail_if_success (focus skip)) ?_; k_whole; intro h' tk' v' t' owns' a' b' ta' tb' k' F' N' ap' sl' fo' sz' a0' a1' b0' b1'; (try simp only [List.cons_append, List.nil_append, List.append_assoc] at N'); (try k_sweep); (try dsimp only))))
  (k_with "eval ListComp" => (k_here; k_dflt (refine LCg.ListComp_U (F₀ := by k_asm) (by with_unfolding_all rfl) (by decide) (by rfl) (by decide) (by rfl) ?_); k_dflt lcg_toSrc))
  (k_with "CompRest" => (with_unfolding_all first
      | (refine LCg.CompRest.succ ?_; intro v' I' oI' C' oC' D' m' h' tk' E' hv' hC' hx' F' N' off' ne'; (obtain ⟨t9', hv9'⟩ := hv'; subst hv9'); have oA' := off'; (try simp only [LCg.Off3, and_true] at off'))
      | refine LCg.CompRest.zero ?_))
  (k_with "CompEnd" => ((rename Fr _ _ _ _ => F'); (rename News _ _ _ _ => N'); (refine ⟨_, _, _, rfl, F', N', ?off, True.intro, ?_⟩); (case off => exact off3_step (by assumption) (off3_owns (by assumption) (by k_mem) (by k_mem) (by k_mem)) (by simp only [List.map_cons, List.map_nil, List.map_append, List.cons_append, List.nil_append]))))
  (k_with "subscriptTail" => (k_here; (with_reducible show wpAny _ _ (subscriptTail _ _ (Value.ref _) (Value.int (_ - 2) _)) _ _ _); k_dflt (refine op3_item (by (exact News.isTup (by k_asm) (by k_mem)); fail_if_success (focus skip)) (by (omega); fail_if_success (focus skip)) (by (omega); fail_if_success (focus skip)) ?_ (by (with_unfolding_all rfl); fail_if_success (focus skip)); k_whole; intro xO' tO' hO')))
  (k_with "CompSrc" => (k_here; k_dflt (refine LCg.CompSrc.range (by rfl) (by k_asm) (by k_asm) (by assumption) (by first | decide | rfl) (by first | rfl | decide) (by first | size_fits | exact Nat.le_of_ble_eq_true rfl) ?_; intro g'; lcg_lit)))
  trivial
set_option maxHeartbeats 0 in
theorem drawn_succ (n : Nat) (hn : n < 5) (ih : DrawnC w mean mg mb n) : DrawnC w mean mg mb (n + 1) := by
    intro A s sa na a b fi ta tb tf k Q E hfi C hD hU hna hns ha ha2 hb hb2 h
    refine wpAny_call ?_
    refine enterM (binds := [(Str.ofString "store", .ref sa), (Str.ofString "floors", .int fi tf), (Str.ofString "names", .ref na)]) C (by k_is) (by k_is) (by first | exact Nat.lt_of_le_of_lt (by (simp +arith); fail_if_success (focus skip)) hD | exact Nat.lt_of_le_of_lt (by (simp +arith); fail_if_success (focus skip)) hU | exact Nat.lt_of_le_of_lt (by (simp +arith); fail_if_success (focus skip)) hD9 | exact Nat.lt_of_le_of_lt (by (simp +arith); fail_if_success (focus skip)) hU9 | omega) (BindsTo.of_eq rfl) rfl (by decide +kernel) (fun g L' h₁ tk cells base outer kb kb' F N Y B X T hh lo => ?_) rfl rfl rfl
    clear C
    obtain ⟨ha', ad, af, ag, au⟩ := A
    replace hh : ha' = Option.none := hh
    subst hh
    dsimp only at hD hU
    have lx := ltN (lo _ (.head _))
    clear lo
    dsimp only at lx
    obtain ⟨t0, t1, t2, t3, t4, t5, hl⟩ := hna
    have hlg := isList_but hl kb hns
    k_cells Y
    (try simp only [List.cons_append, List.nil_append] at N)
    have hcnt : cnt (n + 1) = 2 * cnt n + 1 := rfl
    have hpos : 1 ≤ cnt n := by cases n with
      | zero => exact Nat.le_refl 1
      | succ n => show 1 ≤ 2 * cnt n + 1; omega
    k_steps
    k_dflt (refine pick_use (by k_asm) (by k_asm) (by k_asm) (by k_asm) (by k_asm) rfl rfl rfl (by k_updF) (by (try dsimp only); omega) ha ha2 hb (by omega) (by decide) (by decide) fun h' tk' r' a' b' ta' tb' t' k' F' N' r0 r1 a0 a1 eb => ?_)
    (try dsimp only at N')
    k_sweep
    obtain hr | hr | rfl : r' < 2 ∨ (2 ≤ r' ∧ r' < 5) ∨ r' = 5 := by omega
    case inl =>
      k_steps
      (try dsimp only)
      rename Fr _ _ _ _ => F'
      rename News _ _ _ _ => N'
      rename _ ∈ namesW => hx'
      refine' pend F' (h _ _ _ (leafSt _) [(_, ({ cls := .type "tuple", data := .seq #[_] } : Obj))] _ _ _ _ _ (KeptBut.to kb F'.keep) ?zg ?zo (fun h'' T'' => leafSt_at (Tups.tup T'' (.head _))) (leafSt_four hx').1 ?zs ?z0 ?z1 ?z2 ?z3)
      case zg => exact News.get N' (by k_mem)
      case zo => exact ownsN_but kb N' (List.forall_mem_cons.mpr ⟨⟨by k_mem, by k_ne⟩, List.forall_mem_nil _⟩)
      case zs => rw [(leafSt_four hx').2]; first | exact Nat.le_refl _ | omega
      case z0 => assumption
      case z1 => assumption
      case z2 => omega
      case z3 => (try simp only [cnt]); omega
    case inr.inl =>
      obtain ⟨hr2, hr5⟩ := hr
      k_steps
      (try dsimp only)
      rename Fr _ _ _ _ => F'
      rename News _ _ _ _ => N'
      refine bin_end (by assumption) h kb F' N' (by k_ne) (by assumption) (by k_mem) (by assumption) (by k_mem) (by assumption) (by assumption) (by assumption) (by assumption) (by assumption) (by assumption) (by assumption) (by assumption) (by assumption) (by omega)
    case inr.inr =>
      k_steps
      (try dsimp only)
      rename Fr _ _ _ _ => F'
      rename News _ _ _ _ => N'
      refine not_end h kb F' N' (by k_ne) (by assumption) (by k_mem) (by assumption) (by assumption) (by assumption) (by assumption) (by assumption) (by assumption) (by omega)
theorem drawn_call : ∀ f, f < 5 → DrawnC w mean mg mb f
  | 0, _ => drawn_zero
  | n + 1, h => drawn_succ n (by omega) (drawn_call n (by omega))
end
end Mine
end
section
open PySem PySem.W PySem.Spec PySem.Calls PyProof.Rows
set_option maxRecDepth 100000
namespace Mine
theorem look_r1 : hd.heap_39 = hd.heap_39 ∧ PySem.Challenge.rw_pq0109_01 = PySem.Challenge.rw_pq0109_01 := by
  k_fill
  exact ⟨rfl, rfl⟩
section
variable {w : World}
noncomputable abbrev excObj (t : Addr) : Obj := { cls := .ref 60, data := .fields #[.ref t, .none, .none, .none, .bool false, .none] }
/-- what is known of the class TermFault -/
structure ExcK (w : World) (h : Heap) : Prop where
  obj : ∃ cd sl, h.get? 60 = some ⟨.type "type", none, .cls cd, sl⟩ ∧ cd.hasDel = false ∧ cd.abstract = false ∧ cd.mro.isEmpty = false
  made : Looks (model PR w) h (Bind.madeBy (.ref 60)) (some "Exception.__new__")
  base : Looks (model PR w) h (Bind.staticBase (.ref 60)) (.ref 60)
  self : Looks (model PR w) h (isSubtype (.ref 60) (.ref 60)) true
  exc : Looks (model PR w) h (isSubtype (.ref 60) (.type "Exception")) true
  bexc : Looks (model PR w) h (isSubtype (.ref 60) (.type "BaseException")) true
  attr : Looks (model PR w) h (isSubtype (.ref 60) (.type "AttributeError")) false
  name : Looks (model PR w) h (isSubtype (.ref 60) (.type "NameError")) false
  call : Looks (model PR w) h (specialOf (.ref 60) "__call__") (some (.builtin "type.__call__"))
  typ : Looks (model PR w) h (isInstance (.ref 60) (.type "type")) true
  init : Looks (model PR w) h (typeLookup (.ref 60) "__init__") (some (.ref 37))
  bind : ∀ self, Looks (model PR w) h (bindSpecial (.ref 37) self) (.ref 37, [self])
theorem excK {h : Heap} (X : (hd.heap_39 w.params).In h) : ExcK w h := by
  obtain ⟨cd, sl, e, e1, e2, e3, e4⟩ : ∃ cd sl, (hd.heap_39 w.params).lookup 60 = some ⟨.type "type", none, .cls cd, sl⟩ ∧ cd.hasDel = false ∧ cd.abstract = false ∧ cd.mro = [.ref 60, .ref 47, .type "Exception", .type "BaseException", .type "object"] ∧ sl[4]? = some (some (.builtin "Exception.__new__")) := ⟨_, _, by with_unfolding_all rfl, rfl, rfl, rfl, rfl⟩
  have hc : clsIn (hd.heap_39 w.params) 60 = some cd := by unfold clsIn; rw [e]
  have hm : Looks (model PR w) h (mroOf (.ref 60)) cd.mro := (looks_clsIn X hc).andThen .now
  have made : Looks (model PR w) h (Bind.madeBy (.ref 60)) (some "Exception.__new__") := by
    intro A Q E s k q
    unfold Bind.madeBy
    refine wpAny_bind (hm A _ E s k ?_)
    rw [e3, List.forIn_cons]
    refine wpAny_bind (wpAny_bind (wpAny_bind (wpAny_bind (wpAny_loadPart (k _ _ (X _ _ e)) (wpAny_pure ?_)))))
    dsimp only
    rw [e4]
    exact wpAny_pure (wpAny_pure (wpAny_pure q))
  refine ⟨⟨cd, sl, X _ _ e, e1, e2, by rw [e3]; rfl⟩, made, ?_, looks_mroIn X (by k_is), looks_mroIn X (by k_is), looks_mroIn X (by k_is), looks_mroIn X (by k_is), looks_mroIn X (by k_is), looks_specialIn X (by k_is), looks_instIn X (by k_is), looks_findIn X (by k_is), fun self => bind_fn X self (by k_is)⟩
  intro A Q E s k q
  unfold Bind.staticBase
  refine wpAny_bind (hm A _ E s k ?_)
  rw [e3, List.forIn_cons]
  exact wpAny_bind (wpAny_bind (wpAny_bind (made A _ E s k (wpAny_pure (wpAny_pure (wpAny_pure q))))))
theorem ExcK.keeps {h h' : Heap} (x : ExcK w h) (k : Kept h h') : ExcK w h' := by
  obtain ⟨⟨cd, sl, e, r⟩, a, b, c, d, e', f, g, i, j, l, m⟩ := x
  exact ⟨⟨cd, sl, k _ _ e, r⟩, a.keeps k, b.keeps k, c.keeps k, d.keeps k, e'.keeps k, f.keeps k, g.keeps k, i.keeps k, j.keeps k, l.keeps k, fun s => (m s).keeps k⟩
theorem exc_new {A : Around} {R : Result → Shared → Prop} {h : Heap} {g : Array GenState} {d : Drawn} {t : Nat} {os : OsState} {v : Value} (Y : ExcK w h)
    (hq : R (.ok (.ret (.ref (h.objs.size + 1)))) ⟨(h.push { cls := .type "tuple", data := .seq #[v] }).push (excObj h.objs.size), g, d, t, os⟩) :
    codeAny (model PR w) A (.call (.builtin "Exception.__new__") ⟨[.ref 60, v], []⟩) R ⟨h, g, d, t, os⟩ := by
  have F := PySem.F.excBase_Exception
  obtain ⟨⟨cd, sl, hC, e1, e2, e3⟩, made, base, self, exc, bexc, attr, name, call, typ, init, bnd⟩ := Y
  refine codeAny_call_builtin_code (Code.quiet_builtin _ F.quiet) ?_
  simp only [checkBuiltinCall, F.newKind, F.newSplit, F.newRow]
  repeat (first | simp only [bne_self_eq_false, Bool.false_eq_true, if_false] | lk)
  refine codeAny_builtinAt F.entry ?_
  have hends := F.ends
  unfold Builtin.«BaseException.__new__»
  refine PySem.wpAt_bind ?_
  show PySem.wpAt _ _ _ (stack >>= _) _ _ _
  refine PySem.wpAt_bind (PySem.wpAt_stack fun p below => PySem.wpAt_of_wpAny ?_)
  wp_walk
  refine PySem.wpAt_of_wpAny ?_
  rw [F.owner]
  have here : Looks (model PR w) h (Bind.madeHere "BaseException.__new__" (.ref 60)) () := base.andThen (made.andThen (Looks.of_pure (by simp only [Option.map_some, F.canon, bne_self_eq_false, Bool.false_eq_true, if_false])))
  have typ' : Looks (model PR w) h (isType (.ref 60)) true := (Looks.ld (part := none) hC).andThen (Looks.of_pure rfl)
  repeat (first | simp only [bne_self_eq_false, Bool.false_eq_true, if_false] | lk)
  refine nd_load (Heap.get?_push_of_some _ (Heap.get?_push_of_some _ hC)) ?_
  refine wpAny_pure ?_
  dsimp only
  rw [e1]
  refine wpAny_pure (wpAny_pure (wpAny_pure ?_))
  show R _ _
  rw [Heap.size_push]
  exact hq
theorem exc_call {A : Around} {R : Result → Shared → Prop} {s : Shared} {v : Value} (Y : ExcK w s.heap)
    (hq : codeAny (model PR w) (A.under (.builtin "type.__call__" ⟨[.ref 60, v], []⟩)) (.call (.ref 37) ⟨[.ref (s.heap.objs.size + 1), v], []⟩) (InitBack (s.heap.objs.size + 1) R)
      { s with heap := (s.heap.push { cls := .type "tuple", data := .seq #[v] }).push (excObj s.heap.objs.size) }) :
    codeAny (model PR w) A (.call (.ref 60) ⟨[v], []⟩) R s := by
  obtain ⟨h, g, d, t, os⟩ := s
  have Y' := Y
  obtain ⟨⟨cd, sl, hC, e1, e2, e3⟩, made, base, self, exc, bexc, attr, name, call, typ, init, bnd⟩ := Y
  refine codeAny_of_tree ?_
  show wpAny _ _ (callAny (.ref 60) _) _ _ _
  refine nd_load hC ?_
  show wpAny _ _ (callAny.viaDunder (.ref 60) _) _ _ _
  unfold callAny.viaDunder
  refine wpAny_bind (call.at ?_)
  dsimp only
  rw [tc_bind]
  refine wpAny_bind (wpAny_pure (wpAny_bind (wpAny_pure ?_)))
  refine wpAny_pure (a := Fin.again (.call (.builtin "type.__call__") ⟨[.ref 60, v], []⟩)) (And.intro rfl ?_)
  refine codeAny_call_builtin_at (Code.quiet_builtin _ (by decide +kernel)) entry_typeCall (check_slot tc_kind tc_split typ (tc_args _ _ _) ?_)
  unfold Builtin.«type.__call__»
  have hm : Looks (model PR w) h (mroOf (.ref 60)) cd.mro := ((Looks.ld (part := none) hC).andThen .now).andThen .now
  repeat (first | simp only [e3, Bool.false_eq_true, if_false] | with_reducible refine wpAny_call ?_ | lk)
  refine exc_new Y' ?_
  have k : Kept h ((h.push { cls := .type "tuple", data := .seq #[v] }).push (excObj h.objs.size)) := fun b o e => Heap.get?_push_of_some _ (Heap.get?_push_of_some _ e)
  have hx : ((h.push { cls := .type "tuple", data := .seq #[v] }).push (excObj h.objs.size)).get? (h.objs.size + 1) = some (excObj h.objs.size) := by heap_get
  have t1 : Looks (model PR w) ((h.push { cls := .type "tuple", data := .seq #[v] }).push (excObj h.objs.size)) (typeOf (.ref (h.objs.size + 1))) (.ref 60) := (Looks.ld hx).andThen .now
  have s1 := self.keeps k
  have i1 := init.keeps k
  have b1 := (bnd (.ref (h.objs.size + 1))).keeps k
  unfold isInstance callSpecial? specialOf
  repeat (first | with_reducible refine wpAny_call ?_ | lk)
  refine codeAny_mono hq fun r s' z => ?_
  rcases r with e | (v | _ | _ | _) <;> first | exact z | exact z.elim | skip
  obtain ⟨rfl, z⟩ := z
  exact wpAny_pure (wpAny_pure z)
end
end Mine
end
section
open PySem PySem.W PySem.Spec PySem.Calls PyProof.Rows
set_option maxRecDepth 100000
namespace Mine
theorem slot_wd_get : Slot "wrapper_descriptor" "__get__" "wrapper_descriptor.__get__" := .of (owner := "wrapper_descriptor") (n := "__get__") (by rw [typeLookup_type, builtinLookup_eq_fast]; kernel_rfl) (by decide +kernel) (by decide +kernel) (by decide +kernel)
  (by first | exact .inl (by decide +kernel) | exact .inr (by decide +kernel)) (by rw [isSubtype_type]; kernel_rfl)
theorem entry_wd_get : entryFor table "wrapper_descriptor.__get__" = some Builtin.«wrapper_descriptor.__get__» := entryFor_of_tree (by kernel_rfl)
theorem wd_args (a b c : Value) : argsOk "wrapper_descriptor.__get__" ⟨[a, b, c], []⟩ := by unfold argsOk; kernel_rfl
theorem type_ei : typeOf (.builtin "Exception.__init__") = pure (.type "wrapper_descriptor") := by show builtinType _ = _; rw [builtinType_eq_fast]; kernel_rfl
theorem type_ei_is {s : Shared} : s.TypeIs (.builtin "Exception.__init__") "wrapper_descriptor" := type_ei
theorem look_r2 : hd.heap_39 = hd.heap_39 ∧ PySem.Challenge.rw_pq0109_01 = PySem.Challenge.rw_pq0109_01 := by
  k_fill
  exact ⟨rfl, rfl⟩
section
variable {w : World} {A : Around} {E : Value → Shared → Prop} {h : Heap} {g : Array GenState} {d : Drawn} {t : Nat} {os : OsState}
noncomputable abbrev wrapObj (x : Addr) : Obj := { cls := .type "method-wrapper", data := .fields #[.builtin "Exception.__init__", .ref x] }
theorem wd_get {x : Addr} {ox : Obj} {Q : Fin → Shared → Prop} (hx : h.get? x = some ox) (hxc : ox.cls = .ref 60) (Y : ExcK w h)
    (hq : Q (.done (.ret (.ref h.objs.size))) ⟨h.push (wrapObj x), g, d, t, os⟩) :
    wpAny (model PR w) A (Builtin.«wrapper_descriptor.__get__» ⟨[.builtin "Exception.__init__", .ref x, .ref 60], []⟩) Q E ⟨h, g, d, t, os⟩ := by
  have exc := Y.exc
  have tx : Looks (model PR w) h (isInstance (.ref x) (.type "Exception")) true := ((Looks.ld hx).andThen (by rw [hxc]; exact .now)).andThen exc
  unfold Builtin.«wrapper_descriptor.__get__»
  iterate 40 (first | refine Looks.at (t := isInstance (.ref x) (.type "Exception")) tx ?_ | lk)
  exact hq
set_option maxHeartbeats 4000000 in
theorem super_ga {so x : Addr} {ox : Obj} {tk : Tok} {Q : Fin → Shared → Prop} (X : (hd.heap_39 w.params).In h) (hso : h.get? so = some (ks_superObj 47 x 60)) (hx : h.get? x = some ox) (hxc : ox.cls = .ref 60)
    (hq : Q (.done (.ret (.ref h.objs.size))) ⟨h.push (wrapObj x), g, d, t, os⟩) :
    wpAny (model PR w) A (Builtin.«super.__getattribute__» ⟨[.ref so, .str (Str.ofString "__init__") tk], []⟩) Q E ⟨h, g, d, t, os⟩ := by
  have Y := excK X
  have hno : Looks (model PR w) h (opaqueClassAbove (.ref 60)) none := looks_opaque X (by k_is)
  have hlk := slot_wd_get.lookup
  have hxC : x ≠ 60 := by
    rintro rfl
    obtain ⟨⟨cd, sl, hC, _⟩, _⟩ := Y
    rw [hC] at hx; cases hx; cases hxc
  have hne : (Value.ref x == Value.ref 60) = false := by simp [hxC]
  have hdt : (ks_superObj 47 x 60).data = .fields #[.ref 47, .ref x, .ref 60] := rfl
  have f0 : (#[.ref 47, .ref x, .ref 60] : Array Value)[0]? = some (.ref 47) := rfl
  have f1 : (#[.ref 47, .ref x, .ref 60] : Array Value)[1]? = some (.ref x) := rfl
  have f2 : (#[.ref 47, .ref x, .ref 60] : Array Value)[2]? = some (.ref 60) := rfl
  have hn : ((Str.ofString "__init__") == ("__class__" : Str)) = false := by decide
  have hm : Looks (model PR w) h (mroOf (.ref 60)) [.ref 60, .ref 47, .type "Exception", .type "BaseException", .type "object"] := by
    obtain ⟨cd, hc, e3⟩ : ∃ cd, clsIn (hd.heap_39 w.params) 60 = some cd ∧ cd.mro = [.ref 60, .ref 47, .type "Exception", .type "BaseException", .type "object"] := ⟨_, by with_unfolding_all rfl, rfl⟩
    rw [← e3]
    exact (looks_clsIn X hc).andThen .now
  have hl : (([.ref 60, .ref 47, .type "Exception", .type "BaseException", .type "object"] : List Value).dropWhile (· != .ref 47)).drop 1 = [.type "Exception", .type "BaseException", .type "object"] := by rfl
  have hf : ownIn (hd.heap_39 w.params) (Str.ofString "__init__") (.type "Exception") = some (some (.builtin "Exception.__init__")) := by kernel_rfl
  unfold Builtin.«super.__getattribute__»
  iterate 18 (first
    | (with_reducible refine wpAny_field hso hdt f0 ?_) | (with_reducible refine wpAny_field hso hdt f1 ?_) | (with_reducible refine wpAny_field hso hdt f2 ?_)
    | (simp only [hn, hne, Bool.or_false, Bool.false_eq_true, if_false])
    | wp_step
    | dsimp only)
  refine ks_wpAny_notOpaque hno ?_
  have nm : (Value.ref 60 == Value.type "module") = false := rfl
  simp only [nm, Bool.false_eq_true, if_false]
  refine wpAny_bind (Looks.at hm ?_)
  rw [hl]
  rw [List.forIn_cons]
  refine wpAny_bind (wpAny_bind (wpAny_bind (Looks.at (looks_ownIn X hf) ?_)))
  dsimp only
  refine wpAny_bind (wpAny_of_eq type_ei (wpAny_bind (wpAny_of_eq hlk ?_)))
  dsimp only
  refine wpAny_bind (wpAny_holding (wpAny_call_entry slot_wd_get type_ei_is entry_wd_get (wd_get hx hxc Y ⟨_, rfl, ?_⟩) (wd_args _ _ _)))
  refine wpAny_bind (wpAny_pure (wpAny_pure ?_))
  refine wpAny_pure (wpAny_pure ?_)
  exact hq
theorem super_meth {so x : Addr} {ox : Obj} {pl : Sem Bool} {Q : Value × List Value → Shared → Prop} (X : (hd.heap_39 w.params).In h) (hso : h.get? so = some (ks_superObj 47 x 60)) (hx : h.get? x = some ox) (hxc : ox.cls = .ref 60)
    (hq : Q (.ref h.objs.size, []) ⟨h.push (wrapObj x), g, d, t + 1, os⟩) :
    wpAny (model PR w) A (getMethod (.ref so) (Str.ofString "__init__") pl) Q E ⟨h, g, d, t, os⟩ := by
  have hlk := F.ks_slot_super_ga.lookup
  have hcan := F.ks_canon_super_ga
  have hT : ∀ t', (⟨h, g, d, t', os⟩ : Shared).TypeIs (.ref so) "super" := fun _ => ⟨_, hso, rfl⟩
  unfold getMethod
  refine wpAny_bind (wpAny_specialOf (hT _) hlk ?_)
  show wpAny _ _ (if (Manifest.canonical "super.__getattribute__" != "object.__getattribute__") = true then _ else _) _ _ _
  rw [if_pos hcan]
  unfold getAttr getAttrBy
  refine wpAny_bind (wpAny_bind (wpAny_mkText (wpAny_holding (wpAny_bind (wpAny_typeOf (hT _) (wpAny_bind (wpAny_of_eq hlk ?_)))))))
  show wpAny _ _ (getAttrByItsOwn (.ref so) (.str (Str.ofString "__init__") t) (.type "super") (.builtin "super.__getattribute__") true false) _ _ _
  unfold getAttrByItsOwn hookBefore callGetattribute boundAndCalled
  refine wpAny_bind (wpAny_of_eq (show (if onTheHeap (.type "super") then typeLookup (.type "super") "__getattr__" else pure none) = pure none from rfl) ?_)
  refine wpAny_bind (wpAny_attempt (wpAny_holding ?_))
  show wpAny _ _ (bindSpecial (.builtin "super.__getattribute__") (.ref so) >>= _) _ _ _
  refine wpAny_bind (wpAny_of_eq (F.ks_slot_super_ga.bind _) ?_)
  refine wpAny_mono (Q := fun v s' => v = .ref h.objs.size ∧ s' = ⟨h.push (wrapObj x), g, d, t + 1, os⟩) (E := fun _ _ => False)
    (wpAny_call_entry F.ks_slot_super_ga (hT _) F.ks_entry_super_ga (super_ga X hso hx hxc ⟨_, rfl, rfl, rfl⟩) (F.ks_gaArgs_super _ _)) (fun v s' hv => ?_) fun _ _ z => z.elim
  obtain ⟨rfl, rfl⟩ := hv
  exact wpAny_pure (wpAny_pure hq)
/-- the base's own __init__ -/
theorem exc_init {A : Around} {R : Result → Shared → Prop} {x q t0 : Addr} {dx : Option Addr} {v : Value} (Y : ExcK w h) (hx : h.get? x = some { cls := .ref 60, dict := dx, data := .fields #[.ref t0, .none, .none, .none, .bool false, .none] }) (hw : h.get? q = some (wrapObj x))
    (hq : ∀ h', (∀ b o, b ≠ x → h.get? b = some o → h'.get? b = some o) → h'.get? x = some { cls := .ref 60, dict := dx, data := .fields #[.ref h.objs.size, .none, .none, .none, .bool false, .none] } → R (.ok (.ret .none)) ⟨h', g, d, t, os⟩) :
    codeAny (model PR w) A (.call (.ref q) ⟨[v], []⟩) R ⟨h, g, d, t, os⟩ := by
  have F := PySem.F.excBase_Exception
  have exc := Y.exc
  refine codeAny_of_tree ?_
  show wpAny _ A.in1 (callAny (.ref q) _) _ _ _
  unfold callAny
  refine wpAny_bind (wpAny_load hw ?_)
  dsimp only
  simp only [show (Value.type "method-wrapper" == Value.type "method") = false from by decide, show (Value.type "method-wrapper" == Value.type "builtin_function_or_method") = false from by decide, show (Value.type "method-wrapper" == Value.type "method-wrapper") = true from by decide, Bool.false_or, Bool.or_true, Bool.or_false, if_true, List.getElem?_toArray, List.getElem?_cons_zero, List.getElem?_cons_succ,
    show (Value.type "method-wrapper" != Value.type "method") = true from by decide]
  have self := Y.self
  obtain ⟨cd, sl, hC, e1, e2, e3⟩ := Y.obj
  refine wpAny_bind ?_
  unfold checkBoundCall
  simp only [F.initRow, F.initKind]
  rw [if_pos (by decide)]
  repeat (first | with_reducible refine Looks.at (Looks.ld hx) ?_ | with_reducible refine Looks.at (Looks.ld hC) ?_ | (with_reducible refine wpAny_loadPart_at hx ?_) | (with_reducible refine wpAny_loadPart_at hC ?_) | wp_step)
  refine ⟨Code.quiet_builtin _ (by decide +kernel), codeAny_builtin F.initEntry ?_⟩
  unfold Builtin.«BaseException.__init__»
  dsimp only
  rw [if_neg (by simp)]
  unfold newTuple Builtin.BaseException.bexcPut
  have hx₁ := Heap.get?_push_of_some (h := h) { cls := .type "tuple", data := .seq #[v] } hx
  refine wpAny_bind (wpAny_newObj_type (wpAny_bind (wpAny_bind (wpAny_field hx₁ rfl rfl (wpAny_bind (wpAny_setField hx₁ rfl (by show 0 < 6; decide) ?_))))) (by size_fits))
  refine wpAny_letGo (wpAny_pure (hq _ (fun b o hb ho => ?_) ?_))
  · rw [Heap.get?_update_other _ _ (Ne.symm hb)]
    exact Heap.get?_push_of_some _ ho
  · rw [Heap.get?_update_self _ hx₁ rfl]
    rfl
end
end Mine
end
section
open PySem PySem.W PySem.Spec PySem.Calls PyProof.Rows
open Builtin Builtin.ObjectAttr
set_option maxRecDepth 100000
namespace Mine
theorem look_r3 : hd.heap_39 = hd.heap_39 ∧ PySem.Challenge.rw_pq0109_01 = PySem.Challenge.rw_pq0109_01 := by
  k_fill
  exact ⟨rfl, rfl⟩
section
variable {w : World} {A : Around} {E : Value → Shared → Prop} {h : Heap} {g : Array GenState} {d : Drawn} {t : Nat} {os : OsState}
theorem exc_store {x : Addr} {vs : Array Value} {v : Value} {Q : Unit → Shared → Prop} (X : (hd.heap_39 w.params).In h) (hx : h.get? x = some { cls := .ref 60, data := .fields vs })
    (hq : ∀ h' tk' dx, (∀ b o, b ≠ x → h.get? b = some o → h'.get? b = some o) → h'.get? x = some { cls := .ref 60, dict := some dx, data := .fields vs } → Q () ⟨h', g, d, tk', os⟩) :
    wpAny (model PR w) A (setAttr (.ref x) (Str.ofString "what") v) Q E ⟨h, g, d, t, os⟩ := by
  have SF := PySem.F.store_Exception
  have f3 := SF.slot.bind (.ref x)
  have ty : Looks (model PR w) h (typeOf (.ref x)) (.ref 60) := (Looks.ld hx).andThen .now
  have L1 : Looks (model PR w) h (typeLookup (.ref 60) (Str.ofString "__setattr__")) (some (.builtin "object.__setattr__")) := looks_findIn X (by k_is)
  have L2 : Looks (model PR w) h (typeLookup (.ref 60) (Str.ofString "what")) none := looks_findIn X (by k_is)
  have sub : Looks (model PR w) h (isInstance (.ref x) (.type "object")) true := ty.andThen (looks_mroIn X (by k_is))
  obtain ⟨cd, hc, e3, e4⟩ : ∃ cd, clsIn (hd.heap_39 w.params) 60 = some cd ∧ cd.mro = [.ref 60, .ref 47, .type "Exception", .type "BaseException", .type "object"] ∧ cd.hasDict = true := ⟨_, by with_unfolding_all rfl, rfl, rfl⟩
  have LC := looks_clsIn (M := model PR w) X hc
  have hm : Looks (model PR w) h (mroOf (.ref 60)) [.ref 60, .ref 47, .type "Exception", .type "BaseException", .type "object"] := e3 ▸ LC.andThen .now
  unfold setAttr callSpecial? specialOf
  refine wpAny_bind (wpAny_mkText (wpAny_bind (wpAny_bind (wpAny_bind (ty.at (L1.at ?_))))))
  refine wpAny_holding (wpAny_bind (wpAny_of_eq f3 (wpAny_bind (wpAny_call ?_))))
  simp only [List.cons_append, List.nil_append]
  refine codeAny_call_builtin SF.slot.plain SF.entry (@check_slot (model PR w) _ _ ⟨h, g, d, t + 1, os⟩ "object.__setattr__" "object" "__setattr__" (.ref x) [.str (Str.ofString "what") t, v] [] _ SF.kind SF.split sub (SF.args (.ref x) (.str (Str.ofString "what") t) v) ?_)
  rw [osa_eq, refuse_eq]
  refine wpAny_bind (wpAny_bind (ty.at (wpAny_bind (hm.at ?_))))
  rw [refuseLoop_ref, refuseLoop_ref, SF.passes]
  refine wpAny_pure (wpAny_bind (ty.at (wpAny_bind (L2.at (wpAny_bind ?_)))))
  refine wpAny_pure ?_
  dsimp only
  unfold storeInOwnDict ownStreamTells ownDictForStores instanceDict
  dsimp only
  refine wpAny_bind (wpAny_pure (wpAny_bind (wpAny_bind (wpAny_loadPart hx (wpAny_bind (LC.at ?_))))))
  rw [e4]
  dsimp only
  have hx₁ : (h.push { cls := .type "dict", data := .dict #[] }).get? x = some { cls := .ref 60, data := .fields vs } := Heap.get?_push_of_some _ hx
  have hxs : x ≠ h.objs.size := Nat.ne_of_lt (Heap.lt_size hx)
  have hgd : ((h.push { cls := .type "dict", data := .dict #[] }).update x fun o => { o with dict := some h.objs.size }).get? h.objs.size = some { cls := .type "dict", data := .dict #[] } :=
    (Heap.get?_update_ne _ _ _ _ hxs.symm).trans (Heap.get?_push_at rfl rfl)
  have hnd : ((h.push { cls := .type "dict", data := .dict #[] }).update x fun o => { o with dict := some h.objs.size }).Ns h.objs.size (fun _ => none) :=
    ⟨_, #[], _, hgd, rfl, fun e he => absurd he (by simp), fun _ => rfl⟩
  refine wpAny_bind (wpAny_alloc' (wpAny_bind (wpAny_update' hx₁ (wpAny_pure ?_))))
  show wpAny _ _ (storeInDict h.objs.size _ (Str.ofString "what") v) _ _ _
  unfold storeInDict newKeyGuard
  refine wpAny_bind (wpAny_pure (wpAny_bind (wpAny_nsSet1 (Heap.Ns1.of_empty hnd) fun h' hn' hs => ?_)))
  obtain ⟨oD, esD, epD, hoD, hdD, hcD⟩ := hn'.count (Within.cons (Str.ofString "what") v Within.nil)
  refine wpAny_bind (wpAny_lookBehind hoD (by rw [hdD]; exact pastItsLine_dict (Nat.le_trans hcD (by rw [List.length_cons, List.length_nil, sizeLine_eq]; omega))) ?_)
  refine wpAny_pure (wpAny_pure (wpAny_pure ?_))
  refine hq h' _ h.objs.size (fun b ob hbx hb => ?_) ?_
  · exact (hs.2 b (Nat.ne_of_lt (Heap.lt_size hb))).trans ((Heap.get?_update_ne _ _ _ _ hbx).trans (Heap.get?_push_of_some _ hb))
  · exact (hs.2 x hxs).trans (Heap.get?_update_self _ hx₁ rfl)
end
end Mine
end
section
open PySem PySem.W PySem.Spec PySem.Calls PyProof.Rows
set_option maxRecDepth 100000
namespace Mine
theorem look_r4 : hd.heap_39 = hd.heap_39 ∧ PySem.Challenge.rw_pq0109_01 = PySem.Challenge.rw_pq0109_01 := by
  k_fill
  exact ⟨rfl, rfl⟩
section
variable {w : World} {mean : ExcName → Option Value} {mg mb : Str → Option Value} {A : Around} {s : Shared}
theorem enterS {R : Result → Shared → Prop} {own : List (Addr × Obj)} {name qual : Str} {params : Arguments} {body : List Stmt} {scope : Scope} {dV kV doc pm cdv ct oc : Value} {an od : Option Addr} {osl : Array (Option Value)} {f cc : Addr} {args : Args} {binds : List (Str × Value)}
    (C : CalM w mean mg mb A s own)
    (ho : (hd.heap_39 w.params).lookup f = some ⟨oc, od, .func (ksFn name qual params body scope dV kV doc pm an cdv ct cc), osl⟩) (hcd : codeIn (hd.heap_39 w.params) cdv qual = true) (hroom : A.depth < recursionLimit)
    (hbind : BindsTo s (ksFn name qual params body scope dV kV doc pm an cdv ct cc) args binds) (hloc : ∀ y ∈ binds, scope.names.lookup y.1 = some .local)
    (h : ∀ g L' h₁ base outer, KeptBut own s.heap g → Kept g s.heap → Fr g L' h₁ (fun y => binds.reverse.lookup y) → News g L' h₁ own →
      Below A base outer g → (hd.heap_39 w.params).In g → Top hd.view_39 LO mean mg mb g → A.handled = none → (∀ p ∈ own, p.1 < L') →
      _root_.PySem.wpAt (model PR w) (A.deeper (ksEnv qual scope L' f cdv cc)) (.func body (ksEnv qual scope L' f cdv cc)) (execs body (ksEnv qual scope L' f cdv cc)) (PEnd g fun v s' => R (.ok (.ret v)) s')
        (fun e s' => wpAny (model PR w) (A.deeper (ksEnv qual scope L' f cdv cc)) (leaving (ksEnv qual scope L' f cdv cc) e) (fun _ s'' => R (.error e) s'') (fun e' s'' => R (.error e') s'') s')
        { s with heap := h₁, toks := s.toks + binds.length })
    (hco : scope.isCoroutine = false) (hgen : scope.isGenerator = false) (hk : scope.kind = .function) (hcell : ∀ x ∈ scope.names, x.2 ≠ .cell) :
    codeAny (model PR w) A (.call (.ref f) args) R s := by
  obtain ⟨A₀, base, h₀, outer, L, m, env, B, F, X, T, hA, hf, hke, hh, N⟩ := C
  obtain ⟨FG, BG, st, _⟩ := groundX (R := R) B F N hA hf hke
  have X' := X.keeps F.keep
  have T' : Top hd.view_39 LO mean mg mb s.heap := T.keeps F.keep
  refine ks_codeAny_call_defAt (fd := ksFn name qual params body scope dV kV doc pm an cdv ct cc) (body := body) (binds := binds) hroom (X' _ _ ho) rfl T'.nolimit (codeRec_of X' hcd) rfl hbind hcell hloc (fun h₁ hns hk₁ => ?_) hco hgen hk
  refine ks_wpAt_mono (h (hideAll s.heap (own.map (·.1))) s.heap.objs.size h₁ base (env :: outer) (fun b o hb e => hideAll_get _ e fun q => ?_) (fun b o e => of_hideAll _ e) ⟨hns, fun b o e => hk₁ b o (of_hideAll _ e), Nat.le_of_eq (hideAll_size _ _)⟩ (fun p hp => ?_) BG (X.keeps fun b o e => st b o e) (T.keeps fun b o e => st b o e) hh (fun p hp => Heap.lt_size (N p hp).1)) (fun fl s' hl => ?_) fun _ _ y => y
  · obtain ⟨p, hp, e'⟩ := List.mem_map.mp q
    exact hb p hp e'
  · exact ⟨hk₁ _ _ (N p hp).1, Nat.ne_of_lt (Heap.lt_size (N p hp).1), hideAll_none _ (List.mem_map_of_mem hp)⟩
  · obtain ⟨_, _, _, q⟩ := hl
    exact q
theorem callWith_wrap {Q E : Value → Shared → Prop} {q x : Addr} {pos : Pos} {env : Env} {first : List Value} {e : Expr} {rest : List Expr} (h : wpAny (model PR w) A (spliced (backTo pos (starEach (e :: rest) env))) (fun vs s₁ => s₁.heap.get? q = some (wrapObj x) ∧ wpAny (model PR w) A (call (.ref q) (first ++ vs)) Q E s₁) E s)
    (he : starEach (e :: rest) env = (false, eval e env) :: starEach rest env) (hplain : (backTo pos (starEach rest env)).any (·.1) = false) :
    wpAny (model PR w) A (callWith pos (.ref q) first (backTo pos (starEach (e :: rest) env)) []) Q E s := by
  rw [he] at h ⊢
  exact callWith_of (P := fun h => h.get? q = some (wrapObj x)) (by show ((false || (backTo pos (starEach rest env)).any (·.1)) || false) = false; rw [hplain]; rfl)
    (fun h e => ⟨.machine, .inr (.inl rfl), (Looks.ld (part := none) e).andThen (by dsimp only; exact Looks.of_pure (by rfl))⟩) (evalArgs_plain h)
set_option maxHeartbeats 0 in
theorem exc_make {Q E : Value → Shared → Prop} {T9 : Str} {tk : Tok} (C : Cal w mean mg mb A s) (hD : A.depth + 20 < recursionLimit) (hU : A.units + 100 < cLine)
    (h : ∀ h' tk x dx t0, Kept s.heap h' → s.heap.get? x = none → h'.get? x = some { cls := .ref 60, dict := some dx, data := .fields #[.ref t0, .none, .none, .none, .bool false, .none] } → Q (.ref x) { s with heap := h', toks := tk }) :
    wpAny (model PR w) A (call (.ref 60) [.str T9 tk]) Q E s := by
  obtain ⟨A₀, base, h₀, outer, L, m, env, B, F, X, T, hA, hfr, hk, hh⟩ := C
  obtain ⟨ha, ad, af, ag, au⟩ := A
  have X' := X.keeps F.keep
  refine wpAny_call (exc_call (excK X') ?_)
  obtain ⟨hp, g, d, t, os⟩ := s
  have kp : Kept hp ((hp.push { cls := .type "tuple", data := .seq #[.str T9 tk] }).push (excObj hp.objs.size)) := fun b o e => Heap.get?_push_of_some _ (Heap.get?_push_of_some _ e)
  have N₁ := (News.push F News.nil { cls := .type "tuple", data := .seq #[.str T9 tk] }).push (F.push _) (excObj hp.objs.size)
  rw [Heap.size_push] at N₁
  have CM : CalM w mean mg mb (Around.under ⟨ha, ad, af, ag, au⟩ (.builtin "type.__call__" ⟨[.ref 60, .str T9 tk], []⟩)) ⟨(hp.push { cls := .type "tuple", data := .seq #[.str T9 tk] }).push (excObj hp.objs.size), g, d, t, os⟩ [(hp.objs.size + 1, excObj hp.objs.size)] := by
    refine ⟨A₀, base, h₀, outer, L, m, env, B, (F.push _).push _, X, T, by rw [under_call]; exact hA, hfr, hk, by rw [under_call]; exact hh, fun q hq => N₁ q (by rw [List.mem_singleton.mp hq]; exact .head _)⟩
  rw [under_call] at CM ⊢
  replace hh : ha = Option.none := hh
  subst hh
  dsimp only at hD hU
  have nx : hp.get? (hp.objs.size + 1) = none := Heap.get?_none_of_le (Nat.le_succ _)
  generalize hx9 : hp.objs.size + 1 = x at *
  generalize ht9 : hp.objs.size = t0 at *
  refine enterS (binds := [(Str.ofString "self", .ref x), (Str.ofString "what", .str T9 tk)]) CM (by k_is) (by k_is) (by dsimp only; omega) (BindsTo.of_eq rfl) (locs rfl) (fun g L' h₁ base outer kb kb' F N B X T hh lo => ?_) rfl rfl rfl (by decide)
  clear CM N₁
  have lx := ltN (lo _ (.head _))
  clear lo
  dsimp only at lx
  have I : InstAt h₁ x (excObj t0) 60 none := ⟨(N _ (.head _)).1, rfl, rfl, trivial⟩
  refine ks_wpAt_execs_cons ?_
  refine ks_wpAt_Expr_any ?_
  refine ks_wpAt_MethodCall ?_
  refine ks_node F X N T (by k_is) (by rfl) (by rfl) I (by k_is) (by rfl) (by first | rfl | decide +kernel) (by k_is) (by k_is) (by k_is) (by k_is) (by decide) (by rfl) (by rfl) (by rfl) (by rfl) (by decide +kernel) (by first | boot_by_name | rfl | kernel_rfl) ?_
  intro so h₂ F₂ N₂ l2
  have X₂ : (hd.heap_39 w.params).In h₂ := X.keeps F₂.keep
  refine super_meth X₂ (N₂ _ (.head _)).1 (N₂ _ (.tail _ (.head _))).1 rfl ?_
  dsimp only
  have F₃ := F₂.push (wrapObj x)
  have N₃ := N₂.push F₂ (wrapObj x)
  clear F N F₂ N₂ X₂ I
  generalize hh3 : h₂.push (wrapObj x) = h₃ at *
  generalize hq3 : h₂.objs.size = q at *
  clear hh3 l2
  refine callWith_wrap (x := x) ?_ (by rfl) (by rfl)
  iterate 4 (first | walk1 | (dsimp only; walk1))
  · exact (N₃ _ (.head _)).1
  have Nx := N₃ (x, excObj t0) (.tail _ (.tail _ (.head _)))
  have X₃ : (hd.heap_39 w.params).In h₃ := X.keeps F₃.keep
  refine wpAny_call (exc_init (excK X₃) Nx.1 (N₃ _ (.head _)).1 fun h₄ k4 e4 => ?_)
  have F₄ : Fr g L' h₄ _ := ⟨F₃.ns.at' fun o e => k4 _ o (Ne.symm Nx.2.1) e, fun b o e => k4 b o (fun q => by rw [q, Nx.2.2] at e; cases e) (F₃.keep b o e), F₃.above⟩
  have X₄ : (hd.heap_39 w.params).In h₄ := X.keeps F₄.keep
  have nxg := Nx.2.2
  clear F₃ N₃ X₃ Nx k4
  dsimp only
  refine PySem.wpAt_of_wpAny ?_
  iterate 5 (first | walk1 | (dsimp only; walk1))
  refine exc_store X₄ e4 fun h₅ tk₅ dx k5 e5 => ?_
  have F₅ : Fr g L' h₅ _ := ⟨F₄.ns.at' fun o e => k5 _ o (fun q => by rw [q] at lx; exact absurd lx (Nat.lt_irrefl _)) e, fun b o e => k5 b o (fun q => by rw [q, nxg] at e; cases e) (F₄.keep b o e), F₄.above⟩
  clear F₄ X₄ k5 e4
  dsimp only
  walk1
  refine ⟨L', _, F₅, rfl, h _ _ x dx _ (fun b o e => F₅.keep _ _ (kb b o (fun p hp q => ?_) (kp b o e))) nx e5⟩
  rw [List.mem_singleton.mp hp] at q
  rw [← show x = b from q, nx] at e; cases e
end
end Mine
end
section
open PySem PySem.W PySem.Spec PySem.Calls PyProof.Rows
set_option maxRecDepth 100000
namespace Mine
section
variable {w : World} {mean : ExcName → Option Value} {mg mb : Str → Option Value}
theorem lines_p2_1 : True := by
  k_with_none
  (k_with "h ne" => (refine neN ?_; (try dsimp only); first | assumption | (refine Ne.symm ?_; assumption) | (refine Nat.ne_of_lt ?_; assumption) | (refine Nat.ne_of_gt ?_; assumption) | ((repeat (rename (_ ∧ _) => hA9; first | ((repeat (first | exact hA9 | exact Ne.symm hA9 | exact Nat.ne_of_lt hA9 | exact Nat.ne_of_gt hA9 | (obtain ⟨h9a, hA9⟩ := hA9; first | exact h9a | exact Ne.symm h9a | exact Nat.ne_of_lt h9a | exact Nat.ne_of_gt h9a | exact h9a.1 | exact h9a.2.1 | exact h9a.2.2 | exact Ne.symm h9a.1 | exact Ne.symm h9a.2.1 | exact Ne.symm h9a.2.2 | clear h9a))); fail_if_success (focus skip)) | clear hA9)); fail_if_success (focus skip)) | omega))
  (k_with "h rel" => first | assumption | exact IsTup.keeps (by assumption) (Fr.keep (by assumption)) | exact EnvAt.keeps (by assumption) (Fr.keep (by assumption)) | exact SetsAt.keeps (by assumption) (Fr.keep (by assumption)))
  (k_with "call builtin:len" => (k_here; (with_reducible show wpAny _ _ (call (Value.builtin "len") [Value.ref _]) _ _ _); first | refine len_1 (by ktr_rel) ?_ | refine len_2 (by ktr_rel) ?_ | refine len_3 (by ktr_rel) ?_ | refine len_4 (by ktr_rel) ?_))
  (k_with "subscriptTail" => (k_here; (with_reducible show wpAny _ _ (subscriptTail _ _ (Value.ref _) (Value.str _ _)) _ _ _); k_dflt (refine env_item (by (ktr_rel); fail_if_success (focus skip)) (by (assumption); fail_if_success (focus skip)) ?_ (by (with_unfolding_all rfl); fail_if_success (focus skip)); k_whole; intro eT)))
  (k_with "subscriptTail" => (k_here; (with_reducible show wpAny _ _ (subscriptTail _ _ (Value.ref _) (Value.int _ _)) _ _ _); k_dflt (refine item_tupleT (by (ktr_rel); fail_if_success (focus skip)) (by (decide); fail_if_success (focus skip)) (by (decide); fail_if_success (focus skip)) (by (rfl); fail_if_success (focus skip)) (by (rfl); fail_if_success (focus skip)) ?_; k_whole)))
  (k_with "subscriptTail Name Slice ref ref" => (k_here; k_dflt (refine tail_slice (by (k_asm); fail_if_success (focus skip)) (by (k_asm); fail_if_success (focus skip)) (by (ktr_rel); fail_if_success (focus skip)) (by (exact Nat.le_of_ble_eq_true rfl); fail_if_success (focus skip)) ?_ (by (with_unfolding_all rfl); fail_if_success (focus skip)) (by (intro _; with_unfolding_all rfl); fail_if_success (focus skip)); k_whole; intro D' h' F' N' l1; (try k_lt l1); (try k_sweep))))
  (k_with "exec Assign cons ListComp" => (k_here; (with_reducible rename PyProof.Rows.News _ _ _ _ => nx9); (replace nx9 := News.last2 nx9); (change PyProof.Rows.News _ _ _ [(_, _), (_, _)] at nx9); (repeat (rename ((_ : Nat) < _ ∧ _) => lx9; clear lx9)); k_dflt (refine Assign_ListComp_T (by k_asm) (by rfl) (by with_unfolding_all rfl) (by with_unfolding_all rfl) (by decide) (by rfl) (by decide) (by rfl) (by rfl) (by rfl) ?_); (repeat (first | walk1 | (dsimp only; walk1))); k_dflt (refine SrcT.ledger (by first | rfl | assumption) (by k_asm) (by k_asm) (by k_mem) (by exact Nat.le_of_ble_eq_true rfl) ?_; intro g'; lcg_lit)))
  (k_with "h units" => (simp only [units_deeper, units_in1]; first | exact Nat.lt_of_le_of_lt (by (simp +arith); fail_if_success (focus skip)) hD | exact Nat.lt_of_le_of_lt (by (simp +arith); fail_if_success (focus skip)) hU | exact Nat.lt_of_le_of_lt (by (simp +arith); fail_if_success (focus skip)) hD9 | exact Nat.lt_of_le_of_lt (by (simp +arith); fail_if_success (focus skip)) hU9 | omega))
  (k_with "compareOp Eq ref ref" => (k_here; k_dflt (first
      | (refine eq_one_t (by (ktr_rel); fail_if_success (focus skip)) (by (exact News.isTup (by assumption) (by k_mem)); fail_if_success (focus skip)) (by (ktr_units); fail_if_success (focus skip)) (by (first | decide | simp_all); fail_if_success (focus skip)) ?_; k_whole)
      | (refine eq_one_f (by (ktr_rel); fail_if_success (focus skip)) (by (exact News.isTup (by assumption) (by k_mem)); fail_if_success (focus skip)) (by (ktr_units); fail_if_success (focus skip)) (by (first | decide | simp_all); fail_if_success (focus skip)) ?_; k_whole))))
  (k_with "h rel" => exact SAt.keeps (by assumption) (Fr.keep (by assumption)))
  (k_with "compareOp In bool ref" => (k_here; k_dflt (refine in_bools (News.isList (by k_asm) (by k_mem)) ?_)))
  (k_with "compareOp NotIn bool ref" => (k_here; k_dflt (refine notIn_bools (News.isList (by k_asm) (by k_mem)) ?_)))
  (k_with "h inst" => exact InstAt.keeps (by assumption) (Fr.keep (by assumption)))
  (k_with "compareOp NotIn str ref" => (k_here; k_dflt (first | refine env_notin (by ktr_rel) (by assumption) ?_ | refine env_notin_none (by ktr_rel) (by assumption) ?_)))
  (k_with "compareOp In ref ref" => (k_here; k_dflt (first
      | (refine in_two_t (by (exact News.isTup (by assumption) (by k_mem)); fail_if_success (focus skip)) (by (exact News.isTup (by assumption) (by k_mem)); fail_if_success (focus skip)) (by (exact News.isTup (by assumption) (by k_mem)); fail_if_success (focus skip)) (by (ktr_rel); fail_if_success (focus skip)) (by (ktr_units); fail_if_success (focus skip)) (by (first | decide | simp_all); fail_if_success (focus skip)) ?_; k_whole)
      | (refine in_two_f (by (exact News.isTup (by assumption) (by k_mem)); fail_if_success (focus skip)) (by (exact News.isTup (by assumption) (by k_mem)); fail_if_success (focus skip)) (by (exact News.isTup (by assumption) (by k_mem)); fail_if_success (focus skip)) (by (ktr_rel); fail_if_success (focus skip)) (by (ktr_units); fail_if_success (focus skip)) (by (first | decide | simp_all); fail_if_success (focus skip)) ?_; k_whole))))
  (k_with "compareOp NotIn ref ref" => (k_here; k_dflt (first
      | (refine notIn_four_t (by (exact News.isTup (by assumption) (by k_mem)); fail_if_success (focus skip)) (by (exact News.isTup (by assumption) (by k_mem)); fail_if_success (focus skip)) (by (exact News.isTup (by assumption) (by k_mem)); fail_if_success (focus skip)) (by (exact News.isTup (by assumption) (by k_mem)); fail_if_success (focus skip)) (by (exact News.isTup (by assumption) (by k_mem)); fail_if_success (focus skip)) (by (exact News.isTup (by assumption) (by k_mem)); fail_if_success (focus skip)) (by (ktr_units); fail_if_success (focus skip)) (by (first | decide | simp_all); fail_if_success (focus skip)) ?_; k_whole)
      | (refine notIn_four_f (by (exact News.isTup (by assumption) (by k_mem)); fail_if_success (focus skip)) (by (exact News.isTup (by assumption) (by k_mem)); fail_if_success (focus skip)) (by (exact News.isTup (by assumption) (by k_mem)); fail_if_success (focus skip)) (by (exact News.isTup (by assumption) (by k_mem)); fail_if_success (focus skip)) (by (exact News.isTup (by assumption) (by k_mem)); fail_if_success (focus skip)) (by (exact News.isTup (by assumption) (by k_mem)); fail_if_success (focus skip)) (by (ktr_units); fail_if_success (focus skip)) (by (first | decide | simp_all); fail_if_success (focus skip)) ?_; k_whole))))
  (k_with "storeName" => (k_here; k_dflt (refine storeX_U (by k_asm) (by k_asm) ?_ (by rfl) (by rfl)); intro h' F' N'; (try k_sweep)))
  trivial
/-- what a call of named_value gives -/
theorem named_call {e : Str → Option Int} {a ea : Addr} {x : Str} {n : Int} {tk : Tok} {A : Around} {s : Shared} {Q E : Value → Shared → Prop} (C : Cal w mean mg mb A s) (hD : A.depth + 1 < recursionLimit) (hU : A.units + 8 < cLine)
    (ht : IsTup s.heap a #[.str x tk]) (he : EnvAt w s.heap ea e) (hn : e x = some n)
    (h : ∀ h' tk' t', Kept s.heap h' → Q (.int n t') { s with heap := h', toks := tk' }) : wpAny (model PR w) A (call (.ref 131) [.ref a, .ref ea]) Q E s := by
  refine enterP (binds := [(Str.ofString "term", .ref a), (Str.ofString "env", .ref ea)]) C (by k_is) (by k_is) (by first | exact Nat.lt_of_le_of_lt (by (simp +arith); fail_if_success (focus skip)) hD | exact Nat.lt_of_le_of_lt (by (simp +arith); fail_if_success (focus skip)) hU | exact Nat.lt_of_le_of_lt (by (simp +arith); fail_if_success (focus skip)) hD9 | exact Nat.lt_of_le_of_lt (by (simp +arith); fail_if_success (focus skip)) hU9 | omega) (BindsTo.of_eq rfl) (locs rfl) (fun L' h₁ base outer F N B X T hh => ?_) rfl rfl rfl (by decide)
  clear C
  k_steps
  all_goals exact pend (by assumption) (h _ _ _ (Fr.keep (by assumption)))
theorem named_use {e : Str → Option Int} {a ea : Addr} {x : Str} {n : Int} {tk : Tok} {A : Around} {base h₀ : Heap} {outer : List Env} {L : Addr} {m : Str → Option Value} {env : Env} {news : List (Addr × Obj)} {s : Shared} {Q E : Value → Shared → Prop}
    (B : Below A base outer h₀) (F : Fr h₀ L s.heap m) (X : (hd.heap_39 w.params).In h₀) (T : Top hd.view_39 LO mean mg mb h₀) (N : News h₀ L s.heap news) (hh : A.handled = none) (hf : env.frame = some L) (hk : env.scope.kind = .function)
    (ht : IsTup s.heap a #[.str x tk]) (he : EnvAt w s.heap ea e) (hn : e x = some n) (hD : A.depth + 1 + 1 < recursionLimit) (hU : A.units + 3 + 8 < cLine)
    (h : ∀ h' tk' t', Fr h₀ L h' m → News h₀ L h' news → Q (.int n t') { s with heap := h', toks := tk' }) : wpAny (model PR w) (A.deeper env) (call (.ref 131) [.ref a, .ref ea]) Q E s :=
  named_call (Cal.site B F X T hh hf hk) hD hU ht he hn fun h' tk' t' kp => h h' tk' t' (F.keeps kp) (N.grown kp)
/-- what a call of value gives for a well-made term -/
noncomputable def ValC (w : World) (mean : ExcName → Option Value) (mg mb : Str → Option Value) (e : Str → Option Int) (W : Int) (t : St) : Prop :=
  ∀ {A : Around} {s : Shared} {sa ea : Addr} {v : Value} {Q E : Value → Shared → Prop},
    Cal w mean mg mb A s → A.depth + (t.size + 1) < recursionLimit → A.units + 8 * (t.size + 1) < cLine → SAt s.heap v t → SetsAt s.heap sa W → EnvAt w s.heap ea e → t.ok e →
    (∀ h' tk' t', Kept s.heap h' → Q (.int (t.val e W) t') { s with heap := h', toks := tk' }) → wpAny (model PR w) A (call (.ref 164) [.ref sa, v, .ref ea]) Q E s
theorem ValC.use {e : Str → Option Int} {W : Int} {t : St} {sa ea : Addr} {v : Value} {A : Around} {base h₀ : Heap} {outer : List Env} {L : Addr} {m : Str → Option Value} {env : Env} {news : List (Addr × Obj)} {s : Shared} {Q E : Value → Shared → Prop}
    (B : Below A base outer h₀) (F : Fr h₀ L s.heap m) (X : (hd.heap_39 w.params).In h₀) (T : Top hd.view_39 LO mean mg mb h₀) (N : News h₀ L s.heap news) (hh : A.handled = none) (hf : env.frame = some L) (hk : env.scope.kind = .function)
    (hv : SAt s.heap v t) (hs : SetsAt s.heap sa W) (he : EnvAt w s.heap ea e) (c : ValC w mean mg mb e W t) (hok : t.ok e) (hD : A.depth + 1 + (t.size + 1) < recursionLimit) (hU : A.units + 3 + 8 * (t.size + 1) < cLine)
    (h : ∀ h' tk' t', Fr h₀ L h' m → News h₀ L h' news → Q (.int (t.val e W) t') { s with heap := h', toks := tk' }) : wpAny (model PR w) (A.deeper env) (call (.ref 164) [.ref sa, v, .ref ea]) Q E s :=
  c (Cal.site B F X T hh hf hk) hD hU hv hs he hok fun h' tk' t' kp => h h' tk' t' (F.keeps kp) (N.grown kp)
theorem lines_p2_2 : True := by
  (k_with "call ref" => (k_here; (with_reducible show wpAny _ _ (call (Value.ref 131) _) _ _ _); k_dflt (refine named_use (by (k_asm); fail_if_success (focus skip)) (by (k_asm); fail_if_success (focus skip)) (by (k_asm); fail_if_success (focus skip)) (by (k_asm); fail_if_success (focus skip)) (by (k_asm); fail_if_success (focus skip)) (by (first | exact rfl | k_asm); fail_if_success (focus skip)) (by (exact rfl); fail_if_success (focus skip)) (by (exact rfl); fail_if_success (focus skip)) (by (ktr_rel); fail_if_success (focus skip)) (by (ktr_rel); fail_if_success (focus skip)) (by (k_asm); fail_if_success (focus skip)) (by (first | exact Nat.lt_of_le_of_lt (by (simp +arith); fail_if_success (focus skip)) hD | exact Nat.lt_of_le_of_lt (by (simp +arith); fail_if_success (focus skip)) hU | exact Nat.lt_of_le_of_lt (by (simp +arith); fail_if_success (focus skip)) hD9 | exact Nat.lt_of_le_of_lt (by (simp +arith); fail_if_success (focus skip)) hU9 | omega); fail_if_success (focus skip)) (by (first | exact Nat.lt_of_le_of_lt (by (simp +arith); fail_if_success (focus skip)) hD | exact Nat.lt_of_le_of_lt (by (simp +arith); fail_if_success (focus skip)) hU | exact Nat.lt_of_le_of_lt (by (simp +arith); fail_if_success (focus skip)) hD9 | exact Nat.lt_of_le_of_lt (by (simp +arith); fail_if_success (focus skip)) hU9 | omega); fail_if_success (focus skip)) ?_; k_whole; intro h' tk' t' F' N'; (try k_sweep); (try dsimp only))))
  (k_with "call ref" => (k_here; (with_reducible show wpAny _ _ (call (Value.ref 164) _) _ _ _); k_dflt (refine ValC.use (by (k_asm); fail_if_success (focus skip)) (by (k_asm); fail_if_success (focus skip)) (by (k_asm); fail_if_success (focus skip)) (by (k_asm); fail_if_success (focus skip)) (by (k_asm); fail_if_success (focus skip)) (by (first | exact rfl | k_asm); fail_if_success (focus skip)) (by (exact rfl); fail_if_success (focus skip)) (by (exact rfl); fail_if_success (focus skip)) (by (ktr_rel); fail_if_success (focus skip)) (by (ktr_rel); fail_if_success (focus skip)) (by (ktr_rel); fail_if_success (focus skip)) (by (k_asm); fail_if_success (focus skip)) (by (k_asm); fail_if_success (focus skip)) (by (first | exact Nat.lt_of_le_of_lt (by (simp +arith); fail_if_success (focus skip)) hD | exact Nat.lt_of_le_of_lt (by (simp +arith); fail_if_success (focus skip)) hU | exact Nat.lt_of_le_of_lt (by (simp +arith); fail_if_success (focus skip)) hD9 | exact Nat.lt_of_le_of_lt (by (simp +arith); fail_if_success (focus skip)) hU9 | omega); fail_if_success (focus skip)) (by (first | exact Nat.lt_of_le_of_lt (by (simp +arith); fail_if_success (focus skip)) hD | exact Nat.lt_of_le_of_lt (by (simp +arith); fail_if_success (focus skip)) hU | exact Nat.lt_of_le_of_lt (by (simp +arith); fail_if_success (focus skip)) hD9 | exact Nat.lt_of_le_of_lt (by (simp +arith); fail_if_success (focus skip)) hU9 | omega); fail_if_success (focus skip)) ?_; k_whole; intro h' tk' t' F' N'; (try k_sweep); (try dsimp only))))
  trivial
set_option maxHeartbeats 0 in
theorem val_call (e : Str → Option Int) (W : Int) (t : St) : ValC w mean mg mb e W t := by
  induction t with
  | none =>
    intro A s sa ea v Q E C hD hU ht hs0 he hok h
    simp only [St.size] at hD hU
    cases ht with
    | none ht =>
    rename_i a tk'
    obtain ⟨dx, hs, t1, t2, n2, I⟩ := id hs0
    refine enterC (binds := [(Str.ofString "self", .ref sa), (Str.ofString "term", .ref a), (Str.ofString "env", .ref ea)]) C (by k_is) (by k_is) (by first | exact Nat.lt_of_le_of_lt (by (simp +arith); fail_if_success (focus skip)) hD | exact Nat.lt_of_le_of_lt (by (simp +arith); fail_if_success (focus skip)) hU | exact Nat.lt_of_le_of_lt (by (simp +arith); fail_if_success (focus skip)) hD9 | exact Nat.lt_of_le_of_lt (by (simp +arith); fail_if_success (focus skip)) hU9 | omega) (BindsTo.of_eq rfl) rfl (by decide +kernel) (fun L' h₁ tk cells base outer F N Y B X T hh => ?_) rfl rfl rfl
    clear C
    k_cells Y
    (try simp only [List.cons_append, List.nil_append] at N)
    refine post_abs (fun R9 E9 hR9 => ?_)
    k_steps
    all_goals exact hR9 _ _ (pend_int (by assumption) (by simp_all [St.val]) (h _ _ _ (Fr.keep (by assumption))))
  | all =>
    intro A s sa ea v Q E C hD hU ht hs0 he hok h
    simp only [St.size] at hD hU
    cases ht with
    | all ht =>
    rename_i a tk'
    obtain ⟨dx, hs, t1, t2, n2, I⟩ := id hs0
    refine enterC (binds := [(Str.ofString "self", .ref sa), (Str.ofString "term", .ref a), (Str.ofString "env", .ref ea)]) C (by k_is) (by k_is) (by first | exact Nat.lt_of_le_of_lt (by (simp +arith); fail_if_success (focus skip)) hD | exact Nat.lt_of_le_of_lt (by (simp +arith); fail_if_success (focus skip)) hU | exact Nat.lt_of_le_of_lt (by (simp +arith); fail_if_success (focus skip)) hD9 | exact Nat.lt_of_le_of_lt (by (simp +arith); fail_if_success (focus skip)) hU9 | omega) (BindsTo.of_eq rfl) rfl (by decide +kernel) (fun L' h₁ tk cells base outer F N Y B X T hh => ?_) rfl rfl rfl
    clear C
    k_cells Y
    (try simp only [List.cons_append, List.nil_append] at N)
    refine post_abs (fun R9 E9 hR9 => ?_)
    k_steps
    all_goals exact hR9 _ _ (pend_int (by assumption) (by simp_all [St.val]) (h _ _ _ (Fr.keep (by assumption))))
  | name x =>
    intro A s sa ea v Q E C hD hU ht hs0 he hok h
    simp only [St.size] at hD hU
    cases ht with
    | name ht =>
    rename_i a tk'
    obtain ⟨n1, n2, n, hn, hn0, hn1⟩ := hok
    obtain ⟨dx, hs, t1, t2, n2, I⟩ := id hs0
    refine enterC (binds := [(Str.ofString "self", .ref sa), (Str.ofString "term", .ref a), (Str.ofString "env", .ref ea)]) C (by k_is) (by k_is) (by first | exact Nat.lt_of_le_of_lt (by (simp +arith); fail_if_success (focus skip)) hD | exact Nat.lt_of_le_of_lt (by (simp +arith); fail_if_success (focus skip)) hU | exact Nat.lt_of_le_of_lt (by (simp +arith); fail_if_success (focus skip)) hD9 | exact Nat.lt_of_le_of_lt (by (simp +arith); fail_if_success (focus skip)) hU9 | omega) (BindsTo.of_eq rfl) rfl (by decide +kernel) (fun L' h₁ tk cells base outer F N Y B X T hh => ?_) rfl rfl rfl
    clear C
    k_cells Y
    (try simp only [List.cons_append, List.nil_append] at N)
    refine post_abs (fun R9 E9 hR9 => ?_)
    k_steps
    all_goals exact hR9 _ _ (pend_int (by assumption) (by simp_all [St.val]) (h _ _ _ (Fr.keep (by assumption))))
  | not x ih =>
    intro A s sa ea v Q E C hD hU ht hs0 he hok h
    simp only [St.size] at hD hU
    cases ht with
    | not ht hx =>
    rename_i a tk' v'
    have hok1 : x.ok e := hok
    obtain ⟨dx, hs, t1, t2, n2, I⟩ := id hs0
    refine enterC (binds := [(Str.ofString "self", .ref sa), (Str.ofString "term", .ref a), (Str.ofString "env", .ref ea)]) C (by k_is) (by k_is) (by first | exact Nat.lt_of_le_of_lt (by (simp +arith); fail_if_success (focus skip)) hD | exact Nat.lt_of_le_of_lt (by (simp +arith); fail_if_success (focus skip)) hU | exact Nat.lt_of_le_of_lt (by (simp +arith); fail_if_success (focus skip)) hD9 | exact Nat.lt_of_le_of_lt (by (simp +arith); fail_if_success (focus skip)) hU9 | omega) (BindsTo.of_eq rfl) rfl (by decide +kernel) (fun L' h₁ tk cells base outer F N Y B X T hh => ?_) rfl rfl rfl
    clear C
    k_cells Y
    (try simp only [List.cons_append, List.nil_append] at N)
    refine post_abs (fun R9 E9 hR9 => ?_)
    k_steps
    all_goals exact hR9 _ _ (pend_int (by assumption) (by simp_all [St.val]) (h _ _ _ (Fr.keep (by assumption))))
  | union x y ihx ihy =>
    intro A s sa ea v Q E C hD hU ht hs0 he hok h
    simp only [St.size] at hD hU
    cases ht with
    | union ht hx hy =>
    rename_i a tk' v' v''
    have hok1 : x.ok e := hok.1
    have hok2 : y.ok e := hok.2
    obtain ⟨dx, hs, t1, t2, n2, I⟩ := id hs0
    refine enterC (binds := [(Str.ofString "self", .ref sa), (Str.ofString "term", .ref a), (Str.ofString "env", .ref ea)]) C (by k_is) (by k_is) (by first | exact Nat.lt_of_le_of_lt (by (simp +arith); fail_if_success (focus skip)) hD | exact Nat.lt_of_le_of_lt (by (simp +arith); fail_if_success (focus skip)) hU | exact Nat.lt_of_le_of_lt (by (simp +arith); fail_if_success (focus skip)) hD9 | exact Nat.lt_of_le_of_lt (by (simp +arith); fail_if_success (focus skip)) hU9 | omega) (BindsTo.of_eq rfl) rfl (by decide +kernel) (fun L' h₁ tk cells base outer F N Y B X T hh => ?_) rfl rfl rfl
    clear C
    k_cells Y
    (try simp only [List.cons_append, List.nil_append] at N)
    refine post_abs (fun R9 E9 hR9 => ?_)
    k_steps
    all_goals exact hR9 _ _ (pend_int (by assumption) (by simp_all [St.val]) (h _ _ _ (Fr.keep (by assumption))))
  | meet x y ihx ihy =>
    intro A s sa ea v Q E C hD hU ht hs0 he hok h
    simp only [St.size] at hD hU
    cases ht with
    | meet ht hx hy =>
    rename_i a tk' v' v''
    have hok1 : x.ok e := hok.1
    have hok2 : y.ok e := hok.2
    obtain ⟨dx, hs, t1, t2, n2, I⟩ := id hs0
    refine enterC (binds := [(Str.ofString "self", .ref sa), (Str.ofString "term", .ref a), (Str.ofString "env", .ref ea)]) C (by k_is) (by k_is) (by first | exact Nat.lt_of_le_of_lt (by (simp +arith); fail_if_success (focus skip)) hD | exact Nat.lt_of_le_of_lt (by (simp +arith); fail_if_success (focus skip)) hU | exact Nat.lt_of_le_of_lt (by (simp +arith); fail_if_success (focus skip)) hD9 | exact Nat.lt_of_le_of_lt (by (simp +arith); fail_if_success (focus skip)) hU9 | omega) (BindsTo.of_eq rfl) rfl (by decide +kernel) (fun L' h₁ tk cells base outer F N Y B X T hh => ?_) rfl rfl rfl
    clear C
    k_cells Y
    (try simp only [List.cons_append, List.nil_append] at N)
    refine post_abs (fun R9 E9 hR9 => ?_)
    k_steps
    all_goals exact hR9 _ _ (pend_int (by assumption) (by simp_all [St.val]) (h _ _ _ (Fr.keep (by assumption))))
  | less x y ihx ihy =>
    intro A s sa ea v Q E C hD hU ht hs0 he hok h
    simp only [St.size] at hD hU
    cases ht with
    | less ht hx hy =>
    rename_i a tk' v' v''
    have hok1 : x.ok e := hok.1
    have hok2 : y.ok e := hok.2
    obtain ⟨dx, hs, t1, t2, n2, I⟩ := id hs0
    refine enterC (binds := [(Str.ofString "self", .ref sa), (Str.ofString "term", .ref a), (Str.ofString "env", .ref ea)]) C (by k_is) (by k_is) (by first | exact Nat.lt_of_le_of_lt (by (simp +arith); fail_if_success (focus skip)) hD | exact Nat.lt_of_le_of_lt (by (simp +arith); fail_if_success (focus skip)) hU | exact Nat.lt_of_le_of_lt (by (simp +arith); fail_if_success (focus skip)) hD9 | exact Nat.lt_of_le_of_lt (by (simp +arith); fail_if_success (focus skip)) hU9 | omega) (BindsTo.of_eq rfl) rfl (by decide +kernel) (fun L' h₁ tk cells base outer F N Y B X T hh => ?_) rfl rfl rfl
    clear C
    k_cells Y
    (try simp only [List.cons_append, List.nil_append] at N)
    refine post_abs (fun R9 E9 hR9 => ?_)
    k_steps
    all_goals exact hR9 _ _ (pend_int (by assumption) (by simp_all [St.val]) (h _ _ _ (Fr.keep (by assumption))))
end
end Mine
end
section
open PySem PySem.W PySem.Spec PySem.Calls PyProof.Rows
set_option maxRecDepth 100000
namespace Mine
section
variable {w : World} {A : Around} {E : Value → Shared → Prop}
noncomputable abbrev excInst (dx : Option Addr) (t0 : Addr) : Obj := { cls := .ref 60, dict := dx, data := .fields #[.ref t0, .none, .none, .none, .bool false, .none] }
theorem raise_stmt {s : Shared} {env : Env} {x : Sem Value} {Q : Flow → Shared → Prop} (hh : A.handled = none)
    (h : wpAny (model PR w) A x (fun v s₁ => ∃ e t dx, v = .ref e ∧ ExcK w s₁.heap ∧ s₁.heap.get? e = some (excInst dx t) ∧ E (.ref e) s₁) E s) :
    wpAny (model PR w) A (raiseStmt env (some x) none) Q E s := by
  unfold raiseStmt
  refine wpAny_bind (wpAny_mono h (fun v s₁ h₁ => ?_) fun _ _ x => x)
  obtain ⟨e, t, dx, rfl, Y, he, hE⟩ := h₁
  obtain ⟨⟨cd, sl, hC, e1, e2, e3⟩, made, base, self, exc, bexc, attr, name, call, typ, init, bnd⟩ := Y
  obtain ⟨hp, g, d, tk, os⟩ := s₁
  repeat (first | with_reducible refine wpAny_loadPart_at he ?_ | with_reducible refine wpAny_loadPart_at hC ?_ | with_reducible refine Looks.at bexc ?_ | wp_step)
  exact wpAny_raiseNew_none hh hE
theorem raise_own {s : Shared} {env : Env} {x : Expr} {pos : Pos} {Q : Flow → Shared → Prop} (hh : A.handled = none)
    (h : wpAny (model PR w) A (eval x env) (fun v s₁ => ∃ e t dx, v = .ref e ∧ ExcK w s₁.heap ∧ s₁.heap.get? e = some (excInst dx t) ∧ E (.ref e) s₁) E s) :
    wpAny (model PR w) A (exec (.Raise (some x) none pos) env) Q E s := by
  rw [arm_exec_Raise]
  show wpAny _ A (do standAt pos; raiseStmt env (some (do let v ← eval x env; standAt pos; pure v)) none) Q E s
  exact wpAny_bind (wpAny_standAt (raise_stmt hh (wpAny_bind (wpAny_mono h (fun v s₁ h₁ => wpAny_bind (wpAny_standAt (wpAny_pure h₁))) fun _ _ x => x))))
theorem new_none {g h : Heap} {e : Addr} (k : ∀ b o, g.get? b = some o → h.get? b = some o) (hn : h.get? e = none) : g.get? e = none := by
  cases z : g.get? e with
  | none => rfl
  | some o => rw [k _ _ z] at hn; cases hn
/-- the frame in which it is raised -/
theorem leave_first {base g : Heap} {outer : List Env} {env : Env} {L e t0 : Addr} {dx : Option Addr} {m : Str → Option Value} {s' : Shared} {Q : Unit → Shared → Prop} (B : Below A base outer g) (F : Fr g L s'.heap m) (hf : env.frame = some L) (hk : env.scope.kind = .function)
    (he : s'.heap.get? e = some (excInst dx t0)) (hn : g.get? e = none)
    (hQ : ∀ a0 h', Heap.FlyingW base outer e (.ref 60) a0 h' → g.UpToSlots h' → Q () { s' with heap := h' }) : wpAny (model PR w) (A.deeper env) (leaving env (.ref e)) Q E s' := by
  have B' := pushX B F hf hk
  have hen := new_none B.stays hn
  refine wpAny_leaving_firstW (a0 := .ref t0) B'.stack B'.frames hf he B'.stays hen rfl rfl rfl fun h' hL => ?_
  obtain ⟨k1, ⟨_, _, k2⟩, k3, k4⟩ := hL
  exact hQ _ h' ⟨k1, hen, k2, k3⟩ ((Heap.UpToSlots.of_keeps F.keep).trans k4)
/-- a frame through which it passes -/
theorem leave_pass {base g h : Heap} {outer : List Env} {env : Env} {L e : Addr} {a0 : Value} {m : Str → Option Value} {s' : Shared} {Q : Unit → Shared → Prop} (B : Below A base outer g) (F : Fr g L h m) (hf : env.frame = some L)
    (hfl : Heap.FlyingW base (env :: outer) e (.ref 60) a0 s'.heap) (hsm : h.UpToSlots s'.heap)
    (hQ : ∀ h', Heap.FlyingW base outer e (.ref 60) a0 h' → g.UpToSlots h' → Q () { s' with heap := h' }) : wpAny (model PR w) (A.deeper env) (leaving env (.ref e)) Q E s' :=
  wpAny_leaves_onW (Around.frames_deeper B.stack) hf hfl fun h' x1 x2 => hQ h' x1 ((Heap.UpToSlots.of_keeps F.keep).trans (hsm.trans x2))
end
theorem item_zero {w : World} {A : Around} {E : Value → Shared → Prop} {s : Shared} {value slice : Expr} {a : Addr} {v : Value} {r : List Value} {u : Tok} {Q : Value → Shared → Prop} (ht : IsTup s.heap a (v :: r).toArray) (h : Q v s)
    (hs : subscripted slice false (.ref a) (.int 0 u) = operate [.ref a, .int 0 u] (getItem (.ref a) (.int 0 u))) : wpAny (model PR w) A (subscriptTail value slice (.ref a) (.int 0 u)) Q E s :=
  item_tupleT (j := 0) ht (by decide) (by decide) (by simp [seqIndex?]) rfl h hs
theorem len_n {w : World} {A : Around} {E : Value → Shared → Prop} {s : Shared} {a : Addr} {v : Value} {r : List Value} {n : Int} {Q : Value → Shared → Prop} (ht : IsTup s.heap a (v :: r).toArray) (hn : ((r.length + 1 : Nat) : Int) = n) (hb : n ≤ 10) (h : Q (.int n (s.toks + 1)) { s with toks := s.toks + 1 + 1 }) : wpAny (model PR w) A (call (.builtin "len") [.ref a]) Q E s := by
  subst hn
  exact len_tuple ht (by simp; omega) (by simpa using h)
section
variable {w : World} {mean : ExcName → Option Value} {mg mb : Str → Option Value}
theorem lines_r5_1 : True := by
  k_with_none
  (k_with "h ne" => (refine neN ?_; (try dsimp only); first | assumption | (refine Ne.symm ?_; assumption) | (refine Nat.ne_of_lt ?_; assumption) | (refine Nat.ne_of_gt ?_; assumption) | ((repeat (rename (_ ∧ _) => hA9; first | ((repeat (first | exact hA9 | exact Ne.symm hA9 | exact Nat.ne_of_lt hA9 | exact Nat.ne_of_gt hA9 | (obtain ⟨h9a, hA9⟩ := hA9; first | exact h9a | exact Ne.symm h9a | exact Nat.ne_of_lt h9a | exact Nat.ne_of_gt h9a | exact h9a.1 | exact h9a.2.1 | exact h9a.2.2 | exact Ne.symm h9a.1 | exact Ne.symm h9a.2.1 | exact Ne.symm h9a.2.2 | clear h9a))); fail_if_success (focus skip)) | clear hA9)); fail_if_success (focus skip)) | omega))
  (k_with "h rel" => first | assumption | exact IsTup.keeps (by assumption) (Fr.keep (by assumption)) | exact EnvAt.keeps (by assumption) (Fr.keep (by assumption)) | exact SetsAt.keeps (by assumption) (Fr.keep (by assumption)))
  (k_with "call builtin:len" => (k_here; (with_reducible show wpAny _ _ (call (Value.builtin "len") [Value.ref _]) _ _ _); first | refine len_1 (by ktr_rel) ?_ | refine len_2 (by ktr_rel) ?_ | refine len_3 (by ktr_rel) ?_ | refine len_4 (by ktr_rel) ?_))
  (k_with "subscriptTail" => (k_here; (with_reducible show wpAny _ _ (subscriptTail _ _ (Value.ref _) (Value.str _ _)) _ _ _); k_dflt (refine env_item (by (ktr_rel); fail_if_success (focus skip)) (by (assumption); fail_if_success (focus skip)) ?_ (by (with_unfolding_all rfl); fail_if_success (focus skip)); k_whole; intro eT)))
  (k_with "subscriptTail" => (k_here; (with_reducible show wpAny _ _ (subscriptTail _ _ (Value.ref _) (Value.int _ _)) _ _ _); k_dflt (refine item_tupleT (by (ktr_rel); fail_if_success (focus skip)) (by (decide); fail_if_success (focus skip)) (by (decide); fail_if_success (focus skip)) (by (rfl); fail_if_success (focus skip)) (by (rfl); fail_if_success (focus skip)) ?_; k_whole)))
  (k_with "subscriptTail Name Slice ref ref" => (k_here; k_dflt (refine tail_slice (by (k_asm); fail_if_success (focus skip)) (by (k_asm); fail_if_success (focus skip)) (by (ktr_rel); fail_if_success (focus skip)) (by (exact Nat.le_of_ble_eq_true rfl); fail_if_success (focus skip)) ?_ (by (with_unfolding_all rfl); fail_if_success (focus skip)) (by (intro _; with_unfolding_all rfl); fail_if_success (focus skip)); k_whole; intro D' h' F' N' l1; (try k_lt l1); (try k_sweep))))
  (k_with "exec Assign cons ListComp" => (k_here; (with_reducible rename PyProof.Rows.News _ _ _ _ => nx9); (replace nx9 := News.last2 nx9); (change PyProof.Rows.News _ _ _ [(_, _), (_, _)] at nx9); (repeat (rename ((_ : Nat) < _ ∧ _) => lx9; clear lx9)); k_dflt (refine Assign_ListComp_T (by k_asm) (by rfl) (by with_unfolding_all rfl) (by with_unfolding_all rfl) (by decide) (by rfl) (by decide) (by rfl) (by rfl) (by rfl) ?_); (repeat (first | walk1 | (dsimp only; walk1))); k_dflt (refine SrcT.ledger (by first | rfl | assumption) (by k_asm) (by k_asm) (by k_mem) (by exact Nat.le_of_ble_eq_true rfl) ?_; intro g'; lcg_lit)))
  (k_with "h units" => (simp only [units_deeper, units_in1]; first | exact Nat.lt_of_le_of_lt (by (simp +arith); fail_if_success (focus skip)) hD | exact Nat.lt_of_le_of_lt (by (simp +arith); fail_if_success (focus skip)) hU | exact Nat.lt_of_le_of_lt (by (simp +arith); fail_if_success (focus skip)) hD9 | exact Nat.lt_of_le_of_lt (by (simp +arith); fail_if_success (focus skip)) hU9 | omega))
  (k_with "compareOp Eq ref ref" => (k_here; k_dflt (first
      | (refine eq_one_t (by (ktr_rel); fail_if_success (focus skip)) (by (exact News.isTup (by assumption) (by k_mem)); fail_if_success (focus skip)) (by (ktr_units); fail_if_success (focus skip)) (by (first | decide | simp_all); fail_if_success (focus skip)) ?_; k_whole)
      | (refine eq_one_f (by (ktr_rel); fail_if_success (focus skip)) (by (exact News.isTup (by assumption) (by k_mem)); fail_if_success (focus skip)) (by (ktr_units); fail_if_success (focus skip)) (by (first | decide | simp_all); fail_if_success (focus skip)) ?_; k_whole))))
  (k_with "h rel" => exact SAt.keeps (by assumption) (Fr.keep (by assumption)))
  (k_with "compareOp In bool ref" => (k_here; k_dflt (refine in_bools (News.isList (by k_asm) (by k_mem)) ?_)))
  (k_with "compareOp NotIn bool ref" => (k_here; k_dflt (refine notIn_bools (News.isList (by k_asm) (by k_mem)) ?_)))
  (k_with "h inst" => exact InstAt.keeps (by assumption) (Fr.keep (by assumption)))
  (k_with "compareOp NotIn str ref" => (k_here; k_dflt (first | refine env_notin (by ktr_rel) (by assumption) ?_ | refine env_notin_none (by ktr_rel) (by assumption) ?_)))
  (k_with "compareOp In ref ref" => (k_here; k_dflt (first
      | (refine in_two_t (by (exact News.isTup (by assumption) (by k_mem)); fail_if_success (focus skip)) (by (exact News.isTup (by assumption) (by k_mem)); fail_if_success (focus skip)) (by (exact News.isTup (by assumption) (by k_mem)); fail_if_success (focus skip)) (by (ktr_rel); fail_if_success (focus skip)) (by (ktr_units); fail_if_success (focus skip)) (by (first | decide | simp_all); fail_if_success (focus skip)) ?_; k_whole)
      | (refine in_two_f (by (exact News.isTup (by assumption) (by k_mem)); fail_if_success (focus skip)) (by (exact News.isTup (by assumption) (by k_mem)); fail_if_success (focus skip)) (by (exact News.isTup (by assumption) (by k_mem)); fail_if_success (focus skip)) (by (ktr_rel); fail_if_success (focus skip)) (by (ktr_units); fail_if_success (focus skip)) (by (first | decide | simp_all); fail_if_success (focus skip)) ?_; k_whole))))
  (k_with "compareOp NotIn ref ref" => (k_here; k_dflt (first
      | (refine notIn_four_t (by (exact News.isTup (by assumption) (by k_mem)); fail_if_success (focus skip)) (by (exact News.isTup (by assumption) (by k_mem)); fail_if_success (focus skip)) (by (exact News.isTup (by assumption) (by k_mem)); fail_if_success (focus skip)) (by (exact News.isTup (by assumption) (by k_mem)); fail_if_success (focus skip)) (by (exact News.isTup (by assumption) (by k_mem)); fail_if_success (focus skip)) (by (exact News.isTup (by assumption) (by k_mem)); fail_if_success (focus skip)) (by (ktr_units); fail_if_success (focus skip)) (by (first | decide | simp_all); fail_if_success (focus skip)) ?_; k_whole)
      | (refine notIn_four_f (by (exact News.isTup (by assumption) (by k_mem)); fail_if_success (focus skip)) (by (exact News.isTup (by assumption) (by k_mem)); fail_if_success (focus skip)) (by (exact News.isTup (by assumption) (by k_mem)); fail_if_success (focus skip)) (by (exact News.isTup (by assumption) (by k_mem)); fail_if_success (focus skip)) (by (exact News.isTup (by assumption) (by k_mem)); fail_if_success (focus skip)) (by (exact News.isTup (by assumption) (by k_mem)); fail_if_success (focus skip)) (by (ktr_units); fail_if_success (focus skip)) (by (first | decide | simp_all); fail_if_success (focus skip)) ?_; k_whole))))
  (k_with "storeName" => (k_here; k_dflt (refine storeX_U (by k_asm) (by k_asm) ?_ (by rfl) (by rfl)); intro h' F' N'; (try k_sweep)))
  (k_with "h ktlen" => assumption)
  (k_with "And" => ((with_reducible show PySem.Str.length (_ ++ _) ≤ sizeLine ∧ wpAny _ _ (joinParts _ _) _ _ _); refine ⟨by kt_le, ?_⟩))
  (k_with "joinParts" => (k_here; (first | (with_reducible show wpAny _ _ (joinParts _ []) _ _ _) | (with_reducible show wpAny _ _ (joinParts _ (evalEach [] _)) _ _ _)); (try (with_reducible refine joinParts_nilE ?_)); (with_reducible refine joinParts_nil (hsz := ?hsz) ?_); (case hsz => kt_le)))
  trivial
set_option maxHeartbeats 0 in
theorem named_raise1 {e : Str → Option Int} {x : Str} {tk : Tok} {A : Around} {s : Shared} {a ea : Addr} {base : Heap} {outer : List Env} {Q E : Value → Shared → Prop} (hx : e x = none)
    (C : Cal w mean mg mb A s) (Bc : Below A base outer s.heap) (hD : A.depth + 40 < recursionLimit) (hU : A.units + 200 < cLine) (ht : IsTup s.heap a #[.str x tk]) (he : EnvAt w s.heap ea e) (hxl : x.length ≤ 20)
    (hE : ∀ x a0 h' tk', Heap.FlyingW base outer x (.ref 60) a0 h' → s.heap.UpToSlots h' → E (.ref x) { s with heap := h', toks := tk' }) :
    wpAny (model PR w) A (call (.ref 131) [.ref a, .ref ea]) Q E s := by
    refine enterP (binds := [(Str.ofString "term", .ref a), (Str.ofString "env", .ref ea)]) C (by k_is) (by k_is) (by first | exact Nat.lt_of_le_of_lt (by (simp +arith); fail_if_success (focus skip)) hD | exact Nat.lt_of_le_of_lt (by (simp +arith); fail_if_success (focus skip)) hU | exact Nat.lt_of_le_of_lt (by (simp +arith); fail_if_success (focus skip)) hD9 | exact Nat.lt_of_le_of_lt (by (simp +arith); fail_if_success (focus skip)) hU9 | omega) (BindsTo.of_eq rfl) (locs rfl) (fun L' h₁ base₁ outer₁ F N B X T hh => ?_) rfl rfl rfl (by decide)
    clear C
    repeat ((fail_if_success (with_reducible show wpAny _ _ (exec (Stmt.Raise _ _ _) _) _ _ _)); first | walk1 | (dsimp only; walk1))
    refine raise_own hh ?_
    repeat ((fail_if_success (with_reducible show wpAny _ _ (call (Value.ref 60) _) _ _ _)); first | walk1 | (dsimp only; walk1))
    generalize (Str.empty ++ x ++ Str.ofString " with " ++ Str.ofString (toString ((1 : Int) - 1)) ++ Str.ofString " kids has no value") = T9
    rename Fr _ _ _ _ => F'
    refine exc_make (Cal.site B F' X T hh rfl rfl) (by simp only [depth_deeper]; first | exact Nat.lt_of_le_of_lt (by (simp +arith); fail_if_success (focus skip)) hD | exact Nat.lt_of_le_of_lt (by (simp +arith); fail_if_success (focus skip)) hU | exact Nat.lt_of_le_of_lt (by (simp +arith); fail_if_success (focus skip)) hD9 | exact Nat.lt_of_le_of_lt (by (simp +arith); fail_if_success (focus skip)) hU9 | omega) (by simp only [units_deeper]; first | exact Nat.lt_of_le_of_lt (by (simp +arith); fail_if_success (focus skip)) hD | exact Nat.lt_of_le_of_lt (by (simp +arith); fail_if_success (focus skip)) hU | exact Nat.lt_of_le_of_lt (by (simp +arith); fail_if_success (focus skip)) hD9 | exact Nat.lt_of_le_of_lt (by (simp +arith); fail_if_success (focus skip)) hU9 | omega) fun h' tk' x9 dx t0 kp nx ex => ?_
    have F9 := F'.keeps kp
    refine ⟨x9, t0, some dx, rfl, excK (X.keeps F9.keep), ex, ?_⟩
    dsimp only
    refine leave_first Bc F9 rfl rfl ex (new_none F'.keep nx) fun a0 h'' fl up => ?_
    exact hE _ _ _ _ fl up
theorem lines_r5_2 : True := by
  (k_with "call builtin:len" => (k_here; (with_reducible show wpAny _ _ (call (Value.builtin "len") [Value.ref _]) _ _ _); refine len_n (by ktr_rel) (by assumption) (by assumption) ?_))
  (k_with "subscriptTail" => (k_here; (with_reducible show wpAny _ _ (subscriptTail _ _ (Value.ref _) (Value.int 0 _)) _ _ _); k_dflt (refine item_zero (by ktr_rel) ?_ (by with_unfolding_all rfl))))
  trivial
set_option maxHeartbeats 0 in
theorem named_raiseN {e : Str → Option Int} {x : Str} {tk : Tok} {r : List Value} {n : Int} (hn : ((r.length + 1 : Nat) : Int) = n) (h1 : 1 < n) (hb : n ≤ 10) (hT : (Str.ofString (toString (n - 1))).length ≤ 20) {A : Around} {s : Shared} {a ea : Addr} {base : Heap} {outer : List Env} {Q E : Value → Shared → Prop} 
    (C : Cal w mean mg mb A s) (Bc : Below A base outer s.heap) (hD : A.depth + 40 < recursionLimit) (hU : A.units + 200 < cLine) (ht : IsTup s.heap a (.str x tk :: r).toArray) (he : EnvAt w s.heap ea e) (hxl : x.length ≤ 20)
    (hE : ∀ x a0 h' tk', Heap.FlyingW base outer x (.ref 60) a0 h' → s.heap.UpToSlots h' → E (.ref x) { s with heap := h', toks := tk' }) :
    wpAny (model PR w) A (call (.ref 131) [.ref a, .ref ea]) Q E s := by
    refine enterP (binds := [(Str.ofString "term", .ref a), (Str.ofString "env", .ref ea)]) C (by k_is) (by k_is) (by first | exact Nat.lt_of_le_of_lt (by (simp +arith); fail_if_success (focus skip)) hD | exact Nat.lt_of_le_of_lt (by (simp +arith); fail_if_success (focus skip)) hU | exact Nat.lt_of_le_of_lt (by (simp +arith); fail_if_success (focus skip)) hD9 | exact Nat.lt_of_le_of_lt (by (simp +arith); fail_if_success (focus skip)) hU9 | omega) (BindsTo.of_eq rfl) (locs rfl) (fun L' h₁ base₁ outer₁ F N B X T hh => ?_) rfl rfl rfl (by decide)
    clear C
    repeat ((fail_if_success (with_reducible show wpAny _ _ (exec (Stmt.Raise _ _ _) _) _ _ _)); first | walk1 | (dsimp only; walk1))
    refine raise_own hh ?_
    repeat ((fail_if_success (with_reducible show wpAny _ _ (call (Value.ref 60) _) _ _ _)); first | walk1 | (dsimp only; walk1))
    generalize (Str.empty ++ x ++ Str.ofString " with " ++ Str.ofString (toString (n - 1)) ++ Str.ofString " kids has no value") = T9
    rename Fr _ _ _ _ => F'
    refine exc_make (Cal.site B F' X T hh rfl rfl) (by simp only [depth_deeper]; first | exact Nat.lt_of_le_of_lt (by (simp +arith); fail_if_success (focus skip)) hD | exact Nat.lt_of_le_of_lt (by (simp +arith); fail_if_success (focus skip)) hU | exact Nat.lt_of_le_of_lt (by (simp +arith); fail_if_success (focus skip)) hD9 | exact Nat.lt_of_le_of_lt (by (simp +arith); fail_if_success (focus skip)) hU9 | omega) (by simp only [units_deeper]; first | exact Nat.lt_of_le_of_lt (by (simp +arith); fail_if_success (focus skip)) hD | exact Nat.lt_of_le_of_lt (by (simp +arith); fail_if_success (focus skip)) hU | exact Nat.lt_of_le_of_lt (by (simp +arith); fail_if_success (focus skip)) hD9 | exact Nat.lt_of_le_of_lt (by (simp +arith); fail_if_success (focus skip)) hU9 | omega) fun h' tk' x9 dx t0 kp nx ex => ?_
    have F9 := F'.keeps kp
    refine ⟨x9, t0, some dx, rfl, excK (X.keeps F9.keep), ex, ?_⟩
    dsimp only
    refine leave_first Bc F9 rfl rfl ex (new_none F'.keep nx) fun a0 h'' fl up => ?_
    exact hE _ _ _ _ fl up
end
end Mine
end
section
open PySem PySem.W PySem.Spec PySem.Calls PyProof.Rows
set_option maxRecDepth 100000
namespace Mine
section
variable {w : World} {mean : ExcName → Option Value} {mg mb : Str → Option Value}
/-- it raises TermFault -/
noncomputable abbrev Flies (base : Heap) (outer : List Env) (s : Shared) (E : Value → Shared → Prop) : Prop :=
  ∀ x a0 h' tk', Heap.FlyingW base outer x (.ref 60) a0 h' → s.heap.UpToSlots h' → E (.ref x) { s with heap := h', toks := tk' }
theorem lines_r6_1 : True := by
  k_with_none
  (k_with "h ne" => (refine neN ?_; (try dsimp only); first | assumption | (refine Ne.symm ?_; assumption) | (refine Nat.ne_of_lt ?_; assumption) | (refine Nat.ne_of_gt ?_; assumption) | ((repeat (rename (_ ∧ _) => hA9; first | ((repeat (first | exact hA9 | exact Ne.symm hA9 | exact Nat.ne_of_lt hA9 | exact Nat.ne_of_gt hA9 | (obtain ⟨h9a, hA9⟩ := hA9; first | exact h9a | exact Ne.symm h9a | exact Nat.ne_of_lt h9a | exact Nat.ne_of_gt h9a | exact h9a.1 | exact h9a.2.1 | exact h9a.2.2 | exact Ne.symm h9a.1 | exact Ne.symm h9a.2.1 | exact Ne.symm h9a.2.2 | clear h9a))); fail_if_success (focus skip)) | clear hA9)); fail_if_success (focus skip)) | omega))
  (k_with "h rel" => first | assumption | exact IsTup.keeps (by assumption) (Fr.keep (by assumption)) | exact EnvAt.keeps (by assumption) (Fr.keep (by assumption)) | exact SetsAt.keeps (by assumption) (Fr.keep (by assumption)))
  (k_with "call builtin:len" => (k_here; (with_reducible show wpAny _ _ (call (Value.builtin "len") [Value.ref _]) _ _ _); first | refine len_1 (by ktr_rel) ?_ | refine len_2 (by ktr_rel) ?_ | refine len_3 (by ktr_rel) ?_ | refine len_4 (by ktr_rel) ?_))
  (k_with "subscriptTail" => (k_here; (with_reducible show wpAny _ _ (subscriptTail _ _ (Value.ref _) (Value.str _ _)) _ _ _); k_dflt (refine env_item (by (ktr_rel); fail_if_success (focus skip)) (by (assumption); fail_if_success (focus skip)) ?_ (by (with_unfolding_all rfl); fail_if_success (focus skip)); k_whole; intro eT)))
  (k_with "subscriptTail" => (k_here; (with_reducible show wpAny _ _ (subscriptTail _ _ (Value.ref _) (Value.int _ _)) _ _ _); k_dflt (refine item_tupleT (by (ktr_rel); fail_if_success (focus skip)) (by (decide); fail_if_success (focus skip)) (by (decide); fail_if_success (focus skip)) (by (rfl); fail_if_success (focus skip)) (by (rfl); fail_if_success (focus skip)) ?_; k_whole)))
  (k_with "subscriptTail Name Slice ref ref" => (k_here; k_dflt (refine tail_slice (by (k_asm); fail_if_success (focus skip)) (by (k_asm); fail_if_success (focus skip)) (by (ktr_rel); fail_if_success (focus skip)) (by (exact Nat.le_of_ble_eq_true rfl); fail_if_success (focus skip)) ?_ (by (with_unfolding_all rfl); fail_if_success (focus skip)) (by (intro _; with_unfolding_all rfl); fail_if_success (focus skip)); k_whole; intro D' h' F' N' l1; (try k_lt l1); (try k_sweep))))
  (k_with "exec Assign cons ListComp" => (k_here; (with_reducible rename PyProof.Rows.News _ _ _ _ => nx9); (replace nx9 := News.last2 nx9); (change PyProof.Rows.News _ _ _ [(_, _), (_, _)] at nx9); (repeat (rename ((_ : Nat) < _ ∧ _) => lx9; clear lx9)); k_dflt (refine Assign_ListComp_T (by k_asm) (by rfl) (by with_unfolding_all rfl) (by with_unfolding_all rfl) (by decide) (by rfl) (by decide) (by rfl) (by rfl) (by rfl) ?_); (repeat (first | walk1 | (dsimp only; walk1))); k_dflt (refine SrcT.ledger (by first | rfl | assumption) (by k_asm) (by k_asm) (by k_mem) (by exact Nat.le_of_ble_eq_true rfl) ?_; intro g'; lcg_lit)))
  (k_with "h units" => (simp only [units_deeper, units_in1]; first | exact Nat.lt_of_le_of_lt (by (simp +arith); fail_if_success (focus skip)) hD | exact Nat.lt_of_le_of_lt (by (simp +arith); fail_if_success (focus skip)) hU | exact Nat.lt_of_le_of_lt (by (simp +arith); fail_if_success (focus skip)) hD9 | exact Nat.lt_of_le_of_lt (by (simp +arith); fail_if_success (focus skip)) hU9 | omega))
  (k_with "compareOp Eq ref ref" => (k_here; k_dflt (first
      | (refine eq_one_t (by (ktr_rel); fail_if_success (focus skip)) (by (exact News.isTup (by assumption) (by k_mem)); fail_if_success (focus skip)) (by (ktr_units); fail_if_success (focus skip)) (by (first | decide | simp_all); fail_if_success (focus skip)) ?_; k_whole)
      | (refine eq_one_f (by (ktr_rel); fail_if_success (focus skip)) (by (exact News.isTup (by assumption) (by k_mem)); fail_if_success (focus skip)) (by (ktr_units); fail_if_success (focus skip)) (by (first | decide | simp_all); fail_if_success (focus skip)) ?_; k_whole))))
  (k_with "h rel" => exact SAt.keeps (by assumption) (Fr.keep (by assumption)))
  (k_with "compareOp In bool ref" => (k_here; k_dflt (refine in_bools (News.isList (by k_asm) (by k_mem)) ?_)))
  (k_with "compareOp NotIn bool ref" => (k_here; k_dflt (refine notIn_bools (News.isList (by k_asm) (by k_mem)) ?_)))
  (k_with "h inst" => exact InstAt.keeps (by assumption) (Fr.keep (by assumption)))
  (k_with "compareOp NotIn str ref" => (k_here; k_dflt (first | refine env_notin (by ktr_rel) (by assumption) ?_ | refine env_notin_none (by ktr_rel) (by assumption) ?_)))
  (k_with "compareOp In ref ref" => (k_here; k_dflt (first
      | (refine in_two_t (by (exact News.isTup (by assumption) (by k_mem)); fail_if_success (focus skip)) (by (exact News.isTup (by assumption) (by k_mem)); fail_if_success (focus skip)) (by (exact News.isTup (by assumption) (by k_mem)); fail_if_success (focus skip)) (by (ktr_rel); fail_if_success (focus skip)) (by (ktr_units); fail_if_success (focus skip)) (by (first | decide | simp_all); fail_if_success (focus skip)) ?_; k_whole)
      | (refine in_two_f (by (exact News.isTup (by assumption) (by k_mem)); fail_if_success (focus skip)) (by (exact News.isTup (by assumption) (by k_mem)); fail_if_success (focus skip)) (by (exact News.isTup (by assumption) (by k_mem)); fail_if_success (focus skip)) (by (ktr_rel); fail_if_success (focus skip)) (by (ktr_units); fail_if_success (focus skip)) (by (first | decide | simp_all); fail_if_success (focus skip)) ?_; k_whole))))
  (k_with "compareOp NotIn ref ref" => (k_here; k_dflt (first
      | (refine notIn_four_t (by (exact News.isTup (by assumption) (by k_mem)); fail_if_success (focus skip)) (by (exact News.isTup (by assumption) (by k_mem)); fail_if_success (focus skip)) (by (exact News.isTup (by assumption) (by k_mem)); fail_if_success (focus skip)) (by (exact News.isTup (by assumption) (by k_mem)); fail_if_success (focus skip)) (by (exact News.isTup (by assumption) (by k_mem)); fail_if_success (focus skip)) (by (exact News.isTup (by assumption) (by k_mem)); fail_if_success (focus skip)) (by (ktr_units); fail_if_success (focus skip)) (by (first | decide | simp_all); fail_if_success (focus skip)) ?_; k_whole)
      | (refine notIn_four_f (by (exact News.isTup (by assumption) (by k_mem)); fail_if_success (focus skip)) (by (exact News.isTup (by assumption) (by k_mem)); fail_if_success (focus skip)) (by (exact News.isTup (by assumption) (by k_mem)); fail_if_success (focus skip)) (by (exact News.isTup (by assumption) (by k_mem)); fail_if_success (focus skip)) (by (exact News.isTup (by assumption) (by k_mem)); fail_if_success (focus skip)) (by (exact News.isTup (by assumption) (by k_mem)); fail_if_success (focus skip)) (by (ktr_units); fail_if_success (focus skip)) (by (first | decide | simp_all); fail_if_success (focus skip)) ?_; k_whole))))
  (k_with "storeName" => (k_here; k_dflt (refine storeX_U (by k_asm) (by k_asm) ?_ (by rfl) (by rfl)); intro h' F' N'; (try k_sweep)))
  (k_with "call ref" => (k_here; (with_reducible show wpAny _ _ (call (Value.ref 131) _) _ _ _); k_dflt (first
      | refine named_raise1 (by assumption) (Cal.site (by k_asm) (by k_asm) (by k_asm) (by k_asm) (by k_asm) rfl rfl) (pushX (by k_asm) (by k_asm) rfl rfl) (by simp only [depth_deeper]; first | exact Nat.lt_of_le_of_lt (by (simp +arith); fail_if_success (focus skip)) hD | exact Nat.lt_of_le_of_lt (by (simp +arith); fail_if_success (focus skip)) hU | exact Nat.lt_of_le_of_lt (by (simp +arith); fail_if_success (focus skip)) hD9 | exact Nat.lt_of_le_of_lt (by (simp +arith); fail_if_success (focus skip)) hU9 | omega) (by simp only [units_deeper]; first | exact Nat.lt_of_le_of_lt (by (simp +arith); fail_if_success (focus skip)) hD | exact Nat.lt_of_le_of_lt (by (simp +arith); fail_if_success (focus skip)) hU | exact Nat.lt_of_le_of_lt (by (simp +arith); fail_if_success (focus skip)) hD9 | exact Nat.lt_of_le_of_lt (by (simp +arith); fail_if_success (focus skip)) hU9 | omega) (by ktr_rel) (by ktr_rel) (by assumption) (fun x9 a9 h9 tk9 fl9 up9 => ?_)
      | refine named_raiseN (by assumption) (by assumption) (by assumption) (by assumption) (Cal.site (by k_asm) (by k_asm) (by k_asm) (by k_asm) (by k_asm) rfl rfl) (pushX (by k_asm) (by k_asm) rfl rfl) (by simp only [depth_deeper]; first | exact Nat.lt_of_le_of_lt (by (simp +arith); fail_if_success (focus skip)) hD | exact Nat.lt_of_le_of_lt (by (simp +arith); fail_if_success (focus skip)) hU | exact Nat.lt_of_le_of_lt (by (simp +arith); fail_if_success (focus skip)) hD9 | exact Nat.lt_of_le_of_lt (by (simp +arith); fail_if_success (focus skip)) hU9 | omega) (by simp only [units_deeper]; first | exact Nat.lt_of_le_of_lt (by (simp +arith); fail_if_success (focus skip)) hD | exact Nat.lt_of_le_of_lt (by (simp +arith); fail_if_success (focus skip)) hU | exact Nat.lt_of_le_of_lt (by (simp +arith); fail_if_success (focus skip)) hD9 | exact Nat.lt_of_le_of_lt (by (simp +arith); fail_if_success (focus skip)) hU9 | omega) (by ktr_rel) (by ktr_rel) (by assumption) (fun x9 a9 h9 tk9 fl9 up9 => ?_))))
  trivial
set_option maxHeartbeats 0 in
theorem valr_leaf {e : Str → Option Int} {x : Str} {tk : Tok} {W : Int} {A : Around} {s : Shared} {sa a ea : Addr} {base : Heap} {outer : List Env} {Q E : Value → Shared → Prop} (hx : e x = none) (n1 : (x == Str.ofString "none") = false) (n2 : (x == Str.ofString "all") = false)
    (C : Cal w mean mg mb A s) (Bc : Below A base outer s.heap) (hD : A.depth + 60 < recursionLimit) (hU : A.units + 300 < cLine) (ht : IsTup s.heap a #[.str x tk]) (hs0 : SetsAt s.heap sa W) (he : EnvAt w s.heap ea e) (hxl : x.length ≤ 20)
    (hE : Flies base outer s E) : wpAny (model PR w) A (call (.ref 164) [.ref sa, .ref a, .ref ea]) Q E s := by
    obtain ⟨dx, hs, t1, t2, k2, I⟩ := id hs0
    refine enterC (binds := [(Str.ofString "self", .ref sa), (Str.ofString "term", .ref a), (Str.ofString "env", .ref ea)]) C (by k_is) (by k_is) (by first | exact Nat.lt_of_le_of_lt (by (simp +arith); fail_if_success (focus skip)) hD | exact Nat.lt_of_le_of_lt (by (simp +arith); fail_if_success (focus skip)) hU | exact Nat.lt_of_le_of_lt (by (simp +arith); fail_if_success (focus skip)) hD9 | exact Nat.lt_of_le_of_lt (by (simp +arith); fail_if_success (focus skip)) hU9 | omega) (BindsTo.of_eq rfl) rfl (by decide +kernel) (fun L' h₁ tk cells base₁ outer₁ F N Y B X T hh => ?_) rfl rfl rfl
    clear C B
    k_cells Y
    (try simp only [List.cons_append, List.nil_append] at N)
    k_steps
    rename Fr _ _ _ _ => F'
    exact leave_pass Bc F' rfl (by assumption) (by assumption) fun h' fl up => hE _ _ _ _ fl up
theorem lines_r6_2 : True := by
  (k_with "call builtin:len" => (k_here; (with_reducible show wpAny _ _ (call (Value.builtin "len") [Value.ref _]) _ _ _); refine len_n (by ktr_rel) (by assumption) (by assumption) ?_))
  (k_with "subscriptTail" => (k_here; (with_reducible show wpAny _ _ (subscriptTail _ _ (Value.ref _) (Value.int 0 _)) _ _ _); k_dflt (refine item_zero (by ktr_rel) ?_ (by with_unfolding_all rfl))))
  (k_with "compareOp NotIn ref ref" => (k_here; k_dflt (refine notIn_four_t (News.isTup (by assumption) (by k_mem)) (News.isTup (by assumption) (by k_mem)) (News.isTup (by assumption) (by k_mem)) (News.isTup (by assumption) (by k_mem)) (News.isTup (by assumption) (by k_mem)) (News.isTup (by assumption) (by k_mem)) (by ktr_units) (by assumption) ?_)))
  trivial
set_option maxHeartbeats 0 in
theorem valr_N {e : Str → Option Int} {x : Str} {tk : Tok} {r : List Value} {n : Int} (hn : ((r.length + 1 : Nat) : Int) = n) (h1 : 1 < n) (hb : n ≤ 10) (hT : (Str.ofString (toString (n - 1))).length ≤ 20) (hr : r.isEmpty = false)
    (hno : (!((Str.ofString "union" == x && (3 : Int) == n) || (Str.ofString "meet" == x && (3 : Int) == n) || (Str.ofString "less" == x && (3 : Int) == n) || (Str.ofString "not" == x && (2 : Int) == n))) = true)
    {W : Int} {A : Around} {s : Shared} {sa a ea : Addr} {base : Heap} {outer : List Env} {Q E : Value → Shared → Prop}
    (C : Cal w mean mg mb A s) (Bc : Below A base outer s.heap) (hD : A.depth + 60 < recursionLimit) (hU : A.units + 300 < cLine) (ht : IsTup s.heap a (.str x tk :: r).toArray) (hs0 : SetsAt s.heap sa W) (he : EnvAt w s.heap ea e) (hxl : x.length ≤ 20)
    (hE : Flies base outer s E) : wpAny (model PR w) A (call (.ref 164) [.ref sa, .ref a, .ref ea]) Q E s := by
    obtain ⟨dx, hs, t1, t2, k2, I⟩ := id hs0
    refine enterC (binds := [(Str.ofString "self", .ref sa), (Str.ofString "term", .ref a), (Str.ofString "env", .ref ea)]) C (by k_is) (by k_is) (by first | exact Nat.lt_of_le_of_lt (by (simp +arith); fail_if_success (focus skip)) hD | exact Nat.lt_of_le_of_lt (by (simp +arith); fail_if_success (focus skip)) hU | exact Nat.lt_of_le_of_lt (by (simp +arith); fail_if_success (focus skip)) hD9 | exact Nat.lt_of_le_of_lt (by (simp +arith); fail_if_success (focus skip)) hU9 | omega) (BindsTo.of_eq rfl) rfl (by decide +kernel) (fun L' h₁ tk cells base₁ outer₁ F N Y B X T hh => ?_) rfl rfl rfl
    clear C B
    k_cells Y
    (try simp only [List.cons_append, List.nil_append] at N)
    k_steps
    rename Fr _ _ _ _ => F'
    exact leave_pass Bc F' rfl (by assumption) (by assumption) fun h' fl up => hE _ _ _ _ fl up
end
end Mine
end
section
open PySem PySem.W PySem.Spec PySem.Calls PyProof.Rows PyProof.Rows.LCg
set_option maxRecDepth 100000
namespace Mine
section
variable {w : World} {A : Around} {E : Value → Shared → Prop} {s : Shared} {env : Env}
/-- what a comprehension that raises leaves -/
noncomputable abbrev LetGo (w : World) (A : Around) (E : Value → Shared → Prop) (C : Addr) (e : Value) (s' : Shared) : Prop :=
  ∃ m, s'.heap.Ns C m ∧ ∀ h', Heap.SameBut C s'.heap h' → ∀ cenv : Env, cenv.locals = C → wpAny (model PR w) A (PySem.passOn "comprehension.variables-let-go" e cenv : Sem Value) (fun _ _ => False) E { s' with heap := h' }
noncomputable def KeptElt (s₁ : Shared) (P : Heap → Prop) (I : Addr) (oI : Obj) (C : Addr) (oC : Obj) (D : Addr) (oD : Obj) (s₄ : Shared) : Prop :=
  ∃ h'' tk', s₄ = { s₁ with heap := h'', toks := tk' } ∧ P h'' ∧ h''.get? I = some oI ∧ h''.get? C = some oC ∧ h''.get? D = some oD
/-- two items; the second one's element raises -/
noncomputable def RaiseSrc (w : World) (A : Around) (E : Value → Shared → Prop) (env : Env) (elt : Expr) (x : Str) (scope : Scope) (cl : List (Str × Addr)) (xv : Value) (s₁ : Shared) : Prop :=
  ∃ (ax : Addr) (v1 v2 : Value) (P : Heap → Prop), xv = .ref ax ∧ A.handled = none ∧ P s₁.heap ∧ (∀ h, P h → IsTup h ax #[v1, v2]) ∧ (∀ h h', P h → (∀ b o, @LT.lt Nat _ b s₁.heap.objs.size → h.get? b = some o → h'.get? b = some o) → P h') ∧
    (∀ I oI C oC D oD h' tk m (E' : Value → Shared → Prop), s₁.heap.objs.size ≤ I → s₁.heap.objs.size ≤ C → s₁.heap.objs.size ≤ D → P h' → h'.get? I = some oI → h'.get? C = some oC → h'.get? D = some oD → NsObj oC m → m x = some v1 →
      wpAny (model PR w) A (eval elt (compEnvC scope cl C env)) (fun _ s₄ => KeptElt s₁ P I oI C oC D oD s₄) E' { s₁ with heap := h', toks := tk }) ∧
    (∀ C oC h' tk m, s₁.heap.objs.size ≤ C → P h' → h'.get? C = some oC → NsObj oC m → m x = some v2 →
      wpAny (model PR w) A (eval elt (compEnvC scope cl C env)) (fun _ _ => False) (notedBy (model PR w) A (compEnvC scope cl C env) (LetGo w A E C)) { s₁ with heap := h', toks := tk })
theorem Assign_ListComp_raise {elt iter : Expr} {x y : Str} {px py : Pos} {scope : Scope} {cl : List (Str × Addr)} {pos spos : Pos} {Q : Flow → Shared → Prop}
    (hsw : swapsWith (.ListComp elt [⟨.Name x px, iter, [], 0⟩] scope pos) (some (.Name y py)) spos.line env = pure true)
    (hclos : closureFor scope env = pure cl) (hcell : ∀ z ∈ scope.names, z.2 ≠ .cell) (hkind : scope.kind = .function)
    (hnames : ∀ z ∈ scope.names, z.2 = .local → scope.names.lookup z.1 = some .local) (hx : scope.names.lookup x = some .local)
    (h : wpAny (model PR w) A (eval iter env) (RaiseSrc w A E env elt x scope cl) E s)
    (hs : ∀ x, foldedSetIterable iter env x = pure x := by intro _; rfl) :
    wpAny (model PR w) A (exec (.Assign [.Name y py] (.ListComp elt [⟨.Name x px, iter, [], 0⟩] scope pos) spos) env) Q E s := by
  rw [exec_Assign_Name_used _ _ _ _ hsw]
  refine wpAny_bind (wpAny_standAt (wpAny_bind ?_))
  show wpAny _ A (do let _ ← comprehension (.ListComp elt [⟨.Name x px, iter, [], 0⟩] scope pos) scope env _ (newList []) false (eval iter env) (some (assign (.Name y py) env))) _ _ s
  refine wpAny_bind (wpAny_mono (wpAny_comprehension_free (use := some (assign (.Name y py) env)) (Q := fun _ _ => False) rfl hs hclos hkind hnames
    (wpAny_mono h (fun xv s₁ h₁ => ?_) fun _ _ e => e)) (fun _ s' hq => hq.elim) fun _ _ e => e)
  obtain ⟨ax, v1, v2, P, rfl, hh, hP0, hPt, hP, e1, e2⟩ := h₁
  have hl := hPt _ hP0
  have hlt : ax < s₁.heap.objs.size := hl.lt
  refine wpAny_pyIter_tuple hl ?_
  obtain ⟨hp, g, d, t, os⟩ := s₁
  dsimp only at *
  have W := Walks.tuple (prog := PR) (w := w) (A := A) hh hp.objs.size ax (Nat.ne_of_lt hlt) #[v1, v2]
  have up : Kept hp (hp.push { cls := .type "tuple_iterator", data := .fields #[.ref ax, .int 0 0] }) := fun b o e => Heap.get?_push_of_some _ e
  have st0 : IsTupIter (hp.push { cls := .type "tuple_iterator", data := .fields #[.ref ax, .int 0 0] }) hp.objs.size ax 0 ∧ IsTup (hp.push { cls := .type "tuple_iterator", data := .fields #[.ref ax, .int 0 0] }) ax #[v1, v2] := ⟨⟨_, Heap.get?_push_size _ rfl, rfl, rfl⟩, hl.push _⟩
  generalize hH1 : hp.push { cls := .type "tuple_iterator", data := .fields #[.ref ax, .int 0 0] } = H1 at up st0 ⊢
  have z1 : H1.objs.size = hp.objs.size + 1 := by rw [← hH1, Heap.size_push]
  refine wpAny_newObj_type (wpAny_newFunctionEnv hcell (by intro y hy; simp at hy) (fun h₁ hns₁ hsb₁ => ?_) hkind)
  dsimp only at hns₁ hsb₁ ⊢
  have up2 : Kept H1 (H1.push { cls := .type "list", dict := none, data := .seq ([] : List Value).toArray }) := fun b o e => Heap.get?_push_of_some _ e
  have hD1 : (H1.push { cls := .type "list", dict := none, data := .seq ([] : List Value).toArray }).get? H1.objs.size = some (lst []) := Heap.get?_push_size _ rfl
  generalize hH2 : H1.push { cls := .type "list", dict := none, data := .seq ([] : List Value).toArray } = H2 at hns₁ hsb₁ up2 hD1 ⊢
  have z2 : H2.objs.size = H1.objs.size + 1 := by rw [← hH2, Heap.size_push]
  have hIClt : @LT.lt Nat _ hp.objs.size H2.objs.size := by rw [z2, z1]; exact Nat.lt_succ_of_lt (Nat.lt_succ_self _)
  have hIDlt : @LT.lt Nat _ hp.objs.size H1.objs.size := by rw [z1]; exact Nat.lt_succ_self _
  have hIC : hp.objs.size ≠ H2.objs.size := Nat.ne_of_lt hIClt
  have hDC : H1.objs.size ≠ H2.objs.size := by rw [z2]; exact Nat.ne_of_lt (Nat.lt_succ_self _)
  have hDI : H1.objs.size ≠ hp.objs.size := Nat.ne_of_gt hIDlt
  have hle : hp.objs.size ≤ H2.objs.size := Nat.le_of_lt hIClt
  have lo : ∀ {b : Addr}, @LT.lt Nat _ b hp.objs.size → b ≠ hp.objs.size ∧ b ≠ H1.objs.size ∧ b ≠ H2.objs.size := fun {b} q => by
    refine ⟨Nat.ne_of_lt q, fun z => ?_, fun z => ?_⟩
    · rw [z] at q; exact Nat.lt_asymm q hIDlt
    · rw [z] at q; exact Nat.lt_asymm q hIClt
  have old : ∀ b o, b ≠ H2.objs.size → H1.get? b = some o → h₁.get? b = some o := fun b o n e => hsb₁.extBut b o n (Heap.get?_push_of_some _ (up2 b o e))
  have hacc : h₁.get? H1.objs.size = some (lst []) := hsb₁.extBut _ _ hDC (Heap.get?_push_of_some _ hD1)
  have hP1 : P h₁ := hP _ _ hP0 fun b o q e => old b o (lo q).2.2 (up b o e)
  have fpC : ∀ b ∈ [hp.objs.size, ax], b ≠ H2.objs.size := fun b hb => by
    rcases List.mem_cons.mp hb with rfl | hb
    · exact hIC
    · rw [List.mem_singleton.mp hb]
      intro z
      have : ax < hp.objs.size := hlt
      rw [z] at this; exact Nat.lt_asymm this hIClt
  have st1 := W.frame 0 H1 h₁ st0 fun b hb o e => old b o (fpC b hb) e
  have loop : ∀ s₃ : Shared, s₃ = ⟨h₁, g, d, t + ([] : List (Str × Value)).length, os⟩ →
      codeAny (model PR w) A (.compLoop (.ListComp elt [⟨.Name x px, iter, [], 0⟩] scope pos) 0 (.ref hp.objs.size) (.ref H1.objs.size) (compEnvC scope cl H2.objs.size env))
        (compPost (model PR w) A E (some (assign (.Name y py) env)) (fun _ _ => False) (.ref H1.objs.size) H2.objs.size) s₃ := by
    rintro s₃ rfl
    refine codeAny_compLoop_tests (fun n s' => ∃ h' tk i m' ys, s' = ⟨h', g, d, tk, os⟩ ∧ i + n = 1 ∧ (IsTupIter h' hp.objs.size ax i ∧ IsTup h' ax #[v1, v2]) ∧ h'.Ns H2.objs.size m' ∧ h'.get? H1.objs.size = some (lst ys) ∧ ys.length = i ∧ P h') ?_ 1
      ⟨h₁, _, 0, _, [], rfl, rfl, st1, hns₁, hacc, rfl, hP1⟩
    rintro n s' ⟨h', tk, i, m', ys, rfl, hi, st, hn, hD, hy, kp⟩
    have hi2 : i < (#[v1, v2] : Array Value).size := by show i < 2; omega
    refine W.item i _ _ _ hi2 st fun v h₂ tk₂ hPv st₂ hk₂ => ?_
    refine wpAny_assign_Name (wpAny_storeName_local (lookup_relabel_local hx) (hn.at' fun o e => hk₂ _ o (by simpa using Ne.symm hIC) e) (fun h₃ hn₃ hs₃ => ?_) (by simp [compEnvC, relabel, hkind]))
    refine wpAny_tests_nil ?_
    simp only [if_true]
    have kp₃ : P h₃ := hP _ _ kp fun b o q e => hs₃.extBut b o (lo q).2.2 (hk₂ b o (by simpa using (lo q).1) e)
    obtain ⟨oC, heC, hoC⟩ := ns_obj hn₃
    have st₃ := W.frame (i + 1) h₂ h₃ st₂ fun b hb o e => hs₃.extBut b o (fpC b hb) e
    obtain ⟨oI, heI, rI⟩ := id st₃.1
    have hD₃ : h₃.get? H1.objs.size = some (lst ys) := hs₃.extBut _ _ hDC (hk₂ _ _ (by simpa using hDI) hD)
    rcases i with _ | i
    · have ev : v = v1 := by simpa using hPv.symm
      subst ev
      refine wpAny_mono (e1 hp.objs.size oI H2.objs.size oC H1.objs.size _ h₃ _ _ _ (Nat.le_refl _) hle (Nat.le_of_lt hIDlt) kp₃ heI heC hD₃ hoC (by simp)) (fun y' s₄ h₄ => ?_) fun _ _ e => e
      obtain ⟨h₄, tk₄, rfl, k₄, kI, kC, kD⟩ := h₄
      refine append_at (hsz := by show ys.toArray.size ≤ sizeLine; rw [List.size_toArray, hy]; exact Nat.zero_le _) kD fun h₅ hs₅ hD₅ => ?_
      have k₅ : P h₅ := hP _ _ k₄ fun b o q e => hs₅.extBut b o (lo q).2.1 e
      exact ⟨0, by omega, h₅, tk₄, 1, _, ys ++ [y'], rfl, rfl, ⟨⟨oI, hs₅.extBut _ _ hDI.symm kI, rI⟩, hPt _ k₅⟩, (hoC.ns kC).sameBut hs₅ hDC.symm, hD₅.trans (congrArg some (lst_snoc ys y')), by rw [List.length_append, hy]; rfl, k₅⟩
    · obtain rfl : i = 0 := by omega
      have ev : v = v2 := by simpa using hPv.symm
      subst ev
      exact wpAny_mono (e2 H2.objs.size oC h₃ _ _ hle kp₃ heC hoC (by simp)) (fun _ _ f => f.elim) fun _ _ e => e
  exact codeAny_compStart_list (loop _ rfl) (W.self 0 _ _ _ st1 (loop _ rfl))
end
end Mine
end
section
open PySem PySem.W PySem.Spec PySem.Calls PyProof.Rows PyProof.Rows.LCg
set_option maxRecDepth 100000
namespace Mine
section
variable {w : World} {A : Around} {E : Value → Shared → Prop} {s : Shared}
theorem leave_any {base : Heap} {env : Env} {outer : List Env} {L e : Addr} {cls a0 fl : Value} {Q : Unit → Shared → Prop} (hfr : A.frames = some (env :: outer)) (hf : env.frame = some L) (hkb : base.StaysIn s.heap) (hen : base.get? e = none)
    (hl : s.heap.FunFrames base (env :: outer)) (ht : s.heap.TracedAtW base e cls a0 fl)
    (hQ : ∀ h', Heap.FlyingW base outer e cls a0 h' → s.heap.UpToSlots h' → Q () { s with heap := h' }) : wpAny (model PR w) A (leaving env (.ref e)) Q E s := by
  by_cases hq : (fl == rawInt L) = true
  · rw [beq_iff_eq.mp hq] at ht
    unfold leaving
    refine wpAny_bind (wpAny_noteFrame_againW hf ht (wpAny_landsW ⟨hkb, hen, hl, ht⟩ fun h' hfl up => ?_))
    obtain ⟨k1, k2, ⟨_, _, k3⟩, k4⟩ := hfl
    exact hQ h' ⟨k1, k2, k3, k4⟩ up
  · obtain ⟨oe, vs, T, oT, ts, he, ⟨hcls, h0⟩, hd, h1, hnT, hTe, hT, hdT, h3⟩ := ht
    subst hcls
    unfold leaving noteFrame
    simp only [hf]
    refine wpAny_bind (wpAny_bind (wpAny_field he hd h1 ?_))
    rw [if_pos (show (Value.ref T != Value.none) = true from by simp)]
    refine wpAny_bind (wpAny_field hT hdT h3 ?_)
    rw [if_neg hq]
    refine wpAny_bind (wpAny_setField hT hdT (Array.getElem?_eq_some_iff.mp h3).1 ?_)
    have other : ∀ b, b ≠ T → (s.heap.update T (Obj.mapFields (·.setIfInBounds 3 Value.none))).get? b = s.heap.get? b := fun b hb => Heap.get?_update_other _ _ (Ne.symm hb)
    have apart : ∀ b o, s.heap.get? b = some o → (∀ vs, o.data ≠ .fields vs) → b ≠ T := fun b o hb hnf q => by
      rw [q, hT] at hb; cases hb; exact hnf ts hdT
    refine wpAny_newEntryW hfr (hl.of_keeps fun b o hb hnf => ⟨o, (other b (apart b o hb hnf)).trans hb, rfl⟩) hf ((other e (Ne.symm hTe)).trans he)
      (fun b o hbo => (other b fun q => by rw [q, hnT] at hbo; cases hbo).trans (hkb b o hbo)) hen hd (Array.getElem?_eq_some_iff.mp h1).1 h0 fun h' hL => ?_
    obtain ⟨x1, ⟨_, _, x2⟩, x3, x4⟩ := hL
    exact hQ h' ⟨x1, hen, x2, x3⟩ fun b o hb hnf => x4 b o ((other b (apart b o hb hnf)).trans hb) hnf
theorem noteFrame_congr {x : Value} {e1 e2 : Env} (h : e1.frame = e2.frame) : noteFrame x e1 = noteFrame x e2 := by
  unfold noteFrame PySem.frameOf
  rw [h]
theorem funFrames_but {base h h' : Heap} {C : Addr} (hk : ∀ b, b ≠ C → h'.get? b = h.get? b) : ∀ {l : List Env}, h.FunFrames base l → (∀ env ∈ l, env.frame ≠ some C) → h'.FunFrames base l
  | [], _, _ => trivial
  | env :: _, ⟨a, ⟨L, o, hf, hn, ho, hd⟩, r⟩, hne => ⟨a, ⟨L, o, hf, hn, (hk L fun q => hne env (.head _) (q ▸ hf)).trans ho, hd⟩, funFrames_but hk r fun e he => hne e (.tail _ he)⟩
/-- it passes through a comprehension -/
theorem fly_comp {base : Heap} {env : Env} {outer : List Env} {L e C : Addr} {cls a0 : Value} {scope : Scope} {cl : List (Str × Addr)} {m : Str → Option Value} (hfr : A.frames = some (env :: outer)) (hf : env.frame = some L)
    (hfl : Heap.FlyingW base (env :: outer) e cls a0 s.heap) (hns : s.heap.Ns C m) (hC : base.get? C = none) (hCf : ∀ env' ∈ env :: outer, env'.frame ≠ some C)
    (hE : ∀ h' fl, base.StaysIn h' → h'.FunFrames base (env :: outer) → h'.TracedAtW base e cls a0 fl → (∀ b o, b ≠ C → s.heap.get? b = some o → (∀ vs, o.data ≠ .fields vs) → ∃ sl, h'.get? b = some { o with slots := sl }) → E (.ref e) { s with heap := h' }) :
    notedBy (model PR w) A (compEnvC scope cl C env) (LetGo w A E C) (.ref e) s := by
  show wpAny _ A (noteFrame (.ref e) (compEnvC scope cl C env)) _ _ _
  rw [noteFrame_congr (e1 := compEnvC scope cl C env) (e2 := env) rfl]
  refine wpAny_looks_onW hfr hf hfl fun h₁ hh up₁ => ?_
  refine ⟨m, up₁.ns hns, fun h₂ hs₂ cenv hcl => ?_⟩
  dsimp only at hs₂ ⊢
  obtain ⟨f1, f2, f3, oe, vs, T, oT, ts, he, hcls, hd, h1, hnT, hTe, hT, hdT, h3⟩ := hh
  have neC : ∀ {b o vs}, h₁.get? b = some o → o.data = .fields vs → b ≠ C := fun {b o vs} hb hd q => by
    obtain ⟨oC, es, ep, hC', hdC, _⟩ := up₁.ns hns
    rw [q, hC'] at hb; cases hb; rw [hdC] at hd; cases hd
  have he₂ := (hs₂.2 e (neC he hd)).trans he
  have hT₂ := (hs₂.2 T (neC hT hdT)).trans hT
  have hsz3 : 3 < ts.size := (Array.getElem?_eq_some_iff.mp h3).1
  unfold PySem.passOn
  refine wpAny_bind (wpAny_field he₂ hd h1 ?_)
  rw [if_neg (by simp)]
  unfold setFlight
  refine wpAny_bind (wpAny_bind (wpAny_field he₂ hd h1 ?_))
  rw [if_pos (show (Value.ref T != Value.none) = true from by simp)]
  refine wpAny_setField hT₂ hdT hsz3 (wpAny_throw ?_)
  have other : ∀ b, b ≠ T → (h₂.update T (Obj.mapFields (·.setIfInBounds 3 (cenv.frame.elim Value.none fun f => rawInt f)))).get? b = h₂.get? b := fun b hb => Heap.get?_update_other _ _ (Ne.symm hb)
  have apart : ∀ b o, h₂.get? b = some o → (∀ vs, o.data ≠ .fields vs) → b ≠ T := fun b o hb hnf q => by
    rw [q, hT₂] at hb; cases hb; exact hnf ts hdT
  refine hE _ (cenv.frame.elim Value.none fun f => rawInt f) (fun b o hb => ?_) ?_ ?_ (fun b o hb ho hnf => ?_)
  · exact (other b fun q => by rw [q, hnT] at hb; cases hb).trans ((hs₂.2 b fun q => by rw [q, hC] at hb; cases hb).trans (f1 b o hb))
  · exact (funFrames_but hs₂.2 f3 hCf).of_keeps fun b o hb hnf => ⟨o, (other b (apart b o hb hnf)).trans hb, rfl⟩
  · exact ⟨oe, vs, T, _, _, (other e (Ne.symm hTe)).trans he₂, hcls, hd, h1, hnT, hTe, Heap.get?_update_self _ hT₂ (Obj.isFreed_of_fields (Obj.data_mapFields hdT _)), Obj.data_mapFields hdT _, by simp [hsz3]⟩
  · obtain ⟨sl, hs⟩ := up₁ b o ho hnf
    have hb₂ := (hs₂.2 b hb).trans hs
    exact ⟨sl, (other b (apart b _ hb₂ hnf)).trans hb₂⟩
end
end Mine
end
section
open PySem PySem.W PySem.Spec PySem.Calls PyProof.Rows PyProof.Rows.LCg
set_option maxRecDepth 100000
namespace Mine
section
variable {w : World} {mean : ExcName → Option Value} {mg mb : Str → Option Value}
theorem own_news {h₀ h h' : Heap} {L : Addr} {m : Str → Option Value} {news : List (Addr × Obj)} (F : Fr h₀ L h m) (N : News h₀ L h' news) (own : List (Addr × Obj)) (ho : ∀ p ∈ own, h'.get? p.1 = some p.2 ∧ h.objs.size ≤ p.1) : News h₀ L h' (own ++ news) := fun q hq => by
  rcases List.mem_append.mp hq with hq | hq
  · obtain ⟨e, l⟩ := ho q hq
    exact ⟨e, Nat.ne_of_gt (Nat.lt_of_lt_of_le F.ns.lt l), new_none F.keep (Heap.get?_none_of_le l)⟩
  · exact N q hq
theorem lines_r7_1 : True := by
  k_with_none
  (k_with "h ne" => (refine neN ?_; (try dsimp only); first | assumption | (refine Ne.symm ?_; assumption) | (refine Nat.ne_of_lt ?_; assumption) | (refine Nat.ne_of_gt ?_; assumption) | ((repeat (rename (_ ∧ _) => hA9; first | ((repeat (first | exact hA9 | exact Ne.symm hA9 | exact Nat.ne_of_lt hA9 | exact Nat.ne_of_gt hA9 | (obtain ⟨h9a, hA9⟩ := hA9; first | exact h9a | exact Ne.symm h9a | exact Nat.ne_of_lt h9a | exact Nat.ne_of_gt h9a | exact h9a.1 | exact h9a.2.1 | exact h9a.2.2 | exact Ne.symm h9a.1 | exact Ne.symm h9a.2.1 | exact Ne.symm h9a.2.2 | clear h9a))); fail_if_success (focus skip)) | clear hA9)); fail_if_success (focus skip)) | omega))
  (k_with "h rel" => first | assumption | exact IsTup.keeps (by assumption) (Fr.keep (by assumption)) | exact EnvAt.keeps (by assumption) (Fr.keep (by assumption)) | exact SetsAt.keeps (by assumption) (Fr.keep (by assumption)))
  (k_with "call builtin:len" => (k_here; (with_reducible show wpAny _ _ (call (Value.builtin "len") [Value.ref _]) _ _ _); first | refine len_1 (by ktr_rel) ?_ | refine len_2 (by ktr_rel) ?_ | refine len_3 (by ktr_rel) ?_ | refine len_4 (by ktr_rel) ?_))
  (k_with "subscriptTail" => (k_here; (with_reducible show wpAny _ _ (subscriptTail _ _ (Value.ref _) (Value.str _ _)) _ _ _); k_dflt (refine env_item (by (ktr_rel); fail_if_success (focus skip)) (by (assumption); fail_if_success (focus skip)) ?_ (by (with_unfolding_all rfl); fail_if_success (focus skip)); k_whole; intro eT)))
  (k_with "subscriptTail" => (k_here; (with_reducible show wpAny _ _ (subscriptTail _ _ (Value.ref _) (Value.int _ _)) _ _ _); k_dflt (refine item_tupleT (by (ktr_rel); fail_if_success (focus skip)) (by (decide); fail_if_success (focus skip)) (by (decide); fail_if_success (focus skip)) (by (rfl); fail_if_success (focus skip)) (by (rfl); fail_if_success (focus skip)) ?_; k_whole)))
  (k_with "subscriptTail Name Slice ref ref" => (k_here; k_dflt (refine tail_slice (by (k_asm); fail_if_success (focus skip)) (by (k_asm); fail_if_success (focus skip)) (by (ktr_rel); fail_if_success (focus skip)) (by (exact Nat.le_of_ble_eq_true rfl); fail_if_success (focus skip)) ?_ (by (with_unfolding_all rfl); fail_if_success (focus skip)) (by (intro _; with_unfolding_all rfl); fail_if_success (focus skip)); k_whole; intro D' h' F' N' l1; (try k_lt l1); (try k_sweep))))
  (k_with "exec Assign cons ListComp" => (k_here; (with_reducible rename PyProof.Rows.News _ _ _ _ => nx9); (replace nx9 := News.last2 nx9); (change PyProof.Rows.News _ _ _ [(_, _), (_, _)] at nx9); (repeat (rename ((_ : Nat) < _ ∧ _) => lx9; clear lx9)); k_dflt (refine Assign_ListComp_T (by k_asm) (by rfl) (by with_unfolding_all rfl) (by with_unfolding_all rfl) (by decide) (by rfl) (by decide) (by rfl) (by rfl) (by rfl) ?_); (repeat (first | walk1 | (dsimp only; walk1))); k_dflt (refine SrcT.ledger (by first | rfl | assumption) (by k_asm) (by k_asm) (by k_mem) (by exact Nat.le_of_ble_eq_true rfl) ?_; intro g'; lcg_lit)))
  (k_with "h units" => (simp only [units_deeper, units_in1]; first | exact Nat.lt_of_le_of_lt (by (simp +arith); fail_if_success (focus skip)) hD | exact Nat.lt_of_le_of_lt (by (simp +arith); fail_if_success (focus skip)) hU | exact Nat.lt_of_le_of_lt (by (simp +arith); fail_if_success (focus skip)) hD9 | exact Nat.lt_of_le_of_lt (by (simp +arith); fail_if_success (focus skip)) hU9 | omega))
  (k_with "compareOp Eq ref ref" => (k_here; k_dflt (first
      | (refine eq_one_t (by (ktr_rel); fail_if_success (focus skip)) (by (exact News.isTup (by assumption) (by k_mem)); fail_if_success (focus skip)) (by (ktr_units); fail_if_success (focus skip)) (by (first | decide | simp_all); fail_if_success (focus skip)) ?_; k_whole)
      | (refine eq_one_f (by (ktr_rel); fail_if_success (focus skip)) (by (exact News.isTup (by assumption) (by k_mem)); fail_if_success (focus skip)) (by (ktr_units); fail_if_success (focus skip)) (by (first | decide | simp_all); fail_if_success (focus skip)) ?_; k_whole))))
  (k_with "h rel" => exact SAt.keeps (by assumption) (Fr.keep (by assumption)))
  (k_with "compareOp In bool ref" => (k_here; k_dflt (refine in_bools (News.isList (by k_asm) (by k_mem)) ?_)))
  (k_with "compareOp NotIn bool ref" => (k_here; k_dflt (refine notIn_bools (News.isList (by k_asm) (by k_mem)) ?_)))
  (k_with "h inst" => exact InstAt.keeps (by assumption) (Fr.keep (by assumption)))
  (k_with "compareOp NotIn str ref" => (k_here; k_dflt (first | refine env_notin (by ktr_rel) (by assumption) ?_ | refine env_notin_none (by ktr_rel) (by assumption) ?_)))
  (k_with "compareOp In ref ref" => (k_here; k_dflt (first
      | (refine in_two_t (by (exact News.isTup (by assumption) (by k_mem)); fail_if_success (focus skip)) (by (exact News.isTup (by assumption) (by k_mem)); fail_if_success (focus skip)) (by (exact News.isTup (by assumption) (by k_mem)); fail_if_success (focus skip)) (by (ktr_rel); fail_if_success (focus skip)) (by (ktr_units); fail_if_success (focus skip)) (by (first | decide | simp_all); fail_if_success (focus skip)) ?_; k_whole)
      | (refine in_two_f (by (exact News.isTup (by assumption) (by k_mem)); fail_if_success (focus skip)) (by (exact News.isTup (by assumption) (by k_mem)); fail_if_success (focus skip)) (by (exact News.isTup (by assumption) (by k_mem)); fail_if_success (focus skip)) (by (ktr_rel); fail_if_success (focus skip)) (by (ktr_units); fail_if_success (focus skip)) (by (first | decide | simp_all); fail_if_success (focus skip)) ?_; k_whole))))
  (k_with "compareOp NotIn ref ref" => (k_here; k_dflt (first
      | (refine notIn_four_t (by (exact News.isTup (by assumption) (by k_mem)); fail_if_success (focus skip)) (by (exact News.isTup (by assumption) (by k_mem)); fail_if_success (focus skip)) (by (exact News.isTup (by assumption) (by k_mem)); fail_if_success (focus skip)) (by (exact News.isTup (by assumption) (by k_mem)); fail_if_success (focus skip)) (by (exact News.isTup (by assumption) (by k_mem)); fail_if_success (focus skip)) (by (exact News.isTup (by assumption) (by k_mem)); fail_if_success (focus skip)) (by (ktr_units); fail_if_success (focus skip)) (by (first | decide | simp_all); fail_if_success (focus skip)) ?_; k_whole)
      | (refine notIn_four_f (by (exact News.isTup (by assumption) (by k_mem)); fail_if_success (focus skip)) (by (exact News.isTup (by assumption) (by k_mem)); fail_if_success (focus skip)) (by (exact News.isTup (by assumption) (by k_mem)); fail_if_success (focus skip)) (by (exact News.isTup (by assumption) (by k_mem)); fail_if_success (focus skip)) (by (exact News.isTup (by assumption) (by k_mem)); fail_if_success (focus skip)) (by (exact News.isTup (by assumption) (by k_mem)); fail_if_success (focus skip)) (by (ktr_units); fail_if_success (focus skip)) (by (first | decide | simp_all); fail_if_success (focus skip)) ?_; k_whole))))
  (k_with "storeName" => (k_here; k_dflt (refine storeX_U (by k_asm) (by k_asm) ?_ (by rfl) (by rfl)); intro h' F' N'; (try k_sweep)))
  (k_with "call ref" => (k_here; (with_reducible show wpAny _ _ (call (Value.ref 164) _) _ _ _); k_dflt (
      refine valr_leaf (by assumption) (by assumption) (by assumption) (Cal.site (by k_asm) (by k_asm) (by k_asm) (by k_asm) (by k_asm) rfl rfl) (pushX (by k_asm) (by k_asm) rfl rfl) (by simp only [depth_deeper]; first | exact Nat.lt_of_le_of_lt (by (simp +arith); fail_if_success (focus skip)) hD | exact Nat.lt_of_le_of_lt (by (simp +arith); fail_if_success (focus skip)) hU | exact Nat.lt_of_le_of_lt (by (simp +arith); fail_if_success (focus skip)) hD9 | exact Nat.lt_of_le_of_lt (by (simp +arith); fail_if_success (focus skip)) hU9 | omega) (by simp only [units_deeper]; first | exact Nat.lt_of_le_of_lt (by (simp +arith); fail_if_success (focus skip)) hD | exact Nat.lt_of_le_of_lt (by (simp +arith); fail_if_success (focus skip)) hU | exact Nat.lt_of_le_of_lt (by (simp +arith); fail_if_success (focus skip)) hD9 | exact Nat.lt_of_le_of_lt (by (simp +arith); fail_if_success (focus skip)) hU9 | omega) (by ktr_rel) (by ktr_rel) (by ktr_rel) (by assumption) (fun x9 a9 h9 tk9 fl9 up9 => ?_))))
  (k_with "call ref" => (k_here; (with_reducible show wpAny _ _ (call (Value.ref 131) _) _ _ _); k_dflt (refine named_use (by (k_asm); fail_if_success (focus skip)) (by (k_asm); fail_if_success (focus skip)) (by (k_asm); fail_if_success (focus skip)) (by (k_asm); fail_if_success (focus skip)) (by (k_asm); fail_if_success (focus skip)) (by (first | exact rfl | k_asm); fail_if_success (focus skip)) (by (exact rfl); fail_if_success (focus skip)) (by (exact rfl); fail_if_success (focus skip)) (by (ktr_rel); fail_if_success (focus skip)) (by (ktr_rel); fail_if_success (focus skip)) (by (k_asm); fail_if_success (focus skip)) (by (first | exact Nat.lt_of_le_of_lt (by (simp +arith); fail_if_success (focus skip)) hD | exact Nat.lt_of_le_of_lt (by (simp +arith); fail_if_success (focus skip)) hU | exact Nat.lt_of_le_of_lt (by (simp +arith); fail_if_success (focus skip)) hD9 | exact Nat.lt_of_le_of_lt (by (simp +arith); fail_if_success (focus skip)) hU9 | omega); fail_if_success (focus skip)) (by (first | exact Nat.lt_of_le_of_lt (by (simp +arith); fail_if_success (focus skip)) hD | exact Nat.lt_of_le_of_lt (by (simp +arith); fail_if_success (focus skip)) hU | exact Nat.lt_of_le_of_lt (by (simp +arith); fail_if_success (focus skip)) hD9 | exact Nat.lt_of_le_of_lt (by (simp +arith); fail_if_success (focus skip)) hU9 | omega); fail_if_success (focus skip)) ?_; k_whole; intro h' tk' t' F' N'; (try k_sweep); (try dsimp only))))
  (k_with "call ref" => (k_here; (with_reducible show wpAny _ _ (call (Value.ref 164) _) _ _ _); k_dflt (refine ValC.use (by (k_asm); fail_if_success (focus skip)) (by (k_asm); fail_if_success (focus skip)) (by (k_asm); fail_if_success (focus skip)) (by (k_asm); fail_if_success (focus skip)) (by (k_asm); fail_if_success (focus skip)) (by (first | exact rfl | k_asm); fail_if_success (focus skip)) (by (exact rfl); fail_if_success (focus skip)) (by (exact rfl); fail_if_success (focus skip)) (by (ktr_rel); fail_if_success (focus skip)) (by (ktr_rel); fail_if_success (focus skip)) (by (ktr_rel); fail_if_success (focus skip)) (by (k_asm); fail_if_success (focus skip)) (by (k_asm); fail_if_success (focus skip)) (by (first | exact Nat.lt_of_le_of_lt (by (simp +arith); fail_if_success (focus skip)) hD | exact Nat.lt_of_le_of_lt (by (simp +arith); fail_if_success (focus skip)) hU | exact Nat.lt_of_le_of_lt (by (simp +arith); fail_if_success (focus skip)) hD9 | exact Nat.lt_of_le_of_lt (by (simp +arith); fail_if_success (focus skip)) hU9 | omega); fail_if_success (focus skip)) (by (first | exact Nat.lt_of_le_of_lt (by (simp +arith); fail_if_success (focus skip)) hD | exact Nat.lt_of_le_of_lt (by (simp +arith); fail_if_success (focus skip)) hU | exact Nat.lt_of_le_of_lt (by (simp +arith); fail_if_success (focus skip)) hD9 | exact Nat.lt_of_le_of_lt (by (simp +arith); fail_if_success (focus skip)) hU9 | omega); fail_if_success (focus skip)) ?_; k_whole; intro h' tk' t' F' N'; (try k_sweep); (try dsimp only))))
  trivial
set_option maxHeartbeats 0 in
theorem valr_second {e : Str → Option Int} {t : St} {x : Str} {tk tk2 : Tok} {W : Int} {v : Value} {A : Around} {s : Shared} {sa a d ea : Addr} {base : Heap} {outer : List Env} {Q E : Value → Shared → Prop} (hx : e x = none) (n1 : (x == Str.ofString "none") = false) (n2 : (x == Str.ofString "all") = false)
    (C : Cal w mean mg mb A s) (Bc : Below A base outer s.heap) (hD : A.depth + 100 + t.size < recursionLimit) (hU : A.units + 400 + 8 * t.size < cLine) (ht : IsTup s.heap a #[.str (Str.ofString "union") tk, v, .ref d]) (hv : SAt s.heap v t) (hok : t.ok e) (hd : IsTup s.heap d #[.str x tk2]) (hs0 : SetsAt s.heap sa W) (he : EnvAt w s.heap ea e) (hxl : x.length ≤ 20)
    (hE : Flies base outer s E) : wpAny (model PR w) A (call (.ref 164) [.ref sa, .ref a, .ref ea]) Q E s := by
    have c0 : ValC w mean mg mb e W t := val_call e W t
    obtain ⟨dx, hs, t1, t2, k2, I⟩ := id hs0
    refine enterC (binds := [(Str.ofString "self", .ref sa), (Str.ofString "term", .ref a), (Str.ofString "env", .ref ea)]) C (by k_is) (by k_is) (by first | exact Nat.lt_of_le_of_lt (by (simp +arith); fail_if_success (focus skip)) hD | exact Nat.lt_of_le_of_lt (by (simp +arith); fail_if_success (focus skip)) hU | exact Nat.lt_of_le_of_lt (by (simp +arith); fail_if_success (focus skip)) hD9 | exact Nat.lt_of_le_of_lt (by (simp +arith); fail_if_success (focus skip)) hU9 | omega) (BindsTo.of_eq rfl) rfl (by decide +kernel) (fun L' h₁ tk cells base₁ outer₁ F N Y B X T hh => ?_) rfl rfl rfl
    clear C B
    k_cells Y
    (try simp only [List.cons_append, List.nil_append] at N)
    repeat ((fail_if_success (with_reducible show wpAny _ _ (exec (Stmt.Assign _ _ _) _) _ _ _)); first | walk1 | (dsimp only; walk1))
    k_dflt (refine Assign_ListComp_raise (by with_unfolding_all rfl) (by with_unfolding_all rfl) (by decide) (by rfl) (by decide) (by rfl) ?_)
    repeat (first | walk1 | (dsimp only; walk1))
    (try dsimp only)
    rename Fr _ _ _ _ => F9
    rename News _ _ _ _ => N9
    refine ⟨_, v, .ref d, fun h => Fr s.heap L' h _ ∧ News s.heap L' h _, rfl, hh, ⟨F9, N9⟩, fun h hP => News.isTup hP.2 (by k_mem), fun h h2 hP hk => ⟨⟨hP.1.ns.at' fun o e => hk _ o F9.ns.lt e, fun b o e => hk b o (Heap.lt_size (F9.keep b o e)) (hP.1.keep b o e), hP.1.above⟩, fun q hq => ⟨hk _ _ (Heap.lt_size (N9 q hq).1) (hP.2 q hq).1, (hP.2 q hq).2⟩⟩, ?e1, ?e2⟩
    case e1 =>
      intro I9 oI C9 oC D9 oD h2 tk2 m2 E2 hI hC hD hP gI gC gD hoC hm2
      obtain ⟨F2, N2⟩ := hP
      have N3 := own_news F9 N2 [(I9, oI), (C9, oC), (D9, oD)] (List.forall_mem_cons.mpr ⟨⟨gI, hI⟩, List.forall_mem_cons.mpr ⟨⟨gC, hC⟩, List.forall_mem_cons.mpr ⟨⟨gD, hD⟩, List.forall_mem_nil _⟩⟩⟩)
      simp only [List.cons_append, List.nil_append] at N3
      clear F9 N9 N2
      k_steps
      (try dsimp only)
      rename Fr _ _ _ _ => F8
      rename News _ _ _ _ => N8
      exact ⟨_, _, rfl, ⟨F8, fun q hq => N8 q (.tail _ (.tail _ (.tail _ hq)))⟩, (N8 _ (.head _)).1, (N8 _ (.tail _ (.head _))).1, (N8 _ (.tail _ (.tail _ (.head _)))).1⟩
    case e2 =>
      intro C9 oC h2 tk2 m2 hC hP gC hoC hm2
      obtain ⟨F2, N2⟩ := hP
      have N3 := own_news F9 N2 [(C9, oC)] (List.forall_mem_cons.mpr ⟨⟨gC, hC⟩, List.forall_mem_nil _⟩)
      simp only [List.cons_append, List.nil_append] at N3
      clear F9 N9 N2
      clear c0
      k_steps
      (try dsimp only)
      rename Fr _ _ _ _ => F8
      rename News _ _ _ _ => N8
      have NC := N8 (C9, oC) (by k_mem)
      refine fly_comp (Around.frames_deeper Bc.stack) rfl (by assumption) ((by assumption : Heap.UpToSlots _ _).ns (hoC.ns NC.1)) (new_none Bc.stays NC.2.2) ?_ fun h' fl k1 k2 k3 k4 => ?_
      · intro env' he' hf'
        rcases List.mem_cons.mp he' with rfl | he'
        · exact NC.2.1 (Option.some.inj hf').symm
        · obtain ⟨o, ho, _⟩ := (Bc.frames.mem (List.mem_filterMap.mpr ⟨env', he', hf'⟩)).2
          rw [NC.2.2] at ho; cases ho
      · rename Heap.FlyingW _ _ _ _ _ _ => fl9
        rename Heap.UpToSlots _ _ => up9
        refine leave_any (Around.frames_deeper Bc.stack) rfl k1 fl9.2.1 k2 k3 fun h'' fl' up' => hE _ _ _ _ fl' fun b o hb hn => ?_
        obtain ⟨sl, e1⟩ := up9 b o (F8.keep b o hb) hn
        obtain ⟨sl2, e2⟩ := k4 b _ (fun q => by rw [q, NC.2.2] at hb; cases hb) e1 hn
        obtain ⟨sl3, e3⟩ := up' b _ e2 hn
        exact ⟨sl3, e3⟩
end
end Mine
end
section
open PySem PySem.W PySem.Spec PySem.Calls PyProof.Rows
set_option maxRecDepth 100000
namespace Mine
/-- a term that Sets refuses -/
inductive BadAt (h : Heap) (e : Str → Option Int) : Value → Prop
  | leaf {a : Addr} {x : Str} {tk : Tok} : IsTup h a #[.str x tk] → e x = none → (x == Str.ofString "none") = false → (x == Str.ofString "all") = false → x.length ≤ 20 → BadAt h e (.ref a)
  | two {a : Addr} {x : Str} {tk : Tok} {v1 : Value} : IsTup h a #[.str x tk, v1] → (Str.ofString "not" == x) = false → x.length ≤ 20 → BadAt h e (.ref a)
  | three {a : Addr} {tk : Tok} {v1 v2 : Value} : IsTup h a #[.str (Str.ofString "not") tk, v1, v2] → BadAt h e (.ref a)
  | four {a : Addr} {x : Str} {tk : Tok} {v1 v2 v3 : Value} : IsTup h a #[.str x tk, v1, v2, v3] → x.length ≤ 20 → BadAt h e (.ref a)
  | second {a d : Addr} {x : Str} {tk tk2 : Tok} {v : Value} {t : St} : IsTup h a #[.str (Str.ofString "union") tk, v, .ref d] → SAt h v t → t.ok e → t.size ≤ 40 → IsTup h d #[.str x tk2] → e x = none → (x == Str.ofString "none") = false → (x == Str.ofString "all") = false → x.length ≤ 20 → BadAt h e (.ref a)
theorem BadAt.keeps {h h' : Heap} {e : Str → Option Int} {v : Value} (x : BadAt h e v) (k : Kept h h') : BadAt h' e v := by
  cases x with
  | leaf a b c d f => exact .leaf (a.keeps k) b c d f
  | two a b c => exact .two (a.keeps k) b c
  | three a => exact .three (a.keeps k)
  | four a b => exact .four (a.keeps k) b
  | second a b c d f g i j l => exact .second (a.keeps k) (b.keeps k) c d (f.keeps k) g i j l
section
variable {w : World} {mean : ExcName → Option Value} {mg mb : Str → Option Value} {A : Around} {s : Shared}
theorem valr_bad {e : Str → Option Int} {W : Int} {sa ea : Addr} {v : Value} {base : Heap} {outer : List Env} {Q E : Value → Shared → Prop} (C : Cal w mean mg mb A s) (Bc : Below A base outer s.heap) (hD : A.depth + 140 < recursionLimit) (hU : A.units + 720 < cLine)
    (hb : BadAt s.heap e v) (hs0 : SetsAt s.heap sa W) (he : EnvAt w s.heap ea e) (hE : Flies base outer s E) : wpAny (model PR w) A (call (.ref 164) [.ref sa, v, .ref ea]) Q E s := by
  cases hb with
  | leaf a b c d f => exact valr_leaf b c d C Bc (by omega) (by omega) a hs0 he f hE
  | two a b c => exact valr_N (r := [_]) (n := 2) rfl (by decide) (by decide) (by decide) rfl (by rw [b]; cases (Str.ofString "union" == _) <;> cases (Str.ofString "meet" == _) <;> cases (Str.ofString "less" == _) <;> decide) C Bc (by omega) (by omega) a hs0 he c hE
  | three a => exact valr_N (r := [_, _]) (n := 3) rfl (by decide) (by decide) (by decide) rfl (by decide) C Bc (by omega) (by omega) a hs0 he (by decide) hE
  | four a b => exact valr_N (r := [_, _, _]) (n := 4) rfl (by decide) (by decide) (by decide) rfl (by cases (Str.ofString "union" == _) <;> cases (Str.ofString "meet" == _) <;> cases (Str.ofString "less" == _) <;> cases (Str.ofString "not" == _) <;> decide) C Bc (by omega) (by omega) a hs0 he b hE
  | second a b c d f g i j l => exact valr_second g i j C Bc (by omega) (by omega) a b c f hs0 he l hE
theorem enterQ {Q E : Value → Shared → Prop} {name qual : Str} {params : Arguments} {body : List Stmt} {scope : Scope} {dV kV doc pm cdv ct oc : Value} {an od : Option Addr} {osl : Array (Option Value)} {f : Addr} {args : List Value} {binds : List (Str × Value)}
    (C : Cal w mean mg mb A s)
    (ho : (hd.heap_39 w.params).lookup f = some ⟨oc, od, .func (fnOf name qual params body scope dV kV doc pm an cdv ct), osl⟩) (hcd : codeIn (hd.heap_39 w.params) cdv qual = true) (hroom : A.depth < recursionLimit)
    (hbind : BindsTo s (fnOf name qual params body scope dV kV doc pm an cdv ct) ⟨args, []⟩ binds) (hloc : ∀ y ∈ binds, scope.names.lookup y.1 = some .local)
    (h : ∀ L' h₁, Fr s.heap L' h₁ (fun y => binds.reverse.lookup y) → News s.heap L' h₁ [] → (hd.heap_39 w.params).In s.heap → Top hd.view_39 LO mean mg mb s.heap → A.handled = none →
      wpAny (model PR w) (A.deeper (envOf qual scope L' f cdv)) (execs body (envOf qual scope L' f cdv)) (fun fl s' => Q (match fl with | .ret v => v | _ => .none) s') (PExc PR w A (envOf qual scope L' f cdv) E)
        { s with heap := h₁, toks := s.toks + binds.length })
    (hco : scope.isCoroutine = false) (hgen : scope.isGenerator = false) (hk : scope.kind = .function) (hcell : ∀ x ∈ scope.names, x.2 ≠ .cell) :
    wpAny (model PR w) A (call (.ref f) args) Q E s := by
  obtain ⟨A₀, base, h₀, outer, L, m, env, B, F, X, T, hA, hf, hke, hh⟩ := C
  refine wpAny_call ?_
  have X' := X.keeps F.keep
  have T' : Top hd.view_39 LO mean mg mb s.heap := T.keeps F.keep
  exact codeAny_call_def (fd := fnX name qual params body scope [] dV kV doc pm an cdv ct) (body := body) (binds := binds) hroom (X' _ _ ho) rfl T'.nolimit (codeRec_of X' hcd) rfl hbind hcell hloc (fun h₁ hns hk₁ => h s.heap.objs.size h₁ ⟨hns, hk₁, Nat.le_refl _⟩ News.nil X' T' hh) hco hgen hk
theorem look_r8a : hd.heap_39 = hd.heap_39 ∧ PySem.Challenge.rw_pq0109_01 = PySem.Challenge.rw_pq0109_01 := by
  k_fill
  exact ⟨rfl, rfl⟩
theorem exc_matches {h : Heap} {g : Array GenState} {d : Drawn} {t : Nat} {os : OsState} {e : Addr} {ob : Obj} {Q : Bool → Shared → Prop} {E : Value → Shared → Prop} (X : (hd.heap_39 w.params).In h) (he : h.get? e = some ob) (hc : ob.cls = .ref 60) (hq : Q true ⟨h, g, d, t, os⟩) :
    wpAny (model PR w) A (excMatches (.ref e) (.ref 60)) Q E ⟨h, g, d, t, os⟩ := by
  obtain ⟨⟨cd, sl, hC, e1, e2, e3⟩, made, base, self, exc, bexc, attr, name, call, typ, init, bnd⟩ := excK X
  have nt : Looks (model PR w) h (isInstance (.ref 60) (.type "tuple")) false := looks_instIn X (by k_is)
  have ty : Looks (model PR w) h (isType (.ref 60)) true := (Looks.ld (part := none) hC).andThen (Looks.of_pure rfl)
  have te : Looks (model PR w) h (typeOf (.ref e)) (.ref 60) := (Looks.ld he).andThen (by rw [hc]; exact .now)
  unfold excMatches isExcClass
  repeat (first | simp only [List.forIn_cons, List.forIn_nil] | lk)
  exact hq
/-- the suite behind except TermFault -/
theorem catch_term {A₀ : Around} {base : Heap} {outer : List Env} {L a e : Addr} {a0 : Value} {m : Str → Option Value} {name : Str} {scope : Scope} {cd : Value} {s' : Shared} {b₀ : Stmt} {suite : List Stmt} {pos np : Pos} {rest : List ExceptHandler} {Q : Flow → Shared → Prop} {E : Value → Shared → Prop} {h : Heap}
    (hfr : A₀.frames = some outer) (F : Fr base L h m) (up : h.UpToSlots s'.heap) (hfl : Heap.FlyingW base (envOf name scope L a cd :: outer) e (.ref 60) a0 s'.heap) (X : (hd.heap_39 w.params).In base) (T : Top hd.view_39 LO mean mg mb base)
    (k : ∀ h' E', Heap.FlyingW base (envOf name scope L a cd :: outer) e (.ref 60) a0 h' → h.UpToSlots h' →
      wpAny (model PR w) ((A₀.deeper (envOf name scope L a cd)).mark (some (.ref e))) (execs (b₀ :: suite) (envOf name scope L a cd)) Q E' { s' with heap := h' })
    (hk : scope.kind = .function) (hx : (envOf name scope L a cd).kindOf (Str.ofString "TermFault") = some .globalImplicit) :
    wpAny (model PR w) (A₀.deeper (envOf name scope L a cd)) (noteFrame (.ref e) (envOf name scope L a cd))
      (fun _ s₂ => wpAny (model PR w) (A₀.deeper (envOf name scope L a cd)) (setFlight (.ref e) none) (fun _ s₃ =>
        wpAny (model PR w) (A₀.deeper (envOf name scope L a cd)) (handleBy (.ref e) (envOf name scope L a cd) (.ExceptHandler (some (.Name (Str.ofString "TermFault") np)) none (b₀ :: suite) pos :: rest)) Q E s₃) E s₂) E s' := by
  refine wpAny_looks_onW (Around.frames_deeper hfr) rfl hfl fun h₄ hheld₄ up₄ => ?_
  refine wpAny_landsW hheld₄ fun h₅ hheld up₅ => ?_
  have F₅ : Fr base L h₅ m := ⟨(up.trans (up₄.trans up₅)).ns F.ns, hheld.1, F.above⟩
  have X₅ : (hd.heap_39 w.params).In h₅ := X.keeps hheld.1
  obtain ⟨ob, hob, hobc⟩ := hheld.there
  refine wpAny_handleBy_cons (codeAny_handlers_test (name_K F₅ X (topRead_of T) (v := .ref 60) (by k_is) ?_ hk hx (by decide))) (by intro q; cases q)
  refine exc_matches X₅ hob hobc ?_
  refine codeAny_handlers_suite (lands_againW hheld fun h₆ hfl₆ up₆ => ?_)
  exact k h₆ _ hfl₆ (up.trans (up₄.trans (up₅.trans up₆)))
theorem lines_r8_1 : True := by
  k_with_none
  (k_with "h ne" => (refine neN ?_; (try dsimp only); first | assumption | (refine Ne.symm ?_; assumption) | (refine Nat.ne_of_lt ?_; assumption) | (refine Nat.ne_of_gt ?_; assumption) | ((repeat (rename (_ ∧ _) => hA9; first | ((repeat (first | exact hA9 | exact Ne.symm hA9 | exact Nat.ne_of_lt hA9 | exact Nat.ne_of_gt hA9 | (obtain ⟨h9a, hA9⟩ := hA9; first | exact h9a | exact Ne.symm h9a | exact Nat.ne_of_lt h9a | exact Nat.ne_of_gt h9a | exact h9a.1 | exact h9a.2.1 | exact h9a.2.2 | exact Ne.symm h9a.1 | exact Ne.symm h9a.2.1 | exact Ne.symm h9a.2.2 | clear h9a))); fail_if_success (focus skip)) | clear hA9)); fail_if_success (focus skip)) | omega))
  (k_with "h rel" => first | assumption | exact IsTup.keeps (by assumption) (Fr.keep (by assumption)) | exact EnvAt.keeps (by assumption) (Fr.keep (by assumption)) | exact SetsAt.keeps (by assumption) (Fr.keep (by assumption)))
  (k_with "call builtin:len" => (k_here; (with_reducible show wpAny _ _ (call (Value.builtin "len") [Value.ref _]) _ _ _); first | refine len_1 (by ktr_rel) ?_ | refine len_2 (by ktr_rel) ?_ | refine len_3 (by ktr_rel) ?_ | refine len_4 (by ktr_rel) ?_))
  (k_with "subscriptTail" => (k_here; (with_reducible show wpAny _ _ (subscriptTail _ _ (Value.ref _) (Value.str _ _)) _ _ _); k_dflt (refine env_item (by (ktr_rel); fail_if_success (focus skip)) (by (assumption); fail_if_success (focus skip)) ?_ (by (with_unfolding_all rfl); fail_if_success (focus skip)); k_whole; intro eT)))
  (k_with "subscriptTail" => (k_here; (with_reducible show wpAny _ _ (subscriptTail _ _ (Value.ref _) (Value.int _ _)) _ _ _); k_dflt (refine item_tupleT (by (ktr_rel); fail_if_success (focus skip)) (by (decide); fail_if_success (focus skip)) (by (decide); fail_if_success (focus skip)) (by (rfl); fail_if_success (focus skip)) (by (rfl); fail_if_success (focus skip)) ?_; k_whole)))
  (k_with "subscriptTail Name Slice ref ref" => (k_here; k_dflt (refine tail_slice (by (k_asm); fail_if_success (focus skip)) (by (k_asm); fail_if_success (focus skip)) (by (ktr_rel); fail_if_success (focus skip)) (by (exact Nat.le_of_ble_eq_true rfl); fail_if_success (focus skip)) ?_ (by (with_unfolding_all rfl); fail_if_success (focus skip)) (by (intro _; with_unfolding_all rfl); fail_if_success (focus skip)); k_whole; intro D' h' F' N' l1; (try k_lt l1); (try k_sweep))))
  (k_with "exec Assign cons ListComp" => (k_here; (with_reducible rename PyProof.Rows.News _ _ _ _ => nx9); (replace nx9 := News.last2 nx9); (change PyProof.Rows.News _ _ _ [(_, _), (_, _)] at nx9); (repeat (rename ((_ : Nat) < _ ∧ _) => lx9; clear lx9)); k_dflt (refine Assign_ListComp_T (by k_asm) (by rfl) (by with_unfolding_all rfl) (by with_unfolding_all rfl) (by decide) (by rfl) (by decide) (by rfl) (by rfl) (by rfl) ?_); (repeat (first | walk1 | (dsimp only; walk1))); k_dflt (refine SrcT.ledger (by first | rfl | assumption) (by k_asm) (by k_asm) (by k_mem) (by exact Nat.le_of_ble_eq_true rfl) ?_; intro g'; lcg_lit)))
  (k_with "h units" => (simp only [units_deeper, units_in1]; first | exact Nat.lt_of_le_of_lt (by (simp +arith); fail_if_success (focus skip)) hD | exact Nat.lt_of_le_of_lt (by (simp +arith); fail_if_success (focus skip)) hU | exact Nat.lt_of_le_of_lt (by (simp +arith); fail_if_success (focus skip)) hD9 | exact Nat.lt_of_le_of_lt (by (simp +arith); fail_if_success (focus skip)) hU9 | omega))
  (k_with "compareOp Eq ref ref" => (k_here; k_dflt (first
      | (refine eq_one_t (by (ktr_rel); fail_if_success (focus skip)) (by (exact News.isTup (by assumption) (by k_mem)); fail_if_success (focus skip)) (by (ktr_units); fail_if_success (focus skip)) (by (first | decide | simp_all); fail_if_success (focus skip)) ?_; k_whole)
      | (refine eq_one_f (by (ktr_rel); fail_if_success (focus skip)) (by (exact News.isTup (by assumption) (by k_mem)); fail_if_success (focus skip)) (by (ktr_units); fail_if_success (focus skip)) (by (first | decide | simp_all); fail_if_success (focus skip)) ?_; k_whole))))
  (k_with "h rel" => exact SAt.keeps (by assumption) (Fr.keep (by assumption)))
  (k_with "compareOp In bool ref" => (k_here; k_dflt (refine in_bools (News.isList (by k_asm) (by k_mem)) ?_)))
  (k_with "compareOp NotIn bool ref" => (k_here; k_dflt (refine notIn_bools (News.isList (by k_asm) (by k_mem)) ?_)))
  (k_with "h inst" => exact InstAt.keeps (by assumption) (Fr.keep (by assumption)))
  (k_with "compareOp NotIn str ref" => (k_here; k_dflt (first | refine env_notin (by ktr_rel) (by assumption) ?_ | refine env_notin_none (by ktr_rel) (by assumption) ?_)))
  (k_with "compareOp In ref ref" => (k_here; k_dflt (first
      | (refine in_two_t (by (exact News.isTup (by assumption) (by k_mem)); fail_if_success (focus skip)) (by (exact News.isTup (by assumption) (by k_mem)); fail_if_success (focus skip)) (by (exact News.isTup (by assumption) (by k_mem)); fail_if_success (focus skip)) (by (ktr_rel); fail_if_success (focus skip)) (by (ktr_units); fail_if_success (focus skip)) (by (first | decide | simp_all); fail_if_success (focus skip)) ?_; k_whole)
      | (refine in_two_f (by (exact News.isTup (by assumption) (by k_mem)); fail_if_success (focus skip)) (by (exact News.isTup (by assumption) (by k_mem)); fail_if_success (focus skip)) (by (exact News.isTup (by assumption) (by k_mem)); fail_if_success (focus skip)) (by (ktr_rel); fail_if_success (focus skip)) (by (ktr_units); fail_if_success (focus skip)) (by (first | decide | simp_all); fail_if_success (focus skip)) ?_; k_whole))))
  (k_with "compareOp NotIn ref ref" => (k_here; k_dflt (first
      | (refine notIn_four_t (by (exact News.isTup (by assumption) (by k_mem)); fail_if_success (focus skip)) (by (exact News.isTup (by assumption) (by k_mem)); fail_if_success (focus skip)) (by (exact News.isTup (by assumption) (by k_mem)); fail_if_success (focus skip)) (by (exact News.isTup (by assumption) (by k_mem)); fail_if_success (focus skip)) (by (exact News.isTup (by assumption) (by k_mem)); fail_if_success (focus skip)) (by (exact News.isTup (by assumption) (by k_mem)); fail_if_success (focus skip)) (by (ktr_units); fail_if_success (focus skip)) (by (first | decide | simp_all); fail_if_success (focus skip)) ?_; k_whole)
      | (refine notIn_four_f (by (exact News.isTup (by assumption) (by k_mem)); fail_if_success (focus skip)) (by (exact News.isTup (by assumption) (by k_mem)); fail_if_success (focus skip)) (by (exact News.isTup (by assumption) (by k_mem)); fail_if_success (focus skip)) (by (exact News.isTup (by assumption) (by k_mem)); fail_if_success (focus skip)) (by (exact News.isTup (by assumption) (by k_mem)); fail_if_success (focus skip)) (by (exact News.isTup (by assumption) (by k_mem)); fail_if_success (focus skip)) (by (ktr_units); fail_if_success (focus skip)) (by (first | decide | simp_all); fail_if_success (focus skip)) ?_; k_whole))))
  (k_with "storeName" => (k_here; k_dflt (refine storeX_U (by k_asm) (by k_asm) ?_ (by rfl) (by rfl)); intro h' F' N'; (try k_sweep)))
  (k_with "call ref" => (k_here; (with_reducible show wpAny _ _ (call (Value.ref 164) _) _ _ _); k_dflt (
      refine valr_bad (Cal.site (by k_asm) (by k_asm) (by k_asm) (by k_asm) (by k_asm) rfl rfl) (pushX (by k_asm) (by k_asm) rfl rfl) (by simp only [depth_deeper]; first | exact Nat.lt_of_le_of_lt (by (simp +arith); fail_if_success (focus skip)) hD | exact Nat.lt_of_le_of_lt (by (simp +arith); fail_if_success (focus skip)) hU | exact Nat.lt_of_le_of_lt (by (simp +arith); fail_if_success (focus skip)) hD9 | exact Nat.lt_of_le_of_lt (by (simp +arith); fail_if_success (focus skip)) hU9 | omega) (by simp only [units_deeper]; first | exact Nat.lt_of_le_of_lt (by (simp +arith); fail_if_success (focus skip)) hD | exact Nat.lt_of_le_of_lt (by (simp +arith); fail_if_success (focus skip)) hU | exact Nat.lt_of_le_of_lt (by (simp +arith); fail_if_success (focus skip)) hD9 | exact Nat.lt_of_le_of_lt (by (simp +arith); fail_if_success (focus skip)) hU9 | omega) (BadAt.keeps (by assumption) (Fr.keep (by k_asm))) (by ktr_rel) (by ktr_rel) (fun x9 a9 h9 tk9 fl9 up9 => ?_))))
  trivial
set_option maxHeartbeats 0 in
theorem refused_call {e : Str → Option Int} {W : Int} {sa ea : Addr} {v : Value} {base : Heap} {outer : List Env} {Q E : Value → Shared → Prop} (C : Cal w mean mg mb A s) (Bc : Below A base outer s.heap) (XB : (hd.heap_39 w.params).In base) (TB : Top hd.view_39 LO mean mg mb base) (hsz : base.objs.size ≤ s.heap.objs.size)
    (hD : A.depth + 150 < recursionLimit) (hU : A.units + 740 < cLine) (hb : BadAt s.heap e v) (hs0 : SetsAt s.heap sa W) (he : EnvAt w s.heap ea e)
    (h : ∀ h' tk', base.StaysIn h' → s.heap.UpToSlots h' → Q (.bool true) { s with heap := h', toks := tk' }) : wpAny (model PR w) A (call (.ref 207) [.ref sa, v, .ref ea]) Q E s := by
    obtain ⟨dx, hs, t1, t2, k2, I⟩ := id hs0
    refine enterQ (binds := [(Str.ofString "sets", .ref sa), (Str.ofString "term", v), (Str.ofString "env", .ref ea)]) C (by k_is) (by k_is) (by first | exact Nat.lt_of_le_of_lt (by (simp +arith); fail_if_success (focus skip)) hD | exact Nat.lt_of_le_of_lt (by (simp +arith); fail_if_success (focus skip)) hU | exact Nat.lt_of_le_of_lt (by (simp +arith); fail_if_success (focus skip)) hD9 | exact Nat.lt_of_le_of_lt (by (simp +arith); fail_if_success (focus skip)) hU9 | omega) (BindsTo.of_eq rfl) (locs rfl) (fun L' h₁ F N X T hh => ?_) rfl rfl rfl (by decide)
    clear C
    repeat ((fail_if_success (with_reducible show wpAny _ _ (exec (Stmt.Try _ _ _ _ _) _) _ _ _)); first | walk1 | (dsimp only; walk1))
    refine wpAny_Try_except ?_
    repeat (first | walk1 | (dsimp only; walk1))
    rename Fr _ _ _ _ => F8
    rename Heap.UpToSlots _ _ => up9
    refine catch_term (hk := by rfl) (hx := by rfl) Bc.stack ⟨F8.ns, fun b o e => F8.keep b o (Bc.stays b o e), Nat.le_trans hsz F8.above⟩ up9 (by assumption) XB TB fun h' E' hfl up => ?_
    repeat (first | walk1 | (dsimp only; walk1))
    exact h _ _ hfl.1 ((Heap.UpToSlots.of_keeps F8.keep).trans up)
end
end Mine
end
section
open PySem PySem.W PySem.Spec PySem.Calls PyProof.Rows
set_option maxRecDepth 100000
namespace Mine
section
variable {w : World} {mean : ExcName → Option Value} {mg mb : Str → Option Value}
theorem lines_p15_1 : True := by
  k_with_none
  (k_with "h ne" => (refine neN ?_; (try dsimp only); first | assumption | (refine Ne.symm ?_; assumption) | (refine Nat.ne_of_lt ?_; assumption) | (refine Nat.ne_of_gt ?_; assumption) | ((repeat (rename (_ ∧ _) => hA9; first | ((repeat (first | exact hA9 | exact Ne.symm hA9 | exact Nat.ne_of_lt hA9 | exact Nat.ne_of_gt hA9 | (obtain ⟨h9a, hA9⟩ := hA9; first | exact h9a | exact Ne.symm h9a | exact Nat.ne_of_lt h9a | exact Nat.ne_of_gt h9a | exact h9a.1 | exact h9a.2.1 | exact h9a.2.2 | exact Ne.symm h9a.1 | exact Ne.symm h9a.2.1 | exact Ne.symm h9a.2.2 | clear h9a))); fail_if_success (focus skip)) | clear hA9)); fail_if_success (focus skip)) | omega))
  (k_with "h rel" => first | assumption | exact IsTup.keeps (by assumption) (Fr.keep (by assumption)) | exact EnvAt.keeps (by assumption) (Fr.keep (by assumption)) | exact SetsAt.keeps (by assumption) (Fr.keep (by assumption)))
  (k_with "call builtin:len" => (k_here; (with_reducible show wpAny _ _ (call (Value.builtin "len") [Value.ref _]) _ _ _); first | refine len_1 (by ktr_rel) ?_ | refine len_2 (by ktr_rel) ?_ | refine len_3 (by ktr_rel) ?_ | refine len_4 (by ktr_rel) ?_))
  (k_with "subscriptTail" => (k_here; (with_reducible show wpAny _ _ (subscriptTail _ _ (Value.ref _) (Value.str _ _)) _ _ _); k_dflt (refine env_item (by (ktr_rel); fail_if_success (focus skip)) (by (assumption); fail_if_success (focus skip)) ?_ (by (with_unfolding_all rfl); fail_if_success (focus skip)); k_whole; intro eT)))
  (k_with "subscriptTail" => (k_here; (with_reducible show wpAny _ _ (subscriptTail _ _ (Value.ref _) (Value.int _ _)) _ _ _); k_dflt (refine item_tupleT (by (ktr_rel); fail_if_success (focus skip)) (by (decide); fail_if_success (focus skip)) (by (decide); fail_if_success (focus skip)) (by (rfl); fail_if_success (focus skip)) (by (rfl); fail_if_success (focus skip)) ?_; k_whole)))
  (k_with "subscriptTail Name Slice ref ref" => (k_here; k_dflt (refine tail_slice (by (k_asm); fail_if_success (focus skip)) (by (k_asm); fail_if_success (focus skip)) (by (ktr_rel); fail_if_success (focus skip)) (by (exact Nat.le_of_ble_eq_true rfl); fail_if_success (focus skip)) ?_ (by (with_unfolding_all rfl); fail_if_success (focus skip)) (by (intro _; with_unfolding_all rfl); fail_if_success (focus skip)); k_whole; intro D' h' F' N' l1; (try k_lt l1); (try k_sweep))))
  (k_with "exec Assign cons ListComp" => (k_here; (with_reducible rename PyProof.Rows.News _ _ _ _ => nx9); (replace nx9 := News.last2 nx9); (change PyProof.Rows.News _ _ _ [(_, _), (_, _)] at nx9); (repeat (rename ((_ : Nat) < _ ∧ _) => lx9; clear lx9)); k_dflt (refine Assign_ListComp_T (by k_asm) (by rfl) (by with_unfolding_all rfl) (by with_unfolding_all rfl) (by decide) (by rfl) (by decide) (by rfl) (by rfl) (by rfl) ?_); (repeat (first | walk1 | (dsimp only; walk1))); k_dflt (refine SrcT.ledger (by first | rfl | assumption) (by k_asm) (by k_asm) (by k_mem) (by exact Nat.le_of_ble_eq_true rfl) ?_; intro g'; lcg_lit)))
  (k_with "h units" => (simp only [units_deeper, units_in1]; first | exact Nat.lt_of_le_of_lt (by (simp +arith); fail_if_success (focus skip)) hD | exact Nat.lt_of_le_of_lt (by (simp +arith); fail_if_success (focus skip)) hU | exact Nat.lt_of_le_of_lt (by (simp +arith); fail_if_success (focus skip)) hD9 | exact Nat.lt_of_le_of_lt (by (simp +arith); fail_if_success (focus skip)) hU9 | omega))
  (k_with "compareOp Eq ref ref" => (k_here; k_dflt (first
      | (refine eq_one_t (by (ktr_rel); fail_if_success (focus skip)) (by (exact News.isTup (by assumption) (by k_mem)); fail_if_success (focus skip)) (by (ktr_units); fail_if_success (focus skip)) (by (first | decide | simp_all); fail_if_success (focus skip)) ?_; k_whole)
      | (refine eq_one_f (by (ktr_rel); fail_if_success (focus skip)) (by (exact News.isTup (by assumption) (by k_mem)); fail_if_success (focus skip)) (by (ktr_units); fail_if_success (focus skip)) (by (first | decide | simp_all); fail_if_success (focus skip)) ?_; k_whole))))
  (k_with "h rel" => exact SAt.keeps (by assumption) (Fr.keep (by assumption)))
  (k_with "compareOp In bool ref" => (k_here; k_dflt (refine in_bools (News.isList (by k_asm) (by k_mem)) ?_)))
  (k_with "compareOp NotIn bool ref" => (k_here; k_dflt (refine notIn_bools (News.isList (by k_asm) (by k_mem)) ?_)))
  (k_with "h inst" => exact InstAt.keeps (by assumption) (Fr.keep (by assumption)))
  (k_with "compareOp NotIn str ref" => (k_here; k_dflt (first | refine env_notin (by ktr_rel) (by assumption) ?_ | refine env_notin_none (by ktr_rel) (by assumption) ?_)))
  (k_with "compareOp In ref ref" => (k_here; k_dflt (first
      | (refine in_two_t (by (exact News.isTup (by assumption) (by k_mem)); fail_if_success (focus skip)) (by (exact News.isTup (by assumption) (by k_mem)); fail_if_success (focus skip)) (by (exact News.isTup (by assumption) (by k_mem)); fail_if_success (focus skip)) (by (ktr_rel); fail_if_success (focus skip)) (by (ktr_units); fail_if_success (focus skip)) (by (first | decide | simp_all); fail_if_success (focus skip)) ?_; k_whole)
      | (refine in_two_f (by (exact News.isTup (by assumption) (by k_mem)); fail_if_success (focus skip)) (by (exact News.isTup (by assumption) (by k_mem)); fail_if_success (focus skip)) (by (exact News.isTup (by assumption) (by k_mem)); fail_if_success (focus skip)) (by (ktr_rel); fail_if_success (focus skip)) (by (ktr_units); fail_if_success (focus skip)) (by (first | decide | simp_all); fail_if_success (focus skip)) ?_; k_whole))))
  (k_with "compareOp NotIn ref ref" => (k_here; k_dflt (first
      | (refine notIn_four_t (by (exact News.isTup (by assumption) (by k_mem)); fail_if_success (focus skip)) (by (exact News.isTup (by assumption) (by k_mem)); fail_if_success (focus skip)) (by (exact News.isTup (by assumption) (by k_mem)); fail_if_success (focus skip)) (by (exact News.isTup (by assumption) (by k_mem)); fail_if_success (focus skip)) (by (exact News.isTup (by assumption) (by k_mem)); fail_if_success (focus skip)) (by (exact News.isTup (by assumption) (by k_mem)); fail_if_success (focus skip)) (by (ktr_units); fail_if_success (focus skip)) (by (first | decide | simp_all); fail_if_success (focus skip)) ?_; k_whole)
      | (refine notIn_four_f (by (exact News.isTup (by assumption) (by k_mem)); fail_if_success (focus skip)) (by (exact News.isTup (by assumption) (by k_mem)); fail_if_success (focus skip)) (by (exact News.isTup (by assumption) (by k_mem)); fail_if_success (focus skip)) (by (exact News.isTup (by assumption) (by k_mem)); fail_if_success (focus skip)) (by (exact News.isTup (by assumption) (by k_mem)); fail_if_success (focus skip)) (by (exact News.isTup (by assumption) (by k_mem)); fail_if_success (focus skip)) (by (ktr_units); fail_if_success (focus skip)) (by (first | decide | simp_all); fail_if_success (focus skip)) ?_; k_whole))))
  (k_with "storeName" => (k_here; k_dflt (refine storeX_U (by k_asm) (by k_asm) ?_ (by rfl) (by rfl)); intro h' F' N'; (try k_sweep)))
  (k_with "binaryOp Pow int int" => (k_here; k_dflt (refine pow_two (by omega) (by omega) ?_)))
  trivial
noncomputable abbrev setsDict (hs : Int) (t : Tok) (W : Int) (tk : Tok) (n : Nat) : Obj := dictOf [⟨hs, .str (Str.ofString "whole") t, .int W tk⟩] n
set_option maxHeartbeats 0 in
theorem sets_call {n : Int} {tk₀ : Tok} {A : Around} {s : Shared} {Q E : Value → Shared → Prop} (h0 : 0 ≤ n) (h8 : n ≤ 8)
    (C : Cal w mean mg mb A s) (hD : A.depth + 40 < recursionLimit) (hU : A.units + 300 < cLine)
    (h : ∀ h' tk x dx hs t tk2 n2, Kept s.heap h' → s.heap.get? x = none → s.heap.get? dx = none → dx < x → h'.get? x = some (instObj 167 dx) →
      h'.get? dx = some (setsDict hs t (2 ^ n.toNat - 1) tk2 n2) → Q (.ref x) { s with heap := h', toks := tk }) :
    wpAny (model PR w) A (call (.ref 167) [.int n tk₀]) Q E s := by
    refine call_classM C (by k_is) (by k_is) (by k_is) fun x dx h' kp nx ndx lt CM => ?_
    clear C
    obtain ⟨ha, ad, af, ag, au⟩ := A
    rw [under_call] at CM ⊢
    refine enterMP (binds := [(Str.ofString "self", .ref x), (Str.ofString "n", .int n tk₀)]) CM (by k_is) (by k_is) (by dsimp only at hD ⊢; omega) (BindsTo.of_eq rfl) (locs rfl) (fun g L' h₁ base outer kb kb' F N B X T hh lo => ?_) rfl rfl rfl (by decide)
    clear CM
    replace hh : ha = Option.none := hh
    subst hh
    dsimp only at hD hU
    have kg : Kept s.heap g := fun b o e => kb b o (fun p hp q => by
      rcases List.mem_cons.mp hp with rfl | hp
      · rw [show x = b from q, e] at nx; cases nx
      · rw [List.mem_singleton.mp hp] at q
        rw [show dx = b from q, e] at ndx; cases ndx) (kp b o e)
    have lx := lo _ (.head _)
    have ldx := lo _ (.tail _ (.head _))
    dsimp only at lx ldx
    have lt' := ltN lt
    replace lx := ltN lx
    replace ldx := ltN ldx
    k_steps
    (try dsimp only)
    rename Fr _ _ _ _ => F'
    rename News _ _ _ _ => N'
    exact ⟨_, _, F', rfl, h _ _ x dx _ _ _ _ (Kept.trans kg F'.keep) nx ndx lt (News.get N' (.head _)) (News.get N' (.tail _ (.head _)))⟩
end
end Mine
end
section
open PySem PySem.W PySem.Spec PySem.Calls PyProof.Rows
set_option maxRecDepth 100000
namespace Mine
/-- a written table -/
noncomputable def tabE (l : List (Str × Int)) (x : Str) : Option Int := (l.find? fun p => p.1 = x).map (·.2)
/-- the rules' own table -/
noncomputable def bitsE : Str → Option Int := tabE [(Str.ofString "?a", 240), (Str.ofString "?b", 204), (Str.ofString "?c", 170)]
theorem rules_names : ∀ i, i < 15 → ∀ r, rulesS[i]? = some r → (((rulesS.map (·.nm)).take i).any fun y => y == r.nm) = false := by
  intro i hi r hr
  have : ((List.range 15).all fun i => (rulesS[i]?).all fun r => !(((rulesS.map (·.nm)).take i).any fun y => y == r.nm)) = true := by decide +kernel
  have h := List.all_eq_true.mp this i (List.mem_range.mpr hi)
  rw [hr] at h
  simpa using h
noncomputable def St.bitsOk : St → Bool
  | .none | .all => true
  | .name x => x == Str.ofString "?a" || x == Str.ofString "?b" || x == Str.ofString "?c"
  | .not a => a.bitsOk
  | .union a b | .meet a b | .less a b => a.bitsOk && b.bitsOk
theorem bits_ok : ∀ t : St, t.bitsOk = true → t.ok bitsE := by
  intro t
  induction t with
  | none => intro _; trivial
  | all => intro _; trivial
  | name x =>
    intro h
    simp only [St.bitsOk, Bool.or_eq_true, beq_iff_eq] at h
    rcases h with (rfl | rfl) | rfl
    · exact ⟨by decide, by decide, 240, by decide +kernel, by decide, by decide⟩
    · exact ⟨by decide, by decide, 204, by decide +kernel, by decide, by decide⟩
    · exact ⟨by decide, by decide, 170, by decide +kernel, by decide, by decide⟩
  | not a ih => exact ih
  | union a b i j => intro h; simp only [St.bitsOk, Bool.and_eq_true] at h; exact ⟨i h.1, j h.2⟩
  | meet a b i j => intro h; simp only [St.bitsOk, Bool.and_eq_true] at h; exact ⟨i h.1, j h.2⟩
  | less a b i j => intro h; simp only [St.bitsOk, Bool.and_eq_true] at h; exact ⟨i h.1, j h.2⟩
theorem rules_fit : ∀ r ∈ rulesS, r.left.ok bitsE ∧ r.right.ok bitsE ∧ r.left.size ≤ 20 ∧ r.right.size ≤ 20 := by
  intro r hr
  have : (rulesS.all fun r => r.left.bitsOk && r.right.bitsOk && decide (r.left.size ≤ 20) && decide (r.right.size ≤ 20)) = true := by decide +kernel
  have h := List.all_eq_true.mp this r hr
  simp only [Bool.and_eq_true, decide_eq_true_eq] at h
  exact ⟨bits_ok _ h.1.1.1, bits_ok _ h.1.1.2, h.1.2, h.2⟩
/-- the pairs of a table of numbers -/
noncomputable def PairsAre : List (Str × Value) → List (Str × Int) → Prop
  | [], [] => True
  | (x, v) :: r, (y, n) :: q => x = y ∧ (∃ t, v = .int n t) ∧ PairsAre r q
  | _, _ => False
theorem valueAt_pairs : ∀ {kvs : List (Str × Value)} {l : List (Str × Int)}, PairsAre kvs l → ∀ x, (tabE l x = none → valueAt kvs x = none) ∧ ∀ n, tabE l x = some n → ∃ t, valueAt kvs x = some (.int n t)
  | [], [], _, x => ⟨fun _ => rfl, fun n h => by cases h⟩
  | (y, v) :: r, (z, n) :: q, h, x => by
    obtain ⟨rfl, ⟨t, rfl⟩, hr⟩ := h
    have ih := valueAt_pairs hr x
    by_cases e : y = x
    · have e1 : tabE ((y, n) :: q) x = some n := by simp [tabE, List.find?_cons, e]
      have e2 : valueAt ((y, Value.int n t) :: r) x = some (.int n t) := by simp [valueAt, List.find?_cons, e]
      rw [e1, e2]
      exact ⟨fun h => (by cases h), fun m h => (by cases h; exact ⟨t, rfl⟩)⟩
    · have e1 : tabE ((y, n) :: q) x = tabE q x := by simp [tabE, List.find?_cons, e]
      have e2 : valueAt ((y, Value.int n t) :: r) x = valueAt r x := by simp [valueAt, List.find?_cons, e]
      rw [e1, e2]
      exact ih
  | [], _ :: _, h, _ => h.elim
  | _ :: _, [], h, _ => h.elim
theorem envAt_pairs {w : World} {h : Heap} {b : Addr} {o : Obj} {kvs : List (Str × Value)} {l : List (Str × Int)} (ho : h.get? b = some o) (hd : o.IsDictOf (strKind PR w) kvs) (lo : (b == sysModules) = false) (hp : PairsAre kvs l) : EnvAt w h b (tabE l) :=
  ⟨lo, _, Heap.DictOf.mapOf (Heap.dictOf_iff.mpr ⟨o, ho, hd⟩), fun x => (valueAt_pairs hp x).1, fun x => (valueAt_pairs hp x).2⟩
theorem rules_sides : ∀ r ∈ rulesS, r.left.num bitsE 8 = r.right.num bitsE 8 ∧ r.left.val bitsE 255 = r.left.num bitsE 8 ∧ r.right.val bitsE 255 = r.right.num bitsE 8 := by
  intro r hr
  have : (rulesS.all fun r => decide (r.left.num bitsE 8 = r.right.num bitsE 8 ∧ r.left.val bitsE 255 = r.left.num bitsE 8 ∧ r.right.val bitsE 255 = r.right.num bitsE 8)) = true := by decide +kernel
  exact of_decide_eq_true (List.all_eq_true.mp this r hr)
theorem bitOr_nat (a b : Nat) : Builtin.bitOr (a : Int) (b : Int) = ((a ||| b : Nat) : Int) := by
  unfold Builtin.bitOr
  rw [bitAnd_nn (by unfold Builtin.bitNot; omega) (by unfold Builtin.bitNot; omega)]
  unfold Builtin.bitNot
  have e : ∀ n : Nat, (-(-(n : Int) - 1) - 1).toNat = n := fun n => by omega
  rw [e, e]
  omega
theorem bitAnd_nat (a b : Nat) : Builtin.bitAnd (a : Int) (b : Int) = ((a &&& b : Nat) : Int) := by
  rw [bitAnd_pp (by omega) (by omega)]
  simp
/-- a number is the sum of its bits -/
theorem bits_sum (v : Nat) : ∀ m : Nat, (((List.range m).filter fun k => v.testBit k).map fun k => (2 : Int) ^ k).sum = ((v % 2 ^ m : Nat) : Int) := by
  intro m
  induction m with
  | zero => simp [Nat.mod_one]
  | succ m ih =>
    rw [List.range_succ, List.filter_append, List.map_append, List.sum_append, ih]
    have h2 : v % 2 ^ (m + 1) = v % 2 ^ m + 2 ^ m * (v / 2 ^ m % 2) := by rw [Nat.pow_succ, Nat.mod_mul]
    have h3 := Nat.testBit_eq_decide_div_mod_eq (x := v) (i := m)
    have h4 : ((2 ^ m : Nat) : Int) = (2 : Int) ^ m := Int.natCast_pow 2 m
    by_cases hb : v.testBit m = true
    · rw [List.filter_cons, if_pos hb, List.filter_nil, List.map_cons, List.map_nil, List.sum_cons, List.sum_nil, h2]
      rw [hb] at h3
      have h5 : v / 2 ^ m % 2 = 1 := of_decide_eq_true h3.symm
      rw [h5, Nat.mul_one, Int.natCast_add, h4, Int.add_zero]
    · have hb' : v.testBit m = false := by simpa using hb
      rw [List.filter_cons, if_neg hb, List.filter_nil, List.map_nil, List.sum_nil, h2]
      rw [hb'] at h3
      have h5 : ¬ v / 2 ^ m % 2 = 1 := of_decide_eq_false h3.symm
      have h6 : v / 2 ^ m % 2 = 0 := by omega
      rw [h6, Nat.mul_zero, Nat.add_zero, Int.add_zero]
/-- the names are told and fit -/
noncomputable def EnvIn (e : Str → Option Int) (m : Nat) : Prop := ∀ x, x ∈ [Str.ofString "a", Str.ofString "b", Str.ofString "c", Str.ofString "meet"] → ∃ n, e x = some n ∧ 0 ≤ n ∧ n < 2 ^ m
theorem val_nat {e : Str → Option Int} {m : Nat} (he : EnvIn e m) : ∀ t : St, t.four → ∃ v : Nat, t.val e (2 ^ m - 1) = (v : Int) ∧ v < 2 ^ m ∧ ∀ k, k < m → v.testBit k = t.isIn e k := by
  have hp : ((2 ^ m - 1 : Nat) : Int) = (2 : Int) ^ m - 1 := by
    have h1 := Nat.two_pow_pos m
    have h2 : ((2 ^ m : Nat) : Int) = (2 : Int) ^ m := Int.natCast_pow 2 m
    rw [← h2]
    omega
  intro t
  induction t with
  | none => intro _; exact ⟨0, rfl, Nat.two_pow_pos m, fun k _ => by simp [St.isIn]⟩
  | all => intro _; exact ⟨2 ^ m - 1, hp.symm, Nat.sub_lt (Nat.two_pow_pos m) Nat.one_pos, fun k hk => by simp [St.isIn, Nat.testBit_two_pow_sub_one, hk]⟩
  | name x =>
    intro hx
    obtain ⟨n, hn, h0, h1⟩ := he x hx
    obtain ⟨v, rfl⟩ := Int.eq_ofNat_of_zero_le h0
    refine ⟨v, by simp [St.val, hn], by rw [show (2 : Int) ^ m = ((2 ^ m : Nat) : Int) from (Int.natCast_pow 2 m).symm] at h1; omega, fun k _ => ?_⟩
    have e1 : ((v : Int).fdiv (2 ^ k)).fmod 2 = ((v / 2 ^ k % 2 : Nat) : Int) := by
      rw [show (2 : Int) ^ k = ((2 ^ k : Nat) : Int) from (Int.natCast_pow 2 k).symm, Int.fdiv_eq_ediv_of_nonneg _ (Int.natCast_nonneg _), Int.fmod_eq_emod_of_nonneg _ (by omega)]
      rfl
    simp only [St.isIn, hn, Option.getD_some, e1]
    rw [Nat.testBit_eq_decide_div_mod_eq]
    by_cases q : v / 2 ^ k % 2 = 1
    · simp [q]
    · have : v / 2 ^ k % 2 = 0 := by omega
      simp [this]
  | not a ih =>
    intro hx
    obtain ⟨v, hv, hlt, hb⟩ := ih hx
    refine ⟨2 ^ m - 1 - v, ?_, by have := Nat.two_pow_pos m; omega, fun k hk => ?_⟩
    · show _ - a.val e (2 ^ m - 1) = _
      rw [hv, ← hp]; omega
    · have := Nat.testBit_two_pow_sub_succ hlt k
      rw [show 2 ^ m - 1 - v = 2 ^ m - (v + 1) by omega, this, hb k hk]
      simp [St.isIn, hk]
  | union a b iha ihb =>
    intro hx
    obtain ⟨v, hv, hlt, hb⟩ := iha hx.1
    obtain ⟨v', hv', hlt', hb'⟩ := ihb hx.2
    exact ⟨v ||| v', by show Builtin.bitOr _ _ = _; rw [hv, hv', bitOr_nat], Nat.or_lt_two_pow hlt hlt', fun k hk => by simp [St.isIn, Nat.testBit_or, hb k hk, hb' k hk]⟩
  | meet a b iha ihb =>
    intro hx
    obtain ⟨v, hv, hlt, hb⟩ := iha hx.1
    obtain ⟨v', hv', hlt', hb'⟩ := ihb hx.2
    exact ⟨v &&& v', by show Builtin.bitAnd _ _ = _; rw [hv, hv', bitAnd_nat], Nat.and_lt_two_pow v hlt', fun k hk => by simp [St.isIn, Nat.testBit_and, hb k hk, hb' k hk]⟩
  | less a b iha ihb =>
    intro hx
    obtain ⟨v, hv, hlt, hb⟩ := iha hx.1
    obtain ⟨v', hv', hlt', hb'⟩ := ihb hx.2
    have hs : (2 : Int) ^ m - 1 - (v' : Int) = ((2 ^ m - (v' + 1) : Nat) : Int) := by rw [← hp]; omega
    refine ⟨v &&& (2 ^ m - (v' + 1)), by show Builtin.bitAnd _ _ = _; rw [hv, hv', hs, bitAnd_nat], Nat.lt_of_le_of_lt Nat.and_le_left hlt, fun k hk => ?_⟩
    rw [Nat.testBit_and, Nat.testBit_two_pow_sub_succ hlt' k, hb k hk, hb' k hk]
    simp [St.isIn, hk]
/-- what Sets tells is the law's own number -/
theorem val_num {e : Str → Option Int} {m : Nat} (he : EnvIn e m) {t : St} (ht : t.four) : t.val e (2 ^ m - 1) = t.num e m := by
  obtain ⟨v, hv, hlt, hb⟩ := val_nat he t ht
  rw [hv]
  unfold St.num
  have : (List.range m).filter (fun k => t.isIn e k) = (List.range m).filter fun k => v.testBit k := List.filter_congr fun k hk => (hb k (List.mem_range.mp hk)).symm
  rw [this, bits_sum, Nat.mod_eq_of_lt hlt]
end Mine
end
section
open PySem PySem.W PySem.Spec PySem.Calls PyProof.Rows
set_option maxRecDepth 100000
namespace Mine
section
variable {prog : Program} {w : World} {A : Around} {E : Value → Shared → Prop} {s : Shared} {env : Env}
/-- the end of a turn -/
noncomputable def JEnd (J : Nat → Shared → Prop) (Q : Flow → Shared → Prop) (fp : List Addr) (i : Nat) (s₁ : Shared) (f : Flow) (s₄ : Shared) : Prop := match f with
  | .ret v => Q (.ret v) s₄
  | .brk => Q .next s₄
  | _ => J (i + 1) s₄ ∧ ∀ b ∈ fp, ∀ o, s₁.heap.get? b = some o → s₄.heap.get? b = some o
/-- a loop by an invariant over its whole state -/
noncomputable def LoopJ (prog : Program) (w : World) (A : Around) (env : Env) (target : Expr) (body : List Stmt) (Q : Flow → Shared → Prop) (E : Value → Shared → Prop) (it : Value) (s₂ : Shared) : Prop :=
  ∃ (I : Addr) (fp : List Addr) (n : Nat) (P : Nat → Value → Prop) (St : Nat → Heap → Prop) (J : Nat → Shared → Prop), it = .ref I ∧ Walks prog w A I fp [I] n P St ∧
    (∀ i (s' : Shared) v (Q' : Unit → Shared → Prop) E', St i s'.heap → Q' () s' → wpAny (model prog w) A (letOwnedTupleGo target (.ref I) v) Q' E' s') ∧ St 0 s₂.heap ∧ J 0 s₂ ∧
    (∀ i s' h' tk, J i s' → (∀ b o, b ≠ I → s'.heap.get? b = some o → h'.get? b = some o) → J i { s' with heap := h', toks := tk }) ∧
    (∀ i v s₁, i < n → P i v → J i s₁ → St (i + 1) s₁.heap → wpAny (model prog w) A (assign target env v) (fun _ s₃ => wpAny (model prog w) A (execs body env) (JEnd J Q fp i s₁) E s₃) E s₁) ∧
    ∀ s', J n s' → Q .next s'
theorem For_J {target iter : Expr} {pos : Pos} {body : List Stmt} {Q : Flow → Shared → Prop}
    (h : wpAny (model prog w) A (eval iter env) (fun xv s₁ => wpAny (model prog w) A (pyIter xv) (LoopJ prog w A env target body Q E) E s₁) E s)
    (hs : ∀ x, foldedSetIterable iter env x = pure x)
    (hE : PassesOwn (model prog w) A env E) :
    wpAny (model prog w) A (exec (.For target iter body [] pos) env) Q E s := by
  refine wpAny_For (wpAny_mono h (fun xv s₁ h₁ => wpAny_mono h₁ (fun it s₂ h₂ => ?_) fun _ _ e => e) fun _ _ e => e) hs
  obtain ⟨I, fp, n, P, St, J, rfl, W, hgo, hst, hJ, stab, turn, done⟩ := h₂
  refine codeAny_forLoop_any (fun k s' => ∃ i, i ≤ n ∧ k = n - i ∧ St i s'.heap ∧ J i s') ?_ n ⟨0, Nat.zero_le _, rfl, hst, hJ⟩
  rintro k s' ⟨i, hi, rfl, hst', hJ'⟩
  by_cases hlt : i < n
  · refine W.item i _ _ _ hlt hst' fun v h₂ tk₂ hPv hst₂ hk₂ => ?_
    have hJ₂ := stab i s' h₂ tk₂ hJ' fun b o hb e => hk₂ b o (by simpa using hb) e
    refine hgo (i + 1) _ _ _ _ hst₂ ?_
    refine wpAny_mono (turn i v { s' with heap := h₂, toks := tk₂ } hlt hPv hJ₂ hst₂) (fun _ s₃ h₃ => wpAny_mono (wpAny_passesOwn hE h₃) (fun f s₄ h₄ => ?_) fun _ _ e => e) hE
    have fin : (J (i + 1) s₄ ∧ ∀ b ∈ fp, ∀ o, h₂.get? b = some o → s₄.heap.get? b = some o) → ∃ m, m < n - i ∧ ∃ i, i ≤ n ∧ m = n - i ∧ St i s₄.heap ∧ J i s₄ := fun x =>
      ⟨n - (i + 1), by omega, i + 1, hlt, rfl, W.frame _ _ _ hst₂ x.2, x.1⟩
    cases f with
    | ret v => exact h₄
    | brk => exact h₄
    | cont => exact fin h₄
    | next => exact fin h₄
  · obtain rfl : i = n := Nat.le_antisymm hi (Nat.not_lt.mp hlt)
    refine W.done _ _ _ hst' fun h₂ tk₂ hk₂ => wpAny_execs_nil ?_
    exact done _ (stab i s' h₂ tk₂ hJ' fun b o hb e => hk₂ b o (by simpa using hb) e)
end
section
variable {w : World} {mean : ExcName → Option Value} {mg mb : Str → Option Value}
theorem refused_use {e : Str → Option Int} {W : Int} {sa ea : Addr} {v : Value} {A : Around} {base h₀ : Heap} {L : Addr} {m : Str → Option Value} {env : Env} {news : List (Addr × Obj)} {s : Shared} {Q E : Value → Shared → Prop}
    (hb : BadAt s.heap e v) (B : Below A base [] h₀) (F : Fr h₀ L s.heap m) (X : (hd.heap_39 w.params).In h₀) (T : Top hd.view_39 LO mean mg mb h₀) (N : News h₀ L s.heap news) (hh : A.handled = none) (hf : env.frame = some L) (hk : env.scope.kind = .function)
    (hD : A.depth + 1 + 150 < recursionLimit) (hU : A.units + 3 + 740 < cLine) (hs0 : SetsAt s.heap sa W) (he : EnvAt w s.heap ea e)
    (h : ∀ h' tk', Fr h₀ L h' m → News h₀ L h' news → Q (.bool true) { s with heap := h', toks := tk' }) : wpAny (model PR w) (A.deeper env) (call (.ref 207) [.ref sa, v, .ref ea]) Q E s := by
  have hne : ∀ {b o}, h₀.get? b = some o → b ∉ [L] := fun {b o} hb q => by
    rw [List.mem_singleton.mp q] at hb
    exact absurd (Nat.lt_of_lt_of_le (Heap.lt_size hb) F.above) (Nat.lt_irrefl _)
  have st : ∀ b o, h₀.get? b = some o → (hideAll s.heap [L]).get? b = some o := fun b o hb => hideAll_get _ (F.keep b o hb) (hne hb)
  obtain ⟨oL, es, ep, hL, hd, _⟩ := id F.ns
  have Bc : Below (A.deeper env) (hideAll s.heap [L]) [env] s.heap := ⟨Around.frames_deeper B.stack, fun b o q => of_hideAll _ q, by rw [hk]; decide, ⟨L, oL, hf, hideAll_none _ (List.mem_singleton.mpr rfl), hL, fun vs q => by rw [hd] at q; cases q⟩, trivial⟩
  refine refused_call (Cal.site B F X T hh hf hk) Bc (X.keeps st) (T.keeps st) (Nat.le_of_eq (hideAll_size _ _)) (by simp only [depth_deeper]; first | exact Nat.lt_of_le_of_lt (by (simp +arith); fail_if_success (focus skip)) hD | exact Nat.lt_of_le_of_lt (by (simp +arith); fail_if_success (focus skip)) hU | exact Nat.lt_of_le_of_lt (by (simp +arith); fail_if_success (focus skip)) hD9 | exact Nat.lt_of_le_of_lt (by (simp +arith); fail_if_success (focus skip)) hU9 | omega) (by simp only [units_deeper]; first | exact Nat.lt_of_le_of_lt (by (simp +arith); fail_if_success (focus skip)) hD | exact Nat.lt_of_le_of_lt (by (simp +arith); fail_if_success (focus skip)) hU | exact Nat.lt_of_le_of_lt (by (simp +arith); fail_if_success (focus skip)) hD9 | exact Nat.lt_of_le_of_lt (by (simp +arith); fail_if_success (focus skip)) hU9 | omega) hb hs0 he fun h' tk' k up => ?_
  exact h h' tk' ⟨up.ns F.ns, fun b o q => k b o (st b o q), F.above⟩ fun q hq => ⟨k _ _ (hideAll_get _ (N q hq).1 fun z => (N q hq).2.1 (List.mem_singleton.mp z)), (N q hq).2⟩
end
end Mine
end
section
open PySem PySem.W PySem.Spec PySem.Calls PyProof.Rows
set_option maxRecDepth 100000
namespace Mine
section
variable {prog : Program} {w : World} {A : Around} {E : Value → Shared → Prop} {s : Shared} {env : Env} {h₀ : Heap} {L : Addr} {m : Str → Option Value} {news src : List (Addr × Obj)} {Q : Flow → Shared → Prop} {target : Expr} {body : List Stmt}
/-- the end of a turn, by the frame's map and the ledger -/
noncomputable def TurnOn (h₀ : Heap) (L I : Addr) (o : Obj) (src : List (Addr × Obj)) (s : Shared) (K : (Str → Option Value) → List (Addr × Obj) → Prop) (s₄ : Shared) : Prop :=
  ∃ h' dr tk m' news', s₄ = { s with heap := h', drawn := dr, toks := tk } ∧ Fr h₀ L h' m' ∧ News h₀ L h' ((I, o) :: (src ++ news')) ∧ (∀ p ∈ src ++ news', p.1 ≠ I) ∧ K m' news'
noncomputable def TurnEnd (h₀ : Heap) (L I : Addr) (o : Obj) (src : List (Addr × Obj)) (s : Shared) (K : (Str → Option Value) → List (Addr × Obj) → Prop) (Q : Flow → Shared → Prop) (f : Flow) (s₄ : Shared) : Prop := match f with
  | .ret v => Q (.ret v) s₄
  | .brk => Q .next s₄
  | _ => TurnOn h₀ L I o src s K s₄
theorem loop_core {I : Addr} {fp : List Addr} {n : Nat} {P : Nat → Value → Prop} {St : Nat → Heap → Prop} (K : Nat → (Str → Option Value) → List (Addr × Obj) → Prop) (W : Walks prog w A I fp [I] n P St)
    (hgo : ∀ i (s' : Shared) v (Q' : Unit → Shared → Prop) E', St i s'.heap → Q' () s' → wpAny (model prog w) A (letOwnedTupleGo target (.ref I) v) Q' E' s') (hst : St 0 s.heap) (hIo : ∀ i h, St i h → ∃ o, h.get? I = some o)
    (hfp : ∀ b ∈ fp, b = I ∨ b ∈ src.map (·.1)) (F : Fr h₀ L s.heap m) (N : News h₀ L s.heap (src ++ news)) (hI0 : h₀.get? I = none) (hIL : I ≠ L) (hsI : ∀ p ∈ src ++ news, p.1 ≠ I) (hK : K 0 m news)
    (turn : ∀ i v o m' news' h' dr tk, i < n → P i v → K i m' news' → (∀ p ∈ src ++ news', p.1 ≠ I) → Fr h₀ L h' m' → News h₀ L h' ((I, o) :: (src ++ news')) →
      wpAny (model prog w) A (assign target env v) (fun _ s₃ => wpAny (model prog w) A (execs body env) (TurnEnd h₀ L I o src s (K (i + 1)) Q) E s₃) E { s with heap := h', drawn := dr, toks := tk })
    (done : ∀ m' news' h' dr tk, K n m' news' → Fr h₀ L h' m' → News h₀ L h' (src ++ news') → Q .next { s with heap := h', drawn := dr, toks := tk }) :
    LoopJ prog w A env target body Q E (.ref I) s := by
  refine ⟨I, fp, n, P, St, fun i s' => ∃ h' dr tk m' news', s' = { s with heap := h', drawn := dr, toks := tk } ∧ Fr h₀ L h' m' ∧ News h₀ L h' (src ++ news') ∧ (∀ p ∈ src ++ news', p.1 ≠ I) ∧ K i m' news', rfl, W, hgo, hst, ⟨_, _, _, m, news, rfl, F, N, hsI, hK⟩, ?_, ?_, ?_⟩
  · rintro i s' h₁ tk₁ ⟨h', dr, tk, m', news', rfl, F', N', n', k'⟩ hk
    exact ⟨h₁, dr, tk₁, m', news', rfl, ⟨F'.ns.at' fun o e => hk _ o hIL.symm e, fun b o e => hk b o (fun q => by rw [q, hI0] at e; cases e) (F'.keep b o e), F'.above⟩, fun p hp => ⟨hk _ _ (n' p hp) (N' p hp).1, (N' p hp).2⟩, n', k'⟩
  · rintro i v s₁ hlt hP ⟨h', dr, tk, m', news', rfl, F', N', n', k'⟩ hst'
    obtain ⟨o, ho⟩ := hIo _ _ hst'
    have N₁ : News h₀ L h' ((I, o) :: (src ++ news')) := fun p hp => by
      rcases List.mem_cons.mp hp with rfl | hp
      · exact ⟨ho, hIL, hI0⟩
      · exact N' p hp
    refine wpAny_mono (turn i v o m' news' h' dr tk hlt hP k' n' F' N₁) (fun _ s₃ h₃ => wpAny_mono h₃ (fun f s₄ hx => ?_) fun _ _ e => e) fun _ _ e => e
    have fin : TurnOn h₀ L I o src s (K (i + 1)) s₄ → (∃ h' dr tk m' news', s₄ = { s with heap := h', drawn := dr, toks := tk } ∧ Fr h₀ L h' m' ∧ News h₀ L h' (src ++ news') ∧ (∀ p ∈ src ++ news', p.1 ≠ I) ∧ K (i + 1) m' news') ∧ ∀ b ∈ fp, ∀ o, h'.get? b = some o → s₄.heap.get? b = some o := by
      rintro ⟨h₄, dr₄, tk₄, m₄, news₄, rfl, F₄, N₄, n₄, k₄⟩
      refine ⟨⟨h₄, dr₄, tk₄, m₄, news₄, rfl, F₄, fun p hp => N₄ p (.tail _ hp), n₄, k₄⟩, fun b hb o' e => ?_⟩
      rcases hfp b hb with rfl | hb
      · rw [ho] at e; cases e
        exact (N₄ _ (.head _)).1
      · obtain ⟨p, hp, rfl⟩ := List.mem_map.mp hb
        have e2 := (N' p (List.mem_append_left _ hp)).1
        rw [e2] at e; cases e
        exact (N₄ p (.tail _ (List.mem_append_left _ hp))).1
    cases f with
    | ret v => exact hx
    | brk => exact hx
    | cont => exact fin hx
    | next => exact fin hx
  · rintro s' ⟨h', dr, tk, m', news', rfl, F', N', n', k'⟩
    exact done m' news' h' dr tk k' F' N'
theorem stay_push {g h : Heap} {L : Addr} {m : Str → Option Value} {news : List (Addr × Obj)} (o : Obj) (F : Fr g L h m) (N : News g L h news) : Fr g L (h.push o) m ∧ News g L (h.push o) news ∧ (∀ p ∈ news, p.1 ≠ h.objs.size) ∧ g.get? h.objs.size = none ∧ h.objs.size ≠ L :=
  ⟨F.push o, fun p hp => ⟨Heap.get?_push_of_some _ (N p hp).1, (N p hp).2⟩, fun p hp => Nat.ne_of_lt (Heap.lt_size (N p hp).1), next_is_new F, fun q => absurd F.ns.lt (q ▸ Nat.lt_irrefl _)⟩
/-- over a list of the ledger -/
theorem loop_list {D : Addr} {vs : List Value} {k : Nat} (K : Nat → (Str → Option Value) → List (Addr × Obj) → Prop) (hh : A.handled = none) (F : Fr h₀ L s.heap m) (N : News h₀ L s.heap ([(D, ({ cls := .type "list", data := .seq vs.toArray k } : Obj))] ++ news)) (hK : K 0 m news)
    (turn : ∀ I i v o m' news' h' dr tk, i < vs.length → vs[i]? = some v → K i m' news' → (∀ p ∈ [(D, ({ cls := .type "list", data := .seq vs.toArray k } : Obj))] ++ news', p.1 ≠ I) → Fr h₀ L h' m' → News h₀ L h' ((I, o) :: ([(D, ({ cls := .type "list", data := .seq vs.toArray k } : Obj))] ++ news')) →
      wpAny (model prog w) A (assign target env v) (fun _ s₃ => wpAny (model prog w) A (execs body env) (TurnEnd h₀ L I o [(D, ({ cls := .type "list", data := .seq vs.toArray k } : Obj))] s (K (i + 1)) Q) E s₃) E { s with heap := h', drawn := dr, toks := tk })
    (done : ∀ m' news' h' dr tk, K vs.length m' news' → Fr h₀ L h' m' → News h₀ L h' ([(D, ({ cls := .type "list", data := .seq vs.toArray k } : Obj))] ++ news') → Q .next { s with heap := h', drawn := dr, toks := tk }) :
    wpAny (model prog w) A (pyIter (.ref D)) (LoopJ prog w A env target body Q E) E s := by
  have hl : s.heap.IsList D vs.toArray := ⟨_, (N _ (.head _)).1, rfl, k, rfl⟩
  refine wpAny_pyIter_list hl ?_
  have hne : D ≠ s.heap.objs.size := Nat.ne_of_lt (Heap.lt_size (N _ (.head _)).1)
  obtain ⟨F₁, N₁, n₁, z1, z2⟩ := stay_push { cls := .type "list_iterator", data := .fields #[.ref D, .int 0 0] } F N
  have W := Walks.list (prog := prog) (w := w) hh s.heap.objs.size D hne vs.toArray
  refine loop_core K W (fun i s' v Q' E' st q => letGo_listiter st.1 q) ⟨⟨_, Heap.get?_push_size _ rfl, rfl, rfl⟩, hl.at fun o e => Heap.get?_push_of_some _ e⟩ (fun i h st => by obtain ⟨o, e, _⟩ := st.1; exact ⟨o, e⟩)
    (fun b hb => by
      rcases List.mem_cons.mp hb with rfl | hb
      · exact .inl rfl
      · exact .inr (by rw [List.mem_singleton.mp hb]; exact .head _)) F₁ N₁ z1 z2 n₁ hK (fun i v o m' news' h' dr tk hi hP k' n' F' N' => turn _ i v o m' news' h' dr tk (by simpa using hi) (by simpa using hP) k' n' F' N') (fun m' news' h' dr tk hk F' N' => done m' news' h' dr tk (by simpa using hk) F' N')
/-- over a tuple of the ledger -/
theorem loop_tuple {D : Addr} {vs : List Value} {k : Nat} (K : Nat → (Str → Option Value) → List (Addr × Obj) → Prop) (hh : A.handled = none) (F : Fr h₀ L s.heap m) (N : News h₀ L s.heap ([(D, ({ cls := .type "tuple", data := .seq vs.toArray k } : Obj))] ++ news)) (hK : K 0 m news)
    (turn : ∀ I i v o m' news' h' dr tk, i < vs.length → vs[i]? = some v → K i m' news' → (∀ p ∈ [(D, ({ cls := .type "tuple", data := .seq vs.toArray k } : Obj))] ++ news', p.1 ≠ I) → Fr h₀ L h' m' → News h₀ L h' ((I, o) :: ([(D, ({ cls := .type "tuple", data := .seq vs.toArray k } : Obj))] ++ news')) →
      wpAny (model prog w) A (assign target env v) (fun _ s₃ => wpAny (model prog w) A (execs body env) (TurnEnd h₀ L I o [(D, ({ cls := .type "tuple", data := .seq vs.toArray k } : Obj))] s (K (i + 1)) Q) E s₃) E { s with heap := h', drawn := dr, toks := tk })
    (done : ∀ m' news' h' dr tk, K vs.length m' news' → Fr h₀ L h' m' → News h₀ L h' ([(D, ({ cls := .type "tuple", data := .seq vs.toArray k } : Obj))] ++ news') → Q .next { s with heap := h', drawn := dr, toks := tk }) :
    wpAny (model prog w) A (pyIter (.ref D)) (LoopJ prog w A env target body Q E) E s := by
  have hl : IsTup s.heap D vs.toArray := ⟨_, (N _ (.head _)).1, rfl, k, rfl⟩
  refine wpAny_pyIter_tuple hl ?_
  have hne : D ≠ s.heap.objs.size := Nat.ne_of_lt (Heap.lt_size (N _ (.head _)).1)
  obtain ⟨F₁, N₁, n₁, z1, z2⟩ := stay_push { cls := .type "tuple_iterator", data := .fields #[.ref D, .int 0 0] } F N
  have W := Walks.tuple (prog := prog) (w := w) hh s.heap.objs.size D hne vs.toArray
  refine loop_core K W (fun i s' v Q' E' st q => letGo_tupleiter st.1 q) ⟨⟨_, Heap.get?_push_size _ rfl, rfl, rfl⟩, hl.push _⟩ (fun i h st => by obtain ⟨o, e, _⟩ := st.1; exact ⟨o, e⟩)
    (fun b hb => by
      rcases List.mem_cons.mp hb with rfl | hb
      · exact .inl rfl
      · exact .inr (by rw [List.mem_singleton.mp hb]; exact .head _)) F₁ N₁ z1 z2 n₁ hK (fun i v o m' news' h' dr tk hi hP k' n' F' N' => turn _ i v o m' news' h' dr tk (by simpa using hi) (by simpa using hP) k' n' F' N') (fun m' news' h' dr tk hk F' N' => done m' news' h' dr tk (by simpa using hk) F' N')
/-- over a range by ones -/
theorem loop_range {R : Addr} {n : Nat} {x : Str} {px : Pos} {t u v : Tok} (K : Nat → (Str → Option Value) → List (Addr × Obj) → Prop) (hn : n ≤ 8) (hh : A.handled = none) (F : Fr h₀ L s.heap m) (N : News h₀ L s.heap news) (hR : IsRange s.heap R 0 n 1 t u v) (hK : K 0 m news)
    (turn : ∀ I i t o m' news' h' dr tk, i < n → K i m' news' → (∀ p ∈ news', p.1 ≠ I) → Fr h₀ L h' m' → News h₀ L h' ((I, o) :: news') →
      wpAny (model prog w) A (assign (.Name x px) env (.int (i : Int) t)) (fun _ s₃ => wpAny (model prog w) A (execs body env) (TurnEnd h₀ L I o [] s (K (i + 1)) Q) E s₃) E { s with heap := h', drawn := dr, toks := tk })
    (done : ∀ m' news' h' dr tk, K n m' news' → Fr h₀ L h' m' → News h₀ L h' news' → Q .next { s with heap := h', drawn := dr, toks := tk }) :
    wpAny (model prog w) A (pyIter (.ref R)) (LoopJ prog w A env (.Name x px) body Q E) E s := by
  refine wpAny_pyIter_range hR (small_range hn).1 ?_
  rw [(small_range hn).2]
  obtain ⟨F₁, N₁, n₁, z1, z2⟩ := stay_push { cls := .type "range_iterator", data := .fields #[rawInt 0, rawInt n, rawInt 1] } F N
  have W := Walks.range (prog := prog) (w := w) hh s.heap.objs.size 0 1 n
  refine loop_core (src := []) K W (fun i s' v Q' E' st q => by unfold letOwnedTupleGo; exact wpAny_pure q) (by show IsRangeIter _ _ _ _ _; simpa using Heap.get?_push_size _ rfl) (fun i h st => ⟨_, st⟩)
    (fun b hb => .inl (List.mem_singleton.mp hb)) F₁ N₁ z1 z2 n₁ hK (fun i v o m' news' h' dr tk hi hP k' n' F' N' => ?_) (fun m' news' h' dr tk hk F' N' => done m' news' h' dr tk hk F' N')
  obtain ⟨t1, rfl⟩ := hP
  rw [show (0 : Int) + (i : Int) * 1 = (i : Int) by omega]
  exact turn _ i t1 o m' news' h' dr tk hi k' n' F' N'
end
end Mine
end
section
open PySem PySem.W PySem.Spec PySem.Calls PyProof.Rows
set_option maxRecDepth 100000
namespace Mine
noncomputable abbrev upd (x : Str) (c : Option Value) (m : Str → Option Value) : Str → Option Value := fun y => if y = x then c else m y
theorem upd_of {x : Str} {m m' : Str → Option Value} (h : ∀ y, y ≠ x → m' y = m y) : m' = upd x (m' x) m := by
  funext y
  by_cases q : y = x
  · rw [q]; simp [upd]
  · simp [upd, q, h y q]
theorem ne_of_map {I : Addr} {l l' : List (Addr × Obj)} (h : ∀ p ∈ l, p.1 ≠ I) (e : l'.map (·.1) = l.map (·.1)) : ∀ p ∈ l', p.1 ≠ I := fun p hp => by
  have : p.1 ∈ l.map (·.1) := e ▸ List.mem_map_of_mem hp
  obtain ⟨q, hq, e⟩ := List.mem_map.mp this
  exact e ▸ h q hq
section
variable {prog : Program} {w : World} {A : Around} {E : Value → Shared → Prop} {s : Shared} {env : Env} {h₀ : Heap} {L : Addr} {m : Str → Option Value} {Q : Flow → Shared → Prop} {target : Expr} {body : List Stmt}
noncomputable def KA (x : Str) (m : Str → Option Value) (Z S : Addr) (oZ : Obj) (c1 c2 : Addr × Obj) (m' : Str → Option Value) (news' : List (Addr × Obj)) : Prop :=
  (∀ y, y ≠ x → m' y = m y) ∧ ∃ a ta tb k, news' = [(Z, oZ), (S, storeObj a 0 ta tb k), c1, c2] ∧ 0 ≤ a ∧ a < 10 ^ 90
theorem loopA {D T Z S : Addr} {oT oZ : Obj} {t0 t1 : Tok} {c1 c2 : Addr × Obj} {ws : List Value} {ns : List Int} {x : Str} (hh : A.handled = none) (F : Fr h₀ L s.heap m)
    (N : News h₀ L s.heap [(D, listOf ws.toArray 0), (T, oT), (Z, oZ), (S, listOf #[.int 0 t0, .int 0 t1] 0), c1, c2]) (hI : IntsAre ws ns)
    (turn : ∀ I n t a ta tb k c o h' dr tk, 0 ≤ a → a < 10 ^ 90 → AllNe I [(D, listOf ws.toArray 0), (Z, oZ), (S, storeObj a 0 ta tb k), c1, c2] → Fr h₀ L h' (upd x c m) → News h₀ L h' [(I, o), (D, listOf ws.toArray 0), (Z, oZ), (S, storeObj a 0 ta tb k), c1, c2] →
      wpAny (model prog w) A (assign target env (.int n t)) (fun _ s₃ => wpAny (model prog w) A (execs body env) (TurnEnd h₀ L I o [(D, listOf ws.toArray 0)] s (KA x m Z S oZ c1 c2) Q) E s₃) E { s with heap := h', drawn := dr, toks := tk })
    (done : ∀ a ta tb k c h' dr tk, 0 ≤ a → a < 10 ^ 90 → Fr h₀ L h' (upd x c m) → News h₀ L h' [(Z, oZ), (S, storeObj a 0 ta tb k), c1, c2] → Q .next { s with heap := h', drawn := dr, toks := tk }) :
    wpAny (model prog w) A (pyIter (.ref D)) (LoopJ prog w A env target body Q E) E s := by
  refine loop_list (fun _ => KA x m Z S oZ c1 c2) hh F (news := [(Z, oZ), (S, listOf #[.int 0 t0, .int 0 t1] 0), c1, c2]) (fun p hp => N p (by
    rcases List.mem_cons.mp hp with rfl | hp
    · exact .head _
    · exact .tail _ (.tail _ hp))) ⟨fun _ _ => rfl, 0, t0, t1, 0, rfl, Int.le_refl _, by decide⟩ (fun I i v o m' news' h' dr tk hi hv hk n' F' N' => ?_) (fun m' news' h' dr tk hk F' N' => ?_)
  · obtain ⟨hm, a, ta, tb, k, rfl, a0, a1⟩ := hk
    obtain ⟨t, ht⟩ := hI.get i (ns[i]'(by rw [← hI.length]; exact hi)) (by simp)
    rw [ht] at hv; cases hv
    rw [upd_of hm] at F'
    exact turn I _ t a ta tb k _ o h' dr tk a0 a1 (allNe_of n') F' N'
  · obtain ⟨hm, a, ta, tb, k, rfl, a0, a1⟩ := hk
    rw [upd_of hm] at F'
    exact done a ta tb k _ h' dr tk a0 a1 F' fun p hp => N' p (.tail _ hp)
theorem endA {D Z S I L : Addr} {oD oZ o : Obj} {c1 c2 : Addr × Obj} {x : Str} {v : Option Value} {c : Option Value} {a : Int} {ta tb : Tok} {k : Nat} {h' : Heap} {dr : Drawn} {tk : Nat} (F : Fr h₀ L h' (upd x v (upd x c m))) (N : News h₀ L h' [(I, o), (D, oD), (Z, oZ), (S, storeObj a 0 ta tb k), c1, c2])
    (hn : AllNe I [(D, oD), (Z, oZ), (S, storeObj a 0 ta tb k), c1, c2]) (a0 : 0 ≤ a) (a1 : a < 10 ^ 90) : TurnEnd h₀ L I o [(D, oD)] s (KA x m Z S oZ c1 c2) Q .next { s with heap := h', drawn := dr, toks := tk } := by
  refine ⟨h', dr, tk, _, _, rfl, F, N, fun p hp => ?_, ?_⟩
  case refine_2 => exact ⟨fun y hy => by simp [upd, hy], a, ta, tb, k, rfl, a0, a1⟩
  obtain ⟨h1, h2, h3, h4, h5, _⟩ := hn
  rcases List.mem_cons.mp hp with rfl | hp
  · exact h1
  rcases List.mem_cons.mp hp with rfl | hp
  · exact h2
  rcases List.mem_cons.mp hp with rfl | hp
  · exact h3
  rcases List.mem_cons.mp hp with rfl | hp
  · exact h4
  rw [List.mem_singleton.mp hp]; exact h5
end
end Mine
end
section
open PySem PySem.W PySem.Spec PySem.Calls PyProof.Rows
set_option maxRecDepth 100000
namespace Mine
section
variable {w : World} {mean : ExcName → Option Value} {mg mb : Str → Option Value}
theorem ne_of_none {h₀ h : Heap} {L x : Addr} {news : List (Addr × Obj)} (N : News h₀ L h news) (hx : h.get? x = none) : ∀ p ∈ news, p.1 ≠ x := fun p hp e => by
  have := (N p hp).1
  rw [e, hx] at this; cases this
theorem ne_frame {h₀ h : Heap} {L x : Addr} {m : Str → Option Value} (F : Fr h₀ L h m) (hx : h.get? x = none) : x ≠ L := fun e => by
  obtain ⟨o, _, _, ho, _⟩ := F.ns
  rw [← e, hx] at ho; cases ho
theorem sets_use {n : Int} {tk₀ : Tok} {A : Around} {base h₀ : Heap} {outer : List Env} {L : Addr} {m : Str → Option Value} {env : Env} {news : List (Addr × Obj)} {s : Shared} {Q E : Value → Shared → Prop} (n0 : 0 ≤ n) (n8 : n ≤ 8)
    (B : Below A base outer h₀) (F : Fr h₀ L s.heap m) (X : (hd.heap_39 w.params).In h₀) (T : Top hd.view_39 LO mean mg mb h₀) (N : News h₀ L s.heap news) (hh : A.handled = none) (hf : env.frame = some L) (hk : env.scope.kind = .function)
    (hD : A.depth + 1 + 40 < recursionLimit) (hU : A.units + 3 + 300 < cLine)
    (h : ∀ h' tk x dx hs t tk2 n2, Fr h₀ L h' m → News h₀ L h' ((x, instObj 167 dx) :: (dx, setsDict hs t (2 ^ n.toNat - 1) tk2 n2) :: news) → AllNe x news → AllNe dx news → @Ne Nat dx x → Q (.ref x) { s with heap := h', toks := tk }) :
    wpAny (model PR w) (A.deeper env) (call (.ref 167) [.int n tk₀]) Q E s :=
  sets_call n0 n8 (Cal.site B F X T hh hf hk) (by simp only [depth_deeper]; first | exact Nat.lt_of_le_of_lt (by (simp +arith); fail_if_success (focus skip)) hD | exact Nat.lt_of_le_of_lt (by (simp +arith); fail_if_success (focus skip)) hU | exact Nat.lt_of_le_of_lt (by (simp +arith); fail_if_success (focus skip)) hD9 | exact Nat.lt_of_le_of_lt (by (simp +arith); fail_if_success (focus skip)) hU9 | omega) (by simp only [units_deeper]; first | exact Nat.lt_of_le_of_lt (by (simp +arith); fail_if_success (focus skip)) hD | exact Nat.lt_of_le_of_lt (by (simp +arith); fail_if_success (focus skip)) hU | exact Nat.lt_of_le_of_lt (by (simp +arith); fail_if_success (focus skip)) hD9 | exact Nat.lt_of_le_of_lt (by (simp +arith); fail_if_success (focus skip)) hU9 | omega) fun h' tk x dx hs t tk2 n2 kp nx ndx lt ex edx => by
    refine h h' tk x dx hs t tk2 n2 (F.keeps kp) (fun q hq => ?_) (allNe_of (ne_of_none N nx)) (allNe_of (ne_of_none N ndx)) (Nat.ne_of_lt lt)
    rcases List.mem_cons.mp hq with rfl | hq
    · exact ⟨ex, ne_frame F nx, Kept.none F.keep nx⟩
    · rcases List.mem_cons.mp hq with rfl | hq
      · exact ⟨edx, ne_frame F ndx, Kept.none F.keep ndx⟩
      · exact N.grown kp q hq
theorem rules_use {x : Addr} {A : Around} {base h₀ : Heap} {outer : List Env} {L : Addr} {m : Str → Option Value} {env : Env} {news : List (Addr × Obj)} {s : Shared} {Q E : Value → Shared → Prop}
    (B : Below A base outer h₀) (F : Fr h₀ L s.heap m) (X : (hd.heap_39 w.params).In h₀) (T : Top hd.view_39 LO mean mg mb h₀) (N : News h₀ L s.heap news) (hh : A.handled = none) (hf : env.frame = some L) (hk : env.scope.kind = .function)
    (hD : A.depth + 1 + 80 < recursionLimit) (hU : A.units + 3 + 500 < cLine)
    (h : ∀ D vs k owns h' dr tk, vs.length = 15 → RLater w owns vs rulesS → Fr h₀ L h' m → News h₀ L h' ((D, { cls := .type "list", data := .seq vs.toArray k }) :: (news ++ owns)) → AllNe D news → Apart owns news → Q (.ref D) { s with heap := h', drawn := dr, toks := tk }) :
    wpAny (model PR w) (A.deeper env) (call (.ref 159) [.ref x]) Q E s :=
  rules_call (Cal.site B F X T hh hf hk) (by simp only [depth_deeper]; first | exact Nat.lt_of_le_of_lt (by (simp +arith); fail_if_success (focus skip)) hD | exact Nat.lt_of_le_of_lt (by (simp +arith); fail_if_success (focus skip)) hU | exact Nat.lt_of_le_of_lt (by (simp +arith); fail_if_success (focus skip)) hD9 | exact Nat.lt_of_le_of_lt (by (simp +arith); fail_if_success (focus skip)) hU9 | omega) (by simp only [units_deeper]; first | exact Nat.lt_of_le_of_lt (by (simp +arith); fail_if_success (focus skip)) hD | exact Nat.lt_of_le_of_lt (by (simp +arith); fail_if_success (focus skip)) hU | exact Nat.lt_of_le_of_lt (by (simp +arith); fail_if_success (focus skip)) hD9 | exact Nat.lt_of_le_of_lt (by (simp +arith); fail_if_success (focus skip)) hU9 | omega) fun D vs k owns h' dr tk kp nD eD hs O hR => by
    refine h D vs.toList k owns h' dr tk (by simpa using hs) hR (F.keeps kp) ?_ (allNe_of (ne_of_none N nD)) (apart_ofN O N)
    rw [Array.toArray_toList]
    have := (lst_use F N kp nD eD O).2
    simpa only [List.cons_append] using this
end
end Mine
end
section
open PySem PySem.W PySem.Spec PySem.Calls PyProof.Rows
set_option maxRecDepth 100000
namespace Mine
section
variable {w : World} {mean : ExcName → Option Value} {mg mb : Str → Option Value}
theorem lines_l5_1 : True := by
  k_with_none
  (k_with "h ne" => (refine neN ?_; (try dsimp only); first | assumption | (refine Ne.symm ?_; assumption) | (refine Nat.ne_of_lt ?_; assumption) | (refine Nat.ne_of_gt ?_; assumption) | ((repeat (rename (_ ∧ _) => hA9; first | ((repeat (first | exact hA9 | exact Ne.symm hA9 | exact Nat.ne_of_lt hA9 | exact Nat.ne_of_gt hA9 | (obtain ⟨h9a, hA9⟩ := hA9; first | exact h9a | exact Ne.symm h9a | exact Nat.ne_of_lt h9a | exact Nat.ne_of_gt h9a | exact h9a.1 | exact h9a.2.1 | exact h9a.2.2 | exact Ne.symm h9a.1 | exact Ne.symm h9a.2.1 | exact Ne.symm h9a.2.2 | clear h9a))); fail_if_success (focus skip)) | clear hA9)); fail_if_success (focus skip)) | omega))
  (k_with "h rel" => first | assumption | exact IsTup.keeps (by assumption) (Fr.keep (by assumption)) | exact EnvAt.keeps (by assumption) (Fr.keep (by assumption)) | exact SetsAt.keeps (by assumption) (Fr.keep (by assumption)))
  (k_with "call builtin:len" => (k_here; (with_reducible show wpAny _ _ (call (Value.builtin "len") [Value.ref _]) _ _ _); first | refine len_1 (by ktr_rel) ?_ | refine len_2 (by ktr_rel) ?_ | refine len_3 (by ktr_rel) ?_ | refine len_4 (by ktr_rel) ?_))
  (k_with "subscriptTail" => (k_here; (with_reducible show wpAny _ _ (subscriptTail _ _ (Value.ref _) (Value.str _ _)) _ _ _); k_dflt (refine env_item (by (ktr_rel); fail_if_success (focus skip)) (by (assumption); fail_if_success (focus skip)) ?_ (by (with_unfolding_all rfl); fail_if_success (focus skip)); k_whole; intro eT)))
  (k_with "subscriptTail" => (k_here; (with_reducible show wpAny _ _ (subscriptTail _ _ (Value.ref _) (Value.int _ _)) _ _ _); k_dflt (refine item_tupleT (by (ktr_rel); fail_if_success (focus skip)) (by (decide); fail_if_success (focus skip)) (by (decide); fail_if_success (focus skip)) (by (rfl); fail_if_success (focus skip)) (by (rfl); fail_if_success (focus skip)) ?_; k_whole)))
  (k_with "subscriptTail Name Slice ref ref" => (k_here; k_dflt (refine tail_slice (by (k_asm); fail_if_success (focus skip)) (by (k_asm); fail_if_success (focus skip)) (by (ktr_rel); fail_if_success (focus skip)) (by (exact Nat.le_of_ble_eq_true rfl); fail_if_success (focus skip)) ?_ (by (with_unfolding_all rfl); fail_if_success (focus skip)) (by (intro _; with_unfolding_all rfl); fail_if_success (focus skip)); k_whole; intro D' h' F' N' l1; (try k_lt l1); (try k_sweep))))
  (k_with "exec Assign cons ListComp" => (k_here; (with_reducible rename PyProof.Rows.News _ _ _ _ => nx9); (replace nx9 := News.last2 nx9); (change PyProof.Rows.News _ _ _ [(_, _), (_, _)] at nx9); (repeat (rename ((_ : Nat) < _ ∧ _) => lx9; clear lx9)); k_dflt (refine Assign_ListComp_T (by k_asm) (by rfl) (by with_unfolding_all rfl) (by with_unfolding_all rfl) (by decide) (by rfl) (by decide) (by rfl) (by rfl) (by rfl) ?_); (repeat (first | walk1 | (dsimp only; walk1))); k_dflt (refine SrcT.ledger (by first | rfl | assumption) (by k_asm) (by k_asm) (by k_mem) (by exact Nat.le_of_ble_eq_true rfl) ?_; intro g'; lcg_lit)))
  (k_with "h units" => (simp only [units_deeper, units_in1]; first | exact Nat.lt_of_le_of_lt (by (simp +arith); fail_if_success (focus skip)) hD | exact Nat.lt_of_le_of_lt (by (simp +arith); fail_if_success (focus skip)) hU | exact Nat.lt_of_le_of_lt (by (simp +arith); fail_if_success (focus skip)) hD9 | exact Nat.lt_of_le_of_lt (by (simp +arith); fail_if_success (focus skip)) hU9 | omega))
  (k_with "compareOp Eq ref ref" => (k_here; k_dflt (first
      | (refine eq_one_t (by (ktr_rel); fail_if_success (focus skip)) (by (exact News.isTup (by assumption) (by k_mem)); fail_if_success (focus skip)) (by (ktr_units); fail_if_success (focus skip)) (by (first | decide | simp_all); fail_if_success (focus skip)) ?_; k_whole)
      | (refine eq_one_f (by (ktr_rel); fail_if_success (focus skip)) (by (exact News.isTup (by assumption) (by k_mem)); fail_if_success (focus skip)) (by (ktr_units); fail_if_success (focus skip)) (by (first | decide | simp_all); fail_if_success (focus skip)) ?_; k_whole))))
  (k_with "h rel" => exact SAt.keeps (by assumption) (Fr.keep (by assumption)))
  (k_with "compareOp In bool ref" => (k_here; k_dflt (refine in_bools (News.isList (by k_asm) (by k_mem)) ?_)))
  (k_with "compareOp NotIn bool ref" => (k_here; k_dflt (refine notIn_bools (News.isList (by k_asm) (by k_mem)) ?_)))
  (k_with "h inst" => exact InstAt.keeps (by assumption) (Fr.keep (by assumption)))
  (k_with "compareOp NotIn str ref" => (k_here; k_dflt (first | refine env_notin (by ktr_rel) (by assumption) ?_ | refine env_notin_none (by ktr_rel) (by assumption) ?_)))
  (k_with "compareOp In ref ref" => (k_here; k_dflt (first
      | (refine in_two_t (by (exact News.isTup (by assumption) (by k_mem)); fail_if_success (focus skip)) (by (exact News.isTup (by assumption) (by k_mem)); fail_if_success (focus skip)) (by (exact News.isTup (by assumption) (by k_mem)); fail_if_success (focus skip)) (by (ktr_rel); fail_if_success (focus skip)) (by (ktr_units); fail_if_success (focus skip)) (by (first | decide | simp_all); fail_if_success (focus skip)) ?_; k_whole)
      | (refine in_two_f (by (exact News.isTup (by assumption) (by k_mem)); fail_if_success (focus skip)) (by (exact News.isTup (by assumption) (by k_mem)); fail_if_success (focus skip)) (by (exact News.isTup (by assumption) (by k_mem)); fail_if_success (focus skip)) (by (ktr_rel); fail_if_success (focus skip)) (by (ktr_units); fail_if_success (focus skip)) (by (first | decide | simp_all); fail_if_success (focus skip)) ?_; k_whole))))
  (k_with "compareOp NotIn ref ref" => (k_here; k_dflt (first
      | (refine notIn_four_t (by (exact News.isTup (by assumption) (by k_mem)); fail_if_success (focus skip)) (by (exact News.isTup (by assumption) (by k_mem)); fail_if_success (focus skip)) (by (exact News.isTup (by assumption) (by k_mem)); fail_if_success (focus skip)) (by (exact News.isTup (by assumption) (by k_mem)); fail_if_success (focus skip)) (by (exact News.isTup (by assumption) (by k_mem)); fail_if_success (focus skip)) (by (exact News.isTup (by assumption) (by k_mem)); fail_if_success (focus skip)) (by (ktr_units); fail_if_success (focus skip)) (by (first | decide | simp_all); fail_if_success (focus skip)) ?_; k_whole)
      | (refine notIn_four_f (by (exact News.isTup (by assumption) (by k_mem)); fail_if_success (focus skip)) (by (exact News.isTup (by assumption) (by k_mem)); fail_if_success (focus skip)) (by (exact News.isTup (by assumption) (by k_mem)); fail_if_success (focus skip)) (by (exact News.isTup (by assumption) (by k_mem)); fail_if_success (focus skip)) (by (exact News.isTup (by assumption) (by k_mem)); fail_if_success (focus skip)) (by (exact News.isTup (by assumption) (by k_mem)); fail_if_success (focus skip)) (by (ktr_units); fail_if_success (focus skip)) (by (first | decide | simp_all); fail_if_success (focus skip)) ?_; k_whole))))
  (k_with "storeName" => (k_here; k_dflt (refine storeX_U (by k_asm) (by k_asm) ?_ (by rfl) (by rfl)); intro h' F' N'; (try k_sweep)))
  trivial
theorem sat_handed {h : Heap} {v : Value} {t : St} (x : SAt h v t) : handedIn v = true := by cases x <;> rfl
/-- a table that stands where this object stands -/
noncomputable def EnvO (w : World) (b : Addr) (o : Obj) (e : Str → Option Int) : Prop := ∀ h : Heap, h.get? b = some o → EnvAt w h b e
theorem EnvO.at_ {b : Addr} {o : Obj} {e : Str → Option Int} {h₀ h : Heap} {L : Addr} {news : List (Addr × Obj)} (x : EnvO w b o e) (N : News h₀ L h news) (hm : (b, o) ∈ news) : EnvAt w h b e := x h (N _ hm).1
noncomputable def RuleL (w : World) (owns : List (Addr × Obj)) (xr : Addr) (r : RuleS) : Prop := ∀ h'', (hd.heap_39 w.params).In h'' → Tups h'' owns → RuleAt h'' (.ref xr) r
theorem RAt.get {h : Heap} {vs : List Value} {rs : List RuleS} (x : RAt h vs rs) : ∀ {i : Nat} {v : Value}, vs[i]? = some v → ∃ r, rs[i]? = some r ∧ RuleAt h v r := by
  induction x with
  | nil => intro i v e; simp at e
  | cons a _ ih =>
    intro i v e
    cases i with
    | zero => simp at e; subst e; exact ⟨_, rfl, a⟩
    | succ i => simpa using ih (by simpa using e)
theorem ruleL_of {owns : List (Addr × Obj)} {vs : List Value} {h : Heap} (hR : RLater w owns vs rulesS) (X : (hd.heap_39 w.params).In h) (T : Tups h owns) {i : Nat} {v : Value} (hv : vs[i]? = some v) : ∃ xr r, v = .ref xr ∧ rulesS[i]? = some r ∧ RuleL w owns xr r := by
  obtain ⟨r, hr, hA⟩ := (hR h X T).get hv
  obtain ⟨x, _, _, _, _, _, _, _, _, _, _, _, _, _, _, rfl, _⟩ := hA
  refine ⟨x, r, rfl, hr, fun h'' X'' T'' => ?_⟩
  obtain ⟨r', hr', hA'⟩ := (hR h'' X'' T'').get hv
  rw [hr] at hr'; cases hr'
  exact hA'
section
variable {A : Around} {h₀ : Heap} {L xr : Addr} {m : Str → Option Value} {news owns : List (Addr × Obj)} {s : Shared} {r : RuleS} {expr : Bool} {Q E : Value → Shared → Prop}
theorem rule_inst (F : Fr h₀ L s.heap m) (X : (hd.heap_39 w.params).In h₀) (N : News h₀ L s.heap news) (hR : RuleL w owns xr r) (hs : ∀ q ∈ owns, q ∈ news) :
    ∃ dx h1 h2 h3 h4 t1 t2 t3 t4 t5 lv rv na n, InstAt s.heap xr (instObj 113 dx) 113 (some (ruleDict h1 h2 h3 h4 t1 t2 t3 t4 t5 r.nm lv rv na n)) ∧ SAt s.heap lv r.left ∧ SAt s.heap rv r.right ∧ IsTup s.heap na #[] ∧ handedIn lv = true ∧ handedIn rv = true := by
  obtain ⟨x, dx, h1, h2, h3, h4, t1, t2, t3, t4, t5, lv, rv, na, n, e, ex, edx, hl, hr, hn⟩ := hR s.heap (X.keeps F.keep) fun q hq => (N q (hs q hq)).1
  cases e
  exact ⟨dx, h1, h2, h3, h4, t1, t2, t3, t4, t5, lv, rv, na, n, ⟨ex, rfl, rfl, edx⟩, hl, hr, hn, sat_handed hl, sat_handed hr⟩
theorem rule_left (F : Fr h₀ L s.heap m) (X : (hd.heap_39 w.params).In h₀) (N : News h₀ L s.heap news) (hR : RuleL w owns xr r) (hs : ∀ q ∈ owns, q ∈ news) (h : ∀ lv, SAt s.heap lv r.left → Q lv { s with toks := s.toks + 1 }) :
    wpAny (model PR w) A (getAttr (.ref xr) (Str.ofString "left") expr) Q E s := by
  obtain ⟨dx, h1, h2, h3, h4, t1, t2, t3, t4, t5, lv, rv, na, n, I, hl, hr, hn, z1, z2⟩ := rule_inst F X N hR hs
  refine get_own F X I (by k_is) (by k_is) (by k_is) (by k_is) (by rfl) z1 (h lv hl)
theorem rule_right (F : Fr h₀ L s.heap m) (X : (hd.heap_39 w.params).In h₀) (N : News h₀ L s.heap news) (hR : RuleL w owns xr r) (hs : ∀ q ∈ owns, q ∈ news) (h : ∀ rv, SAt s.heap rv r.right → Q rv { s with toks := s.toks + 1 }) :
    wpAny (model PR w) A (getAttr (.ref xr) (Str.ofString "right") expr) Q E s := by
  obtain ⟨dx, h1, h2, h3, h4, t1, t2, t3, t4, t5, lv, rv, na, n, I, hl, hr, hn, z1, z2⟩ := rule_inst F X N hR hs
  refine get_own F X I (by k_is) (by k_is) (by k_is) (by k_is) (by rfl) z2 (h rv hr)
theorem rule_name (F : Fr h₀ L s.heap m) (X : (hd.heap_39 w.params).In h₀) (N : News h₀ L s.heap news) (hR : RuleL w owns xr r) (hs : ∀ q ∈ owns, q ∈ news) (h : ∀ t, Q (.str r.nm t) { s with toks := s.toks + 1 }) :
    wpAny (model PR w) A (getAttr (.ref xr) (Str.ofString "name") expr) Q E s := by
  obtain ⟨dx, h1, h2, h3, h4, t1, t2, t3, t4, t5, lv, rv, na, n, I, hl, hr, hn, z1, z2⟩ := rule_inst F X N hR hs
  refine get_own F X I (by k_is) (by k_is) (by k_is) (by k_is) (by rfl) rfl (h t5)
theorem rule_needs (F : Fr h₀ L s.heap m) (X : (hd.heap_39 w.params).In h₀) (N : News h₀ L s.heap news) (hR : RuleL w owns xr r) (hs : ∀ q ∈ owns, q ∈ news) (h : ∀ na, IsTup s.heap na #[] → Q (.ref na) { s with toks := s.toks + 1 }) :
    wpAny (model PR w) A (getAttr (.ref xr) (Str.ofString "needs") expr) Q E s := by
  obtain ⟨dx, h1, h2, h3, h4, t1, t2, t3, t4, t5, lv, rv, na, n, I, hl, hr, hn, z1, z2⟩ := rule_inst F X N hR hs
  refine get_own F X I (by k_is) (by k_is) (by k_is) (by k_is) (by rfl) rfl (h na hn)
theorem ne_empty {a b : Addr} (ha : IsTup s.heap a #[]) (hb : IsTup s.heap b #[]) (hu : A.units < cLine) (h : Q (.bool false) s) : wpAny (model PR w) A (compareOp .NotEq (.ref a) (.ref b)) Q E s :=
  SeqAt.RcNeAt.tuples (A := A) (s := s) (e := fun _ => true) ha hb hu (fun j h1 => absurd h1 (Nat.not_lt_zero j)) PR w E Q h
theorem empty_tuple {a : Addr} (F : Fr h₀ L s.heap m) (N : News h₀ L s.heap news) (ha : IsTup s.heap a #[])
    (h : ∀ D h', Fr h₀ L h' m → News h₀ L h' ((D, ({ cls := .type "tuple", data := .seq #[] } : Obj)) :: news) → IsTup h' a #[] → AllLt D news → Q (.ref D) { s with heap := h' }) : wpAny (model PR w) A (newTuple []) Q E s :=
  wpAny_newTuple (h _ _ (F.push _) (News.push F N _) (ha.push _) (allLt_of fun p hp => Heap.lt_size (N p hp).1)) (by size_fits)
theorem tuple_use {its : List Value} (F : Fr h₀ L s.heap m) (N : News h₀ L s.heap news) (hz : its.length ≤ 100)
    (h : ∀ D h', Fr h₀ L h' m → News h₀ L h' ((D, ({ cls := .type "tuple", data := .seq its.toArray } : Obj)) :: news) → AllLt D news → Q (.ref D) { s with heap := h' }) : wpAny (model PR w) A (newTuple its) Q E s :=
  wpAny_newTuple (h _ _ (F.push _) (News.push F N _) (allLt_of fun p hp => Heap.lt_size (N p hp).1)) (by rw [sizeLine_eq]; omega)
theorem setsAt_news {x dx : Addr} {h : Heap} {hs : Int} {t : Tok} {W : Int} {tk : Tok} {n : Nat} (N : News h₀ L h news) (h1 : (x, instObj 167 dx) ∈ news) (h2 : (dx, setsDict hs t W tk n) ∈ news) : SetsAt h x W :=
  ⟨dx, hs, t, tk, n, (N _ h1).1, rfl, rfl, (N _ h2).1⟩
end
theorem num_use {e : Str → Option Int} {t : St} {many : Nat} {mi : Int} {ea : Addr} {v : Value} {tk : Tok} {A : Around} {base h₀ : Heap} {outer : List Env} {L : Addr} {m : Str → Option Value} {env : Env} {news : List (Addr × Obj)} {s : Shared} {Q E : Value → Shared → Prop}
    (B : Below A base outer h₀) (F : Fr h₀ L s.heap m) (X : (hd.heap_39 w.params).In h₀) (T : Top hd.view_39 LO mean mg mb h₀) (N : News h₀ L s.heap news) (hh : A.handled = none) (hf : env.frame = some L) (hk : env.scope.kind = .function)
    (hv : SAt s.heap v t) (he : EnvAt w s.heap ea e) (hmi : (many : Int) = mi) (hm : many ≤ 8) (hok : t.ok e) (hD : A.depth + 1 + (t.size + 1) < recursionLimit) (hU : A.units + 3 + 8 * (t.size + 1) < cLine)
    (h : ∀ h' tk' t', Fr h₀ L h' m → News h₀ L h' news → Q (.int (t.num e many) t') { s with heap := h', toks := tk' }) : wpAny (model PR w) (A.deeper env) (call (.ref 195) [v, .ref ea, .int mi tk]) Q E s := by
  subst hmi
  exact num_call e t many hm (Cal.site B F X T hh hf hk) hD hU hv he hok fun h' tk' t' kp => h h' tk' t' (F.keeps kp) (N.grown kp)
theorem ne_int_f {A : Around} {s : Shared} {a b : Int} {t u : Tok} {Q E : Value → Shared → Prop} (e : a = b) (h : Q (.bool false) s) : wpAny (model PR w) A (compareOp .NotEq (.int a t) (.int b u)) Q E s :=
  PyProof.Rows.ne_int (by rw [e]; simpa using h)
end
noncomputable abbrev strsObj (zs : List Value) (k : Nat) : Obj := { cls := .type "list", data := .seq zs.toArray k }
noncomputable abbrev rnames : List Str := rulesS.map (·.nm)
noncomputable def KB (m : Str → Option Value) (b x8 d8 Z S : Addr) (oB o8 od8 oS : Obj) (c1 c2 : Addr × Obj) (owns : List (Addr × Obj)) (i : Nat) (m' : Str → Option Value) (news' : List (Addr × Obj)) : Prop :=
  (∀ y, y ≠ Str.ofString "rule" → y ≠ Str.ofString "left" → y ≠ Str.ofString "right" → m' y = m y) ∧ ∃ zs k, StrsAre zs (rnames.take i) ∧ news' = (b, oB) :: (x8, o8) :: (d8, od8) :: (Z, strsObj zs k) :: (S, oS) :: c1 :: c2 :: owns
theorem upd3_of {x y z : Str} {m m' : Str → Option Value} (h : ∀ q, q ≠ x → q ≠ y → q ≠ z → m' q = m q) : m' = upd x (m' x) (upd y (m' y) (upd z (m' z) m)) := by
  funext q
  show m' q = if q = x then m' x else if q = y then m' y else if q = z then m' z else m q
  split
  · rename_i h1; rw [h1]
  · split
    · rename_i h2; rw [h2]
    · split
      · rename_i h3; rw [h3]
      · rename_i h1 h2 h3; exact h q h1 h2 h3
section
variable {w : World} {A : Around} {E : Value → Shared → Prop} {s : Shared} {env : Env} {h₀ : Heap} {L : Addr} {m : Str → Option Value} {Q : Flow → Shared → Prop} {target : Expr} {body : List Stmt}
noncomputable abbrev updR (c1 c2 c3 : Option Value) (m : Str → Option Value) : Str → Option Value := upd (Str.ofString "rule") c1 (upd (Str.ofString "left") c2 (upd (Str.ofString "right") c3 m))
theorem loopB {RL T8 b x8 d8 Z S : Addr} {oT oB o8 od8 oS : Obj} {c1 c2 : Addr × Obj} {vs : List Value} {k : Nat} {owns : List (Addr × Obj)} (hh : A.handled = none) (F : Fr h₀ L s.heap m)
    (N : News h₀ L s.heap ((RL, strsObj vs k) :: (T8, oT) :: (b, oB) :: (x8, o8) :: (d8, od8) :: (Z, listOf #[] 0) :: (S, oS) :: c1 :: c2 :: owns)) (X : (hd.heap_39 w.params).In h₀) (hlen : vs.length = 15) (hR : RLater w owns vs rulesS)
    (turn : ∀ I i xr r o zs kz r1 r2 r3 h' dr tk, i < 15 → rulesS[i]? = some r → RuleL w owns xr r → StrsAre zs (rnames.take i) → AllNe I [(RL, strsObj vs k), (b, oB), (x8, o8), (d8, od8), (Z, strsObj zs kz), (S, oS), c1, c2] → (∀ q ∈ owns, q.1 ≠ I) →
      Fr h₀ L h' (updR r1 r2 r3 m) → News h₀ L h' ((I, o) :: (RL, strsObj vs k) :: (b, oB) :: (x8, o8) :: (d8, od8) :: (Z, strsObj zs kz) :: (S, oS) :: c1 :: c2 :: owns) →
      wpAny (model PR w) A (assign target env (.ref xr)) (fun _ s₃ => wpAny (model PR w) A (execs body env) (TurnEnd h₀ L I o [(RL, strsObj vs k)] s (KB m b x8 d8 Z S oB o8 od8 oS c1 c2 owns (i + 1)) Q) E s₃) E { s with heap := h', drawn := dr, toks := tk })
    (done : ∀ r1 r2 r3 h' dr tk, Fr h₀ L h' (updR r1 r2 r3 m) → News h₀ L h' [(S, oS), c1, c2] → Q .next { s with heap := h', drawn := dr, toks := tk }) :
    wpAny (model PR w) A (pyIter (.ref RL)) (LoopJ PR w A env target body Q E) E s := by
  refine loop_list (KB m b x8 d8 Z S oB o8 od8 oS c1 c2 owns) hh F (news := (b, oB) :: (x8, o8) :: (d8, od8) :: (Z, listOf #[] 0) :: (S, oS) :: c1 :: c2 :: owns) (fun p hp => N p (by
    rcases List.mem_cons.mp hp with rfl | hp
    · exact .head _
    · exact .tail _ (.tail _ hp))) ⟨fun _ _ _ _ => rfl, [], 0, .nil, rfl⟩ (fun I i v o m' news' h' dr tk hi hv hk n' F' N' => ?_) (fun m' news' h' dr tk hk F' N' => ?_)
  · obtain ⟨hm, zs, kz, hz, rfl⟩ := hk
    rw [upd3_of hm] at F'
    have To : Tups h' owns := fun q hq => (N' q (.tail _ (.tail _ (.tail _ (.tail _ (.tail _ (.tail _ (.tail _ (.tail _ (.tail _ hq)))))))))).1
    obtain ⟨xr, r, rfl, hr, hL⟩ := ruleL_of hR (X.keeps F'.keep) To hv
    exact turn I i xr r o zs kz _ _ _ h' dr tk (hlen ▸ hi) hr hL hz (allNe_of fun p hp => n' p (by
      rcases List.mem_cons.mp hp with rfl | hp
      · exact .head _
      · exact .tail _ (List.mem_append_left owns hp))) (fun q hq => n' q (.tail _ (.tail _ (.tail _ (.tail _ (.tail _ (.tail _ (.tail _ (.tail _ hq))))))))) F' N'
  · obtain ⟨hm, zs, kz, hz, rfl⟩ := hk
    rw [upd3_of hm] at F'
    exact done _ _ _ h' dr tk F' fun p hp => N' p (.tail _ (.tail _ (.tail _ (.tail _ (.tail _ (by
      rcases List.mem_cons.mp hp with rfl | hp
      · exact .head _
      · rcases List.mem_cons.mp hp with rfl | hp
        · exact .tail _ (.head _)
        · rw [List.mem_singleton.mp hp]; exact .tail _ (.tail _ (.head _))))))))
theorem endB {RL b x8 d8 Z S I : Addr} {oB o8 od8 oS o : Obj} {c1 c2 : Addr × Obj} {vs zs : List Value} {k kz i : Nat} {owns : List (Addr × Obj)} {m' : Str → Option Value} {h' : Heap} {dr : Drawn} {tk : Nat} {t : Tok} {r : RuleS} (hr : rulesS[i]? = some r) (hz : StrsAre zs (rnames.take i))
    (F : Fr h₀ L h' m') (hm : ∀ y, y ≠ Str.ofString "rule" → y ≠ Str.ofString "left" → y ≠ Str.ofString "right" → m' y = m y)
    (N : News h₀ L h' ((I, o) :: (RL, strsObj vs k) :: (b, oB) :: (x8, o8) :: (d8, od8) :: (Z, { cls := .type "list", data := .seq (zs.toArray.push (Value.str r.nm t)) kz }) :: (S, oS) :: c1 :: c2 :: owns))
    (hn : AllNe I [(RL, strsObj vs k), (b, oB), (x8, o8), (d8, od8), (Z, strsObj zs kz), (S, oS), c1, c2]) (ho : ∀ q ∈ owns, q.1 ≠ I) :
    TurnEnd h₀ L I o [(RL, strsObj vs k)] s (KB m b x8 d8 Z S oB o8 od8 oS c1 c2 owns (i + 1)) Q .next { s with heap := h', drawn := dr, toks := tk } := by
  have e : zs.toArray.push (Value.str r.nm t) = (zs ++ [Value.str r.nm t]).toArray := by simp
  rw [e] at N
  refine ⟨h', dr, tk, m', _, rfl, F, N, fun p hp => ?_, ?_⟩
  case refine_2 =>
    refine ⟨hm, zs ++ [.str r.nm t], kz, ?_, rfl⟩
    rw [List.take_add_one, List.getElem?_map, hr]
    exact StrsAre.append' hz (.cons _ _ .nil)
  obtain ⟨h1, h2, h3, h4, h5, h6, h7, h8, _⟩ := hn
  rcases List.mem_cons.mp hp with rfl | hp
  · exact h1
  rcases List.mem_cons.mp hp with rfl | hp
  · exact h2
  rcases List.mem_cons.mp hp with rfl | hp
  · exact h3
  rcases List.mem_cons.mp hp with rfl | hp
  · exact h4
  rcases List.mem_cons.mp hp with rfl | hp
  · exact h5
  rcases List.mem_cons.mp hp with rfl | hp
  · exact h6
  rcases List.mem_cons.mp hp with rfl | hp
  · exact h7
  rcases List.mem_cons.mp hp with rfl | hp
  · exact h8
  · exact ho p hp
end
end Mine
end
section
open PySem PySem.W PySem.Spec PySem.Calls PyProof.Rows
set_option maxRecDepth 100000
namespace Mine
noncomputable abbrev fourN : List Str := [Str.ofString "a", Str.ofString "b", Str.ofString "c", Str.ofString "meet"]
theorem PairsAre.len : ∀ {kvs : List (Str × Value)} {l : List (Str × Int)}, PairsAre kvs l → kvs.length = l.length
  | [], [], _ => rfl
  | (_, _) :: r, (_, _) :: q, h => by simp [PairsAre.len (kvs := r) (l := q) h.2.2]
  | [], _ :: _, h => h.elim
  | _ :: _, [], h => h.elim
theorem pairs_any : ∀ {kvs : List (Str × Value)} {l : List (Str × Int)}, PairsAre kvs l → ∀ x, (kvs.any fun kv => decide (kv.1 = x)) = l.any fun p => decide (p.1 = x)
  | [], [], _, _ => rfl
  | (y, v) :: r, (z, n) :: q, h, x => by
    obtain ⟨rfl, _, hr⟩ := h
    simp only [List.any_cons, pairs_any hr x]
  | [], _ :: _, h, _ => h.elim
  | _ :: _, [], h, _ => h.elim
theorem pairs_snoc : ∀ {kvs : List (Str × Value)} {l : List (Str × Int)} {x : Str} {n : Int} {t : Tok}, PairsAre kvs l → PairsAre (kvs ++ [(x, .int n t)]) (l ++ [(x, n)])
  | [], [], _, _, t, _ => ⟨rfl, ⟨t, rfl⟩, trivial⟩
  | (y, v) :: r, (z, m) :: q, _, _, _, h => ⟨h.1, h.2.1, pairs_snoc h.2.2⟩
  | [], _ :: _, _, _, _, h => h.elim
  | _ :: _, [], _, _, _, h => h.elim
theorem pairs_stored {kvs : List (Str × Value)} {l : List (Str × Int)} {x : Str} {n : Int} {t : Tok} (h : PairsAre kvs l) (hx : x ∉ l.map (·.1)) : PairsAre (stored kvs x (.int n t)) (l ++ [(x, n)]) := by
  have e : (kvs.any fun kv => decide (kv.1 = x)) = false := by
    rw [pairs_any h x]
    rw [List.any_eq_false]
    intro p hp q
    exact hx (List.mem_map.mpr ⟨p, hp, of_decide_eq_true q⟩)
  unfold stored
  rw [e]
  exact pairs_snoc h
theorem four_new : ∀ i, i < 4 → ∀ x, fourN[i]? = some x → x ∉ fourN.take i := by
  intro i hi x hx
  have : ((List.range 4).all fun i => (fourN[i]?).all fun x => !((fourN.take i).any fun y => y == x)) = true := by decide +kernel
  have h := List.all_eq_true.mp this i (List.mem_range.mpr hi)
  rw [hx] at h
  intro hm
  have : ((fourN.take i).any fun y => y == x) = true := List.any_eq_true.mpr ⟨x, hm, by simp⟩
  rw [Option.all_some, this] at h
  cases h
theorem pick_lo {r : Int} (_ : r < 5) (h : 0 ≤ r) : 0 ≤ r := h
theorem pow_small {r : Int} (h0 : 0 ≤ r) (h5 : r < 5) : (1 : Int) ≤ 2 ^ (1 + r).toNat ∧ (2 : Int) ^ (1 + r).toNat ≤ 256 := by
  have key : ∀ n : Fin 5, (1 : Int) ≤ 2 ^ (1 + (n.val : Int)).toNat ∧ (2 : Int) ^ (1 + (n.val : Int)).toNat ≤ 256 := by decide
  obtain ⟨n, rfl⟩ := Int.eq_ofNat_of_zero_le h0
  exact key ⟨n, Int.ofNat_lt.mp h5⟩
section
variable {w : World} {A : Around} {E : Value → Shared → Prop} {s : Shared} {env : Env} {h₀ : Heap} {L : Addr} {m : Str → Option Value} {Q : Flow → Shared → Prop} {target : Expr} {body : List Stmt}
noncomputable def KC (w : World) (m : Str → Option Value) (e x d S : Addr) (ox od : Obj) (c1 c2 : Addr × Obj) (W : Int) (b0 : Int) (i : Nat) (m' : Str → Option Value) (news' : List (Addr × Obj)) : Prop :=
  (∀ y, y ≠ Str.ofString "name" → m' y = m y) ∧ ∃ oE kvs l a b ta tb k, news' = [(e, oE), (x, ox), (d, od), (S, storeObj a b ta tb k), c1, c2] ∧ oE.IsDictOf (strKind PR w) kvs ∧ PairsAre kvs l ∧ l.map (·.1) = fourN.take i ∧ (∀ p ∈ l, 0 ≤ p.2 ∧ p.2 < W) ∧
    0 ≤ a ∧ a < 10 ^ 90 ∧ 0 ≤ b ∧ b ≤ b0 + (i : Int)
theorem loopC {D T e x d S : Addr} {oT oE ox od : Obj} {c1 c2 : Addr × Obj} {vs : List Value} {kt k : Nat} {a b W : Int} {ta tb : Tok} (hh : A.handled = none) (F : Fr h₀ L s.heap m)
    (N : News h₀ L s.heap [(D, ({ cls := .type "tuple", data := .seq vs.toArray kt } : Obj)), (T, oT), (e, oE), (x, ox), (d, od), (S, storeObj a b ta tb k), c1, c2]) {hs5 : Int} {t5 tk5 : Tok} {n5 : Nat} (_hod : od = setsDict hs5 t5 (W - 1) tk5 n5) (hv : StrsAre vs fourN) (hd : oE.IsDictOf (strKind PR w) [])
    (a0 : 0 ≤ a) (a1 : a < 10 ^ 90) (b0 : 0 ≤ b)
    (turn : ∀ I i xn t o oE kvs l a' b' ta tb k c h' dr tk, i < 4 → fourN[i]? = some xn → oE.IsDictOf (strKind PR w) kvs → PairsAre kvs l → l.map (·.1) = fourN.take i → (∀ p ∈ l, 0 ≤ p.2 ∧ p.2 < W) → 0 ≤ a' → a' < 10 ^ 90 → 0 ≤ b' → b' ≤ b + (i : Int) →
      AllNe I [(D, ({ cls := .type "tuple", data := .seq vs.toArray kt } : Obj)), (e, oE), (x, ox), (d, od), (S, storeObj a' b' ta tb k), c1, c2] → Fr h₀ L h' (upd (Str.ofString "name") c m) →
      News h₀ L h' [(I, o), (D, ({ cls := .type "tuple", data := .seq vs.toArray kt } : Obj)), (e, oE), (x, ox), (d, od), (S, storeObj a' b' ta tb k), c1, c2] →
      wpAny (model PR w) A (assign target env (.str xn t)) (fun _ s₃ => wpAny (model PR w) A (execs body env) (TurnEnd h₀ L I o [(D, ({ cls := .type "tuple", data := .seq vs.toArray kt } : Obj))] s (KC w m e x d S ox od c1 c2 W b (i + 1)) Q) E s₃) E { s with heap := h', drawn := dr, toks := tk })
    (done : ∀ oE kvs l a' b' ta tb k c h' dr tk, oE.IsDictOf (strKind PR w) kvs → PairsAre kvs l → l.map (·.1) = fourN → (∀ p ∈ l, 0 ≤ p.2 ∧ p.2 < W) → 0 ≤ a' → a' < 10 ^ 90 → 0 ≤ b' → b' ≤ b + 4 → Fr h₀ L h' (upd (Str.ofString "name") c m) →
      News h₀ L h' [(e, oE), (x, ox), (d, od), (S, storeObj a' b' ta tb k), c1, c2] → Q .next { s with heap := h', drawn := dr, toks := tk }) :
    wpAny (model PR w) A (pyIter (.ref D)) (LoopJ PR w A env target body Q E) E s := by
  have hlen : vs.length = 4 := StrsAre.len hv
  refine loop_tuple (KC w m e x d S ox od c1 c2 W b) hh F (news := [(e, oE), (x, ox), (d, od), (S, storeObj a b ta tb k), c1, c2]) (fun p hp => N p (by
    rcases List.mem_cons.mp hp with rfl | hp
    · exact .head _
    · exact .tail _ (.tail _ hp))) ⟨fun _ _ => rfl, oE, [], [], a, b, ta, tb, k, rfl, hd, trivial, rfl, (fun p hp => by cases hp), a0, a1, b0, by simp⟩ (fun I i v o m' news' h' dr tk hi hvi hk n' F' N' => ?_) (fun m' news' h' dr tk hk F' N' => ?_)
  · obtain ⟨hm, oE, kvs, l, a', b', ta, tb, k, rfl, g1, g2, g3, g4, g5, g6, g7, g8⟩ := hk
    rw [upd_of hm] at F'
    obtain ⟨xn, t, hx, rfl⟩ := StrsAre.at_ hv i v hvi
    exact turn I i xn t o oE kvs l a' b' ta tb k _ h' dr tk (hlen ▸ hi) hx g1 g2 g3 g4 g5 g6 g7 g8 (allNe_of n') F' N'
  · obtain ⟨hm, oE, kvs, l, a', b', ta, tb, k, rfl, g1, g2, g3, g4, g5, g6, g7, g8⟩ := hk
    rw [upd_of hm] at F'
    rw [hlen] at g3 g8
    exact done oE kvs l a' b' ta tb k _ h' dr tk g1 g2 g3 g4 g5 g6 g7 g8 F' fun p hp => N' p (.tail _ hp)
theorem endC {D e x d S I : Addr} {oD oE ox od o : Obj} {c1 c2 : Addr × Obj} {kvs : List (Str × Value)} {l : List (Str × Int)} {xn : Str} {n W a b b0 : Int} {t ta tb : Tok} {k i : Nat} {m' : Str → Option Value} {h' : Heap} {dr : Drawn} {tk : Nat}
    (hi : i < 4) (hx : fourN[i]? = some xn) (g2 : PairsAre kvs l) (g3 : l.map (·.1) = fourN.take i) (g4 : ∀ p ∈ l, 0 ≤ p.2 ∧ p.2 < W) (n0 : 0 ≤ n) (n1 : n < W) (a0 : 0 ≤ a) (a1 : a < 10 ^ 90) (b1 : 0 ≤ b) (b2 : b ≤ b0 + ((i + 1 : Nat) : Int))
    (hd : oE.IsDictOf (strKind PR w) (stored kvs xn (.int n t))) (F : Fr h₀ L h' m') (hm : ∀ y, y ≠ Str.ofString "name" → m' y = m y) (N : News h₀ L h' [(I, o), (D, oD), (e, oE), (x, ox), (d, od), (S, storeObj a b ta tb k), c1, c2])
    (hn : AllNe I [(D, oD), (e, oE), (x, ox), (d, od), (S, storeObj a b ta tb k), c1, c2]) : TurnEnd h₀ L I o [(D, oD)] s (KC w m e x d S ox od c1 c2 W b0 (i + 1)) Q .next { s with heap := h', drawn := dr, toks := tk } := by
  refine ⟨h', dr, tk, m', _, rfl, F, N, fun p hp => ?_, ?_⟩
  case refine_2 =>
    refine ⟨hm, oE, _, l ++ [(xn, n)], a, b, ta, tb, k, rfl, hd, pairs_stored g2 (g3 ▸ four_new i hi xn hx), ?_, ?_, a0, a1, b1, b2⟩
    · rw [List.map_append, g3, List.take_add_one, hx]; rfl
    · intro p hp
      rcases List.mem_append.mp hp with hp | hp
      · exact g4 p hp
      · rw [List.mem_singleton.mp hp]; exact ⟨n0, n1⟩
  obtain ⟨h1, h2, h3, h4, h5, h6, h7, _⟩ := hn
  rcases List.mem_cons.mp hp with rfl | hp
  · exact h1
  rcases List.mem_cons.mp hp with rfl | hp
  · exact h2
  rcases List.mem_cons.mp hp with rfl | hp
  · exact h3
  rcases List.mem_cons.mp hp with rfl | hp
  · exact h4
  rcases List.mem_cons.mp hp with rfl | hp
  · exact h5
  rcases List.mem_cons.mp hp with rfl | hp
  · exact h6
  rw [List.mem_singleton.mp hp]; exact h7
theorem env_in {l : List (Str × Int)} {mn : Nat} (g3 : l.map (·.1) = fourN) (g4 : ∀ p ∈ l, 0 ≤ p.2 ∧ p.2 < (2 : Int) ^ mn) : EnvIn (tabE l) mn := by
  intro x hx
  have hx' : x ∈ l.map (·.1) := by rw [g3]; exact hx
  obtain ⟨p, hp, rfl⟩ := List.mem_map.mp hx'
  unfold tabE
  cases hf : l.find? (fun q => decide (q.1 = p.1)) with
  | none => exact absurd (List.find?_eq_none.mp hf p hp) (by simp)
  | some q => exact ⟨q.2, rfl, g4 q (List.mem_of_find?_eq_some hf)⟩
theorem env_out {l : List (Str × Int)} (g3 : l.map (·.1) = fourN) {x : Str} (hx : x ∉ fourN) : tabE l x = none := by
  unfold tabE
  rw [List.find?_eq_none.mpr fun p hp q => hx (g3 ▸ List.mem_map.mpr ⟨p, hp, of_decide_eq_true q⟩)]
  rfl
end
end Mine
end
section
open PySem PySem.W PySem.Spec PySem.Calls PyProof.Rows
set_option maxRecDepth 100000
namespace Mine
theorem noFill_tuple_mul : fillsNumberSlot (.type "tuple") "mul" = pure false :=
  PySem.fillsNumberSlot_seq (id := "tuple.__mul__") (r := some (.builtin "tuple.__rmul__")) F.slot_tuple_mul.lookup (by decide +kernel) F.slot_tuple_rmul.lookup (by decide +kernel)
theorem repeat_tuple : seqRepeat? (.type "tuple") = pure (some (.builtin "tuple.__mul__")) := by
  unfold seqRepeat?
  rw [PySem.seqSlot_of (T := "tuple") (name := "__mul__") (id := "tuple.__mul__") F.slot_tuple_mul.lookup (by decide +kernel), PySem.seqSlot_of (T := "tuple") (name := "__rmul__") (id := "tuple.__rmul__") F.slot_tuple_rmul.lookup (by decide +kernel)]
  rfl
noncomputable abbrev tupO (its : Array Value) (n : Nat) : Obj := { cls := .type "tuple", dict := none, data := .seq its n, slots := #[] }
theorem int_rmul_tuple (a : Int) (t : Tok) (l : Addr) (items : Array Value) (n : Nat) :
    Meets (Builtin.«int.__rmul__» ⟨[.int a t, .ref l], []⟩) (fun _ R s => s.heap.get? l = some (tupO items n) ∧ R (.ok (.ret Value.notImplemented)) s) :=
  .of_wp fun prog w A R s h => by obtain ⟨hp, g, d, tk, os⟩ := s; obtain ⟨hl, h⟩ := h; wp_walk; exact ⟨_, rfl, h⟩
theorem tuple_mul_0 (l : Addr) (v : Value) (n : Nat) (u : Tok) :
    Meets (Builtin.«tuple.__mul__» ⟨[.ref l, .int 0 u], []⟩) (fun _ R s => s.heap.get? l = some (tupO #[v] n) ∧ R (.ok (.ret (.ref s.heap.objs.size))) { s with heap := s.heap.push { cls := .type "tuple", data := .seq #[] } }) :=
  .of_wp fun prog w A R s h => by obtain ⟨hp, g, d, tk, os⟩ := s; obtain ⟨hl, h⟩ := h; wp_walk; exact ⟨_, rfl, h⟩
theorem tuple_mul_1 (l : Addr) (v : Value) (n : Nat) (u : Tok) :
    Meets (Builtin.«tuple.__mul__» ⟨[.ref l, .int 1 u], []⟩) (fun _ R s => s.heap.get? l = some (tupO #[v] n) ∧ R (.ok (.ret (.ref l))) s) :=
  .of_wp fun prog w A R s h => by obtain ⟨hp, g, d, tk, os⟩ := s; obtain ⟨hl, h⟩ := h; wp_walk; exact ⟨_, rfl, h⟩
theorem tuple_mul_2 (l : Addr) (v : Value) (n : Nat) (u : Tok) :
    Meets (Builtin.«tuple.__mul__» ⟨[.ref l, .int 2 u], []⟩) (fun _ R s => s.heap.get? l = some (tupO #[v] n) ∧ R (.ok (.ret (.ref s.heap.objs.size))) { s with heap := s.heap.push { cls := .type "tuple", data := .seq #[v, v] } }) :=
  .of_wp fun prog w A R s h => by obtain ⟨hp, g, d, tk, os⟩ := s; obtain ⟨hl, h⟩ := h; wp_walk; exact ⟨_, rfl, h⟩
theorem tuple_mul_3 (l : Addr) (v : Value) (n : Nat) (u : Tok) :
    Meets (Builtin.«tuple.__mul__» ⟨[.ref l, .int 3 u], []⟩) (fun _ R s => s.heap.get? l = some (tupO #[v] n) ∧ R (.ok (.ret (.ref s.heap.objs.size))) { s with heap := s.heap.push { cls := .type "tuple", data := .seq #[v, v, v] } }) :=
  .of_wp fun prog w A R s h => by obtain ⟨hp, g, d, tk, os⟩ := s; obtain ⟨hl, h⟩ := h; wp_walk; exact ⟨_, rfl, h⟩
section
variable {w : World} {A : Around} {E : Value → Shared → Prop} {s : Shared} {h₀ : Heap} {L l : Addr} {m : Str → Option Value} {news : List (Addr × Obj)} {v : Value} {x : Int} {u : Tok} {k : Nat} {Q : Value → Shared → Prop}
theorem mul_road (hl : s.heap.get? l = some (tupO #[v] k)) (h : wpAny (model PR w) A (call (.builtin "tuple.__mul__") [.ref l, .int x u]) Q E s) : wpAny (model PR w) A (binaryOp .Mult (.ref l) (.int x u)) Q E s :=
  wpAny_binaryOp_repeat_ref (T := "tuple") (U := "int") (by decide) ⟨_, hl, rfl⟩ (fun s' => PySem.typeIs_int s' x u) noFill_tuple_mul PySem.F.fills_int_mul PySem.F.slot_int_rmul repeat_tuple PySem.F.slot_int_index.lookup
    (call_meets PySem.F.slot_int_rmul (PySem.typeIs_int s x u) PySem.F.entry_int_rmul (PySem.F.args_int_rmul_2 _ _) (int_rmul_tuple x u l #[v] k) ⟨hl, rfl, ⟨_, hl, rfl⟩, h⟩)
theorem mul_0 (F : Fr h₀ L s.heap m) (N : News h₀ L s.heap news) (hm : (l, tupO #[v] k) ∈ news) (hx : x = 0)
    (h : ∀ D h', Fr h₀ L h' m → News h₀ L h' ((D, ({ cls := .type "tuple", data := .seq #[] } : Obj)) :: news) → AllLt D news → Q (.ref D) { s with heap := h' }) : wpAny (model PR w) A (binaryOp .Mult (.ref l) (.int x u)) Q E s := by
  subst hx
  have hl := (N _ hm).1
  exact mul_road hl (call_meets PySem.F.slot_tuple_mul ⟨_, hl, rfl⟩ PySem.F.entry_tuple_mul (PySem.F.args_tuple_mul_2 _ _) (tuple_mul_0 l v k u) ⟨hl, h _ _ (F.push _) (News.push F N _) (allLt_of fun p hp => Heap.lt_size (N p hp).1)⟩)
theorem mul_2 (F : Fr h₀ L s.heap m) (N : News h₀ L s.heap news) (hm : (l, tupO #[v] k) ∈ news) (hx : x = 2)
    (h : ∀ D h', Fr h₀ L h' m → News h₀ L h' ((D, ({ cls := .type "tuple", data := .seq #[v, v] } : Obj)) :: news) → AllLt D news → Q (.ref D) { s with heap := h' }) : wpAny (model PR w) A (binaryOp .Mult (.ref l) (.int x u)) Q E s := by
  subst hx
  have hl := (N _ hm).1
  exact mul_road hl (call_meets PySem.F.slot_tuple_mul ⟨_, hl, rfl⟩ PySem.F.entry_tuple_mul (PySem.F.args_tuple_mul_2 _ _) (tuple_mul_2 l v k u) ⟨hl, h _ _ (F.push _) (News.push F N _) (allLt_of fun p hp => Heap.lt_size (N p hp).1)⟩)
theorem mul_3 (F : Fr h₀ L s.heap m) (N : News h₀ L s.heap news) (hm : (l, tupO #[v] k) ∈ news) (hx : x = 3)
    (h : ∀ D h', Fr h₀ L h' m → News h₀ L h' ((D, ({ cls := .type "tuple", data := .seq #[v, v, v] } : Obj)) :: news) → AllLt D news → Q (.ref D) { s with heap := h' }) : wpAny (model PR w) A (binaryOp .Mult (.ref l) (.int x u)) Q E s := by
  subst hx
  have hl := (N _ hm).1
  exact mul_road hl (call_meets PySem.F.slot_tuple_mul ⟨_, hl, rfl⟩ PySem.F.entry_tuple_mul (PySem.F.args_tuple_mul_2 _ _) (tuple_mul_3 l v k u) ⟨hl, h _ _ (F.push _) (News.push F N _) (allLt_of fun p hp => Heap.lt_size (N p hp).1)⟩)
theorem mul_1 (N : News h₀ L s.heap news) (hm : (l, tupO #[v] k) ∈ news) (hx : x = 1) (h : Q (.ref l) s) : wpAny (model PR w) A (binaryOp .Mult (.ref l) (.int x u)) Q E s := by
  subst hx
  have hl := (N _ hm).1
  exact mul_road hl (call_meets PySem.F.slot_tuple_mul ⟨_, hl, rfl⟩ PySem.F.entry_tuple_mul (PySem.F.args_tuple_mul_2 _ _) (tuple_mul_1 l v k u) ⟨hl, h⟩)
end
end Mine
end
section
open PySem PySem.W PySem.Spec PySem.Calls PyProof.Rows
set_option maxRecDepth 100000
namespace Mine
section
variable {w : World} {mean : ExcName → Option Value} {mg mb : Str → Option Value}
theorem four_ok {e : Str → Option Int} {mn : Nat} (he : EnvIn e mn) (hm : mn ≤ 8) : ∀ t : St, t.four → t.ok e := by
  have hp : (2 : Int) ^ mn ≤ 256 := by
    have key : ∀ n : Fin 9, (2 : Int) ^ n.val ≤ 256 := by decide
    exact key ⟨mn, Nat.lt_succ_of_le hm⟩
  intro t
  induction t with
  | none => intro _; trivial
  | all => intro _; trivial
  | name x =>
    intro hx
    obtain ⟨n, hn, h0, h1⟩ := he x hx
    refine ⟨?_, ?_, n, hn, h0, by omega⟩
    · have hx' : x ∈ fourN := hx
      simp only [fourN, List.mem_cons, List.not_mem_nil, or_false] at hx'
      rcases hx' with rfl | rfl | rfl | rfl <;> decide
    · have hx' : x ∈ fourN := hx
      simp only [fourN, List.mem_cons, List.not_mem_nil, or_false] at hx'
      rcases hx' with rfl | rfl | rfl | rfl <;> decide
  | not a ih => exact ih
  | union a b i j => exact fun h => ⟨i h.1, j h.2⟩
  | meet a b i j => exact fun h => ⟨i h.1, j h.2⟩
  | less a b i j => exact fun h => ⟨i h.1, j h.2⟩
theorem slater_news {h₀ h : Heap} {L : Addr} {news owns : List (Addr × Obj)} {v : Value} {t : St} (x : SLater owns v t) (N : News h₀ L h news) (hs : ∀ q ∈ owns, q ∈ news) : SAt h v t := x h fun q hq => (N q (hs q hq)).1
/-- a term drawn by the law, two floors -/
theorem draw_use {A : Around} {base h₀ : Heap} {outer : List Env} {L : Addr} {m : Str → Option Value} {env : Env} {news : List (Addr × Obj)} {gn : Obj → List (Addr × Obj)} {s : Shared} {sa na : Addr} {a b : Int} {ta tb tf : Tok} {k kl : Nat} {Q E : Value → Shared → Prop} {t0 t1 t2 t3 t4 t5 : Tok} {e : Str → Option Int} {mn : Nat}
    (B : Below A base outer h₀) (F : Fr h₀ L s.heap m) (X : (hd.heap_39 w.params).In h₀) (T : Top hd.view_39 LO mean mg mb h₀) (N : News h₀ L s.heap news) (hh : A.handled = none) (hf : env.frame = some L) (hk : env.scope.kind = .function)
    (U : UpdF sa (storeObj a b ta tb k) news gn) (hD : A.depth + 1 + 30 < recursionLimit) (hU : A.units + 3 + 120 < cLine)
    (hl : (na, ({ cls := .type "list", data := .seq #[.str (Str.ofString "a") t0, .str (Str.ofString "b") t1, .str (Str.ofString "c") t2, .str (Str.ofString "meet") t3, .str (Str.ofString "none") t4, .str (Str.ofString "all") t5] kl } : Obj)) ∈ news)
    (hns : na ≠ sa) (ha : 0 ≤ a) (ha2 : a < 10 ^ 90) (hb : 0 ≤ b) (hb2 : b ≤ 100) (he : EnvIn e mn) (hm8 : mn ≤ 8)
    (h : ∀ h' tk v t owns a' b' ta' tb' k', Fr h₀ L h' m → News h₀ L h' (gn (storeObj a' b' ta' tb' k') ++ owns) → Apart owns news → SLater owns v t → t.ok e → t.size ≤ 7 → t.val e (2 ^ mn - 1) = t.num e mn → 0 ≤ a' → a' < 10 ^ 90 → 0 ≤ b' → b' ≤ b + 7 → Q v { s with heap := h', toks := tk }) :
    wpAny (model PR w) (A.deeper env) (call (.ref 200) [.ref sa, .int 2 tf, .ref na]) Q E s :=
  drawn_use (f := 2) (drawn_call 2 (by omega)) B F X T N hh hf hk U rfl (by omega) (by omega) ⟨_, (N _ hl).1, rfl, kl, rfl⟩ hns ha ha2 hb (by show b + 7 ≤ 900; omega) fun h' tk v t owns a' b' ta' tb' k' F' N' ap sl f4 sz a0 a1 b0 b1 =>
    h h' tk v t owns a' b' ta' tb' k' F' N' ap sl (four_ok he hm8 t f4) sz (val_num he f4) a0 a1 b0 b1
theorem add_nil {A : Around} {E : Value → Shared → Prop} {s : Shared} {Q : Value → Shared → Prop} {t b : Addr} {v : Value} (ht : IsTup s.heap t #[v]) (hb : IsTup s.heap b #[]) (h : Q (.ref t) s) : wpAny (model PR w) A (binaryOp .Add (.ref t) (.ref b)) Q E s :=
  add_tup ht hb (fun _ _ => h) (by simp) (fun hw => absurd rfl hw) (by rw [sizeLine_eq]; exact Nat.le_of_ble_eq_true rfl)
end
section
open PyProof.Rows.LCt PyProof.Rows.LCg
variable {prog : Program} {w : World} {A : Around} {s : Shared} {h₀ : Heap} {L : Addr} {m : Str → Option Value} {env : Env}
/-- a comprehension that takes nothing -/
theorem rest_nothing {ct elt : Expr} {x : Str} {scope : Scope} {cl : List (Str × Addr)} {S : List (Addr × Obj) → Prop} {P : Nat → Value → Prop} {Fin : List Value → List (Addr × Obj) → Prop} {news : List (Addr × Obj)}
    (turn : ∀ i v I oI C oC D m₂ h tk (E' : Value → Shared → Prop), P i v → NsObj oC m₂ → m₂ x = some v → Fr h₀ L h m → News h₀ L h ((I, oI) :: (C, oC) :: (D, lst []) :: news) → Off3 I C D news → ((@Ne Nat I C) ∧ (@Ne Nat I D) ∧ (@Ne Nat C D)) →
      wpAny (model prog w) A (isTrue ct (compEnvC scope cl C env) (eval ct (compEnvC scope cl C env))) (fun ok s' => ok = false ∧ CompEnd h₀ L m { s with heap := h, toks := tk } I oI C oC D (lst []) S (fun _ news' => news' = news) Value.none s') E' { s with heap := h, toks := tk })
    (fin : Fin [] news) : ∀ k i, CompRestT prog w A h₀ L m env ct elt x scope cl s S P Fin k i [] news
  | 0, _ => fin
  | k + 1, i => fun v I oI C oC D m₂ h tk E' hP hC hx F N o n => wpAny_mono (turn i v I oI C oC D m₂ h tk E' hP hC hx F N o n) (fun ok s' z => by
      obtain ⟨rfl, h', tk', news', e, F', N', o', S', rfl⟩ := z
      simp only [Bool.false_eq_true, if_false]
      exact ⟨h', tk', _, e, F', N', o', S', rest_nothing turn fin k (i + 1)⟩) fun _ _ e => e
end
end Mine
end
section
open PySem PySem.W PySem.Spec PySem.Calls PyProof.Rows
set_option maxRecDepth 100000
namespace Mine
theorem mn_facts {r : Int} (h0 : 0 ≤ r) (h5 : r < 5) : (((1 + r).toNat : Nat) : Int) = 1 + r ∧ (1 + r).toNat ≤ 8 := ⟨Int.toNat_of_nonneg (by omega), by omega⟩
noncomputable abbrev updD (r1 r2 r3 r4 : Option Value) (m : Str → Option Value) : Str → Option Value := upd (Str.ofString "lap") r1 (upd (Str.ofString "term") r2 (upd (Str.ofString "op") r3 (upd (Str.ofString "bad") r4 m)))
theorem updD_of {m m' : Str → Option Value} (h : ∀ q, q ≠ Str.ofString "lap" → q ≠ Str.ofString "term" → q ≠ Str.ofString "op" → q ≠ Str.ofString "bad" → m' q = m q) :
    m' = updD (m' (Str.ofString "lap")) (m' (Str.ofString "term")) (m' (Str.ofString "op")) (m' (Str.ofString "bad")) m := by
  funext q
  show m' q = if q = Str.ofString "lap" then _ else if q = Str.ofString "term" then _ else if q = Str.ofString "op" then _ else if q = Str.ofString "bad" then _ else m q
  split
  · rename_i h1; rw [h1]
  · split
    · rename_i h2; rw [h2]
    · split
      · rename_i h3; rw [h3]
      · split
        · rename_i h4; rw [h4]
        · rename_i h1 h2 h3 h4; exact h q h1 h2 h3 h4
theorem lap_item {w : World} {A : Around} {E : Value → Shared → Prop} {s : Shared} {Q : Value → Shared → Prop} {value slice : Expr} {na : Addr} {i : Int} {u : Tok} {t0 t1 : Tok} (hl : IsTup s.heap na #[.str (Str.ofString "d") t0, .str (Str.ofString "less") t1])
    (h : ∀ x tk, x = Str.ofString "d" ∨ x = Str.ofString "less" → Q (.str x tk) s)
    (hs : subscripted slice false (.ref na) (.int (Int.fmod i 2) u) = operate [.ref na, .int (Int.fmod i 2) u] (getItem (.ref na) (.int (Int.fmod i 2) u))) :
    wpAny (model PR w) A (subscriptTail value slice (.ref na) (.int (Int.fmod i 2) u)) Q E s := by
  have h0 : 0 ≤ Int.fmod i 2 := Int.fmod_nonneg_of_pos _ (by omega)
  have h1 : Int.fmod i 2 < 2 := Int.fmod_lt_of_pos _ (by omega)
  exact KTb.item_tup (vs := [.str (Str.ofString "d") t0, .str (Str.ofString "less") t1]) (ws := [Str.ofString "d", Str.ofString "less"]) hl (.cons _ _ (.cons _ _ .nil)) h0 (by simp only [List.length_cons, List.length_nil]; omega) (by omega) (fun t' hlt => h _ t' (by
      have : (Int.fmod i 2).toNat = 0 ∨ (Int.fmod i 2).toNat = 1 := by omega
      rcases this with e | e
      · rw [e]; exact .inl rfl
      · rw [e]; exact .inr rfl)) hs
section
variable {w : World} {A : Around} {E : Value → Shared → Prop} {s : Shared} {env : Env} {h₀ : Heap} {L : Addr} {m : Str → Option Value} {Q : Flow → Shared → Prop} {body : List Stmt}
noncomputable def KD (m : Str → Option Value) (e x d S : Addr) (oE ox od : Obj) (c1 c2 : Addr × Obj) (b0 : Int) (i : Nat) (m' : Str → Option Value) (news' : List (Addr × Obj)) : Prop :=
  (∀ q, q ≠ Str.ofString "lap" → q ≠ Str.ofString "term" → q ≠ Str.ofString "op" → q ≠ Str.ofString "bad" → m' q = m q) ∧ ∃ a b ta tb k, news' = [(e, oE), (x, ox), (d, od), (S, storeObj a b ta tb k), c1, c2] ∧ 0 ≤ a ∧ a < 10 ^ 90 ∧ 0 ≤ b ∧ b ≤ b0 + 8 * (i : Int)
theorem loopD {R e x d S : Addr} {oE ox od : Obj} {c1 c2 : Addr × Obj} {a b : Int} {ta tb t u v : Tok} {k : Nat} {px : Pos} (hh : A.handled = none) (F : Fr h₀ L s.heap m)
    (N : News h₀ L s.heap [(e, oE), (x, ox), (d, od), (S, storeObj a b ta tb k), c1, c2]) (hR : IsRange s.heap R 0 3 1 t u v) (a0 : 0 ≤ a) (a1 : a < 10 ^ 90) (b0 : 0 ≤ b)
    (turn : ∀ (I : Addr) (i : Nat) t a' b' ta tb k r1 r2 r3 r4 o h' dr tk, i < 3 → 0 ≤ a' → a' < 10 ^ 90 → 0 ≤ b' → b' ≤ b + 8 * (i : Int) → AllNe I [(e, oE), (x, ox), (d, od), (S, storeObj a' b' ta tb k), c1, c2] → Fr h₀ L h' (updD r1 r2 r3 r4 m) →
      News h₀ L h' [(I, o), (e, oE), (x, ox), (d, od), (S, storeObj a' b' ta tb k), c1, c2] →
      wpAny (model PR w) A (assign (.Name (Str.ofString "lap") px) env (.int ((i : Nat) : Int) t)) (fun _ s₃ => wpAny (model PR w) A (execs body env) (TurnEnd h₀ L I o [] s (KD m e x d S oE ox od c1 c2 b (i + 1)) Q) E s₃) E { s with heap := h', drawn := dr, toks := tk })
    (done : ∀ a' b' ta tb k r1 r2 r3 r4 h' dr tk, 0 ≤ a' → a' < 10 ^ 90 → 0 ≤ b' → b' ≤ b + 24 → Fr h₀ L h' (updD r1 r2 r3 r4 m) → News h₀ L h' [(e, oE), (x, ox), (d, od), (S, storeObj a' b' ta tb k), c1, c2] → Q .next { s with heap := h', drawn := dr, toks := tk }) :
    wpAny (model PR w) A (pyIter (.ref R)) (LoopJ PR w A env (.Name (Str.ofString "lap") px) body Q E) E s := by
  refine loop_range (n := 3) (KD m e x d S oE ox od c1 c2 b) (by omega) hh F (news := [(e, oE), (x, ox), (d, od), (S, storeObj a b ta tb k), c1, c2]) N hR ⟨fun _ _ _ _ _ => rfl, a, b, ta, tb, k, rfl, a0, a1, b0, by simp⟩ (fun I i t o m' news' h' dr tk hi hk n' F' N' => ?_) (fun m' news' h' dr tk hk F' N' => ?_)
  · obtain ⟨hm, a', b', ta, tb, k, rfl, g1, g2, g3, g4⟩ := hk
    rw [updD_of hm] at F'
    exact turn I i t a' b' ta tb k _ _ _ _ o h' dr tk hi g1 g2 g3 g4 (allNe_of n') F' N'
  · obtain ⟨hm, a', b', ta, tb, k, rfl, g1, g2, g3, g4⟩ := hk
    rw [updD_of hm] at F'
    exact done a' b' ta tb k _ _ _ _ h' dr tk g1 g2 g3 (by simpa using g4) F' N'
theorem endD {e x d S I : Addr} {oE ox od o : Obj} {c1 c2 : Addr × Obj} {a b b0 : Int} {ta tb : Tok} {k i : Nat} {m' : Str → Option Value} {all : List (Addr × Obj)} {h' : Heap} {dr : Drawn} {tk : Nat} (a0 : 0 ≤ a) (a1 : a < 10 ^ 90) (b1 : 0 ≤ b) (b2 : b ≤ b0 + 8 * (i : Int) + 8)
    (F : Fr h₀ L h' m') (hm : ∀ q, q ≠ Str.ofString "lap" → q ≠ Str.ofString "term" → q ≠ Str.ofString "op" → q ≠ Str.ofString "bad" → m' q = m q) (N : News h₀ L h' all)
    (m1 : (I, o) ∈ all) (m2 : (e, oE) ∈ all) (m3 : (x, ox) ∈ all) (m4 : (d, od) ∈ all) (m5 : (S, storeObj a b ta tb k) ∈ all) (m6 : c1 ∈ all) (m7 : c2 ∈ all)
    (hn : AllNe I [(e, oE), (x, ox), (d, od), (S, storeObj a b ta tb k), c1, c2]) : TurnEnd h₀ L I o [] s (KD m e x d S oE ox od c1 c2 b0 (i + 1)) Q .next { s with heap := h', drawn := dr, toks := tk } := by
  refine ⟨h', dr, tk, m', [(e, oE), (x, ox), (d, od), (S, storeObj a b ta tb k), c1, c2], rfl, F, fun p hp => ?_, fun p hp => ?_, hm, a, b, ta, tb, k, rfl, a0, a1, b1, by omega⟩
  · rcases List.mem_cons.mp hp with rfl | hp
    · exact N _ m1
    rcases List.mem_cons.mp hp with rfl | hp
    · exact N _ m2
    rcases List.mem_cons.mp hp with rfl | hp
    · exact N _ m3
    rcases List.mem_cons.mp hp with rfl | hp
    · exact N _ m4
    rcases List.mem_cons.mp hp with rfl | hp
    · exact N _ m5
    rcases List.mem_cons.mp hp with rfl | hp
    · exact N _ m6
    rw [List.mem_singleton.mp hp]; exact N _ m7
  · obtain ⟨h1, h2, h3, h4, h5, h6, _⟩ := hn
    rcases List.mem_cons.mp hp with rfl | hp
    · exact h1
    rcases List.mem_cons.mp hp with rfl | hp
    · exact h2
    rcases List.mem_cons.mp hp with rfl | hp
    · exact h3
    rcases List.mem_cons.mp hp with rfl | hp
    · exact h4
    rcases List.mem_cons.mp hp with rfl | hp
    · exact h5
    rw [List.mem_singleton.mp hp]; exact h6
end
end Mine
end
section
open PySem PySem.W PySem.Spec PySem.Calls PyProof.Rows
set_option maxRecDepth 100000
namespace Mine
theorem turn_abs {T : Flow → Shared → Prop} {P : (Flow → Shared → Prop) → Prop} (h : ∀ R, (∀ s', T .next s' → R .next s') → P R) : P T := h T (fun _ x => x)
theorem below_cast {A : Around} {h h' : Heap} {K : Frag} (_X : K.In h) (B : Below A h' [] h') (e : h' = h) : Below A h [] h := e ▸ B
theorem pick_lo4 {r : Int} (_ : r < 4) (h : 0 ≤ r) : 0 ≤ r := h
theorem three_or {r : Int} (h : r < 4) : r < 3 ∨ r = 3 := by omega
theorem four_items {P : Value → Prop} {a0 a1 a2 a3 : Value} (p0 : P a0) (p1 : P a1) (p2 : P a2) (p3 : P a3) (i : Nat) (v : Value) (h : #[a0, a1, a2, a3][i]? = some v) : P v := by
  match i, h with
  | 0, h => cases h; exact p0
  | 1, h => cases h; exact p1
  | 2, h => cases h; exact p2
  | 3, h => cases h; exact p3
  | _ + 4, h => cases h
section
variable {h₀ h : Heap} {L : Addr} {news owns : List (Addr × Obj)} {l : List (Str × Int)} {v : Value} {t : St} {x xL : Str} {a0 a1 a2 a3 d : Addr} {t0 t1 t2 t3 td : Tok}
theorem bad_leaf (g3 : l.map (·.1) = fourN) (hL : xL = Str.ofString "d" ∨ xL = Str.ofString "less") (hl : IsTup h a3 #[.str xL t3]) : BadAt h (tabE l) (.ref a3) := by
  rcases hL with rfl | rfl
  · exact .leaf hl (env_out g3 (by decide)) (by decide) (by decide) (by decide)
  · exact .leaf hl (env_out g3 (by decide)) (by decide) (by decide) (by decide)
theorem bad_second (g3 : l.map (·.1) = fourN) (sa : SAt h v t) (ok : t.ok (tabE l)) (sz : t.size ≤ 7) (h2 : IsTup h a2 #[.str (Str.ofString "union") t2, v, .ref d]) (hd : IsTup h d #[.str (Str.ofString "d") td]) : BadAt h (tabE l) (.ref a2) :=
  .second h2 sa ok (by omega) hd (env_out g3 (by decide)) (by decide) (by decide) (by decide)
/-- the wrong terms at an operation with two parts -/
theorem bads_two (g3 : l.map (·.1) = fourN) (sa : SAt h v t) (ok : t.ok (tabE l)) (sz : t.size ≤ 7) (hx : x = Str.ofString "union" ∨ x = Str.ofString "meet" ∨ x = Str.ofString "less") (hL : xL = Str.ofString "d" ∨ xL = Str.ofString "less")
    (h0 : IsTup h a0 #[.str x t0, v, v, v]) (h1 : IsTup h a1 #[.str x t1, v]) (h2 : IsTup h a2 #[.str (Str.ofString "union") t2, v, .ref d]) (hd : IsTup h d #[.str (Str.ofString "d") td]) (h3 : IsTup h a3 #[.str xL t3])
    (i : Nat) (y : Value) (hy : #[Value.ref a0, .ref a1, .ref a2, .ref a3][i]? = some y) : BadAt h (tabE l) y := by
  refine four_items (P := BadAt h (tabE l)) (.four h0 ?_) (.two h1 ?_ ?_) (bad_second g3 sa ok sz h2 hd) (bad_leaf g3 hL h3) i y hy
  · rcases hx with rfl | rfl | rfl <;> decide
  · rcases hx with rfl | rfl | rfl <;> decide
  · rcases hx with rfl | rfl | rfl <;> decide
/-- the wrong terms at "not" -/
theorem bads_not (g3 : l.map (·.1) = fourN) (sa : SAt h v t) (ok : t.ok (tabE l)) (sz : t.size ≤ 7) (hL : xL = Str.ofString "d" ∨ xL = Str.ofString "less")
    (h0 : IsTup h a0 #[.str (Str.ofString "not") t0, v, v]) (h1 : IsTup h a1 #[.str (Str.ofString "not") t1]) (h2 : IsTup h a2 #[.str (Str.ofString "union") t2, v, .ref d]) (hd : IsTup h d #[.str (Str.ofString "d") td]) (h3 : IsTup h a3 #[.str xL t3])
    (i : Nat) (y : Value) (hy : #[Value.ref a0, .ref a1, .ref a2, .ref a3][i]? = some y) : BadAt h (tabE l) y :=
  four_items (P := BadAt h (tabE l)) (.three h0) (.leaf h1 (env_out g3 (by decide)) (by decide) (by decide) (by decide)) (bad_second g3 sa ok sz h2 hd) (bad_leaf g3 hL h3) i y hy
theorem eq_int_tr {w : World} {A : Around} {s : Shared} {a b : Int} {t u : Tok} {Q E : Value → Shared → Prop} (e : a = b) (h : Q (.bool true) s) : wpAny (model PR w) A (compareOp .Eq (.int a t) (.int b u)) Q E s :=
  PyProof.Rows.eq_int (by rw [e]; simpa using h)
theorem env_meet {mn : Nat} (h : EnvIn (tabE l) mn) : ∃ n, tabE l (Str.ofString "meet") = some n := by
  obtain ⟨n, hn, _⟩ := h (Str.ofString "meet") (by decide)
  exact ⟨n, hn⟩
theorem ok_all {e : Str → Option Int} : St.ok e .all := trivial
theorem ok_meet (h : ∀ t : St, t.four → t.ok (tabE l)) : St.ok (tabE l) (.name (Str.ofString "meet")) := h _ (by show _ ∈ fourN; decide)
theorem val_meet {n W : Int} (h : tabE l (Str.ofString "meet") = some n) : St.val (tabE l) W (.name (Str.ofString "meet")) = n := by
  show (tabE l (Str.ofString "meet")).getD 0 = n
  rw [h]; rfl
end
end Mine
end
section
open PySem PySem.W PySem.Spec PySem.Calls PyProof.Rows
set_option maxRecDepth 100000
namespace Mine
/-- one of the four operations -/
noncomputable def Op4 (x : Str) : Prop := x = Str.ofString "union" ∨ x = Str.ofString "meet" ∨ x = Str.ofString "less" ∨ x = Str.ofString "not"
/-- how many parts it has -/
noncomputable def pc (x : Str) : Int := if x == Str.ofString "not" then 1 else 2
theorem pc_two {x : Str} (h : x = Str.ofString "union" ∨ x = Str.ofString "meet" ∨ x = Str.ofString "less") : pc x = 2 := by
  rcases h with rfl | rfl | rfl <;> decide
theorem pc_not : pc (Str.ofString "not") = 1 := by decide
theorem Op4.cases {x : Str} (h : Op4 x) : (x = Str.ofString "union" ∨ x = Str.ofString "meet" ∨ x = Str.ofString "less") ∨ x = Str.ofString "not" := by
  rcases h with h | h | h | h
  · exact .inl (.inl h)
  · exact .inl (.inr (.inl h))
  · exact .inl (.inr (.inr h))
  · exact .inr h
noncomputable def Few (n : Int) : Prop := n = 0 ∨ n = 1 ∨ n = 2 ∨ n = 3
theorem pc_up {x : Str} (h : Op4 x) : Few (pc x + 1) := by
  rcases h.cases with h | rfl
  · rw [pc_two h]; exact .inr (.inr (.inr rfl))
  · rw [pc_not]; exact .inr (.inr (.inl rfl))
theorem pc_dn {x : Str} (h : Op4 x) : Few (pc x - 1) := by
  rcases h.cases with h | rfl
  · rw [pc_two h]; exact .inr (.inl rfl)
  · rw [pc_not]; exact .inl rfl
theorem tab_four {f : Str → Option Value} {x : Str} (h : Op4 x) (h1 : ∃ t, f (Str.ofString "union") = some (.int 2 t)) (h2 : ∃ t, f (Str.ofString "meet") = some (.int 2 t)) (h3 : ∃ t, f (Str.ofString "less") = some (.int 2 t)) (h4 : ∃ t, f (Str.ofString "not") = some (.int 1 t)) : ∃ t, f x = some (.int (pc x) t) := by
  rcases h.cases with h | rfl
  · rw [pc_two h]; exact tab_three h h1 h2 h3
  · rw [pc_not]; exact h4
section
variable {w : World} {A : Around} {E : Value → Shared → Prop} {s : Shared} {Q : Value → Shared → Prop}
theorem op4_item {value slice : Expr} {na : Addr} {i : Int} {u : Tok} {t0 t1 t2 t3 : Tok} (hl : IsTup s.heap na #[.str (Str.ofString "union") t0, .str (Str.ofString "meet") t1, .str (Str.ofString "less") t2, .str (Str.ofString "not") t3])
    (h0 : 0 ≤ i) (h1 : i < 4) (h : ∀ x tk, Op4 x → Q (.str x tk) s)
    (hs : subscripted slice false (.ref na) (.int i u) = operate [.ref na, .int i u] (getItem (.ref na) (.int i u))) :
    wpAny (model PR w) A (subscriptTail value slice (.ref na) (.int i u)) Q E s :=
  KTb.item_tup (vs := [.str (Str.ofString "union") t0, .str (Str.ofString "meet") t1, .str (Str.ofString "less") t2, .str (Str.ofString "not") t3]) (ws := [Str.ofString "union", Str.ofString "meet", Str.ofString "less", Str.ofString "not"]) hl
    (.cons _ _ (.cons _ _ (.cons _ _ (.cons _ _ .nil)))) h0 (by simp only [List.length_cons, List.length_nil]; omega) (by omega) (fun t' hlt => h _ t' (by
      have : i.toNat = 0 ∨ i.toNat = 1 ∨ i.toNat = 2 ∨ i.toNat = 3 := by omega
      rcases this with e | e | e | e
      · rw [e]; exact .inl rfl
      · rw [e]; exact .inr (.inl rfl)
      · rw [e]; exact .inr (.inr (.inl rfl))
      · rw [e]; exact .inr (.inr (.inr rfl)))) hs
variable {h₀ : Heap} {L : Addr} {m : Str → Option Value} {news : List (Addr × Obj)}
noncomputable abbrev tupL (its : List Value) (k : Nat) : Obj := { cls := .type "tuple", data := .seq its.toArray k }
theorem mul_few {l : Addr} {v : Value} {k : Nat} {n : Int} {u : Tok} (F : Fr h₀ L s.heap m) (N : News h₀ L s.heap news) (hm : (l, tupO #[v] k) ∈ news) (hn : Few n)
    (h : ∀ D h' kk, Fr h₀ L h' m → News h₀ L h' ((D, tupL (List.replicate n.toNat v) kk) :: news) → Q (.ref D) { s with heap := h' }) : wpAny (model PR w) A (binaryOp .Mult (.ref l) (.int n u)) Q E s := by
  rcases hn with rfl | rfl | rfl | rfl
  · exact mul_0 F N hm rfl fun D h' F' N' _ => h D h' _ F' N'
  · exact mul_1 N hm rfl (h l s.heap k F fun q hq => by
      rcases List.mem_cons.mp hq with rfl | hq
      · exact N _ hm
      · exact N q hq)
  · exact mul_2 F N hm rfl fun D h' F' N' _ => h D h' _ F' N'
  · exact mul_3 F N hm rfl fun D h' F' N' _ => h D h' _ F' N'
theorem add_few {t b : Addr} {v y : Value} {k kk n : Nat} (F : Fr h₀ L s.heap m) (N : News h₀ L s.heap news) (ht : (t, tupO #[y] k) ∈ news) (hb : (b, tupL (List.replicate n v) kk) ∈ news) (hz : n ≤ 100)
    (h : ∀ D h' k', Fr h₀ L h' m → News h₀ L h' ((D, tupL (y :: List.replicate n v) k') :: news) → Q (.ref D) { s with heap := h' }) : wpAny (model PR w) A (binaryOp .Add (.ref t) (.ref b)) Q E s := by
  refine add_tup (News.isTup N ht) (News.isTup N hb) (fun _ e => ?_) (by simp) (fun _ => ?_) (by rw [sizeLine_eq]; simp; omega)
  · have e' : List.replicate n v = [] := by
      have := congrArg Array.toList e
      simpa using this
    refine h t s.heap k F fun q hq => ?_
    rcases List.mem_cons.mp hq with rfl | hq
    · rw [e']; exact N _ ht
    · exact N q hq
  · have e2 : (#[y] ++ (List.replicate n v).toArray : Array Value) = (y :: List.replicate n v).toArray := by simp
    rw [e2]
    exact h _ _ _ (F.push _) (News.push F N _)
end
section
variable {h₀ h : Heap} {L : Addr} {l : List (Str × Int)} {v : Value} {t : St} {x xL : Str} {a0 a1 a2 a3 d : Addr} {t0 t1 t2 t3 td : Tok}
/-- the wrong terms at any operation -/
theorem bads_all (g3 : l.map (·.1) = fourN) (sa : SAt h v t) (ok : t.ok (tabE l)) (sz : t.size ≤ 7) (hx : Op4 x) (hL : xL = Str.ofString "d" ∨ xL = Str.ofString "less")
    (h0 : IsTup h a0 (.str x t0 :: List.replicate (pc x + 1).toNat v).toArray) (h1 : IsTup h a1 (.str x t1 :: List.replicate (pc x - 1).toNat v).toArray) (h2 : IsTup h a2 #[.str (Str.ofString "union") t2, v, .ref d]) (hd : IsTup h d #[.str (Str.ofString "d") td]) (h3 : IsTup h a3 #[.str xL t3])
    (i : Nat) (y : Value) (hy : #[Value.ref a0, .ref a1, .ref a2, .ref a3][i]? = some y) : BadAt h (tabE l) y := by
  rcases hx.cases with hx | rfl
  · rw [pc_two hx] at h0 h1
    exact bads_two g3 sa ok sz hx hL h0 h1 h2 hd h3 i y hy
  · rw [pc_not] at h0 h1
    exact bads_not g3 sa ok sz hL h0 h1 h2 hd h3 i y hy
theorem pc_len {x : Str} (h : Op4 x) : (pc x + 1).toNat ≤ 100 ∧ (pc x - 1).toNat ≤ 100 := by
  rcases h.cases with h | rfl
  · rw [pc_two h]; decide
  · rw [pc_not]; decide
end
end Mine
end
section
open PySem PySem.W PySem.Spec PySem.Calls PyProof.Rows
set_option maxRecDepth 100000
namespace Mine
section
theorem lines_law_1 : True := by
  k_with_none
  (k_with "h ne" => (refine neN ?_; (try dsimp only); first | assumption | (refine Ne.symm ?_; assumption) | (refine Nat.ne_of_lt ?_; assumption) | (refine Nat.ne_of_gt ?_; assumption) | ((repeat (rename (_ ∧ _) => hA9; first | ((repeat (first | exact hA9 | exact Ne.symm hA9 | exact Nat.ne_of_lt hA9 | exact Nat.ne_of_gt hA9 | (obtain ⟨h9a, hA9⟩ := hA9; first | exact h9a | exact Ne.symm h9a | exact Nat.ne_of_lt h9a | exact Nat.ne_of_gt h9a | exact h9a.1 | exact h9a.2.1 | exact h9a.2.2 | exact Ne.symm h9a.1 | exact Ne.symm h9a.2.1 | exact Ne.symm h9a.2.2 | clear h9a))); fail_if_success (focus skip)) | clear hA9)); fail_if_success (focus skip)) | omega))
  (k_with "h rel" => first | assumption | exact IsTup.keeps (by assumption) (Fr.keep (by assumption)) | exact EnvAt.keeps (by assumption) (Fr.keep (by assumption)) | exact SetsAt.keeps (by assumption) (Fr.keep (by assumption)))
  (k_with "call builtin:len" => (k_here; (with_reducible show wpAny _ _ (call (Value.builtin "len") [Value.ref _]) _ _ _); first | refine len_1 (by ktr_rel) ?_ | refine len_2 (by ktr_rel) ?_ | refine len_3 (by ktr_rel) ?_ | refine len_4 (by ktr_rel) ?_))
  (k_with "subscriptTail" => (k_here; (with_reducible show wpAny _ _ (subscriptTail _ _ (Value.ref _) (Value.str _ _)) _ _ _); k_dflt (refine env_item (by (ktr_rel); fail_if_success (focus skip)) (by (assumption); fail_if_success (focus skip)) ?_ (by (with_unfolding_all rfl); fail_if_success (focus skip)); k_whole; intro eT)))
  (k_with "subscriptTail" => (k_here; (with_reducible show wpAny _ _ (subscriptTail _ _ (Value.ref _) (Value.int _ _)) _ _ _); k_dflt (refine item_tupleT (by (ktr_rel); fail_if_success (focus skip)) (by (decide); fail_if_success (focus skip)) (by (decide); fail_if_success (focus skip)) (by (rfl); fail_if_success (focus skip)) (by (rfl); fail_if_success (focus skip)) ?_; k_whole)))
  (k_with "subscriptTail Name Slice ref ref" => (k_here; k_dflt (refine tail_slice (by (k_asm); fail_if_success (focus skip)) (by (k_asm); fail_if_success (focus skip)) (by (ktr_rel); fail_if_success (focus skip)) (by (exact Nat.le_of_ble_eq_true rfl); fail_if_success (focus skip)) ?_ (by (with_unfolding_all rfl); fail_if_success (focus skip)) (by (intro _; with_unfolding_all rfl); fail_if_success (focus skip)); k_whole; intro D' h' F' N' l1; (try k_lt l1); (try k_sweep))))
  (k_with "exec Assign cons ListComp" => (k_here; (with_reducible rename PyProof.Rows.News _ _ _ _ => nx9); (replace nx9 := News.last2 nx9); (change PyProof.Rows.News _ _ _ [(_, _), (_, _)] at nx9); (repeat (rename ((_ : Nat) < _ ∧ _) => lx9; clear lx9)); k_dflt (refine Assign_ListComp_T (by k_asm) (by rfl) (by with_unfolding_all rfl) (by with_unfolding_all rfl) (by decide) (by rfl) (by decide) (by rfl) (by rfl) (by rfl) ?_); (repeat (first | walk1 | (dsimp only; walk1))); k_dflt (refine SrcT.ledger (by first | rfl | assumption) (by k_asm) (by k_asm) (by k_mem) (by exact Nat.le_of_ble_eq_true rfl) ?_; intro g'; lcg_lit)))
  (k_with "h units" => (simp only [units_deeper, units_in1]; first | exact Nat.lt_of_le_of_lt (by (simp +arith); fail_if_success (focus skip)) hD | exact Nat.lt_of_le_of_lt (by (simp +arith); fail_if_success (focus skip)) hU | exact Nat.lt_of_le_of_lt (by (simp +arith); fail_if_success (focus skip)) hD9 | exact Nat.lt_of_le_of_lt (by (simp +arith); fail_if_success (focus skip)) hU9 | omega))
  (k_with "compareOp Eq ref ref" => (k_here; k_dflt (first
      | (refine eq_one_t (by (ktr_rel); fail_if_success (focus skip)) (by (exact News.isTup (by assumption) (by k_mem)); fail_if_success (focus skip)) (by (ktr_units); fail_if_success (focus skip)) (by (first | decide | simp_all); fail_if_success (focus skip)) ?_; k_whole)
      | (refine eq_one_f (by (ktr_rel); fail_if_success (focus skip)) (by (exact News.isTup (by assumption) (by k_mem)); fail_if_success (focus skip)) (by (ktr_units); fail_if_success (focus skip)) (by (first | decide | simp_all); fail_if_success (focus skip)) ?_; k_whole))))
  (k_with "h rel" => exact SAt.keeps (by assumption) (Fr.keep (by assumption)))
  (k_with "compareOp In bool ref" => (k_here; k_dflt (refine in_bools (News.isList (by k_asm) (by k_mem)) ?_)))
  (k_with "compareOp NotIn bool ref" => (k_here; k_dflt (refine notIn_bools (News.isList (by k_asm) (by k_mem)) ?_)))
  (k_with "h inst" => exact InstAt.keeps (by assumption) (Fr.keep (by assumption)))
  (k_with "compareOp NotIn str ref" => (k_here; k_dflt (first | refine env_notin (by ktr_rel) (by assumption) ?_ | refine env_notin_none (by ktr_rel) (by assumption) ?_)))
  (k_with "compareOp In ref ref" => (k_here; k_dflt (first
      | (refine in_two_t (by (exact News.isTup (by assumption) (by k_mem)); fail_if_success (focus skip)) (by (exact News.isTup (by assumption) (by k_mem)); fail_if_success (focus skip)) (by (exact News.isTup (by assumption) (by k_mem)); fail_if_success (focus skip)) (by (ktr_rel); fail_if_success (focus skip)) (by (ktr_units); fail_if_success (focus skip)) (by (first | decide | simp_all); fail_if_success (focus skip)) ?_; k_whole)
      | (refine in_two_f (by (exact News.isTup (by assumption) (by k_mem)); fail_if_success (focus skip)) (by (exact News.isTup (by assumption) (by k_mem)); fail_if_success (focus skip)) (by (exact News.isTup (by assumption) (by k_mem)); fail_if_success (focus skip)) (by (ktr_rel); fail_if_success (focus skip)) (by (ktr_units); fail_if_success (focus skip)) (by (first | decide | simp_all); fail_if_success (focus skip)) ?_; k_whole))))
  (k_with "compareOp NotIn ref ref" => (k_here; k_dflt (first
      | (refine notIn_four_t (by (exact News.isTup (by assumption) (by k_mem)); fail_if_success (focus skip)) (by (exact News.isTup (by assumption) (by k_mem)); fail_if_success (focus skip)) (by (exact News.isTup (by assumption) (by k_mem)); fail_if_success (focus skip)) (by (exact News.isTup (by assumption) (by k_mem)); fail_if_success (focus skip)) (by (exact News.isTup (by assumption) (by k_mem)); fail_if_success (focus skip)) (by (exact News.isTup (by assumption) (by k_mem)); fail_if_success (focus skip)) (by (ktr_units); fail_if_success (focus skip)) (by (first | decide | simp_all); fail_if_success (focus skip)) ?_; k_whole)
      | (refine notIn_four_f (by (exact News.isTup (by assumption) (by k_mem)); fail_if_success (focus skip)) (by (exact News.isTup (by assumption) (by k_mem)); fail_if_success (focus skip)) (by (exact News.isTup (by assumption) (by k_mem)); fail_if_success (focus skip)) (by (exact News.isTup (by assumption) (by k_mem)); fail_if_success (focus skip)) (by (exact News.isTup (by assumption) (by k_mem)); fail_if_success (focus skip)) (by (exact News.isTup (by assumption) (by k_mem)); fail_if_success (focus skip)) (by (ktr_units); fail_if_success (focus skip)) (by (first | decide | simp_all); fail_if_success (focus skip)) ?_; k_whole))))
  (k_with "storeName" => (k_here; k_dflt (refine storeX_U (by k_asm) (by k_asm) ?_ (by rfl) (by rfl)); intro h' F' N'; (try k_sweep)))
  (k_with "call ref" => (k_here; (with_reducible show wpAny _ _ (call (Value.ref 167) _) _ _ _); k_dflt (refine sets_use (by (first | decide | omega); fail_if_success (focus skip)) (by (first | decide | omega); fail_if_success (focus skip)) (by (k_asm); fail_if_success (focus skip)) (by (k_asm); fail_if_success (focus skip)) (by (k_asm); fail_if_success (focus skip)) (by (k_asm); fail_if_success (focus skip)) (by (k_asm); fail_if_success (focus skip)) (by (first | exact rfl | k_asm); fail_if_success (focus skip)) (by (exact rfl); fail_if_success (focus skip)) (by (exact rfl); fail_if_success (focus skip)) (by ((try dsimp only); first | exact Nat.lt_of_le_of_lt (by (simp +arith); fail_if_success (focus skip)) hD | exact Nat.lt_of_le_of_lt (by (simp +arith); fail_if_success (focus skip)) hU | exact Nat.lt_of_le_of_lt (by (simp +arith); fail_if_success (focus skip)) hD9 | exact Nat.lt_of_le_of_lt (by (simp +arith); fail_if_success (focus skip)) hU9 | omega); fail_if_success (focus skip)) (by ((try dsimp only); first | exact Nat.lt_of_le_of_lt (by (simp +arith); fail_if_success (focus skip)) hD | exact Nat.lt_of_le_of_lt (by (simp +arith); fail_if_success (focus skip)) hU | exact Nat.lt_of_le_of_lt (by (simp +arith); fail_if_success (focus skip)) hD9 | exact Nat.lt_of_le_of_lt (by (simp +arith); fail_if_success (focus skip)) hU9 | omega); fail_if_success (focus skip)) ?_; k_whole; intro h' tk' x' d' hs' t' tk2' n2' F' N' l1 l2 l3; (try simp only [AllNe, and_true] at l1 l2); (try k_sweep); (try dsimp only))))
  (k_with "call ref" => (k_here; (with_reducible show wpAny _ _ (call (Value.ref 159) _) _ _ _); k_dflt (refine rules_use (by (k_asm); fail_if_success (focus skip)) (by (k_asm); fail_if_success (focus skip)) (by (k_asm); fail_if_success (focus skip)) (by (k_asm); fail_if_success (focus skip)) (by (k_asm); fail_if_success (focus skip)) (by (first | exact rfl | k_asm); fail_if_success (focus skip)) (by (exact rfl); fail_if_success (focus skip)) (by (exact rfl); fail_if_success (focus skip)) (by ((try dsimp only); first | exact Nat.lt_of_le_of_lt (by (simp +arith); fail_if_success (focus skip)) hD | exact Nat.lt_of_le_of_lt (by (simp +arith); fail_if_success (focus skip)) hU | exact Nat.lt_of_le_of_lt (by (simp +arith); fail_if_success (focus skip)) hD9 | exact Nat.lt_of_le_of_lt (by (simp +arith); fail_if_success (focus skip)) hU9 | omega); fail_if_success (focus skip)) (by ((try dsimp only); first | exact Nat.lt_of_le_of_lt (by (simp +arith); fail_if_success (focus skip)) hD | exact Nat.lt_of_le_of_lt (by (simp +arith); fail_if_success (focus skip)) hU | exact Nat.lt_of_le_of_lt (by (simp +arith); fail_if_success (focus skip)) hD9 | exact Nat.lt_of_le_of_lt (by (simp +arith); fail_if_success (focus skip)) hU9 | omega); fail_if_success (focus skip)) ?_; k_whole; intro D' vs' k' owns' h' dr' tk' hs' hR' F' N' l1 ap'; (try simp only [AllNe, and_true] at l1); (try simp only [List.cons_append, List.nil_append, List.append_assoc] at N'); (try k_sweep); (try dsimp only))))
  (k_with "h rel" => first | exact setsAt_news (by k_asm) (by k_mem) (by k_mem) | exact EnvO.at_ (by assumption) (by k_asm) (by k_mem))
  (k_with "call ref" => (k_here; (with_reducible show wpAny _ _ (call (Value.ref 195) _) _ _ _); k_dflt (refine num_use (by (k_asm); fail_if_success (focus skip)) (by (k_asm); fail_if_success (focus skip)) (by (k_asm); fail_if_success (focus skip)) (by (k_asm); fail_if_success (focus skip)) (by (k_asm); fail_if_success (focus skip)) (by (first | exact rfl | k_asm); fail_if_success (focus skip)) (by (exact rfl); fail_if_success (focus skip)) (by (exact rfl); fail_if_success (focus skip)) (by (ktr_rel); fail_if_success (focus skip)) (by (ktr_rel); fail_if_success (focus skip)) (by (assumption); fail_if_success (focus skip)) (by (assumption); fail_if_success (focus skip)) (by (assumption); fail_if_success (focus skip)) (by ((try dsimp only); first | exact Nat.lt_of_le_of_lt (by (simp +arith); fail_if_success (focus skip)) hD | exact Nat.lt_of_le_of_lt (by (simp +arith); fail_if_success (focus skip)) hU | exact Nat.lt_of_le_of_lt (by (simp +arith); fail_if_success (focus skip)) hD9 | exact Nat.lt_of_le_of_lt (by (simp +arith); fail_if_success (focus skip)) hU9 | omega); fail_if_success (focus skip)) (by ((try dsimp only); first | exact Nat.lt_of_le_of_lt (by (simp +arith); fail_if_success (focus skip)) hD | exact Nat.lt_of_le_of_lt (by (simp +arith); fail_if_success (focus skip)) hU | exact Nat.lt_of_le_of_lt (by (simp +arith); fail_if_success (focus skip)) hD9 | exact Nat.lt_of_le_of_lt (by (simp +arith); fail_if_success (focus skip)) hU9 | omega); fail_if_success (focus skip)) ?_; k_whole; intro h' tk' t' F' N'; (try k_sweep); (try dsimp only))))
  (k_with "call ref" => (k_here; (with_reducible show wpAny _ _ (call (Value.ref 164) _) _ _ _); k_dflt (refine ValC.use (by (k_asm); fail_if_success (focus skip)) (by (k_asm); fail_if_success (focus skip)) (by (k_asm); fail_if_success (focus skip)) (by (k_asm); fail_if_success (focus skip)) (by (k_asm); fail_if_success (focus skip)) (by (first | exact rfl | k_asm); fail_if_success (focus skip)) (by (exact rfl); fail_if_success (focus skip)) (by (exact rfl); fail_if_success (focus skip)) (by (ktr_rel); fail_if_success (focus skip)) (by (ktr_rel); fail_if_success (focus skip)) (by (ktr_rel); fail_if_success (focus skip)) (by (exact val_call _ _ _); fail_if_success (focus skip)) (by (assumption); fail_if_success (focus skip)) (by ((try dsimp only); first | exact Nat.lt_of_le_of_lt (by (simp +arith); fail_if_success (focus skip)) hD | exact Nat.lt_of_le_of_lt (by (simp +arith); fail_if_success (focus skip)) hU | exact Nat.lt_of_le_of_lt (by (simp +arith); fail_if_success (focus skip)) hD9 | exact Nat.lt_of_le_of_lt (by (simp +arith); fail_if_success (focus skip)) hU9 | omega); fail_if_success (focus skip)) (by ((try dsimp only); first | exact Nat.lt_of_le_of_lt (by (simp +arith); fail_if_success (focus skip)) hD | exact Nat.lt_of_le_of_lt (by (simp +arith); fail_if_success (focus skip)) hU | exact Nat.lt_of_le_of_lt (by (simp +arith); fail_if_success (focus skip)) hD9 | exact Nat.lt_of_le_of_lt (by (simp +arith); fail_if_success (focus skip)) hU9 | omega); fail_if_success (focus skip)) ?_; k_whole; intro h' tk' t' F' N'; (try k_sweep); (try dsimp only))))
  (k_with "getAttr ref" => (k_here; (with_reducible show wpAny _ _ (getAttr (Value.ref _) (Str.ofString "left") _) _ _ _); k_dflt (refine rule_left (by k_asm) (by k_asm) (by k_asm) (by assumption) (fun q hq => by repeat (first | exact hq | refine List.Mem.tail _ ?_)) (fun lv' hlv' => ?_))))
  (k_with "getAttr ref" => (k_here; (with_reducible show wpAny _ _ (getAttr (Value.ref _) (Str.ofString "right") _) _ _ _); k_dflt (refine rule_right (by k_asm) (by k_asm) (by k_asm) (by assumption) (fun q hq => by repeat (first | exact hq | refine List.Mem.tail _ ?_)) (fun rv' hrv' => ?_))))
  (k_with "getAttr ref" => (k_here; (with_reducible show wpAny _ _ (getAttr (Value.ref _) (Str.ofString "name") _) _ _ _); k_dflt (refine rule_name (by k_asm) (by k_asm) (by k_asm) (by assumption) (fun q hq => by repeat (first | exact hq | refine List.Mem.tail _ ?_)) (fun nt' => ?_))))
  (k_with "getAttr ref" => (k_here; (with_reducible show wpAny _ _ (getAttr (Value.ref _) (Str.ofString "needs") _) _ _ _); k_dflt (refine rule_needs (by k_asm) (by k_asm) (by k_asm) (by assumption) (fun q hq => by repeat (first | exact hq | refine List.Mem.tail _ ?_)) (fun na' hna' => ?_))))
  (k_with "compareOp NotEq int int" => (k_here; k_dflt (refine ne_int_f (by assumption) ?_)))
  (k_with "compareOp In str ref" => (k_here; k_dflt (refine in_list_strs (News.isList (by k_asm) (by k_mem)) (by assumption) ?_)))
  (k_with "compareOp NotEq ref ref" => (k_here; k_dflt (refine ne_empty (by assumption) (News.isTup (by k_asm) (by k_mem)) (by ktr_units) ?_)))
  (k_with "newTuple" => (k_here; k_dflt (refine tuple_use (by k_asm) (by k_asm) (by exact Nat.le_of_ble_eq_true rfl) (fun D' h' F' N' l1 => ?_)); (try simp only [AllLt, and_true] at l1); (try k_sweep); (try dsimp only)))
  (k_with "newTuple" => (k_here; (with_reducible show wpAny _ _ (newTuple []) _ _ _); k_dflt (refine empty_tuple (by k_asm) (by k_asm) (by assumption) (fun D' h' F' N' na9 l1 => ?_)); (try simp only [AllLt, and_true] at l1); (try k_sweep); (try dsimp only)))
  (k_with "call builtin:list.append" => (k_here; (with_reducible show wpAny _ _ (call (Value.builtin _) [Value.ref _, _]) _ _ _); k_dflt (refine append_K (by (k_asm); fail_if_success (focus skip)) (by (k_asm); fail_if_success (focus skip)) (by (k_upd); fail_if_success (focus skip)) ?_ (by (assumption); fail_if_success (focus skip)); k_whole); intro h' F' N'; (try k_sweep)))
  (k_with "h all" => first | exact Apart.get (by assumption) (by k_mem) | exact List.forall_mem_append.mpr ⟨Apart.get (by assumption) (by k_mem), Apart.get (by assumption) (by k_mem)⟩)
  (k_with "call ref" => (k_here; (with_reducible show wpAny _ _ (call (Value.ref 185) _) _ _ _); k_dflt (refine pick_use (by (k_asm); fail_if_success (focus skip)) (by (k_asm); fail_if_success (focus skip)) (by (k_asm); fail_if_success (focus skip)) (by (k_asm); fail_if_success (focus skip)) (by (k_asm); fail_if_success (focus skip)) (by (first | exact rfl | k_asm); fail_if_success (focus skip)) (by (exact rfl); fail_if_success (focus skip)) (by (exact rfl); fail_if_success (focus skip)) (by (k_updF); fail_if_success (focus skip)) (by (first | exact Nat.lt_of_le_of_lt (by (simp +arith); fail_if_success (focus skip)) hD | exact Nat.lt_of_le_of_lt (by (simp +arith); fail_if_success (focus skip)) hU | exact Nat.lt_of_le_of_lt (by (simp +arith); fail_if_success (focus skip)) hD9 | exact Nat.lt_of_le_of_lt (by (simp +arith); fail_if_success (focus skip)) hU9 | omega); fail_if_success (focus skip)) (by (assumption); fail_if_success (focus skip)) (by (assumption); fail_if_success (focus skip)) (by (first | assumption | omega); fail_if_success (focus skip)) (by (omega); fail_if_success (focus skip)) (by (first | decide | omega); fail_if_success (focus skip)) (by (first | decide | omega); fail_if_success (focus skip)) ?_; k_whole; intro h' tk' r' a' b' ta' tb' t' k' F' N' r0' r1' a0' a1' eb'; (try dsimp only at N'); (try k_sweep); (try dsimp only))))
  (k_with "setItem ref str" => (k_here; k_dflt (refine kda_set (knd := PySem.strKind _ _) (by (k_asm); fail_if_success (focus skip)) (by (k_asm); fail_if_success (focus skip)) (by (k_updF); fail_if_success (focus skip)) (by (assumption); fail_if_success (focus skip)) (strKind_is _ _ _ _) (by (assumption); fail_if_success (focus skip)) ?_); intro h' o' F' N' hd'; (try dsimp only at N')))
  (k_with "binaryOp Pow int int" => (k_here; (with_reducible show wpAny _ _ (binaryOp _ (Value.int 2 _) (Value.int _ _)) _ _ _); k_dflt (refine pow_two (by omega) (by omega) ?_)))
  (k_with "h rel" => exact slater_news (by assumption) (by k_asm) (fun q hq => by repeat (first | exact hq | refine List.Mem.tail _ ?_)))
  (k_with "call ref" => (k_here; (with_reducible show wpAny _ _ (call (Value.ref 200) _) _ _ _); k_dflt (refine draw_use (by (k_asm); fail_if_success (focus skip)) (by (k_asm); fail_if_success (focus skip)) (by (k_asm); fail_if_success (focus skip)) (by (k_asm); fail_if_success (focus skip)) (by (k_asm); fail_if_success (focus skip)) (by (first | exact rfl | k_asm); fail_if_success (focus skip)) (by (exact rfl); fail_if_success (focus skip)) (by (exact rfl); fail_if_success (focus skip)) (by (k_updF); fail_if_success (focus skip)) (by (first | exact Nat.lt_of_le_of_lt (by (simp +arith); fail_if_success (focus skip)) hD | exact Nat.lt_of_le_of_lt (by (simp +arith); fail_if_success (focus skip)) hU | exact Nat.lt_of_le_of_lt (by (simp +arith); fail_if_success (focus skip)) hD9 | exact Nat.lt_of_le_of_lt (by (simp +arith); fail_if_success (focus skip)) hU9 | omega); fail_if_success (focus skip)) (by (first | exact Nat.lt_of_le_of_lt (by (simp +arith); fail_if_success (focus skip)) hD | exact Nat.lt_of_le_of_lt (by (simp +arith); fail_if_success (focus skip)) hU | exact Nat.lt_of_le_of_lt (by (simp +arith); fail_if_success (focus skip)) hD9 | exact Nat.lt_of_le_of_lt (by (simp +arith); fail_if_success (focus skip)) hU9 | omega); fail_if_success (focus skip)) (by (k_mem); fail_if_success (focus skip)) (by (k_ne); fail_if_success (focus skip)) (by (assumption); fail_if_success (focus skip)) (by (assumption); fail_if_success (focus skip)) (by (first | assumption | omega); fail_if_success (focus skip)) (by (omega); fail_if_success (focus skip)) (by (assumption); fail_if_success (focus skip)) (by (assumption); fail_if_success (focus skip)) ?_; k_whole; intro h' tk' v' t' owns' a' b' ta' tb' k' F' N' ap' sl' ok' sz' vn' a0' a1' b0' b1'; (try simp only [List.cons_append, List.nil_append, List.append_assoc] at N'); (try k_sweep); (try dsimp only))))
  (k_with "call ref" => (k_here; (with_reducible show wpAny _ _ (call (Value.ref 178) _) _ _ _); k_dflt (refine tab_call (Cal.site (by k_asm) (by k_asm) (by k_asm) (by k_asm) rfl rfl rfl) (by (try simp only [depth_deeper]); (try dsimp only); first | exact Nat.lt_of_le_of_lt (by (simp +arith); fail_if_success (focus skip)) hD | exact Nat.lt_of_le_of_lt (by (simp +arith); fail_if_success (focus skip)) hU | exact Nat.lt_of_le_of_lt (by (simp +arith); fail_if_success (focus skip)) hD9 | exact Nat.lt_of_le_of_lt (by (simp +arith); fail_if_success (focus skip)) hU9 | omega) (fun h' tk' D' kp' hT' => ?_); (rename Fr _ _ _ _ => F'); (rename News _ _ _ _ => N'); (replace F' := PyProof.Rows.Fr.keeps F' kp'); (replace N' := PyProof.Rows.News.grown N' kp'); clear kp'; (obtain ⟨f', hm', hu', he', hl', hn'⟩ := hT'); (try dsimp only))))
  (k_with "subscriptTail" => (k_here; (with_reducible show wpAny _ _ (subscriptTail _ _ (Value.ref _) (Value.str _ _)) _ _ _); k_dflt (refine tab_item (by (with_reducible assumption); fail_if_success (focus skip)) (by (first | assumption | exact tab_three (by assumption) (by assumption) (by assumption) (by assumption)); fail_if_success (focus skip)) ?_ (by (with_unfolding_all rfl); fail_if_success (focus skip)); k_whole; intro eT)))
  (k_with "binaryOp Mult ref int" => (k_here; k_dflt (first
      | (refine mul_3 (by k_asm) (by k_asm) (by k_mem) (by rfl) (fun D' h' F' N' l1 => ?_); (try simp only [AllLt, and_true] at l1); (try k_sweep); (try dsimp only))
      | (refine mul_2 (by k_asm) (by k_asm) (by k_mem) (by rfl) (fun D' h' F' N' l1 => ?_); (try simp only [AllLt, and_true] at l1); (try k_sweep); (try dsimp only))
      | (refine mul_0 (by k_asm) (by k_asm) (by k_mem) (by rfl) (fun D' h' F' N' l1 => ?_); (try simp only [AllLt, and_true] at l1); (try k_sweep); (try dsimp only))
      | refine mul_1 (by k_asm) (by k_mem) (by rfl) ?_)))
  (k_with "subscriptTail" => (k_here; (with_reducible show wpAny _ _ (subscriptTail _ _ (Value.ref _) (Value.int (Int.fmod _ _) _)) _ _ _); k_dflt (refine lap_item (by (exact News.isTup (by k_asm) (by k_mem)); fail_if_success (focus skip)) ?_ (by (with_unfolding_all rfl); fail_if_success (focus skip)); k_whole; intro xL' tL' hL')))
  (k_with "call ref" => (k_here; (with_reducible show wpAny _ _ (call (Value.ref 207) _) _ _ _); k_dflt (refine refused_use (by (assumption); fail_if_success (focus skip)) (by (k_asm); fail_if_success (focus skip)) (by (k_asm); fail_if_success (focus skip)) (by (k_asm); fail_if_success (focus skip)) (by (k_asm); fail_if_success (focus skip)) (by (k_asm); fail_if_success (focus skip)) (by (first | exact rfl | k_asm); fail_if_success (focus skip)) (by (exact rfl); fail_if_success (focus skip)) (by (exact rfl); fail_if_success (focus skip)) (by ((try dsimp only); first | exact Nat.lt_of_le_of_lt (by (simp +arith); fail_if_success (focus skip)) hD | exact Nat.lt_of_le_of_lt (by (simp +arith); fail_if_success (focus skip)) hU | exact Nat.lt_of_le_of_lt (by (simp +arith); fail_if_success (focus skip)) hD9 | exact Nat.lt_of_le_of_lt (by (simp +arith); fail_if_success (focus skip)) hU9 | omega); fail_if_success (focus skip)) (by ((try dsimp only); first | exact Nat.lt_of_le_of_lt (by (simp +arith); fail_if_success (focus skip)) hD | exact Nat.lt_of_le_of_lt (by (simp +arith); fail_if_success (focus skip)) hU | exact Nat.lt_of_le_of_lt (by (simp +arith); fail_if_success (focus skip)) hD9 | exact Nat.lt_of_le_of_lt (by (simp +arith); fail_if_success (focus skip)) hU9 | omega); fail_if_success (focus skip)) (by (ktr_rel); fail_if_success (focus skip)) (by (ktr_rel); fail_if_success (focus skip)) ?_; k_whole; intro h' tk' F' N'; (try k_sweep); (try dsimp only))))
  (k_with "binaryOp Add ref ref" => (k_here; k_dflt (refine add_nil (News.isTup (by k_asm) (by k_mem)) (News.isTup (by k_asm) (by k_mem)) ?_)))
  (k_with "binaryOp Mult ref int" => (k_here; k_dflt (refine mul_few (by k_asm) (by k_asm) (by k_mem) (by first | exact pc_up (by assumption) | exact pc_dn (by assumption)) (fun D' h' kk' F' N' => ?_)); (try k_sweep); (try dsimp only)))
  (k_with "binaryOp Add ref ref" => (k_here; k_dflt (refine add_few (by k_asm) (by k_asm) (by k_mem) (by k_mem) (by assumption) (fun D' h' kk' F' N' => ?_)); (try k_sweep); (try dsimp only)))
  (k_with "subscriptTail" => (k_here; (with_reducible show wpAny _ _ (subscriptTail _ _ (Value.ref _) (Value.str _ _)) _ _ _); k_dflt (refine tab_item (by with_reducible assumption) (by exact tab_four (by assumption) (by assumption) (by assumption) (by assumption) (by assumption)) ?_ (by with_unfolding_all rfl); k_whole; intro eT)))
  (k_with "h rel" => first | exact SAt.all (News.isTup (by k_asm) (by k_mem)) | exact SAt.name (News.isTup (by k_asm) (by k_mem)))
  (k_with "call ref" => (k_here; (with_reducible show wpAny _ _ (call (Value.ref 164) _) _ _ _); k_dflt (refine ValC.use (by (k_asm); fail_if_success (focus skip)) (by (k_asm); fail_if_success (focus skip)) (by (k_asm); fail_if_success (focus skip)) (by (k_asm); fail_if_success (focus skip)) (by (k_asm); fail_if_success (focus skip)) (by (first | exact rfl | k_asm); fail_if_success (focus skip)) (by (exact rfl); fail_if_success (focus skip)) (by (exact rfl); fail_if_success (focus skip)) (by (ktr_rel); fail_if_success (focus skip)) (by (ktr_rel); fail_if_success (focus skip)) (by (ktr_rel); fail_if_success (focus skip)) (by (exact val_call _ _ _); fail_if_success (focus skip)) (by (assumption); fail_if_success (focus skip)) (by ((try simp only [St.size]); (try dsimp only); first | exact Nat.lt_of_le_of_lt (by (simp +arith); fail_if_success (focus skip)) hD | exact Nat.lt_of_le_of_lt (by (simp +arith); fail_if_success (focus skip)) hU | exact Nat.lt_of_le_of_lt (by (simp +arith); fail_if_success (focus skip)) hD9 | exact Nat.lt_of_le_of_lt (by (simp +arith); fail_if_success (focus skip)) hU9 | omega); fail_if_success (focus skip)) (by ((try simp only [St.size]); (try dsimp only); first | exact Nat.lt_of_le_of_lt (by (simp +arith); fail_if_success (focus skip)) hD | exact Nat.lt_of_le_of_lt (by (simp +arith); fail_if_success (focus skip)) hU | exact Nat.lt_of_le_of_lt (by (simp +arith); fail_if_success (focus skip)) hD9 | exact Nat.lt_of_le_of_lt (by (simp +arith); fail_if_success (focus skip)) hU9 | omega); fail_if_success (focus skip)) ?_; k_whole; intro h' tk' t' F' N'; (try k_sweep); (try dsimp only))))
  (k_with "compareOp Eq int int" => (k_here; k_dflt (refine eq_int_tr (by first | rfl | exact val_meet (by assumption)) ?_)))
  trivial
theorem pow_10_30 {w : World} {A : Around} {E : Value → Shared → Prop} {s : Shared} {t u : Tok} {Q : Value → Shared → Prop} (h : Q (.int (10 ^ 30) s.toks) { s with toks := s.toks + 1 }) : wpAny (model PR w) A (binaryOp .Pow (.int 10 t) (.int 30 u)) Q E s :=
  pow_int (by decide) (by decide +kernel) h
theorem pow_10_90 {w : World} {A : Around} {E : Value → Shared → Prop} {s : Shared} {t u : Tok} {Q : Value → Shared → Prop} (h : Q (.int (10 ^ 90) s.toks) { s with toks := s.toks + 1 }) : wpAny (model PR w) A (binaryOp .Pow (.int 10 t) (.int 90 u)) Q E s :=
  pow_int (by decide) (by decide +kernel) h
theorem lines_law_2 : True := by
  (k_with "binaryOp Pow int int" => (k_here; first | (with_reducible refine pow_10_30 ?_) | (with_reducible refine pow_10_90 ?_)))
  trivial
local macro_rules | `(tactic| k_qdec) => `(tactic| decide +kernel)
set_option maxHeartbeats 0 in
theorem law_holds : PySem.Challenge.rw_pq0109_01.Holds := by
  w_on
  refine holds_law said0 fun said => ?_
  clear said
  refine holds_open (q := hd.view_39) (loose := LO3) (Xt := XT) (XP := XL hd.view_39 LV) (Yf := Hook.obs HK) (Ya := Hook.val HK) (YP := Hook.says HK) (N := 3594) left0 (Hook.of HK) (Hook.keeps HK) (fun s e => xl_of s (Bool.and_eq_true_iff.mp e).1) XL.keeps (by rfl) (by rfl) (by rfl) (fun s e => recFacts_of (Bool.and_eq_true_iff.mp e).2) (by rfl) (row_said said0) (by decide +kernel) ⟨rfl, rfl, rfl, rfl, rfl, by decide +kernel⟩ (by w_witness2) ?_
  k_go0
  all_goals try k_fold
  rename Below _ _ _ _ => kB0
  rename Frag.In _ _ => kX0
  replace kB0 := below_cast kX0 kB0 rfl
  have hD9 : callerA.depth + 600 < recursionLimit := by decide
  have hU9 : callerA.units + 4000 < cLine := by decide
  repeat ((fail_if_success (with_reducible show wpAny _ _ (exec (Stmt.For _ _ _ _ _) _) _ _ _)); first | walk1 | (dsimp only; walk1))
  k_dflt (refine For_J ?_ (by intro _; rfl) (by passes_own))
  repeat ((fail_if_success (with_reducible show wpAny _ _ (pyIter _) _ _ _)); first | walk1 | (dsimp only; walk1))
  rename Fr _ _ _ _ => F1
  rename News _ _ _ _ => N1
  rename IntsAre _ _ => hI1
  refine loopA (x := Str.ofString "cell") rfl F1 N1 hI1 (fun I n t a ta tb k c o h' dr tk a0 a1 hne F N => ?turn) (fun a ta tb k c h' dr tk a0 a1 F N => ?done)
  case turn =>
    clear F1 N1
    refine turn_abs (P := fun R => wpAny _ _ (assign _ _ _) (fun _ s₃ => wpAny _ _ (execs _ _) R _ s₃) _ _) (fun R9 hR9 => ?_)
    have hne0 := hne
    simp only [AllNe, and_true] at hne
    repeat ((fail_if_success (with_reducible show wpAny _ _ (execs [] _) _ _ _)); first | walk1 | (dsimp only; walk1))
    refine wpAny_execs_nil ?_
    rename Fr _ _ _ _ => F'
    rename News _ _ _ _ => N'
    exact hR9 _ (endA F' N' hne0 (Int.fmod_nonneg_of_pos _ (by decide)) (Int.fmod_lt_of_pos _ (by decide)))
  case done =>
    clear F1 N1
    repeat ((fail_if_success (with_reducible show wpAny _ _ (exec (Stmt.For _ _ _ _ _) _) _ _ _)); first | walk1 | (dsimp only; walk1))
    k_dflt (refine For_J ?_ (by intro _; rfl) (by passes_own))
    repeat ((fail_if_success (with_reducible show wpAny _ _ (pyIter _) _ _ _)); first | walk1 | (dsimp only; walk1))
    rename Fr _ _ _ _ => F1
    rename News _ _ _ _ => N1
    rename RLater _ _ _ _ => hR1
    rename Obj.IsDictOf _ _ _ => hd1
    rename (_ == sysModules) = false => lo1
    rename List.length _ = 15 => hl15
    have hEB := (fun h ho => envAt_pairs (l := [(Str.ofString "?a", 240), (Str.ofString "?b", 204), (Str.ofString "?c", 170)]) ho hd1 lo1 ⟨rfl, ⟨_, rfl⟩, rfl, ⟨_, rfl⟩, rfl, ⟨_, rfl⟩, trivial⟩ : EnvO _ _ _ bitsE)
    clear hd1
    refine loopB rfl F1 N1 (by k_asm) hl15 hR1 (fun I i xr r o zs kz r1 r2 r3 h' dr tk hi hr hL hz hne ho F N => ?turnB) (fun r1 r2 r3 h' dr tk F N => ?doneB)
    case turnB =>
      clear F1 N1
      refine turn_abs (P := fun R => wpAny _ _ (assign _ _ _) (fun _ s₃ => wpAny _ _ (execs _ _) R _ s₃) _ _) (fun R9 hR9 => ?_)
      have hr' := List.mem_of_getElem? hr
      obtain ⟨f1, f2, f3, f4⟩ := rules_fit r hr'
      obtain ⟨e1, e2, e3⟩ := rules_sides r hr'
      have e4 := rules_names i hi r hr
      have h255 : (2 : Int) ^ Int.toNat 8 - 1 = 255 := by decide
      rw [← h255] at e2 e3
      have hne0 := hne
      simp only [AllNe, and_true] at hne
      have h88 : ((8 : Nat) : Int) = (8 : Int) := rfl
      have h8 : (8 : Nat) ≤ 8 := Nat.le_refl _
      have hzl : zs.toArray.size ≤ sizeLine := by
        have h1 := StrsAre.len hz
        have h2 : (rnames.take i).length ≤ 15 := by rw [List.length_take]; omega
        rw [sizeLine_eq, List.size_toArray]; omega
      repeat ((fail_if_success (with_reducible show R9 _ _)); first | walk1 | (dsimp only; walk1))
      rename Fr _ _ _ _ => F'
      rename News _ _ _ _ => N'
      exact hR9 _ <| endB hr hz F' (by intro y h1 h2 h3; simp only [updR, upd, mset, if_neg h1, if_neg h2, if_neg h3]) (fun q hq => N' q (.tail _ (.tail _ hq))) hne0 ho
    case doneB =>
      clear F1 N1 hR1 hEB
      repeat ((fail_if_success (with_reducible show wpAny _ _ (exec (Stmt.For _ _ _ _ _) _) _ _ _)); first | walk1 | (dsimp only; walk1))
      k_dflt (refine For_J ?_ (by intro _; rfl) (by passes_own))
      repeat ((fail_if_success (with_reducible show wpAny _ _ (pyIter _) _ _ _)); first | walk1 | (dsimp only; walk1))
      rename Fr _ _ _ _ => F1
      rename News _ _ _ _ => N1
      rename Obj.IsDictOf (strKind _ _) _ [] => hd1
      rename (_ == sysModules) = false => lo1
      rename _ < (5 : Int) => r5
      have r0c := pick_lo r5 (by assumption)
      refine loopC rfl F1 N1 rfl (.cons _ _ (.cons _ _ (.cons _ _ (.cons _ _ .nil)))) hd1 (by assumption) (by assumption) (by omega) (fun I i xn t o oE kvs l a b ta tb k c h' dr tk hi hx g1 g2 g3 g4 a0 a1 b0 b1 hne F N => ?turnC) (fun oE kvs l a b ta tb k c h' dr tk g1 g2 g3 g4 a0 a1 b0 b1 F N => ?doneC)
      case turnC =>
        clear F1 N1
        refine turn_abs (P := fun R => wpAny _ _ (assign _ _ _) (fun _ s₃ => wpAny _ _ (execs _ _) R _ s₃) _ _) (fun R9 hR9 => ?_)
        have hne0 := hne
        simp only [AllNe, and_true] at hne
        have hkl : kvs.length ≤ sizeLine := by
          have h1 := PairsAre.len g2
          have h2 : l.length ≤ 4 := by
            have := congrArg List.length g3
            rw [List.length_map, List.length_take] at this
            omega
          rw [sizeLine_eq]; omega
        obtain ⟨p1, p2⟩ := pow_small r0c r5
        repeat ((fail_if_success (with_reducible show R9 _ _)); first | walk1 | (dsimp only; walk1))
        rename Fr _ _ _ _ => F'
        rename News _ _ _ _ => N'
        rename Obj.IsDictOf _ _ (stored _ _ _) => hd9
        exact hR9 _ <| endC hi hx g2 g3 g4 (by assumption) (by assumption) (by assumption) (by assumption) (by omega) (by simp only [Int.natCast_add, Int.natCast_one] at *; omega) hd9 F' (by intro y h1; simp only [upd, mset, if_neg h1]) N' hne0
      case doneC =>
        have hEE := (fun h ho => envAt_pairs ho g1 lo1 g2 : EnvO _ _ _ (tabE l))
        have hEI := env_in g3 g4
        obtain ⟨hmi, hm8⟩ := mn_facts r0c r5
        clear F1 N1 hd1 g1 g2
        repeat ((fail_if_success (with_reducible show wpAny _ _ (exec (Stmt.For _ _ _ _ _) _) _ _ _)); first | walk1 | (dsimp only; walk1))
        k_dflt (refine For_J ?_ (by intro _; rfl) (by passes_own))
        repeat ((fail_if_success (with_reducible show wpAny _ _ (pyIter _) _ _ _)); first | walk1 | (dsimp only; walk1))
        rename Fr _ _ _ _ => F1
        rename News _ _ _ _ => N1
        refine loopD rfl F1 N1 (by assumption) a0 a1 b0 (fun I i t a b ta tb k r1 r2 r3 r4 o h' dr tk hi3 a0 a1 b0 b1 hne F N => ?turnD) (fun a b ta tb k r1 r2 r3 r4 h' dr tk a0 a1 b0 b1 F N => ?doneD)
        case turnD =>
          clear F1 N1
          refine turn_abs (P := fun R => wpAny _ _ (assign _ _ _) (fun _ s₃ => wpAny _ _ (execs _ _) R _ s₃) _ _) (fun R9 hR9 => ?_)
          have hne0 := hne
          simp only [AllNe, and_true] at hne
          repeat ((fail_if_success (with_reducible show wpAny _ _ (call (Value.ref 185) _) _ _ _)); first | walk1 | (dsimp only; walk1))
          walk1
          rename _ < (4 : Int) => r4c
          have r4z := pick_lo4 r4c (by assumption)
          repeat ((fail_if_success (with_reducible show wpAny _ _ (subscriptTail _ _ (Value.ref _) (Value.int _ _)) _ _ _)); first | walk1 | (dsimp only; walk1))
          k_here
          k_dflt (refine op4_item (News.isTup (by k_asm) (by k_mem)) r4z r4c (fun x9 t9 hx9 => ?_) (by with_unfolding_all rfl))
          obtain ⟨hq8, hq9⟩ := pc_len hx9
          repeat ((fail_if_success (with_reducible show wpAny _ _ (eval (Expr.ListComp _ _ _ _) _) _ _ _)); first | walk1 | (dsimp only; walk1))
          k_here
          k_dflt (refine LCt.ListComp_T (F₀ := by k_asm) (by with_unfolding_all rfl) (by decide) (by rfl) (by decide) (by rfl) ?_)
          repeat ((fail_if_success (with_reducible show LCt.CompSrcT _ _ _ _ _ _ _ _ _ _ _ _ _ _ _)); first | walk1 | (dsimp only; walk1))
          rename SLater _ _ _ => sl9
          rename St.ok _ _ => ok9
          rename St.size _ ≤ 7 => sz9
          rename (_ = Str.ofString "d" ∨ _ = Str.ofString "less") => hL9
          refine LCt.CompSrcT.ledger (by rfl) (by k_asm) (by k_asm) (by k_mem) (by exact Nat.le_of_ble_eq_true rfl) ?_
          intro g'
          refine rest_nothing (fun i v I oI C oC D m₂ h tk E' hP hC hx F N o n => ?_) ?_ _ _
          · have hb9 := bads_all g3 (slater_news sl9 N (fun q hq => by repeat (first | exact hq | refine List.Mem.tail _ ?_))) ok9 sz9 hx9 hL9 (News.isTup N (by k_mem)) (News.isTup N (by k_mem)) (News.isTup N (by k_mem)) (News.isTup N (by k_mem)) (News.isTup N (by k_mem)) i v hP
            clear hP
            repeat ((fail_if_success (with_reducible show (_ = false ∧ _))); first | (k_unfold; (try dsimp only)) | walk1 | (dsimp only; walk1))
            rename Fr _ _ _ _ => F8
            rename News _ _ _ _ => N8
            refine ⟨rfl, _, _, _, rfl, F8, N8, o, ?_, rfl⟩
            exact .inr ⟨_, by k_mem, rfl, _, rfl⟩
          · repeat ((fail_if_success (with_reducible show wpAny _ _ (compareOp _ _ _) _ _ _)); first | (k_unfold; (try dsimp only)) | walk1 | (dsimp only; walk1))
            repeat ((fail_if_success (with_reducible show R9 _ _)); first | (k_unfold; (try dsimp only)) | walk1 | (dsimp only; walk1))
            rename Fr _ _ _ _ => F8
            rename News _ _ _ _ => N8
            refine' hR9 _ (endD ?a0 ?a1 ?b1 ?b2 F8 ?hm N8 ?m1 ?m2 ?m3 ?m4 ?m5 ?m6 ?m7 ?hn)
            case m5 => k_mem
            case m1 => k_mem
            case m2 => k_mem
            case m3 => k_mem
            case m4 => k_mem
            case m6 => k_mem
            case m7 => k_mem
            case a0 => assumption
            case a1 => assumption
            case b1 => omega
            case b2 => omega
            case hm =>
              intro q h1 h2 h3 h4
              simp only [updD, upd, mset, if_neg h1, if_neg h2, if_neg h3, if_neg h4]
            case hn => exact hne0
        case doneD =>
          clear F1 N1
          have okm9 := ok_meet (four_ok hEI hm8)
          have oka9 := ok_all (e := tabE l)
          obtain ⟨nm9, hm9⟩ := env_meet hEI
          repeat ((fail_if_success (with_reducible show wpAny _ _ (compareOp _ _ _) _ _ _)); first | walk1 | (dsimp only; walk1))
          walk1
          repeat ((fail_if_success (with_reducible show wpAny _ _ (compareOp _ _ _) _ _ _)); first | walk1 | (dsimp only; walk1))
          walk1
          k_steps
end
end Mine
end
end
theorem PySem.Challenge.cw_pq0109_01_holds : PySem.Challenge.rw_pq0109_01.Holds :=
  Mine.law_holds
